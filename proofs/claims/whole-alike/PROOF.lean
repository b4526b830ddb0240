import PyProof.Rows.All
import Wide.All
import OpenK.AllK
import Wide.FinOn
import KE.KStateDown
import HandS.ForMost
import HandS.Head2
import HandS.HeadEnd
import HandS.HeadHook4
import HandS.HeadWalk
import PySem.Challenge.RW_laidahead_k03_whole_alike
import HandS.Deep
import HandS.Slots
import HandS.Property
import HandS.Lambda
import HandS.Star
import HandS.IsInst
import HandS.Conv
import HandS.Zip
import KE.DataEq
import KE.DataCmp
import KE.SortData
import KE.SortKeyHeap
import KE.KeyNested
import KE.KDictWalk
import KE.KDictCopyH
import HandS.TupAny
import HandS.Wide
import KE.GoesNew
import KE.GoesDict
import KE.GoesNewDict
import KE.KRevSl
import HandS.DictComp
import HandS.Small
import KE.KDictList
import KE.KDictSum
import KE.KDictOf
import KE.KDictPairs
import HandS.Defaults
import KE.DatumOrd
import HandS.WideBits
import KE.KDictZip
import KE.KDictItemsList
import KE.GoesComp
import KE.DataFind
import HandS.SortKw
set_option Elab.async false
set_option linter.all false
set_option maxRecDepth 100000
set_option maxHeartbeats 0
namespace Hd
open PySem PySem.Spec PyProof.Rows L2
abbrev R : PySem.W.OpenRow := PySem.W.OpenLaw.row PySem.Challenge.rw_laidahead_k03_whole_alike
def names0 : List PySem.Str := ["_wall", "AheadError", "BadProgram", "BadName", "BadBuild", "Unlike", "MOST_NAMES", "MOST_MODULES", "MOST_USES", "SORTS", "SHOWS", "SORT_OF", "is_number", "is_word", "are_sorts", "can_use", "is_definition", "is_module", "are_modules", "are_modules_programs", "Program", "outer_uses", "AHEAD", "KEPT", "can_shorten", "is_choice", "is_lot", "lots_of", "met", "TOLD"]
def names1 : List PySem.Str := ["is_build", "check_two", "uses_of", "Held", "are_modules_alike", "is_even", "are_crossed", "is_pair", "are_right", "end_of", "fork_of", "are_ways", "Alike", "Parted", "compare", "are_alike", "first_parting", "_law_draw", "_law_cell_at", "_law_digits", "_law_take", "_law_pool", "_law_pick", "_law_uses", "_law_parts", "_law_row", "_law_how", "_law_makeable", "_law_choice", "_law_lots"]
def names2 : List PySem.Str := ["_law_met", "_law_outer", "_law_inner", "_law_live", "_law_origin", "_law_broken", "_law_holds", "_law_two", "_law_words", "_law_are_modules", "_law_nexts", "_law_through", "_law_are_apart", "_law_end", "_law_ways_right", "_law_near", "_law_alike_right"]
def names : List PySem.Str := names0 ++ names1 ++ names2
def top (i : Nat) : Stmt := PySem.Challenge.pw_laidahead_k03_whole_alike.main.body.getD i (.Pass ⟨0, 0, 0, 0⟩)
def d_is_number : He.DefD := ⟨("is_number", none), "is_number", "is_number", defArgs (top 14), defBody (top 14), defScope (top 14), [], []⟩
def d_is_word : He.DefD := ⟨("is_word", none), "is_word", "is_word", defArgs (top 15), defBody (top 15), defScope (top 15), [], []⟩
def d_are_sorts : He.DefD := ⟨("are_sorts", none), "are_sorts", "are_sorts", defArgs (top 16), defBody (top 16), defScope (top 16), [], []⟩
def d_can_use : He.DefD := ⟨("can_use", none), "can_use", "can_use", defArgs (top 17), defBody (top 17), defScope (top 17), [], []⟩
def d_is_definition : He.DefD := ⟨("is_definition", none), "is_definition", "is_definition", defArgs (top 18), defBody (top 18), defScope (top 18), [], []⟩
def d_is_module : He.DefD := ⟨("is_module", none), "is_module", "is_module", defArgs (top 19), defBody (top 19), defScope (top 19), [], []⟩
def d_are_modules_programs : He.DefD := ⟨("are_modules_programs", none), "are_modules", "are_modules", defArgs (top 20), defBody (top 20), defScope (top 20), [], []⟩
def d_Program_init : He.DefD := ⟨("Program", some "__init__"), "__init__", "Program.__init__", defArgs (inClass (top 22) 0), defBody (inClass (top 22) 0), defScope (inClass (top 22) 0), [], []⟩
def d_Program_len : He.DefD := ⟨("Program", some "__len__"), "__len__", "Program.__len__", defArgs (inClass (top 22) 3), defBody (inClass (top 22) 3), defScope (inClass (top 22) 3), [], []⟩
def d_Program_found : He.DefD := ⟨("Program", some "found"), "found", "Program.found", defArgs (inClass (top 22) 7), defBody (inClass (top 22) 7), defScope (inClass (top 22) 7), [], []⟩
def d_Program_show_of : He.DefD := ⟨("Program", some "show_of"), "show_of", "Program.show_of", defArgs (inClass (top 22) 8), defBody (inClass (top 22) 8), defScope (inClass (top 22) 8), [], []⟩
def d_outer_uses : He.DefD := ⟨("outer_uses", none), "outer_uses", "outer_uses", defArgs (top 23), defBody (top 23), defScope (top 23), [], []⟩
def d_can_shorten : He.DefD := ⟨("can_shorten", none), "can_shorten", "can_shorten", defArgs (top 27), defBody (top 27), defScope (top 27), [], []⟩
def d_is_choice : He.DefD := ⟨("is_choice", none), "is_choice", "is_choice", defArgs (top 28), defBody (top 28), defScope (top 28), [], []⟩
def d_is_lot : He.DefD := ⟨("is_lot", none), "is_lot", "is_lot", defArgs (top 29), defBody (top 29), defScope (top 29), [], []⟩
def d_lots_of : He.DefD := ⟨("lots_of", none), "lots_of", "lots_of", defArgs (top 30), defBody (top 30), defScope (top 30), [], []⟩
def d_met : He.DefD := ⟨("met", none), "met", "met", defArgs (top 31), defBody (top 31), defScope (top 31), [.non], []⟩
def d_is_build : He.DefD := ⟨("is_build", none), "is_build", "is_build", defArgs (top 34), defBody (top 34), defScope (top 34), [], []⟩
def d_check_two : He.DefD := ⟨("check_two", none), "check_two", "check_two", defArgs (top 35), defBody (top 35), defScope (top 35), [], []⟩
def d_uses_of : He.DefD := ⟨("uses_of", none), "uses_of", "uses_of", defArgs (top 36), defBody (top 36), defScope (top 36), [], []⟩
def d_Held_init : He.DefD := ⟨("Held", some "__init__"), "__init__", "Held.__init__", defArgs (inClass (top 37) 1), defBody (inClass (top 37) 1), defScope (inClass (top 37) 1), [], []⟩
def d_Held_fork : He.DefD := ⟨("Held", some "fork"), "fork", "Held.fork", defArgs (inClass (top 37) 2), defBody (inClass (top 37) 2), defScope (inClass (top 37) 2), [], []⟩
def d_Held_uses_at : He.DefD := ⟨("Held", some "uses_at"), "uses_at", "Held.uses_at", defArgs (inClass (top 37) 3), defBody (inClass (top 37) 3), defScope (inClass (top 37) 3), [], []⟩
def d_Held_modules_of : He.DefD := ⟨("Held", some "modules_of"), "modules_of", "Held.modules_of", defArgs (inClass (top 37) 4), defBody (inClass (top 37) 4), defScope (inClass (top 37) 4), [], []⟩
def d_Held_nexts : He.DefD := ⟨("Held", some "nexts"), "nexts", "Held.nexts", defArgs (inClass (top 37) 5), defBody (inClass (top 37) 5), defScope (inClass (top 37) 5), [], []⟩
def d_Held_reach : He.DefD := ⟨("Held", some "reach"), "reach", "Held.reach", defArgs (inClass (top 37) 6), defBody (inClass (top 37) 6), defScope (inClass (top 37) 6), [], []⟩
def d_Held_apart_by : He.DefD := ⟨("Held", some "apart_by"), "apart_by", "Held.apart_by", defArgs (inClass (top 37) 7), defBody (inClass (top 37) 7), defScope (inClass (top 37) 7), [], []⟩
def d_are_modules_alike : He.DefD := ⟨("are_modules_alike", none), "are_modules", "are_modules", defArgs (top 38), defBody (top 38), defScope (top 38), [], []⟩
def d_is_even : He.DefD := ⟨("is_even", none), "is_even", "is_even", defArgs (top 40), defBody (top 40), defScope (top 40), [], []⟩
def d_are_crossed : He.DefD := ⟨("are_crossed", none), "are_crossed", "are_crossed", defArgs (top 41), defBody (top 41), defScope (top 41), [], []⟩
def d_is_pair : He.DefD := ⟨("is_pair", none), "is_pair", "is_pair", defArgs (top 42), defBody (top 42), defScope (top 42), [], []⟩
def d_are_right : He.DefD := ⟨("are_right", none), "are_right", "are_right", defArgs (top 43), defBody (top 43), defScope (top 43), [], []⟩
def d_end_of : He.DefD := ⟨("end_of", none), "end_of", "end_of", defArgs (top 44), defBody (top 44), defScope (top 44), [], []⟩
def d_fork_of : He.DefD := ⟨("fork_of", none), "fork_of", "fork_of", defArgs (top 45), defBody (top 45), defScope (top 45), [], []⟩
def d_are_ways : He.DefD := ⟨("are_ways", none), "are_ways", "are_ways", defArgs (top 46), defBody (top 46), defScope (top 46), [], []⟩
def d_Alike_init : He.DefD := ⟨("Alike", some "__init__"), "__init__", "Alike.__init__", defArgs (inClass (top 47) 0), defBody (inClass (top 47) 0), defScope (inClass (top 47) 0), [], []⟩
def d_Alike_shows : He.DefD := ⟨("Alike", some "shows"), "shows", "Alike.shows", defArgs (inClass (top 47) 2), defBody (inClass (top 47) 2), defScope (inClass (top 47) 2), [], []⟩
def d_Parted_init : He.DefD := ⟨("Parted", some "__init__"), "__init__", "Parted.__init__", defArgs (inClass (top 48) 0), defBody (inClass (top 48) 0), defScope (inClass (top 48) 0), [], []⟩
def d_Parted_shows : He.DefD := ⟨("Parted", some "shows"), "shows", "Parted.shows", defArgs (inClass (top 48) 2), defBody (inClass (top 48) 2), defScope (inClass (top 48) 2), [], []⟩
def d_compare : He.DefD := ⟨("compare", none), "compare", "compare", defArgs (top 49), defBody (top 49), defScope (top 49), [], []⟩
def d_are_alike : He.DefD := ⟨("are_alike", none), "are_alike", "are_alike", defArgs (top 50), defBody (top 50), defScope (top 50), [], []⟩
def d_first_parting : He.DefD := ⟨("first_parting", none), "first_parting", "first_parting", defArgs (top 51), defBody (top 51), defScope (top 51), [], []⟩
def d_law_draw : He.DefD := ⟨("_law_draw", none), "_law_draw", "_law_draw", defArgs (top 53), defBody (top 53), defScope (top 53), [], []⟩
def d_law_cell_at : He.DefD := ⟨("_law_cell_at", none), "_law_cell_at", "_law_cell_at", defArgs (top 54), defBody (top 54), defScope (top 54), [], []⟩
def d_law_digits : He.DefD := ⟨("_law_digits", none), "_law_digits", "_law_digits", defArgs (top 55), defBody (top 55), defScope (top 55), [], []⟩
def d_law_take : He.DefD := ⟨("_law_take", none), "_law_take", "_law_take", defArgs (top 56), defBody (top 56), defScope (top 56), [], []⟩
def d_law_pool : He.DefD := ⟨("_law_pool", none), "_law_pool", "_law_pool", defArgs (top 57), defBody (top 57), defScope (top 57), [], []⟩
def d_law_pick : He.DefD := ⟨("_law_pick", none), "_law_pick", "_law_pick", defArgs (top 58), defBody (top 58), defScope (top 58), [], []⟩
def d_law_uses : He.DefD := ⟨("_law_uses", none), "_law_uses", "_law_uses", defArgs (top 59), defBody (top 59), defScope (top 59), [], []⟩
def d_law_parts : He.DefD := ⟨("_law_parts", none), "_law_parts", "_law_parts", defArgs (top 60), defBody (top 60), defScope (top 60), [], []⟩
def d_law_row : He.DefD := ⟨("_law_row", none), "_law_row", "_law_row", defArgs (top 61), defBody (top 61), defScope (top 61), [], []⟩
def d_law_how : He.DefD := ⟨("_law_how", none), "_law_how", "_law_how", defArgs (top 62), defBody (top 62), defScope (top 62), [], []⟩
def d_law_makeable : He.DefD := ⟨("_law_makeable", none), "_law_makeable", "_law_makeable", defArgs (top 63), defBody (top 63), defScope (top 63), [], []⟩
def d_law_choice : He.DefD := ⟨("_law_choice", none), "_law_choice", "_law_choice", defArgs (top 64), defBody (top 64), defScope (top 64), [], []⟩
def d_law_lots : He.DefD := ⟨("_law_lots", none), "_law_lots", "_law_lots", defArgs (top 65), defBody (top 65), defScope (top 65), [], []⟩
def d_law_met : He.DefD := ⟨("_law_met", none), "_law_met", "_law_met", defArgs (top 66), defBody (top 66), defScope (top 66), [], []⟩
def d_law_outer : He.DefD := ⟨("_law_outer", none), "_law_outer", "_law_outer", defArgs (top 67), defBody (top 67), defScope (top 67), [], []⟩
def d_law_inner : He.DefD := ⟨("_law_inner", none), "_law_inner", "_law_inner", defArgs (top 68), defBody (top 68), defScope (top 68), [], []⟩
def d_law_two : He.DefD := ⟨("_law_two", none), "_law_two", "_law_two", defArgs (top 73), defBody (top 73), defScope (top 73), [], []⟩
def d_law_words : He.DefD := ⟨("_law_words", none), "_law_words", "_law_words", defArgs (top 74), defBody (top 74), defScope (top 74), [], []⟩
def d_law_are_modules : He.DefD := ⟨("_law_are_modules", none), "_law_are_modules", "_law_are_modules", defArgs (top 75), defBody (top 75), defScope (top 75), [], []⟩
def d_law_nexts : He.DefD := ⟨("_law_nexts", none), "_law_nexts", "_law_nexts", defArgs (top 76), defBody (top 76), defScope (top 76), [], []⟩
def d_law_through : He.DefD := ⟨("_law_through", none), "_law_through", "_law_through", defArgs (top 77), defBody (top 77), defScope (top 77), [], []⟩
def d_law_are_apart : He.DefD := ⟨("_law_are_apart", none), "_law_are_apart", "_law_are_apart", defArgs (top 78), defBody (top 78), defScope (top 78), [], []⟩
def d_law_end : He.DefD := ⟨("_law_end", none), "_law_end", "_law_end", defArgs (top 79), defBody (top 79), defScope (top 79), [], []⟩
def d_law_ways_right : He.DefD := ⟨("_law_ways_right", none), "_law_ways_right", "_law_ways_right", defArgs (top 80), defBody (top 80), defScope (top 80), [], []⟩
def d_law_near : He.DefD := ⟨("_law_near", none), "_law_near", "_law_near", defArgs (top 81), defBody (top 81), defScope (top 81), [], []⟩
def d_law_alike_right : He.DefD := ⟨("_law_alike_right", none), "_law_alike_right", "_law_alike_right", defArgs (top 82), defBody (top 82), defScope (top 82), [], []⟩
def d_law : He.DefD := ⟨("law", none), "law", "law", defArgs (top 83), defBody (top 83), defScope (top 83), [], []⟩
def fn0 : List He.DefD := [d_is_number, d_is_word, d_are_sorts, d_can_use, d_is_definition, d_is_module, d_are_modules_programs, d_Program_init, d_Program_len, d_Program_found, d_Program_show_of, d_outer_uses, d_can_shorten, d_is_choice, d_is_lot, d_lots_of, d_met, d_is_build, d_check_two, d_uses_of, d_Held_init, d_Held_fork, d_Held_uses_at, d_Held_modules_of, d_Held_nexts, d_Held_reach, d_Held_apart_by, d_are_modules_alike, d_is_even, d_are_crossed]
def fn1 : List He.DefD := [d_is_pair, d_are_right, d_end_of, d_fork_of, d_are_ways, d_Alike_init, d_Alike_shows, d_Parted_init, d_Parted_shows, d_compare, d_are_alike, d_first_parting, d_law_draw, d_law_cell_at, d_law_digits, d_law_take, d_law_pool, d_law_pick, d_law_uses, d_law_parts, d_law_row, d_law_how, d_law_makeable, d_law_choice, d_law_lots, d_law_met, d_law_outer, d_law_inner, d_law_two, d_law_words]
def fn2 : List He.DefD := [d_law_are_modules, d_law_nexts, d_law_through, d_law_are_apart, d_law_end, d_law_ways_right, d_law_near, d_law_alike_right, d_law]
def fn : List He.DefD := fn0 ++ fn1 ++ fn2
def fa0 : List He.Fa := [.glo "is_number", .glo "is_word", .glo "are_sorts", .glo "can_use", .glo "is_definition", .glo "is_module", .glo "are_modules_programs", .glo "Program", .glo "outer_uses", .glo "can_shorten", .glo "is_choice", .glo "is_lot", .glo "lots_of", .glo "met", .glo "is_build", .glo "check_two", .glo "uses_of", .glo "Held", .glo "are_modules_alike", .glo "is_even", .glo "are_crossed", .glo "is_pair", .glo "are_right", .glo "end_of", .glo "fork_of", .glo "are_ways", .glo "Alike", .glo "Parted", .glo "compare", .glo "are_alike"]
def fa1 : List He.Fa := [.glo "first_parting", .glo "_law_draw", .glo "_law_cell_at", .glo "_law_digits", .glo "_law_take", .glo "_law_pool", .glo "_law_pick", .glo "_law_uses", .glo "_law_parts", .glo "_law_row", .glo "_law_how", .glo "_law_makeable", .glo "_law_choice", .glo "_law_lots", .glo "_law_met", .glo "_law_outer", .glo "_law_inner", .glo "_law_two", .glo "_law_words", .glo "_law_are_modules", .glo "_law_nexts", .glo "_law_through", .glo "_law_are_apart", .glo "_law_end", .glo "_law_ways_right", .glo "_law_near", .glo "_law_alike_right", .glo "law", .free "isinstance", .free "int"]
def fa2 : List He.Fa := [.free "bool", .free "str", .free "tuple", .free "len", .free "all", .free "any", .free "range", .free "list", .free "sorted", .free "zip", .free "enumerate", .free "abs", .free "sum", .free "dict", .int "AHEAD" (-1), .int "MOST_NAMES" 4, .int "MOST_MODULES" 3, .int "MOST_USES" 3, .cls "Program", .mkr "Program", .cls "Alike", .mkr "Alike", .cls "Parted", .mkr "Parted", .mkr "Held", .keep "Held", .meth "Program" "found", .meth "Program" "show_of", .meth "Program" "__len__", .meth "Held" "fork"]
def fa3 : List He.Fa := [.meth "Held" "uses_at", .meth "Held" "modules_of", .meth "Held" "nexts", .meth "Held" "reach", .meth "Held" "apart_by", .meth "Alike" "shows", .meth "Parted" "shows", .noat "Program" "pair", .noat "Alike" "pairs", .noat "Parted" "ahead", .noat "Parted" "ways"]
def fa : List He.Fa := fa0 ++ fa1 ++ fa2 ++ fa3

def ts : List He.Tab := [(fun K => He.ga K "SORT_OF", ["call", "read", "take"])]
def tf : List He.Defn := [("lots_of", none), ("_law_lots", none)]
/-- a tuple of words at an address -/
def tupA (K : PySem.W.Frag) (a : Addr) (xs : List Str) : Bool := match K.lookup a with
  | some o => (match o.data with
    | .seq its _ => decide (o.cls = .type "tuple") && (decide (its.size ≤ sizeLine) && He.relAll (xs.map V.str) its.toList)
    | _ => false)
  | none => false
def keyZ : Value → Option Str
  | .str x _ => some x
  | _ => none
def sortB (K : PySem.W.Frag) : Bool := match K.lookup (He.ga K "SORT_OF") with
  | some o => (match o.data with
    | .dict es _ => decide (es.size ≤ sizeLine) && decide (es.toList.map (fun e => keyZ e.key) = (["call", "read", "take"] : List Str).map some)
    | _ => false)
  | none => false
def valA (K : PySem.W.Frag) (x : Str) : Addr := match PySem.W.nsIn K (He.ga K "SORT_OF") x with
  | some (some (.ref a)) => a
  | _ => 0
def valB (K : PySem.W.Frag) (x : Str) (xs : List Str) : Bool := He.eqO (PySem.W.nsIn K (He.ga K "SORT_OF") x) (some (some (.ref (valA K x)))) && tupA K (valA K x) xs
def sclsB (K : PySem.W.Frag) (C : Addr) : Bool := PySem.W.plainGet K C Str.empty && (PySem.W.isClsIn K C && (PySem.W.plainOver K C && He.eqO (PySem.W.findIn K (.ref C) "__setattr__") (some (some (.builtin "object.__setattr__")))))
/-- what stands in the class at f -/
def atC (K : PySem.W.Frag) (C : Addr) (f : Str) : Addr := match PySem.W.findIn K (.ref C) f with
  | some (some (.ref p)) => p
  | _ => 0
def slotB (K : PySem.W.Frag) (C : Addr) (f : Str) (i : Nat) : Bool := He.eqO (PySem.W.findIn K (.ref C) f) (some (some (.ref (atC K C f)))) && (He.eqO (PySem.W.specialIn K (.ref (atC K C f)) "__get__") (some (some (.builtin "member_descriptor.__get__"))) && (decide (PySem.W.takesIn K (.ref (atC K C f)) = some true) && (decide (PySem.W.typeIn K (.ref (atC K C f)) = some (.type "member_descriptor")) && decide (PySem.W.slotIn K (atC K C f) C = some i))))
def iclsB (K : PySem.W.Frag) (C : Addr) : Bool := He.eqO (PySem.W.findIn K (.ref C) "__class__") (some (some (.builtin "object.__class__"))) && (He.eqO (PySem.W.specialIn K (.builtin "object.__class__") "__get__") (some (some (.builtin "getset_descriptor.__get__"))) && (decide (PySem.W.takesIn K (.builtin "object.__class__") = some true) && decide (PySem.W.mroIn K C (.type "object") = some true)))
def kitB (K : PySem.W.Frag) (C D : Addr) : Bool := decide (PySem.W.kitOne K (.ref C) (.ref D) = some false)
/-- a property's getter -/
def getA (K : PySem.W.Frag) (C : Addr) (f : Str) : Addr := match PySem.W.recIn K (atC K C f) "property" with
  | some (.ref g :: _) => g
  | _ => 0
def recB (K : PySem.W.Frag) (C : Addr) (f : Str) : Bool := match PySem.W.recIn K (atC K C f) "property" with
  | some (.ref _ :: _) => true
  | _ => false
def propB (K : PySem.W.Frag) (C : Addr) (f q : Str) : Bool := He.eqO (PySem.W.findIn K (.ref C) f) (some (some (.ref (atC K C f)))) && (He.eqO (PySem.W.specialIn K (.ref (atC K C f)) "__get__") (some (some (.builtin "property.__get__"))) && (decide (PySem.W.takesIn K (.ref (atC K C f)) = some true) && (recB K C f && (PySem.W.keepIn K (.ref (getA K C f)) && (match K.lookup (getA K C f) with
  | some o => (match o.data with
    | .func fd => PySem.W.codeIn K fd.code q && decide (fd.defaults = .none)
    | _ => false)
  | none => false)))))
def getW (K : PySem.W.Frag) (C : Addr) (f : Str) : He.FnW := match K.lookup (getA K C f) with
  | some ⟨_, _, .func fd, _⟩ => some (fd.name, fd.qualname, fd.params, fd.body, fd.scope, fd.globals, fd.closure, fd.builtins)
  | _ => none
def chk (K : PySem.W.Frag) : List Bool := [
  (He.Fa.glo "SORTS").ok K && tupA K (He.ga K "SORTS") ["call", "cell"],
  (He.Fa.glo "SHOWS").ok K && tupA K (He.ga K "SHOWS") ["shown", "weak", "protected", "hidden"],
  (He.Fa.glo "KEPT").ok K && tupA K (He.ga K "KEPT") ["protected", "hidden"],
  (He.Fa.glo "TOLD").ok K && tupA K (He.ga K "TOLD") ["read", "take"],
  (He.Fa.glo "SORT_OF").ok K && sortB K,
  valB K "call" ["call"], valB K "read" ["cell"], valB K "take" ["call", "cell"],
  sclsB K (He.ga K "Held"), slotB K (He.ga K "Held") "builds" 0, slotB K (He.ga K "Held") "lot" 1,
  iclsB K (He.ga K "Program"), iclsB K (He.ga K "Alike"), iclsB K (He.ga K "Parted"),
  kitB K (He.ga K "Parted") (He.ga K "Alike"), kitB K (He.ga K "Alike") (He.ga K "Parted"),
  propB K (He.ga K "Program") "sorts" "Program.sorts", propB K (He.ga K "Program") "modules" "Program.modules",
  decide ((He.cT K ("lots_of", none)).2 ≠ (He.cT K ("_law_lots", none)).2)]
def ex (K : PySem.W.Frag) : Bool := (chk K).all fun b => b
def gl0 : List Str := ["is_number", "is_word", "are_sorts", "can_use", "is_definition", "is_module", "are_modules_programs", "Program", "outer_uses", "can_shorten", "is_choice", "is_lot", "lots_of", "met", "is_build", "check_two", "uses_of", "Held", "are_modules_alike", "is_even", "are_crossed", "is_pair", "are_right", "end_of", "fork_of", "are_ways", "Alike", "Parted", "compare", "are_alike"]
def gl1 : List Str := ["first_parting", "_law_draw", "_law_cell_at", "_law_digits", "_law_take", "_law_pool", "_law_pick", "_law_uses", "_law_parts", "_law_row", "_law_how", "_law_makeable", "_law_choice", "_law_lots", "_law_met", "_law_outer", "_law_inner", "_law_two", "_law_words", "_law_are_modules", "_law_nexts", "_law_through", "_law_are_apart", "_law_end", "_law_ways_right", "_law_near", "_law_alike_right", "law", "SORTS", "SHOWS"]
def gl2 : List Str := ["SORT_OF", "KEPT", "TOLD"]
def gl : List Str := gl0 ++ gl1 ++ gl2

/-- what an object leads to, as far as the facts ask -/
def leads (o : Obj) : List Addr := match o.data with
  | .dict es _ => es.toList.flatMap fun e => He.refV e.val
  | .func fd => He.refV fd.code ++ He.refV fd.defaults
  | .cls cd => [cd.ns]
  | .fields vs => if o.cls = .type "property" then vs.toList.flatMap He.refV else []
  | _ => []
def nextA (g : Addr → Option Obj) (as : List Addr) : List Addr := as.flatMap fun a => match g a with
  | some o => leads o
  | none => []
def l1 (g : Addr → Option Obj) : List Addr := gl.map fun x => He.ga (He.frG g [mainGlobals]) x
def adr2 (g : Addr → Option Obj) (a b : List Addr) : Nat → List Addr
  | 0 => a ++ b
  | n + 1 => adr2 g (a ++ b) (nextA g b) n
def adrs (g : Addr → Option Obj) : List Addr := adr2 g [mainGlobals] (l1 g) 4
abbrev frY (g : Addr → Option Obj) : PySem.W.Frag := He.frT g (adrs g)
def obsY (g : Addr → Option Obj) : He.AlX := (fun K => (He.obsT fa fn ts K, ex K && He.tabsB g tf K)) (frY g)
theorem saysY_of {w : World} {h : Heap} (e : obsY h.get? = He.valX fn ts w) : He.SaysX fa fn ts tf ex w h (frY h.get?) := by
  have e1 : He.obsT fa fn ts (frY h.get?) = He.valT fn ts w := congrArg (fun z : He.AlX => z.1) e
  have e2 : (ex (frY h.get?) && He.tabsB h.get? tf (frY h.get?)) = true := congrArg (fun z : He.AlX => z.2) e
  obtain ⟨m1, m2⟩ := He.ba e2
  have each : ∀ p ∈ tf, PySem.W.codeHdIn (frY h.get?) (He.cT (frY h.get?) p).1 (He.cT (frY h.get?) p).2 = true ∧ ∃ o, h.get? (He.cT (frY h.get?) p).2 = some o ∧ He.emptyTab o = true := fun p hp => by
    obtain ⟨c1, c2⟩ := He.ba (List.all_eq_true.mp m2 p hp)
    revert c2
    cases q : h.get? (He.cT (frY h.get?) p).2 with
    | none => intro c2; cases c2
    | some o => intro c2; exact ⟨c1, o, rfl, c2⟩
  refine ⟨e1, m1, fun p hp => (each p hp).1, fun p hp => ?_, fun p hp => ?_⟩
  · obtain ⟨_, o, q, z⟩ := each p hp
    exact He.frT_none q z
  · obtain ⟨_, o, q, z⟩ := each p hp
    rw [q, He.emptyTab_eq z]
def d_Program_sorts : He.DefD := ⟨("Program", some "sorts"), "sorts", "Program.sorts", defArgs (inClass (top 22) 1), defBody (inClass (top 22) 1), defScope (inClass (top 22) 1), [], []⟩
def d_Program_modules : He.DefD := ⟨("Program", some "modules"), "modules", "Program.modules", defArgs (inClass (top 22) 2), defBody (inClass (top 22) 2), defScope (inClass (top 22) 2), [], []⟩
abbrev AlZ : Type := He.AlX × He.FnW × He.FnW
def obsZ (g : Addr → Option Obj) : AlZ := (fun K => ((He.obsT fa fn ts K, ex K && He.tabsB g tf K), getW K (He.ga K "Program") "sorts", getW K (He.ga K "Program") "modules")) (frY g)
def valZ (w : World) : AlZ := (He.valX fn ts w, d_Program_sorts.val, d_Program_modules.val)
structure SaysZ (w : World) (h : Heap) (K : PySem.W.Frag) : Prop where
  x : He.SaysX fa fn ts tf ex w h K
  sorts : getW K (He.ga K "Program") "sorts" = d_Program_sorts.val
  modules : getW K (He.ga K "Program") "modules" = d_Program_modules.val
theorem saysZ_of {w : World} {h : Heap} (e : obsZ h.get? = valZ w) : SaysZ w h (frY h.get?) := by
  have e1 : obsY h.get? = He.valX fn ts w := congrArg (fun z : AlZ => z.1) e
  exact ⟨saysY_of e1, congrArg (fun z : AlZ => z.2.1) e, congrArg (fun z : AlZ => z.2.2) e⟩
def hk : PySem.W.Hook where
  α := AlZ
  obs := fun s => obsZ s.heap.get?
  val := fun w => valZ w
  says := fun w h => ∃ K : PySem.W.Frag, K.In h ∧ SaysZ w h K
  of := fun _ _ e => ⟨_, He.frT_in, saysZ_of e⟩
  keeps := fun _ _ _ ⟨K, hK, c⟩ k => ⟨K, PySem.W.Frag.In.keeps hK k, ⟨⟨c.x.t, c.x.more, c.x.hd, c.x.out, fun p hp => k _ _ (c.x.empty p hp)⟩, c.sorts, c.modules⟩⟩
def ob (s : PySem.W.SharedT) : AlZ := obsZ (HandSHeadRun.getT s)
theorem ob_eq (s : PySem.W.SharedT) : ob s = hk.obs s.abs := by
  have e : HandSHeadRun.getT s = s.abs.heap.get? := funext fun a => HandSHeadRun.getT_eq s a
  show obsZ (HandSHeadRun.getT s) = obsZ s.abs.heap.get?
  rw [e]
abbrev qv : Program := PySem.W.view R.prog [83]
end Hd
set_option Elab.async false
set_option linter.all false
set_option maxRecDepth 100000
set_option maxHeartbeats 0
namespace Hd
open PySem PySem.Spec PyProof.Rows L2
theorem run0 : ∀ w : World, HandSHeadRun.RunEq R qv hk ob 30000 names (w.withFollow "special-get-raises" false) := fun w => by intro os; kernel_rfl
theorem run1 : ∀ w : World, HandSHeadRun.RunEq R qv hk ob 30000 names (w.withFollow "special-get-raises" true) := fun w => by intro os; kernel_rfl
end Hd
set_option Elab.async false
set_option linter.all false
set_option maxRecDepth 100000
set_option maxHeartbeats 4000000
namespace Cal
open PySem PySem.Spec PyProof.Rows L2

/-! ### data -/
/-- a value that stands still: atoms, tuples, lists and dicts that nobody changes any more, instances -/
inductive Dat where
  | non | bl (b : Bool) | int (i : Int) | str (x : Str)
  | tup (xs : List Dat) | lst (xs : List Dat) | tuf (xs : List Dat)
  | ins (C : Addr) (ns : List Str) (xs : List Dat)
  | slo (C : Addr) (xs : List Dat)
  | dic (ks : List NestedKey) (xs : List Dat)

mutual
/-- the key as data -/
def kd : NestedKey → Dat
  | .none => .non
  | .num i => .int i
  | .text x => .str x
  | .tup ks => .tup (kds ks)
def kds : List NestedKey → List Dat
  | [] => []
  | k :: ks => kd k :: kds ks
end

structure Cfg where
  P : Program
  w : World
  K : PySem.W.Frag
  mg : Str → Option Value
  base : Heap
  T : List (Addr × Str)

/-- one entry of a dict: its key's hash, its key, its value -/
def EntR (w : World) (x : NestedKey × V × V) (e : DictEntry) : Prop := e.hash = x.1.hash w ∧ RelV x.2.1 e.key ∧ RelV x.2.2 e.val
/-- the object of a dict with any keys -/
def DicO (w : World) (d : Addr) (ep : Nat) (xs : List (NestedKey × V × V)) : HO :=
  .ext fun h => xs.length ≤ sizeLine ∧ (d == sysModules) = false ∧ ∃ (es : Array DictEntry), h.DictRaw d es ep ∧ Paired (EntR w) xs es.toList
def DicAt (F : Hp) (w : World) (d : Addr) (xs : List (NestedKey × V × V)) : Prop := ∃ ep, F d = some (DicO w d ep xs)
def zip3 : List NestedKey → List V → List V → List (NestedKey × V × V)
  | k :: ks, v :: vs, u :: us => (k, v, u) :: zip3 ks vs us
  | _, _, _ => []

section
variable (c : Cfg) (F : Hp)
mutual
/-- the key k is the value v -/
def KeyIs : NestedKey → V → Prop
  | .none, v => v = .non
  | .num i, v => v = .int i
  | .text x, v => v = .str x
  | .tup ks, v => ∃ p vs, v = .ref p ∧ SqT c.K F p vs ∧ KeyAll ks vs
def KeyAll : List NestedKey → List V → Prop
  | [], vs => vs = []
  | k :: ks, vs => ∃ v r, vs = v :: r ∧ KeyIs k v ∧ KeyAll ks r
end
mutual
/-- the datum d is the value v, in what stands still -/
def Is : Dat → V → Prop
  | .non, v => v = .non
  | .bl b, v => v = .bl b
  | .int i, v => v = .int i
  | .str x, v => v = .str x
  | .tup ds, v => ∃ p vs, v = .ref p ∧ SqT c.K F p vs ∧ IsL ds vs
  | .lst ds, v => ∃ p vs, v = .ref p ∧ F p = some (.lst vs) ∧ IsL ds vs
  | .tuf ds, v => ∃ p o vs, v = .ref p ∧ (F p = some (.frz o (.tup vs)) ∧ o.dict = none) ∧ IsL ds vs
  | .ins C ns ds, v => ∃ p dx vs, v = .ref p ∧ F p = some (.ins C dx (ns.zip vs)) ∧ ns.length = vs.length ∧ IsL ds vs
  | .slo C ds, v => ∃ p dx vs, v = .ref p ∧ (F p = some (SlX.SlO p C dx (vs.map some)) ∧ F dx = some (.xd [])) ∧ IsL ds vs
  | .dic ks ds, v => ∃ p kv vs, v = .ref p ∧ DicAt F c.w p (zip3 ks kv vs) ∧ (ks.length = vs.length ∧ ks.Nodup ∧ (∀ k ∈ ks, k.depth ≤ 8)) ∧ KeyAll c F ks kv ∧ IsL ds vs
def IsL : List Dat → List V → Prop
  | [], vs => vs = []
  | d :: ds, vs => ∃ v r, vs = v :: r ∧ Is d v ∧ IsL ds r
end
end

/-! ### growing -/
def Ext (F F' : Hp) : Prop := ∀ a o, F a = some o → F' a = some o
theorem Ext.refl (F : Hp) : Ext F F := fun _ _ h => h
theorem Ext.trans {F G H : Hp} (a : Ext F G) (b : Ext G H) : Ext F H := fun p o h => b p o (a p o h)
theorem Ext.d {F F' : Hp} {w : World} {p : Addr} {xs : List (NestedKey × V × V)} (e : Ext F F') (h : DicAt F w p xs) : DicAt F' w p xs := h.imp fun _ h => e _ _ h
theorem Ext.t {F F' : Hp} {K : PySem.W.Frag} {p : Addr} {vs : List V} (e : Ext F F') (h : SqT K F p vs) : SqT K F' p vs := by
  rcases h with (h | ⟨o, h⟩) | h
  · exact .inl (.inl (e _ _ h))
  · exact .inl (.inr ⟨o, e _ _ h⟩)
  · exact .inr h
theorem Ext.l {F F' : Hp} {K : PySem.W.Frag} {p : Addr} {vs : List V} (e : Ext F F') (h : SqL K F p vs) : SqL K F' p vs := by
  rcases h with (h | ⟨o, h⟩) | h
  · exact .inl (.inl (e _ _ h))
  · exact .inl (.inr ⟨o, e _ _ h⟩)
  · exact .inr h
section
variable {c : Cfg} {F F' : Hp}
mutual
theorem KeyIs.mono (e : Ext F F') : ∀ (k : NestedKey) (v : V), KeyIs c F k v → KeyIs c F' k v
  | .none, v, h => h
  | .num i, v, h => h
  | .text x, v, h => h
  | .tup ks, v, h => by
    unfold KeyIs at h ⊢
    obtain ⟨p, vs, h1, h2, h3⟩ := h
    exact ⟨p, vs, h1, e.t h2, KeyAll.mono e ks vs h3⟩
theorem KeyAll.mono (e : Ext F F') : ∀ (ks : List NestedKey) (vs : List V), KeyAll c F ks vs → KeyAll c F' ks vs
  | [], vs, h => h
  | k :: ks, vs, h => by
    unfold KeyAll at h ⊢
    obtain ⟨v, r, h1, h2, h3⟩ := h
    exact ⟨v, r, h1, KeyIs.mono e k v h2, KeyAll.mono e ks r h3⟩
end
mutual
theorem Is.mono (e : Ext F F') : ∀ (d : Dat) (v : V), Is c F d v → Is c F' d v
  | .non, v, h => h
  | .bl b, v, h => h
  | .int i, v, h => h
  | .str x, v, h => h
  | .tup ds, v, h => by
    unfold Is at h ⊢
    obtain ⟨p, vs, h1, h2, h3⟩ := h
    exact ⟨p, vs, h1, e.t h2, IsL.mono e ds vs h3⟩
  | .lst ds, v, h => by
    unfold Is at h ⊢
    obtain ⟨p, vs, h1, h2, h3⟩ := h
    exact ⟨p, vs, h1, e _ _ h2, IsL.mono e ds vs h3⟩
  | .tuf ds, v, h => by
    unfold Is at h ⊢
    obtain ⟨p, o, vs, h1, h2, h3⟩ := h
    exact ⟨p, o, vs, h1, ⟨e _ _ h2.1, h2.2⟩, IsL.mono e ds vs h3⟩
  | .ins C ns ds, v, h => by
    unfold Is at h ⊢
    obtain ⟨p, dx, vs, h1, h2, h4, h3⟩ := h
    exact ⟨p, dx, vs, h1, e _ _ h2, h4, IsL.mono e ds vs h3⟩
  | .slo C ds, v, h => by
    unfold Is at h ⊢
    obtain ⟨p, dx, vs, h1, ⟨s1, s2⟩, h3⟩ := h
    exact ⟨p, dx, vs, h1, ⟨e _ _ s1, e _ _ s2⟩, IsL.mono e ds vs h3⟩
  | .dic ks ds, v, h => by
    unfold Is at h ⊢
    obtain ⟨p, kv, vs, h1, h2, h4, h5, h3⟩ := h
    exact ⟨p, kv, vs, h1, e.d h2, h4, KeyAll.mono e ks kv h5, IsL.mono e ds vs h3⟩
theorem IsL.mono (e : Ext F F') : ∀ (ds : List Dat) (vs : List V), IsL c F ds vs → IsL c F' ds vs
  | [], vs, h => h
  | d :: ds, vs, h => by
    unfold IsL at h ⊢
    obtain ⟨v, r, h1, h2, h3⟩ := h
    exact ⟨v, r, h1, Is.mono e d v h2, IsL.mono e ds r h3⟩
end
theorem IsL.nil_iff {vs : List V} : IsL c F [] vs ↔ vs = [] := by unfold IsL; exact Iff.rfl
theorem IsL.cons_iff {d : Dat} {ds : List Dat} {vs : List V} : IsL c F (d :: ds) vs ↔ ∃ v r, vs = v :: r ∧ Is c F d v ∧ IsL c F ds r := by
  constructor
  · intro h; unfold IsL at h; exact h
  · intro h; unfold IsL; exact h
theorem IsL.nil : IsL c F [] [] := IsL.nil_iff.mpr rfl
theorem IsL.cons {d : Dat} {ds : List Dat} {v : V} {vs : List V} (h : Is c F d v) (t : IsL c F ds vs) : IsL c F (d :: ds) (v :: vs) := IsL.cons_iff.mpr ⟨v, vs, rfl, h, t⟩
theorem IsL.len : ∀ {ds : List Dat} {vs : List V}, IsL c F ds vs → ds.length = vs.length
  | [], vs, h => by
    rw [IsL.nil_iff.mp h]
    rfl
  | d :: ds, vs, h => by
    obtain ⟨v, r, rfl, _, h3⟩ := IsL.cons_iff.mp h
    rw [List.length_cons, List.length_cons, IsL.len h3]
theorem IsL.at_ : ∀ {ds : List Dat} {vs : List V} {i : Nat} {d : Dat}, IsL c F ds vs → ds[i]? = some d → ∃ v, vs[i]? = some v ∧ Is c F d v
  | [], vs, i, d, h, e => by simp at e
  | d0 :: ds, vs, i, d, h, e => by
    obtain ⟨v, r, rfl, h2, h3⟩ := IsL.cons_iff.mp h
    cases i with
    | zero => cases e; exact ⟨v, rfl, h2⟩
    | succ i => exact IsL.at_ (i := i) h3 (by simpa using e)
theorem IsL.at' : ∀ {ds : List Dat} {vs : List V} {i : Nat} {v : V}, IsL c F ds vs → vs[i]? = some v → ∃ d, ds[i]? = some d ∧ Is c F d v
  | [], vs, i, v, h, e => by rw [IsL.nil_iff.mp h] at e; simp at e
  | d0 :: ds, vs, i, v, h, e => by
    obtain ⟨v0, r, rfl, h2, h3⟩ := IsL.cons_iff.mp h
    cases i with
    | zero => cases e; exact ⟨d0, rfl, h2⟩
    | succ i => exact IsL.at' (i := i) h3 (by simpa using e)
theorem IsL.app : ∀ {ds es : List Dat} {vs us : List V}, IsL c F ds vs → IsL c F es us → IsL c F (ds ++ es) (vs ++ us)
  | [], es, vs, us, h, k => by rw [IsL.nil_iff.mp h]; exact k
  | d :: ds, es, vs, us, h, k => by
    obtain ⟨v, r, rfl, h2, h3⟩ := IsL.cons_iff.mp h
    exact IsL.cons h2 (IsL.app h3 k)
theorem IsL.snoc {ds : List Dat} {d : Dat} {vs : List V} {v : V} (h : IsL c F ds vs) (k : Is c F d v) : IsL c F (ds ++ [d]) (vs ++ [v]) := h.app (IsL.cons k IsL.nil)
theorem IsL.take : ∀ {ds : List Dat} {vs : List V} (n : Nat), IsL c F ds vs → IsL c F (ds.take n) (vs.take n)
  | [], vs, n, h => by rw [IsL.nil_iff.mp h]; simp [IsL.nil_iff]
  | d :: ds, vs, 0, h => by simp [IsL.nil_iff]
  | d :: ds, vs, n + 1, h => by
    obtain ⟨v, r, rfl, h2, h3⟩ := IsL.cons_iff.mp h
    exact IsL.cons h2 (IsL.take n h3)
theorem IsL.drop : ∀ {ds : List Dat} {vs : List V} (n : Nat), IsL c F ds vs → IsL c F (ds.drop n) (vs.drop n)
  | [], vs, n, h => by rw [IsL.nil_iff.mp h]; simp [IsL.nil_iff]
  | d :: ds, vs, 0, h => h
  | d :: ds, vs, n + 1, h => by
    obtain ⟨v, r, rfl, h2, h3⟩ := IsL.cons_iff.mp h
    exact IsL.drop n h3
theorem IsL.rev : ∀ {ds : List Dat} {vs : List V}, IsL c F ds vs → IsL c F ds.reverse vs.reverse
  | [], vs, h => by rw [IsL.nil_iff.mp h]; simp [IsL.nil_iff]
  | d :: ds, vs, h => by
    obtain ⟨v, r, rfl, h2, h3⟩ := IsL.cons_iff.mp h
    rw [List.reverse_cons, List.reverse_cons]
    exact (IsL.rev h3).snoc h2
theorem IsL.set : ∀ {ds : List Dat} {vs : List V} (i : Nat) {d : Dat} {v : V}, IsL c F ds vs → Is c F d v → IsL c F (ds.set i d) (vs.set i v)
  | [], vs, i, d, v, h, k => by rw [IsL.nil_iff.mp h]; simp [IsL.nil_iff]
  | d0 :: ds, vs, 0, d, v, h, k => by
    obtain ⟨v0, r, rfl, h2, h3⟩ := IsL.cons_iff.mp h
    exact IsL.cons k h3
  | d0 :: ds, vs, i + 1, d, v, h, k => by
    obtain ⟨v0, r, rfl, h2, h3⟩ := IsL.cons_iff.mp h
    exact IsL.cons h2 (IsL.set i h3 k)
/-- ints -/
theorem IsL.ints : ∀ (ns : List Int), IsL c F (ns.map Dat.int) (ns.map V.int)
  | [] => IsL.nil
  | n :: ns => IsL.cons (by unfold Is; rfl) (IsL.ints ns)
end

/-! ### the state -/
/-- the lists that calls may change: ints -/
def DrO (E : Addr → Prop) (F H : Hp) : Prop := ∀ a, E a → F a = none ∧ ∃ ns : List Int, H a = some (.lst (ns.map V.int))
/-- what stands still is a part of the heap, the lambdas' tables are none of it -/
structure Good (c : Cfg) (E : Addr → Prop) (F H : Hp) : Prop where
  ext : Ext F H
  tab : LamX.Tabs c.T H
  out : ∀ p ∈ c.T, F p.1 = none
  dr : DrO E F H
def Tb (c : Cfg) (a : Addr) : Prop := ∃ p ∈ c.T, p.1 = a
theorem Good.tbl {c : Cfg} {E : Addr → Prop} {F H : Hp} (g : Good c E F H) {a : Addr} (h : Tb c a) : ∃ ps, H a = some (.tbl ps) := by
  obtain ⟨p, hp, rfl⟩ := h
  obtain ⟨ps, e, _⟩ := g.tab p hp
  exact ⟨ps, e⟩
/-- from (F, H) to (F', H'): what stood stands, but for E -/
structure Gr (c : Cfg) (E : Addr → Prop) (F H F' H' : Hp) : Prop where
  good : Good c E F' H'
  ext : Ext F F'
  new : ∀ p, F p = none → F' p ≠ none → H p = none
  keep : ∀ b o, H b = some o → ¬ Tb c b → ¬ E b → H' b = some o
def no : Addr → Prop := fun _ => False
section
variable {c : Cfg} {E E' : Addr → Prop} {F H F' H' F2 H2 : Hp}
theorem Good.toNo (g : Good c E F H) : Good c no F H := ⟨g.ext, g.tab, g.out, fun _ h => h.elim⟩
theorem Good.noT (g : Good c E F H) {a : Addr} (h : E a) : ¬ Tb c a := fun t => by
  obtain ⟨ps, e⟩ := g.tbl t
  obtain ⟨_, ns, e2⟩ := g.dr a h
  rw [e] at e2; cases e2
theorem Good.noE (g : Good c E F H) {a : Addr} {o : HO} (h : F a = some o) : ¬ E a := fun t => by
  have := (g.dr a t).1
  rw [h] at this; cases this
theorem Gr.refl (g : Good c E F H) : Gr c E F H F H := ⟨g, Ext.refl F, fun _ h h' => absurd h h', fun _ _ h _ _ => h⟩
theorem Gr.there (a : Gr c E F H F' H') {p : Addr} (h : H p ≠ none) : H' p ≠ none := by
  by_cases ht : Tb c p
  · obtain ⟨ps, e⟩ := a.good.tbl ht
    rw [e]; simp
  · by_cases he : E p
    · obtain ⟨_, ns, e⟩ := a.good.dr p he
      rw [e]; simp
    · cases q : H p with
      | none => exact absurd q h
      | some o => rw [a.keep p o q ht he]; simp
theorem Gr.trans (a : Gr c E F H F' H') (b : Gr c E F' H' F2 H2) : Gr c E F H F2 H2 := by
  refine ⟨b.good, a.ext.trans b.ext, fun p h1 h2 => ?_, fun p o h ht he => b.keep p o (a.keep p o h ht he) ht he⟩
  by_cases q : F' p = none
  · have r := b.new p q h2
    cases z : H p with
    | none => rfl
    | some o => exact absurd r (a.there (by rw [z]; simp))
  · exact a.new p h1 q
theorem Gr.up (g : Good c E F H) (a : Gr c no F H F' H') : Gr c E F H F' H' := by
  refine ⟨⟨a.good.ext, a.good.tab, a.good.out, fun b hb => ?_⟩, a.ext, a.new, fun b o x y _ => a.keep b o x y fun z => z⟩
  obtain ⟨h1, ns, h2⟩ := g.dr b hb
  refine ⟨?_, ns, a.keep b _ h2 (g.noT hb) fun z => z⟩
  cases q : F' b with
  | none => rfl
  | some u =>
    have := a.new b h1 (by rw [q]; simp)
    rw [h2] at this; cases this
/-- a new object that stands still at once -/
theorem Gr.laid (g : Good c E F H) {p : Addr} {o : HO} (h : H p = none) : Gr c E F H (upd F p o) (upd H p o) := by
  have hF : F p = none := by
    cases q : F p with
    | none => rfl
    | some u => rw [g.ext p u q] at h; cases h
  refine ⟨⟨fun a u e => ?_, g.tab.ext fun b u e => ?_, fun q hq => ?_, fun b hb => ?_⟩, fun a u e => ?_, fun a h1 h2 => ?_, fun b u e _ _ => ?_⟩
  · by_cases z : a = p
    · subst z; rw [upd_same] at e ⊢; exact e
    · rw [upd_ne z] at e ⊢; exact g.ext a u e
  · rw [upd_ne (ne_of_none e h)]; exact e
  · obtain ⟨ps, e, _⟩ := g.tab q hq
    rw [upd_ne (ne_of_none e h)]; exact g.out q hq
  · obtain ⟨h1, ns, h2⟩ := g.dr b hb
    have n := ne_of_none h2 h
    exact ⟨by rw [upd_ne n]; exact h1, ns, by rw [upd_ne n]; exact h2⟩
  · rw [upd_ne (ne_of_none e hF)]; exact e
  · by_cases z : a = p
    · subst z; exact h
    · rw [upd_ne z] at h2; exact absurd h1 h2
  · rw [upd_ne (ne_of_none e h)]; exact e
/-- a new object that may change -/
theorem Gr.made (g : Good c E F H) {p : Addr} {o : HO} (h : H p = none) : Gr c E F H F (upd H p o) := by
  refine ⟨⟨fun a u e => ?_, g.tab.ext fun b u e => ?_, g.out, fun b hb => ?_⟩, Ext.refl F, fun a h1 h2 => absurd h1 h2, fun b u e _ _ => ?_⟩
  · rw [upd_ne (ne_of_none (g.ext a u e) h)]; exact g.ext a u e
  · rw [upd_ne (ne_of_none e h)]; exact e
  · obtain ⟨h1, ns, h2⟩ := g.dr b hb
    exact ⟨h1, ns, by rw [upd_ne (ne_of_none h2 h)]; exact h2⟩
  · rw [upd_ne (ne_of_none e h)]; exact e
/-- a young object outside of what stands still is written -/
theorem Gr.wrote (g : Gr c E F H F' H') {p : Addr} {o u : HO} (h0 : H p = none) (h : H' p = some o) (hF : F' p = none) (ht : ∀ ps, o ≠ .tbl ps) (hc : ∀ q, o ≠ LamX.CodeO p q) (hE : ¬ E p) : Gr c E F H F' (upd H' p u) := by
  refine ⟨⟨fun a v e => ?_, fun q hq => ?_, g.good.out, fun b hb => ?_⟩, g.ext, g.new, fun b v e t z => ?_⟩
  · rw [upd_ne (ne_of_none e hF)]; exact g.good.ext a v e
  · obtain ⟨ps, e1, e2, e3⟩ := g.good.tab q hq
    have n : q.1 ≠ p := fun z => by
      rw [z, h] at e1
      exact ht ps (Option.some.inj e1)
    refine ⟨ps, by rw [upd_ne n]; exact e1, e2, fun pos cv ha => ?_⟩
    obtain ⟨cc, x1, x2⟩ := e3 pos cv ha
    by_cases z : cc = p
    · subst z
      rw [h] at x2
      exact absurd (Option.some.inj x2) (hc _)
    · exact ⟨cc, x1, by rw [upd_ne z]; exact x2⟩
  · obtain ⟨h1, ns, h2⟩ := g.good.dr b hb
    exact ⟨h1, ns, by rw [upd_ne (fun y => by subst y; exact hE hb)]; exact h2⟩
  · rw [upd_ne (ne_of_none e h0)]; exact g.keep b v e t z
/-- a list of E is written -/
theorem Gr.wroteE (g : Good c E F H) {p : Addr} {ns : List Int} (hE : E p) : Gr c E F H F (upd H p (.lst (ns.map V.int))) := by
  obtain ⟨z1, ms, z2⟩ := g.dr p hE
  refine ⟨⟨fun a v e => ?_, fun q hq => ?_, g.out, fun b hb => ?_⟩, Ext.refl F, fun a h1 h2 => absurd h1 h2, fun b v e t z => ?_⟩
  · rw [upd_ne (ne_of_none e z1)]; exact g.ext a v e
  · obtain ⟨ps, e1, e2, e3⟩ := g.tab q hq
    have n : q.1 ≠ p := fun z => by
      rw [z, z2] at e1
      cases e1
    refine ⟨ps, by rw [upd_ne n]; exact e1, e2, fun pos cv ha => ?_⟩
    obtain ⟨cc, x1, x2⟩ := e3 pos cv ha
    by_cases z : cc = p
    · subst z
      rw [z2] at x2
      cases x2
    · exact ⟨cc, x1, by rw [upd_ne z]; exact x2⟩
  · by_cases y : b = p
    · subst y; exact ⟨z1, ns, upd_same⟩
    · obtain ⟨h1, ks, h2⟩ := g.dr b hb
      exact ⟨h1, ks, by rw [upd_ne y]; exact h2⟩
  · rw [upd_ne (fun y => by subst y; exact z hE)]; exact e
end
end Cal
set_option Elab.async false
set_option linter.all false
set_option maxRecDepth 100000
set_option maxHeartbeats 4000000
namespace Cal
open PySem PySem.Spec PyProof.Rows L2

/-! ### contexts -/
structure J where
  c : Cfg
  N : List Str
  sc : Scope
  k : Nat
  E : Addr → Prop := no
  lam : Option (Str × Value) := none
  blk : Bool := false
/-- X is a context of that kind -/
structure At (j : J) (X : Cx) : Prop where
  prog : X.prog = j.c.P
  w : X.w = j.c.w
  K : X.K = j.c.K
  mg : X.mg = j.c.mg
  base : X.base = j.c.base
  N : X.N = j.N
  sc : X.env.scope = j.sc
  calm : X.calm = true
  room : Room j.k X.A
  nd : j.N.Nodup
  fn : j.blk = false → ∀ x, j.sc.names.lookup x = some .cell → X.fn x = true
  lam : ∀ p, j.lam = some p → X.env.qual = p.1 ∧ X.env.code = p.2
  xe : X.xe = fun _ _ => False

inductive Slot where
  | no | dat (d : Dat) | own (xs : List Dat) | owd (ks : List NestedKey) (xs : List Dat) | dr
def Slot.isOwn : Slot → Bool
  | .own _ => true
  | .owd _ _ => true
  | _ => false
section
variable (c : Cfg) (E : Addr → Prop) (F H : Hp)
def SlotR (o : Option V) : Slot → Prop
  | .no => True
  | .dat d => ∃ v, o = some v ∧ Is c F d v
  | .own xs => ∃ p vs, o = some (.ref p) ∧ H p = some (.lst vs) ∧ (F p = none ∧ ¬ E p) ∧ IsL c F xs vs
  | .owd ks xs => ∃ p kv vs, o = some (.ref p) ∧ DicAt H c.w p (zip3 ks kv vs) ∧ (F p = none ∧ ¬ E p) ∧ (ks.length = vs.length ∧ ks.Nodup ∧ (∀ k ∈ ks, k.depth ≤ 8)) ∧ KeyAll c F ks kv ∧ IsL c F xs vs
  | .dr => ∃ p, o = some (.ref p) ∧ E p
structure EnvR (σ : L2.St) (G : List Slot) : Prop where
  good : Good c E F H
  len : σ.length = G.length
  at_ : ∀ (i : Nat) (s : Slot), G[i]? = some s → SlotR c E F H (σ[i]?).join s
  sep : ∀ (i j : Nat) (s t : Slot) (p : Addr), i ≠ j → G[i]? = some s → G[j]? = some t → s.isOwn = true → t.isOwn = true → σ[i]? = some (some (.ref p)) → σ[j]? = some (some (.ref p)) → False
end
/-- no dict's object is a code object -/
theorem dicO_code {w : World} {p : Addr} {ep : Nat} {xs : List (NestedKey × V × V)} (q : Str) : DicO w p ep xs ≠ LamX.CodeO p q := fun e => by
  unfold DicO LamX.CodeO at e
  have e2 := HO.ext.inj e
  let h0 : Heap := { objs := Array.replicate p default }
  let h1 : Heap := h0.push { cls := .none, data := .fields #[.none, .str q 0] }
  have g : h1.get? p = some { cls := .none, data := .fields #[.none, .str q 0] } := by
    have z : h0.objs.size = p := by simp [h0]
    have q := Heap.get?_push_size (h := h0) (o := { cls := .none, data := .fields #[.none, .str q 0] }) rfl
    rw [z] at q
    exact q
  have y : (∃ (oc : Obj) (vs : Array Value) (t : Tok), h1.get? p = some oc ∧ oc.data = .fields vs ∧ vs[1]? = some (.str q t)) := ⟨_, _, 0, g, rfl, rfl⟩
  rw [← congrFun e2 h1] at y
  obtain ⟨_, _, es, ⟨o, ho, _, hd⟩, _⟩ := y
  rw [g] at ho
  cases ho
  cases hd
section
variable {c : Cfg} {E : Addr → Prop} {F H F' H' : Hp} {σ : L2.St} {G : List Slot}
theorem Gr.fresh {E0 : Addr → Prop} (g : Gr c E0 F H F' H') {p : Addr} {o : HO} (h1 : F p = none) (h2 : H p = some o) : F' p = none := by
  cases q : F' p with
  | none => rfl
  | some u =>
    have z := g.new p h1 (by rw [q]; simp)
    rw [h2] at z; cases z
theorem Gr.stays (e : Good c E F H) (g : Gr c E F H F' H') {p : Addr} {o : HO} (h1 : H p = some o) (h2 : ∀ ps, o ≠ .tbl ps) (h3 : ¬ E p) : H' p = some o :=
  g.keep p o h1 (fun ht => by
    obtain ⟨ps, e2⟩ := e.tbl ht
    rw [h1] at e2
    exact h2 ps (Option.some.inj e2)) h3
theorem Gr.staysD (e : Good c E F H) (g : Gr c E F H F' H') {p : Addr} {xs : List (NestedKey × V × V)} (h1 : DicAt H c.w p xs) (h3 : ¬ E p) : DicAt H' c.w p xs := h1.imp fun _ h => g.stays e h (fun _ z => by unfold DicO at z; cases z) h3
theorem Gr.freshD (g : Gr c E F H F' H') {p : Addr} {xs : List (NestedKey × V × V)} (h1 : F p = none) (h2 : DicAt H c.w p xs) : F' p = none := let ⟨_, h⟩ := h2; g.fresh h1 h
theorem EnvR.gr (e : EnvR c E F H σ G) (g : Gr c E F H F' H') : EnvR c E F' H' σ G := by
  refine ⟨g.good, e.len, fun i s hs => ?_, e.sep⟩
  have h := e.at_ i s hs
  cases s with
  | no => trivial
  | dat d =>
    obtain ⟨v, h1, h2⟩ := h
    exact ⟨v, h1, Is.mono g.ext d v h2⟩
  | own xs =>
    obtain ⟨p, vs, h1, h2, ⟨h3, h5⟩, h4⟩ := h
    exact ⟨p, vs, h1, g.stays e.good h2 (fun _ z => by cases z) h5, ⟨g.fresh h3 h2, h5⟩, IsL.mono g.ext xs vs h4⟩
  | owd ks xs =>
    obtain ⟨p, kv, vs, h1, h2, ⟨h3, h7⟩, h4, h5, h6⟩ := h
    exact ⟨p, kv, vs, h1, g.staysD e.good h2 h7, ⟨g.freshD h3 h2, h7⟩, h4, KeyAll.mono g.ext ks kv h5, IsL.mono g.ext xs vs h6⟩
  | dr => exact h
theorem EnvR.dat (e : EnvR c E F H σ G) {i : Nat} {d : Dat} (h : G[i]? = some (.dat d)) : ∃ v, σ[i]? = some (some v) ∧ Is c F d v := by
  obtain ⟨v, h1, h2⟩ := e.at_ i _ h
  refine ⟨v, ?_, h2⟩
  cases q : σ[i]? with
  | none => rw [q] at h1; cases h1
  | some o => rw [q] at h1; cases o with
    | none => cases h1
    | some u => cases h1; rfl
theorem join_some {o : Option (Option V)} {v : V} (h : o.join = some v) : o = some (some v) := by
  cases o with
  | none => cases h
  | some o => cases o with
    | none => cases h
    | some u => cases h; rfl
theorem EnvR.own (e : EnvR c E F H σ G) {i : Nat} {xs : List Dat} (h : G[i]? = some (.own xs)) : ∃ p vs, σ[i]? = some (some (.ref p)) ∧ H p = some (.lst vs) ∧ (F p = none ∧ ¬ E p) ∧ IsL c F xs vs := by
  obtain ⟨p, vs, h1, h2⟩ := e.at_ i _ h
  exact ⟨p, vs, join_some h1, h2⟩
theorem EnvR.owd (e : EnvR c E F H σ G) {i : Nat} {ks : List NestedKey} {xs : List Dat} (h : G[i]? = some (.owd ks xs)) : ∃ p kv vs, σ[i]? = some (some (.ref p)) ∧ DicAt H c.w p (zip3 ks kv vs) ∧ (F p = none ∧ ¬ E p) ∧ (ks.length = vs.length ∧ ks.Nodup ∧ (∀ k ∈ ks, k.depth ≤ 8)) ∧ KeyAll c F ks kv ∧ IsL c F xs vs := by
  obtain ⟨p, kv, vs, h1, h2⟩ := e.at_ i _ h
  exact ⟨p, kv, vs, join_some h1, h2⟩
end

/-! ### the weakest readings -/
@[irreducible] def WE (X : Cx) (e : Expr) : TE := fun σ H q => ∀ pins s, Inv X pins σ H s → wpAny (model X.prog X.w) X.A (eval e X.env) (EP X pins σ q) X.xe s
@[irreducible] def WT (X : Cx) (e : Expr) : TT := fun σ H q => ∀ pins s, Inv X pins σ H s → wpAny (model X.prog X.w) X.A (isTrue e X.env (eval e X.env)) (TP X pins σ q) X.xe s
@[irreducible] def WW (X : Cx) (e : Expr) : TT := fun σ H q => ∀ whole pins s, Inv X pins σ H s → wpAny (model X.prog X.w) X.A (isTrue e X.env whole) (TP X pins σ q) X.xe s
@[irreducible] def WA (X : Cx) (es : List Expr) : TA := fun σ H q => ∀ pos pins s, Inv X pins σ H s → wpAny (model X.prog X.w) X.A (spliced (backTo pos (starEach es X.env))) (AP X pins σ q) X.xe s
@[irreducible] def WS (X : Cx) (st : Stmt) : TS := fun D σ H => ∀ pins s, Inv X pins σ H s → wpAny (model X.prog X.w) X.A (exec st X.env) (SP X pins D) X.xe s
@[irreducible] def WSs (X : Cx) (st : List Stmt) : TS := fun D σ H => ∀ pins s, Inv X pins σ H s → wpAny (model X.prog X.w) X.A (execs st X.env) (SP X pins D) X.xe s
@[irreducible] def WG (X : Cx) (tg : Expr) : TG := fun v σ H q => ∀ pins s u, Inv X pins σ H s → RelV v u → wpAny (model X.prog X.w) X.A (assign tg X.env u) (fun _ s' => ∃ σ' H', Inv X pins σ' H' s' ∧ q σ' H') X.xe s
@[irreducible] def WI (X : Cx) (tg iter : Expr) : TI := fun σ H R => ∀ pins s, Inv X pins σ H s → wpAny (model X.prog X.w) X.A (eval iter X.env) (fun v s1 => wpAny (model X.prog X.w) X.A (pyIter v) (PIE X pins σ tg R) X.xe s1) X.xe s
theorem we {X : Cx} {e : Expr} : PE X e (WE X e) := ⟨fun pins s σ H Q I h => by unfold WE at h; exact h pins s I⟩
theorem wt {X : Cx} {e : Expr} : PT X e (WT X e) := ⟨fun pins s σ H Q I h => by unfold WT at h; exact h pins s I⟩
theorem ww {X : Cx} {e : Expr} : PW X e (WW X e) := ⟨fun wh pins s σ H Q I h => by unfold WW at h; exact h wh pins s I⟩
theorem wa {X : Cx} {es : List Expr} : PA X es (WA X es) := ⟨fun pos pins s σ H Q I h => by unfold WA at h; exact h pos pins s I⟩
theorem ws {X : Cx} {st : Stmt} : PS X st (WS X st) := ⟨fun pins s σ H D I h => by unfold WS at h; exact h pins s I⟩
theorem wss {X : Cx} {st : List Stmt} : PSs X st (WSs X st) := ⟨fun pins s σ H D I h => by unfold WSs at h; exact h pins s I⟩
theorem wg {X : Cx} {tg : Expr} : PG X tg (WG X tg) := ⟨fun pins s σ H v u Q I r h => by unfold WG at h; exact h pins s u I r⟩
theorem wi {X : Cx} {tg iter : Expr} : PI X tg iter (WI X tg iter) := ⟨fun pins s σ H R I h => by unfold WI at h; exact h pins s I⟩
theorem we_of {X : Cx} {e : Expr} {t : TE} (h : PE X e t) {σ : L2.St} {H : Hp} {q : VK} (k : t σ H q) : WE X e σ H q := by unfold WE; exact fun pins s I => h.run pins s σ H q I k
theorem wt_of {X : Cx} {e : Expr} {t : TT} (h : PT X e t) {σ : L2.St} {H : Hp} {q : Bool → Hp → Prop} (k : t σ H q) : WT X e σ H q := by unfold WT; exact fun pins s I => h.run pins s σ H q I k
theorem ww_of {X : Cx} {e : Expr} {t : TT} (h : PW X e t) {σ : L2.St} {H : Hp} {q : Bool → Hp → Prop} (k : t σ H q) : WW X e σ H q := by unfold WW; exact fun wh pins s I => h.run wh pins s σ H q I k
theorem wa_of {X : Cx} {es : List Expr} {t : TA} (h : PA X es t) {σ : L2.St} {H : Hp} {q : List V → Hp → Prop} (k : t σ H q) : WA X es σ H q := by unfold WA; exact fun pos pins s I => h.run pos pins s σ H q I k
theorem ws_of {X : Cx} {st : Stmt} {t : TS} (h : PS X st t) {σ : L2.St} {H : Hp} {D : Ends} (k : t D σ H) : WS X st D σ H := by unfold WS; exact fun pins s I => h.run pins s σ H D I k
theorem wss_of {X : Cx} {st : List Stmt} {t : TS} (h : PSs X st t) {σ : L2.St} {H : Hp} {D : Ends} (k : t D σ H) : WSs X st D σ H := by unfold WSs; exact fun pins s I => h.run pins s σ H D I k
theorem wg_of {X : Cx} {tg : Expr} {t : TG} (h : PG X tg t) {v : V} {σ : L2.St} {H : Hp} {q : L2.St → Hp → Prop} (k : t v σ H q) : WG X tg v σ H q := by unfold WG; exact fun pins s u I r => h.run pins s σ H v u q I r k
theorem wi_of {X : Cx} {tg iter : Expr} {t : TI} (h : PI X tg iter t) {σ : L2.St} {H : Hp} {R : It → Hp → Prop} (k : t σ H R) : WI X tg iter σ H R := by unfold WI; exact fun pins s I => h.run pins s σ H R I k

theorem WE.go {X : Cx} {e : Expr} {σ : L2.St} {H : Hp} {q : VK} (h : WE X e σ H q) (pins : List (Addr × Obj)) (s : Shared) (I : Inv X pins σ H s) : wpAny (model X.prog X.w) X.A (eval e X.env) (EP X pins σ q) X.xe s := we.run pins s σ H q I h
theorem WI.go {X : Cx} {tg iter : Expr} {σ : L2.St} {H : Hp} {R : It → Hp → Prop} (h : WI X tg iter σ H R) (pins : List (Addr × Obj)) (s : Shared) (I : Inv X pins σ H s) : wpAny (model X.prog X.w) X.A (eval iter X.env) (fun v s1 => wpAny (model X.prog X.w) X.A (pyIter v) (PIE X pins σ tg R) X.xe s1) X.xe s := wi.run pins s σ H R I h
theorem WG.go {X : Cx} {tg : Expr} {v : V} {σ : L2.St} {H : Hp} {q : L2.St → Hp → Prop} (h : WG X tg v σ H q) (pins : List (Addr × Obj)) (s : Shared) (u : Value) (I : Inv X pins σ H s) (r : RelV v u) : wpAny (model X.prog X.w) X.A (assign tg X.env u) (fun _ s' => ∃ σ' H', Inv X pins σ' H' s' ∧ q σ' H') X.xe s := wg.run pins s σ H v u q I r h
/-! ### what is read: standing, or the very object as it is -/
def At0 (c : Cfg) (E : Addr → Prop) (F H : Hp) : Dat → V → Prop
  | .lst ds, v => ∃ p vs, v = .ref p ∧ (H p = some (.lst vs) ∧ ¬ E p) ∧ IsL c F ds vs
  | .dic ks ds, v => ∃ p kv vs, v = .ref p ∧ (DicAt H c.w p (zip3 ks kv vs) ∧ ¬ E p) ∧ (ks.length = vs.length ∧ ks.Nodup ∧ (∀ k ∈ ks, k.depth ≤ 8)) ∧ KeyAll c F ks kv ∧ IsL c F ds vs
  | d, v => Is c F d v
theorem Is.at0 {c : Cfg} {E : Addr → Prop} {F H : Hp} (g : Good c E F H) : ∀ {d : Dat} {v : V}, Is c F d v → At0 c E F H d v
  | .non, v, h => h
  | .bl b, v, h => h
  | .int i, v, h => h
  | .str x, v, h => h
  | .tup ds, v, h => h
  | .tuf ds, v, h => h
  | .lst ds, v, h => by
    unfold Is at h
    obtain ⟨p, vs, h1, h2, h3⟩ := h
    exact ⟨p, vs, h1, ⟨g.ext _ _ h2, g.noE h2⟩, h3⟩
  | .ins C ns ds, v, h => h
  | .slo C ds, v, h => h
  | .dic ks ds, v, h => by
    unfold Is at h
    obtain ⟨p, kv, vs, h1, h2, h3⟩ := h
    exact ⟨p, kv, vs, h1, ⟨g.ext.d h2, let ⟨_, h⟩ := h2; g.noE h⟩, h3⟩
theorem At0.gr {c : Cfg} {E : Addr → Prop} {F H F' H' : Hp} (e : Good c E F H) (g : Gr c E F H F' H') : ∀ {d : Dat} {v : V}, At0 c E F H d v → At0 c E F' H' d v
  | .non, v, h => h
  | .bl b, v, h => h
  | .int i, v, h => h
  | .str x, v, h => h
  | .tup ds, v, h => Is.mono g.ext (.tup ds) v h
  | .tuf ds, v, h => Is.mono g.ext (.tuf ds) v h
  | .lst ds, v, h => by
    obtain ⟨p, vs, h1, ⟨h2, h4⟩, h3⟩ := h
    exact ⟨p, vs, h1, ⟨g.stays e h2 (fun _ z => by cases z) h4, h4⟩, IsL.mono g.ext ds vs h3⟩
  | .ins C ns ds, v, h => Is.mono g.ext (.ins C ns ds) v h
  | .slo C ds, v, h => Is.mono g.ext (.slo C ds) v h
  | .dic ks ds, v, h => by
    obtain ⟨p, kv, vs, h1, ⟨h2, h7⟩, h4, h5, h6⟩ := h
    exact ⟨p, kv, vs, h1, ⟨g.staysD e h2 h7, h7⟩, h4, KeyAll.mono g.ext ks kv h5, IsL.mono g.ext ds vs h6⟩

/-! ### the judgements -/
section
variable (j : J) (G : List Slot)
/-- e gives the datum d, which stands from then on -/
def DE (e : Expr) (d : Dat) : Prop := ∀ X, At j X → ∀ σ F H (q : VK), EnvR j.c j.E F H σ G → (∀ v F' H', Is j.c F' d v → Gr j.c j.E F H F' H' → q v H') → WE X e σ H q
/-- e gives what reads as d now -/
def RE (e : Expr) (d : Dat) : Prop := ∀ X, At j X → ∀ σ F H (q : VK), EnvR j.c j.E F H σ G → (∀ v F' H', At0 j.c j.E F' H' d v → Gr j.c j.E F H F' H' → q v H') → WE X e σ H q
/-- e gives a new list of xs -/
def LE (e : Expr) (xs : List Dat) : Prop := ∀ X, At j X → ∀ σ F H (q : VK), EnvR j.c j.E F H σ G → (∀ p vs F' H', H p = none → (F' p = none ∧ ¬ j.E p) → H' p = some (.lst vs) → IsL j.c F' xs vs → Gr j.c j.E F H F' H' → q (.ref p) H') → WE X e σ H q
/-- a test -/
def DT (e : Expr) (b : Bool) : Prop := ∀ X, At j X → ∀ σ F H (q : Bool → Hp → Prop), EnvR j.c j.E F H σ G → (∀ F' H', Gr j.c j.E F H F' H' → q b H') → WT X e σ H q
def DW (e : Expr) (b : Bool) : Prop := ∀ X, At j X → ∀ σ F H (q : Bool → Hp → Prop), EnvR j.c j.E F H σ G → (∀ F' H', Gr j.c j.E F H F' H' → q b H') → WW X e σ H q
def DA (es : List Expr) (ds : List Dat) : Prop := ∀ X, At j X → ∀ σ F H (q : List V → Hp → Prop), EnvR j.c j.E F H σ G → (∀ vs F' H', IsL j.c F' ds vs → Gr j.c j.E F H F' H' → q vs H') → WA X es σ H q
end
section
variable {j : J} {G : List Slot} {e a b : Expr} {es : List Expr} {d x y : Dat} {ds xs : List Dat} {pos : Pos}
theorem DE.re (h : DE j G e d) : RE j G e d := fun X hX σ F H q hE hq => h X hX σ F H q hE fun v F' H' i g => hq v F' H' (i.at0 g.good) g
theorem LE.re (h : LE j G e xs) : RE j G e (.lst xs) := fun X hX σ F H q hE hq => h X hX σ F H q hE fun p vs F' H' h1 h2 h3 h4 g => hq _ F' H' ⟨p, vs, rfl, ⟨h3, h2.2⟩, h4⟩ g
/-- a new object that is frozen -/
theorem Gr.froze {c : Cfg} {E : Addr → Prop} {F H F' H' : Hp} (g : Gr c E F H F' H') {p : Addr} {o : HO} (h0 : H p = none) (h1 : F' p = none ∧ ¬ E p) (h2 : H' p = some o) (ho : ∀ ps, o ≠ .tbl ps) : Gr c E F H (upd F' p o) H' := by
  obtain ⟨h1, hE⟩ := h1
  refine ⟨⟨fun a u e => ?_, g.good.tab, fun q hq => ?_, fun b hb => ?_⟩, fun a u e => ?_, fun a x y => ?_, g.keep⟩
  · by_cases z : a = p
    · subst z; rw [upd_same] at e; rw [← e]; exact h2
    · rw [upd_ne z] at e; exact g.good.ext a u e
  · obtain ⟨ps, e, _⟩ := g.good.tab q hq
    rw [upd_ne (fun z => by rw [z, h2] at e; exact ho ps (Option.some.inj e))]
    exact g.good.out q hq
  · obtain ⟨x1, ns, x2⟩ := g.good.dr b hb
    exact ⟨by rw [upd_ne (fun z => by subst z; exact hE hb)]; exact x1, ns, x2⟩
  · rw [upd_ne (fun z => by subst z; rw [g.ext a u e] at h1; cases h1)]
    exact g.ext a u e
  · by_cases z : a = p
    · subst z; exact h0
    · rw [upd_ne z] at y; exact g.new a x y
theorem ext_upd {F : Hp} {p : Addr} {o : HO} (h : F p = none) : Ext F (upd F p o) := fun a u e => by
  rw [upd_ne (ne_of_none e h)]; exact e
theorem LE.de (h : LE j G e xs) : DE j G e (.lst xs) := fun X hX σ F H q hE hq => h X hX σ F H q hE fun p vs F' H' h1 h2 h3 h4 g =>
  hq _ (upd F' p (.lst vs)) H' (by unfold Is; exact ⟨p, vs, rfl, upd_same, IsL.mono (ext_upd h2.1) xs vs h4⟩) (g.froze h1 h2 h3 fun _ z => by cases z)
theorem DE.is (h : DE j G e x) (z : x = y) : DE j G e y := z ▸ h
theorem RE.is (h : RE j G e x) (z : x = y) : RE j G e y := z ▸ h
theorem LE.is {ys : List Dat} (h : LE j G e xs) (z : xs = ys) : LE j G e ys := z ▸ h
theorem DT.is {p q : Bool} (h : DT j G e p) (z : p = q) : DT j G e q := z ▸ h
theorem DA.is {ys : List Dat} (h : DA j G es xs) (z : xs = ys) : DA j G es ys := z ▸ h

/-! ### names and constants -/
theorem de_var (i : Nat) {x : Str} (hG : G[i]? = some (.dat d)) (hN : j.N[i]? = some x) (hv : Vis j.sc x) (h1 : (x == ("__debug__" : Str)) = false := by decide) (h2 : (x == ("__classdict__" : Str)) = false := by decide) : DE j G (.Name x pos) d := by
  intro X hX σ F H q hE hq
  obtain ⟨v, e1, e2⟩ := hE.dat hG
  exact we_of (pe_var (i := i) (by rw [hX.N]; exact hN) (by rw [hX.sc]; exact hv) h1 h2) ⟨v, e1, hq v F H e2 (Gr.refl hE.good)⟩
theorem re_own (i : Nat) {x : Str} (hG : G[i]? = some (.own xs)) (hN : j.N[i]? = some x) (hv : Vis j.sc x) (h1 : (x == ("__debug__" : Str)) = false := by decide) (h2 : (x == ("__classdict__" : Str)) = false := by decide) : RE j G (.Name x pos) (.lst xs) := by
  intro X hX σ F H q hE hq
  obtain ⟨p, vs, e1, e2, e3, e4⟩ := hE.own hG
  exact we_of (pe_var (i := i) (by rw [hX.N]; exact hN) (by rw [hX.sc]; exact hv) h1 h2) ⟨_, e1, hq _ F H ⟨p, vs, rfl, ⟨e2, e3.2⟩, e4⟩ (Gr.refl hE.good)⟩
theorem re_owd (i : Nat) {x : Str} {ks : List NestedKey} (hG : G[i]? = some (.owd ks xs)) (hN : j.N[i]? = some x) (hv : Vis j.sc x) (h1 : (x == ("__debug__" : Str)) = false := by decide) (h2 : (x == ("__classdict__" : Str)) = false := by decide) : RE j G (.Name x pos) (.dic ks xs) := by
  intro X hX σ F H q hE hq
  obtain ⟨p, kv, vs, e1, e2, e3, e4, e5, e6⟩ := hE.owd hG
  exact we_of (pe_var (i := i) (by rw [hX.N]; exact hN) (by rw [hX.sc]; exact hv) h1 h2) ⟨_, e1, hq _ F H ⟨p, kv, vs, rfl, ⟨e2, e3.2⟩, e4, e5, e6⟩ (Gr.refl hE.good)⟩
theorem de_int {i : Int} {k : Nat} : DE j G (.Constant (.int i) k pos) (.int i) := fun X hX σ F H q hE hq => we_of pe_int (hq _ F H (by unfold Is; rfl) (Gr.refl hE.good))
theorem de_bl {i : Bool} {k : Nat} : DE j G (.Constant (.bool i) k pos) (.bl i) := fun X hX σ F H q hE hq => we_of pe_bl (hq _ F H (by unfold Is; rfl) (Gr.refl hE.good))
theorem de_non {k : Nat} : DE j G (.Constant .none k pos) .non := fun X hX σ F H q hE hq => we_of pe_non (hq _ F H (by unfold Is; rfl) (Gr.refl hE.good))
theorem de_str {i : Str} {k : Nat} : DE j G (.Constant (.str i) k pos) (.str i) := fun X hX σ F H q hE hq => we_of pe_str (hq _ F H (by unfold Is; rfl) (Gr.refl hE.good))
/-- a constant of the module -/
theorem de_glob {x : Str} {u : Value} {v : V} (hm : j.c.mg x = some u) (hr : RelV v u) (hi : ∀ F, Is j.c F d v) (hg : j.sc.names.lookup x = some .globalImplicit) (h1 : (x == ("__debug__" : Str)) = false := by decide) : DE j G (.Name x pos) d := by
  intro X hX σ F H q hE hq
  exact we_of (pe_glob (v := v) (by show X.env.kindOf x = _; unfold Env.kindOf; rw [hX.sc]; exact hg) (by rw [hX.mg]; exact hm) hr h1) (hq _ F H (hi F) (Gr.refl hE.good))

/-! ### arguments, displays -/
theorem da_nil : DA j G [] [] := fun X hX σ F H q hE hq => wa_of pa_nil (hq [] F H IsL.nil (Gr.refl hE.good))
theorem da_cons (h : DE j G e d) (hr : DA j G es ds) (hs : ∀ env : Env, starEach (e :: es) env = (false, eval e env) :: starEach es env := by intro _; rfl) : DA j G (e :: es) (d :: ds) := by
  intro X hX σ F H q hE hq
  refine wa_of (pa_cons we wa (hs _)) ?_
  refine h X hX σ F H _ hE fun v F1 H1 i1 g1 => ?_
  refine hr X hX σ F1 H1 _ (hE.gr g1) fun vs F2 H2 i2 g2 => ?_
  exact hq _ F2 H2 (IsL.cons (Is.mono g2.ext d v i1) i2) (g1.trans g2)
end
end Cal
set_option Elab.async false
set_option linter.all false
set_option maxRecDepth 100000
set_option maxHeartbeats 4000000
namespace Cal
open PySem PySem.Spec PyProof.Rows L2

/-! ### plain data -/
mutual
def py : Dat → PyData
  | .non => .none
  | .bl b => .bool b
  | .int i => .int i
  | .str x => .str x
  | .tup xs => .tuple (pys xs)
  | .tuf xs => .tuple (pys xs)
  | .lst xs => .list (pys xs)
  | .ins _ _ _ => .none
  | .slo _ _ => .none
  | .dic _ _ => .none
def pys : List Dat → List PyData
  | [] => []
  | x :: xs => py x :: pys xs
end
mutual
/-- neither an instance nor a dict within -/
def pl : Dat → Bool
  | .non => true
  | .bl _ => true
  | .int _ => true
  | .str _ => true
  | .tup xs => pls xs
  | .tuf xs => pls xs
  | .lst xs => pls xs
  | .ins _ _ _ => false
  | .slo _ _ => false
  | .dic _ _ => false
def pls : List Dat → Bool
  | [] => true
  | x :: xs => pl x && pls xs
end
mutual
theorem py_plain : ∀ d : Dat, (py d).plain = true
  | .non => rfl
  | .bl _ => rfl
  | .int _ => rfl
  | .str _ => rfl
  | .tup xs => by unfold py PyData.plain; exact pys_plain xs
  | .lst xs => by unfold py PyData.plain; exact pys_plain xs
  | .tuf xs => by unfold py PyData.plain; exact pys_plain xs
  | .ins _ _ _ => rfl
  | .slo _ _ => rfl
  | .dic _ _ => rfl
theorem pys_plain : ∀ ds : List Dat, PyData.plainAll (pys ds) = true
  | [] => rfl
  | x :: xs => by
    unfold pys PyData.plainAll
    rw [py_plain x, pys_plain xs]; rfl
end
mutual
theorem Is.dp {c : Cfg} {F H : Hp} (e : Ext F H) : ∀ (d : Dat) (v : V), pl d = true → Is c F d v → Dp c.K H v (py d)
  | .non, v, _, h => by unfold Is at h; subst h; exact .non
  | .bl b, v, _, h => by unfold Is at h; subst h; exact .bl b
  | .int i, v, _, h => by unfold Is at h; subst h; exact .int i
  | .str x, v, _, h => by unfold Is at h; subst h; exact .str x
  | .tup ds, v, hp, h => by
    unfold Is at h
    obtain ⟨p, vs, h1, h2, h3⟩ := h
    subst h1
    unfold pl at hp
    exact .tup (e.t h2) (IsL.dp e ds vs hp h3)
  | .tuf ds, v, hp, h => by
    unfold Is at h
    obtain ⟨p, o, vs, h1, h2, h3⟩ := h
    subst h1
    unfold pl at hp
    exact .tup (e.t (.inl (.inr ⟨o, h2.1⟩))) (IsL.dp e ds vs hp h3)
  | .lst ds, v, hp, h => by
    unfold Is at h
    obtain ⟨p, vs, h1, h2, h3⟩ := h
    subst h1
    unfold pl at hp
    exact .lst (SqL.of (e _ _ h2)) (IsL.dp e ds vs hp h3)
  | .ins _ _ _, v, hp, _ => by cases hp
  | .slo _ _, v, hp, _ => by cases hp
  | .dic _ _, v, hp, _ => by cases hp
theorem IsL.dp {c : Cfg} {F H : Hp} (e : Ext F H) : ∀ (ds : List Dat) (vs : List V), pls ds = true → IsL c F ds vs → DpAll c.K H vs (pys ds)
  | [], vs, _, h => by rw [IsL.nil_iff.mp h]; exact .nil
  | d :: ds, vs, hp, h => by
    obtain ⟨v, r, rfl, h2, h3⟩ := IsL.cons_iff.mp h
    unfold pls at hp
    obtain ⟨p1, p2⟩ := Bool.and_eq_true_iff.mp hp
    exact .cons (Is.dp e d v p1 h2) (IsL.dp e ds r p2 h3)
end
theorem At0.dp {c : Cfg} {E : Addr → Prop} {F H : Hp} (g : Good c E F H) {d : Dat} {v : V} (hp : pl d = true) (h : At0 c E F H d v) : Dp c.K H v (py d) := by
  cases d with
  | lst ds =>
    obtain ⟨p, vs, h1, ⟨h2, _⟩, h3⟩ := h
    subst h1
    unfold pl at hp
    exact .lst (SqL.of h2) (IsL.dp g.ext ds vs hp h3)
  | dic _ _ => cases hp
  | ins _ _ _ => cases hp
  | slo _ _ => cases hp
  | tup ds => exact Is.dp g.ext (.tup ds) v hp h
  | tuf ds => exact Is.dp g.ext (.tuf ds) v hp h
  | non => exact Is.dp g.ext .non v hp h
  | bl b => exact Is.dp g.ext (.bl b) v hp h
  | int i => exact Is.dp g.ext (.int i) v hp h
  | str x => exact Is.dp g.ext (.str x) v hp h
/-- x == y -/
def deq (x y : Dat) : Bool := PyData.eqv (py x) (py y)
/-- y stands among xs -/
def din (y : Dat) (xs : List Dat) : Bool := xs.any fun x => deq x y
def dep (x : Dat) : Nat := (py x).depth
theorem pys_map : ∀ xs : List Dat, pys xs = xs.map py
  | [] => rfl
  | x :: xs => by unfold pys; rw [pys_map xs]; rfl
theorem pls_all : ∀ xs : List Dat, pls xs = xs.all pl
  | [] => rfl
  | x :: xs => by unfold pls; rw [pls_all xs]; rfl
/-- x < y -/
def dlt (x y : Dat) : Bool := PySem.W.dataLt (py x) (py y)
def dalike (x y : Dat) : Bool := PySem.W.alike (py x) (py y)

/-! ### comparisons -/
/-- x op y gives b -/
def CmpIs (j : J) (op : CmpOp) (x y : Dat) (b : Bool) : Prop := ∀ X, At j X → ∃ r : R2, OpR X (compareOp op) r ∧ ∀ F H v u (q : VK), Good j.c j.E F H → At0 j.c j.E F H x v → At0 j.c j.E F H y u → q (.bl b) H → r v u H q
section
variable {j : J} {G : List Slot} {x y : Dat} {a b : Expr} {op : CmpOp} {pos : Pos} {k : Bool}
theorem de_cmp (h : CmpIs j op x y k) (ha : RE j G a x) (hb : RE j G b y) (hm : behindInMarks op b = false := by first | exact nomark _ (by decide) (by decide) | rfl) : DE j G (.Compare a [op] [b] pos) (.bl k) := by
  intro X hX σ F H q hE hq
  obtain ⟨r, ho, hr⟩ := h X hX
  refine we_of (pe_cmpR ho we we hm) ?_
  refine ha X hX σ F H _ hE fun v F1 H1 i1 g1 => ?_
  refine hb X hX σ F1 H1 _ (hE.gr g1) fun u F2 H2 i2 g2 => ?_
  exact hr F2 H2 v u q g2.good (i1.gr g1.good g2) i2 (hq _ F2 H2 (by unfold Is; rfl) (g1.trans g2))
theorem dt_cmp (h : CmpIs j op x y k) (ha : RE j G a x) (hb : RE j G b y) (hm : behindInMarks op b = false := by first | exact nomark _ (by decide) (by decide) | rfl) : DT j G (.Compare a [op] [b] pos) k := by
  intro X hX σ F H q hE hq
  obtain ⟨r, ho, hr⟩ := h X hX
  refine wt_of (pt_cmpR ho we we hm) ?_
  refine ha X hX σ F H _ hE fun v F1 H1 i1 g1 => ?_
  refine hb X hX σ F1 H1 _ (hE.gr g1) fun u F2 H2 i2 g2 => ?_
  exact hr F2 H2 v u _ g2.good (i1.gr g1.good g2) i2 ⟨k, rfl, hq F2 H2 (g1.trans g2)⟩
theorem dt_chain {op' : CmpOp} {z : Dat} {k' : Bool} {e : Expr} (h : CmpIs j op x y k) (h' : CmpIs j op' y z k') (ha : RE j G a x) (hb : RE j G b y) (hc : RE j G e z) (hm : lastMarks [op, op'] [b, e] = false := by rfl) : DT j G (.Compare a [op, op'] [b, e] pos) (k && k') := by
  intro X hX σ F H q hE hq
  obtain ⟨r, ho, hr⟩ := h X hX
  obtain ⟨r', ho', hr'⟩ := h' X hX
  refine wt_of (pt_chain ho ho' we we we hm) ?_
  refine ha X hX σ F H _ hE fun v F1 H1 i1 g1 => ?_
  refine hb X hX σ F1 H1 _ (hE.gr g1) fun u F2 H2 i2 g2 => ?_
  refine hr F2 H2 v u _ g2.good (i1.gr g1.good g2) i2 ⟨k, rfl, ?_⟩
  cases k with
  | false => exact ⟨false, rfl, hq F2 H2 (g1.trans g2)⟩
  | true =>
    refine hc X hX σ F2 H2 _ ((hE.gr g1).gr g2) fun w F3 H3 i3 g3 => ?_
    exact hr' F3 H3 u w _ g3.good (i2.gr g2.good g3) i3 ⟨k', rfl, hq F3 H3 ((g1.trans g2).trans g3)⟩
theorem de_chain {op' : CmpOp} {z : Dat} {k' : Bool} {e : Expr} (h : CmpIs j op x y k) (h' : CmpIs j op' y z k') (ha : RE j G a x) (hb : RE j G b y) (hc : RE j G e z) (hm : lastMarks [op, op'] [b, e] = false := by rfl) : DE j G (.Compare a [op, op'] [b, e] pos) (.bl (k && k')) := by
  intro X hX σ F H q hE hq
  obtain ⟨r, ho, hr⟩ := h X hX
  obtain ⟨r', ho', hr'⟩ := h' X hX
  refine we_of (pe_chain ho ho' we we we hm) ?_
  refine ha X hX σ F H _ hE fun v F1 H1 i1 g1 => ?_
  refine hb X hX σ F1 H1 _ (hE.gr g1) fun u F2 H2 i2 g2 => ?_
  refine hr F2 H2 v u _ g2.good (i1.gr g1.good g2) i2 ⟨k, rfl, ?_⟩
  cases k with
  | false => exact hq _ F2 H2 (by unfold Is; rfl) (g1.trans g2)
  | true =>
    refine hc X hX σ F2 H2 _ ((hE.gr g1).gr g2) fun w F3 H3 i3 g3 => ?_
    exact hr' F3 H3 u w _ g3.good (i2.gr g2.good g3) i3 (hq _ F3 H3 (by unfold Is; rfl) ((g1.trans g2).trans g3))

/-! ints -/
theorem at0_int {c : Cfg} {E : Addr → Prop} {F H : Hp} {i : Int} {v : V} (h : At0 c E F H (.int i) v) : v = .int i := by
  have h : Is c F (.int i) v := h
  unfold Is at h; exact h
theorem at0_bl {c : Cfg} {E : Addr → Prop} {F H : Hp} {i : Bool} {v : V} (h : At0 c E F H (.bl i) v) : v = .bl i := by
  have h : Is c F (.bl i) v := h
  unfold Is at h; exact h
theorem at0_str {c : Cfg} {E : Addr → Prop} {F H : Hp} {i : Str} {v : V} (h : At0 c E F H (.str i) v) : v = .str i := by
  have h : Is c F (.str i) v := h
  unfold Is at h; exact h
theorem at0_non {c : Cfg} {E : Addr → Prop} {F H : Hp} {v : V} (h : At0 c E F H .non v) : v = .non := by
  have h : Is c F .non v := h
  unfold Is at h; exact h
theorem c_lt {m n : Int} : CmpIs j .Lt (.int m) (.int n) (decide (m < n)) := fun X hX => ⟨_, op_lt, fun F H v u q g h1 h2 hq => ⟨m, n, at0_int h1, at0_int h2, hq⟩⟩
theorem c_le {m n : Int} : CmpIs j .LtE (.int m) (.int n) (decide (m ≤ n)) := fun X hX => ⟨_, op_le, fun F H v u q g h1 h2 hq => ⟨m, n, at0_int h1, at0_int h2, hq⟩⟩
theorem c_gt {m n : Int} : CmpIs j .Gt (.int m) (.int n) (decide (n < m)) := fun X hX => ⟨_, op_gt, fun F H v u q g h1 h2 hq => ⟨m, n, at0_int h1, at0_int h2, hq⟩⟩
theorem c_ge {m n : Int} : CmpIs j .GtE (.int m) (.int n) (decide (n ≤ m)) := fun X hX => ⟨_, op_ge, fun F H v u q g h1 h2 hq => ⟨m, n, at0_int h1, at0_int h2, hq⟩⟩

/-! data at any depth -/
def rCmpD (K : PySem.W.Frag) (f : PyData → PyData → Bool) : R2 := fun v u H q => ∃ d e, Dp K H v d ∧ Dp K H u e ∧ d.plain = true ∧ e.plain = true ∧ min d.depth e.depth ≤ 60 ∧ q (.bl (f d e)) H
theorem op_eqp {X : Cx} {k : Nat} (hr : Room k X.A) : OpR X (compareOp .Eq) (rCmpD X.K PyData.eqv) := by
  intro pins s σ H v u ov ou q I r1 r2 h
  obtain ⟨d, e, h1, h2, p1, p2, hd, hq⟩ := h
  obtain ⟨as, e1⟩ := Dp.reads I d v ov h1 r1
  obtain ⟨bs, e2⟩ := Dp.reads I e u ou h2 r2
  exact SeqAt.eq_plain e1 e2 p1 p2 (by have := hr.units; omega) ⟨.bl _, H, I, rfl, hq⟩
theorem op_nep {X : Cx} {k : Nat} (hr : Room k X.A) : OpR X (compareOp .NotEq) (rCmpD X.K fun d e => !PyData.eqv d e) := by
  intro pins s σ H v u ov ou q I r1 r2 h
  obtain ⟨d, e, h1, h2, p1, p2, hd, hq⟩ := h
  obtain ⟨as, e1⟩ := Dp.reads I d v ov h1 r1
  obtain ⟨bs, e2⟩ := Dp.reads I e u ou h2 r2
  exact SeqAt.ne_plain e1 e2 p1 p2 (by have := hr.units; omega) ⟨.bl _, H, I, rfl, hq⟩
theorem c_eq (hx : pl x = true) (hy : pl y = true) (hd : min (dep x) (dep y) ≤ 60) : CmpIs j .Eq x y (deq x y) := fun X hX =>
  ⟨_, op_eqp hX.room, fun F H v u q g h1 h2 hq => ⟨py x, py y, by rw [hX.K]; exact h1.dp g hx, by rw [hX.K]; exact h2.dp g hy, py_plain x, py_plain y, hd, hq⟩⟩
theorem c_ne (hx : pl x = true) (hy : pl y = true) (hd : min (dep x) (dep y) ≤ 60) : CmpIs j .NotEq x y (!deq x y) := fun X hX =>
  ⟨_, op_nep hX.room, fun F H v u q g h1 h2 hq => ⟨py x, py y, by rw [hX.K]; exact h1.dp g hx, by rw [hX.K]; exact h2.dp g hy, py_plain x, py_plain y, hd, hq⟩⟩
/-- x in a tuple, a list -/
def rInP (K : PySem.W.Frag) (neg : Bool) : R2 := fun v u H q => ∃ d ds, Dp K H v d ∧ (Dp K H u (.list ds) ∨ Dp K H u (.tuple ds)) ∧ d.plain = true ∧ PyData.plainAll ds = true ∧ d.depth ≤ 60 ∧ q (.bl (if neg then !ds.any fun z => PyData.eqv z d else ds.any fun z => PyData.eqv z d)) H
theorem op_inp {X : Cx} {k : Nat} (hr : Room k X.A) : OpR X (compareOp .In) (rInP X.K false) := by
  intro pins s σ H v u ov ou q I r1 r2 h
  obtain ⟨d, ds, h1, h2, p1, p2, hd, hq⟩ := h
  obtain ⟨as, e1⟩ := Dp.reads I d v ov h1 r1
  have hu := hr.units
  rcases h2 with h2 | h2
  · obtain ⟨bs, e2⟩ := Dp.reads I _ u ou h2 r2
    exact SeqAt.in_list_data e2 e1 p2 p1 (by omega) ⟨.bl _, H, I, rfl, hq⟩
  · obtain ⟨bs, e2⟩ := Dp.reads I _ u ou h2 r2
    exact SeqAt.in_tuple_data e2 e1 p2 p1 (by omega) ⟨.bl _, H, I, rfl, hq⟩
theorem op_notinp {X : Cx} {k : Nat} (hr : Room k X.A) : OpR X (compareOp .NotIn) (rInP X.K true) := by
  intro pins s σ H v u ov ou q I r1 r2 h
  obtain ⟨d, ds, h1, h2, p1, p2, hd, hq⟩ := h
  obtain ⟨as, e1⟩ := Dp.reads I d v ov h1 r1
  have hu := hr.units
  rcases h2 with h2 | h2
  · obtain ⟨bs, e2⟩ := Dp.reads I _ u ou h2 r2
    exact SeqAt.notIn_list_data e2 e1 p2 p1 (by omega) ⟨.bl _, H, I, rfl, hq⟩
  · obtain ⟨bs, e2⟩ := Dp.reads I _ u ou h2 r2
    exact SeqAt.notIn_tuple_data e2 e1 p2 p1 (by omega) ⟨.bl _, H, I, rfl, hq⟩
theorem any_py (y : Dat) (xs : List Dat) : (pys xs).any (fun z => PyData.eqv z (py y)) = din y xs := by
  rw [pys_map, List.any_map]; rfl
theorem c_inT {xs : List Dat} (hx : pl x = true) (hy : xs.all pl = true) (hd : dep x ≤ 60) : CmpIs j .In x (.tup xs) (din x xs) := fun X hX =>
  ⟨_, op_inp hX.room, fun F H v u q g h1 h2 hq => ⟨py x, pys xs, by rw [hX.K]; exact h1.dp g hx, .inr (by rw [hX.K]; exact At0.dp g (d := .tup xs) (by unfold pl; rw [pls_all]; exact hy) h2), py_plain x, pys_plain xs, hd, by
    rw [if_neg Bool.false_ne_true, any_py]; exact hq⟩⟩
theorem c_inL {xs : List Dat} (hx : pl x = true) (hy : xs.all pl = true) (hd : dep x ≤ 60) : CmpIs j .In x (.lst xs) (din x xs) := fun X hX =>
  ⟨_, op_inp hX.room, fun F H v u q g h1 h2 hq => ⟨py x, pys xs, by rw [hX.K]; exact h1.dp g hx, .inl (by rw [hX.K]; exact At0.dp g (d := .lst xs) (by unfold pl; rw [pls_all]; exact hy) h2), py_plain x, pys_plain xs, hd, by
    rw [if_neg Bool.false_ne_true, any_py]; exact hq⟩⟩
theorem c_notinT {xs : List Dat} (hx : pl x = true) (hy : xs.all pl = true) (hd : dep x ≤ 60) : CmpIs j .NotIn x (.tup xs) (!din x xs) := fun X hX =>
  ⟨_, op_notinp hX.room, fun F H v u q g h1 h2 hq => ⟨py x, pys xs, by rw [hX.K]; exact h1.dp g hx, .inr (by rw [hX.K]; exact At0.dp g (d := .tup xs) (by unfold pl; rw [pls_all]; exact hy) h2), py_plain x, pys_plain xs, hd, by
    rw [if_pos rfl, any_py]; exact hq⟩⟩
theorem c_notinL {xs : List Dat} (hx : pl x = true) (hy : xs.all pl = true) (hd : dep x ≤ 60) : CmpIs j .NotIn x (.lst xs) (!din x xs) := fun X hX =>
  ⟨_, op_notinp hX.room, fun F H v u q g h1 h2 hq => ⟨py x, pys xs, by rw [hX.K]; exact h1.dp g hx, .inl (by rw [hX.K]; exact At0.dp g (d := .lst xs) (by unfold pl; rw [pls_all]; exact hy) h2), py_plain x, pys_plain xs, hd, by
    rw [if_pos rfl, any_py]; exact hq⟩⟩
/-- x < y, data of one shape -/
def rLtD (K : PySem.W.Frag) : R2 := fun v u H q => ∃ d e, Dp K H v d ∧ Dp K H u e ∧ PySem.W.alike d e = true ∧ d ≠ .none ∧ min d.depth e.depth ≤ 60 ∧ q (.bl (PySem.W.dataLt d e)) H
theorem op_ltd {X : Cx} {k : Nat} (hr : Room k X.A) : OpR X (compareOp .Lt) (rLtD X.K) := by
  intro pins s σ H v u ov ou q I r1 r2 h
  obtain ⟨d, e, h1, h2, p1, p2, hd, hq⟩ := h
  obtain ⟨as, e1⟩ := Dp.reads I d v ov h1 r1
  obtain ⟨bs, e2⟩ := Dp.reads I e u ou h2 r2
  exact PySem.W.lt_data e1 e2 p1 p2 (by have := hr.units; omega) ⟨.bl _, H, I, rfl, hq⟩
theorem c_ltd (hx : pl x = true) (hy : pl y = true) (ha : dalike x y = true) (hn : py x ≠ .none) (hd : min (dep x) (dep y) ≤ 60) : CmpIs j .Lt x y (dlt x y) := fun X hX =>
  ⟨_, op_ltd hX.room, fun F H v u q g h1 h2 hq => ⟨py x, py y, by rw [hX.K]; exact h1.dp g hx, by rw [hX.K]; exact h2.dp g hy, ha, hn, hd, hq⟩⟩

/-! is -/
def isNon : Dat → Bool
  | .non => true
  | _ => false
theorem at0_isNon {c : Cfg} {E : Addr → Prop} {F H : Hp} {d : Dat} {v : V} (h : At0 c E F H d v) : decide (v = .non) = isNon d := by
  cases d with
  | non => rw [at0_non h]; rfl
  | bl b => rw [at0_bl h]; rfl
  | int i => rw [at0_int h]; rfl
  | str x => rw [at0_str h]; rfl
  | tup xs =>
    have h : Is c F (.tup xs) v := h
    unfold Is at h; obtain ⟨p, vs, rfl, _⟩ := h; rfl
  | tuf xs =>
    have h : Is c F (.tuf xs) v := h
    unfold Is at h; obtain ⟨p, o, vs, rfl, _⟩ := h; rfl
  | lst xs => obtain ⟨p, vs, rfl, _⟩ := h; rfl
  | ins C ns xs =>
    have h : Is c F (.ins C ns xs) v := h
    unfold Is at h; obtain ⟨p, dx, vs, rfl, _⟩ := h; rfl
  | slo C xs =>
    have h : Is c F (.slo C xs) v := h
    unfold Is at h; obtain ⟨p, dx, vs, rfl, _⟩ := h; rfl
  | dic ks xs => obtain ⟨p, kv, vs, rfl, _⟩ := h; rfl
theorem c_isN : CmpIs j .Is x .non (isNon x) := fun X hX => ⟨_, op_isN, fun F H v u q g h1 h2 hq => ⟨at0_non h2, by rw [at0_isNon h1]; exact hq⟩⟩
theorem c_notN : CmpIs j .IsNot x .non (!isNon x) := fun X hX => ⟨_, op_notN, fun F H v u q g h1 h2 hq => ⟨at0_non h2, by rw [at0_isNon h1]; exact hq⟩⟩
/-- is True, is False -/
def isBl (k : Bool) : Dat → Bool
  | .bl b => b == k
  | _ => false
theorem plain_ref (a : Addr) (k : Bool) : plainIs (.ref a) (.bool k) = true := rfl
theorem beq_ref (a : Addr) (k : Bool) : (Value.ref a == Value.bool k) = false := rfl
theorem beq_none (k : Bool) : (Value.none == Value.bool k) = false := rfl
def rIsB (neg : Bool) : R2 := fun v u H q => ∃ k b, u = .bl k ∧ (v = .bl b ∨ (b = !k ∧ (v = .non ∨ ∃ p, v = .ref p))) ∧ q (.bl (if neg then !(b == k) else b == k)) H
theorem op_isB {X : Cx} : OpR X (compareOp .Is) (rIsB false) := by
  intro pins s σ H v u ov ou q I r1 r2 h
  obtain ⟨k, b, rfl, h, hq⟩ := h
  rw [if_neg Bool.false_ne_true] at hq
  obtain rfl : ou = Value.bool k := r2
  rcases h with rfl | ⟨rfl, rfl | ⟨p, rfl⟩⟩
  · obtain rfl : ov = Value.bool b := r1
    exact is_bool ⟨.bl _, H, I, rfl, hq⟩
  · obtain rfl : ov = Value.none := r1
    refine wpAny_is_plain rfl ⟨.bl _, H, I, ?_, hq⟩
    rw [beq_none]; cases k <;> rfl
  · obtain rfl : ov = Value.ref p := r1
    refine wpAny_is_plain rfl ⟨.bl _, H, I, ?_, hq⟩
    rw [beq_ref]; cases k <;> rfl
theorem op_isnotB {X : Cx} : OpR X (compareOp .IsNot) (rIsB true) := by
  intro pins s σ H v u ov ou q I r1 r2 h
  obtain ⟨k, b, rfl, h, hq⟩ := h
  rw [if_pos rfl] at hq
  obtain rfl : ou = Value.bool k := r2
  rcases h with rfl | ⟨rfl, rfl | ⟨p, rfl⟩⟩
  · obtain rfl : ov = Value.bool b := r1
    exact isnot_bool ⟨.bl _, H, I, by cases b <;> cases k <;> rfl, hq⟩
  · obtain rfl : ov = Value.none := r1
    refine wpAny_isNot_plain rfl ⟨.bl _, H, I, ?_, hq⟩
    rw [beq_none]; cases k <;> rfl
  · obtain rfl : ov = Value.ref p := r1
    refine wpAny_isNot_plain rfl ⟨.bl _, H, I, ?_, hq⟩
    rw [beq_ref]; cases k <;> rfl
def isObjD : Dat → Bool
  | .int _ => false
  | .str _ => false
  | _ => true
theorem isB_of {c : Cfg} {E : Addr → Prop} {F H : Hp} {d : Dat} {v : V} {k : Bool} (ho : isObjD d = true) (h : At0 c E F H d v) : ∃ b, (v = .bl b ∨ (b = !k ∧ (v = .non ∨ ∃ p, v = .ref p))) ∧ (b == k) = isBl k d := by
  cases d with
  | non => exact ⟨!k, .inr ⟨rfl, .inl (at0_non h)⟩, by cases k <;> rfl⟩
  | bl b => exact ⟨b, .inl (at0_bl h), rfl⟩
  | int i => cases ho
  | str x => cases ho
  | tup xs =>
    have h : Is c F (.tup xs) v := h
    unfold Is at h; obtain ⟨p, vs, rfl, _⟩ := h; exact ⟨!k, .inr ⟨rfl, .inr ⟨p, rfl⟩⟩, by cases k <;> rfl⟩
  | tuf xs =>
    have h : Is c F (.tuf xs) v := h
    unfold Is at h; obtain ⟨p, o, vs, rfl, _⟩ := h; exact ⟨!k, .inr ⟨rfl, .inr ⟨p, rfl⟩⟩, by cases k <;> rfl⟩
  | lst xs => obtain ⟨p, vs, rfl, _⟩ := h; exact ⟨!k, .inr ⟨rfl, .inr ⟨p, rfl⟩⟩, by cases k <;> rfl⟩
  | ins C ns xs =>
    have h : Is c F (.ins C ns xs) v := h
    unfold Is at h; obtain ⟨p, dx, vs, rfl, _⟩ := h; exact ⟨!k, .inr ⟨rfl, .inr ⟨p, rfl⟩⟩, by cases k <;> rfl⟩
  | slo C xs =>
    have h : Is c F (.slo C xs) v := h
    unfold Is at h; obtain ⟨p, dx, vs, rfl, _⟩ := h; exact ⟨!k, .inr ⟨rfl, .inr ⟨p, rfl⟩⟩, by cases k <;> rfl⟩
  | dic ks xs => obtain ⟨p, kv, vs, rfl, _⟩ := h; exact ⟨!k, .inr ⟨rfl, .inr ⟨p, rfl⟩⟩, by cases k <;> rfl⟩
theorem c_isB (ho : isObjD x = true) : CmpIs j .Is x (.bl k) (isBl k x) := fun X hX => ⟨_, op_isB, fun F H v u q g h1 h2 hq => by
  obtain ⟨b, h3, h4⟩ := isB_of (k := k) ho h1
  exact ⟨k, b, at0_bl h2, h3, by rw [if_neg Bool.false_ne_true, h4]; exact hq⟩⟩
theorem c_isnotB (ho : isObjD x = true) : CmpIs j .IsNot x (.bl k) (!isBl k x) := fun X hX => ⟨_, op_isnotB, fun F H v u q g h1 h2 hq => by
  obtain ⟨b, h3, h4⟩ := isB_of (k := k) ho h1
  exact ⟨k, b, at0_bl h2, h3, by rw [if_pos rfl, h4]; exact hq⟩⟩
end
end Cal
set_option Elab.async false
set_option linter.all false
set_option maxRecDepth 100000
set_option maxHeartbeats 4000000
namespace Cal
open PySem PySem.Spec PyProof.Rows L2
section
variable {j : J} {G : List Slot} {d d1 d2 x y z : Dat} {a b e : Expr} {es rest : List Expr} {xs ys ds : List Dat} {pos p : Pos} {k k' : Bool} {m n : Int}

/-! ### and, or, not, if -/
theorem is_bl {c : Cfg} {F : Hp} {b : Bool} {v : V} : Is c F (.bl b) v ↔ v = .bl b := by unfold Is; exact Iff.rfl
theorem is_int {c : Cfg} {F : Hp} {b : Int} {v : V} : Is c F (.int b) v ↔ v = .int b := by unfold Is; exact Iff.rfl
theorem is_str {c : Cfg} {F : Hp} {b : Str} {v : V} : Is c F (.str b) v ↔ v = .str b := by unfold Is; exact Iff.rfl
theorem is_tup {c : Cfg} {F : Hp} {v : V} : Is c F (.tup xs) v ↔ ∃ p vs, v = .ref p ∧ SqT c.K F p vs ∧ IsL c F xs vs := by unfold Is; exact Iff.rfl
theorem is_lst {c : Cfg} {F : Hp} {v : V} : Is c F (.lst xs) v ↔ ∃ p vs, v = .ref p ∧ F p = some (.lst vs) ∧ IsL c F xs vs := by unfold Is; exact Iff.rfl
theorem de_one {op : PySem.BoolOp} (ha : DE j G a d) : DE j G (.BoolOp op [a] pos) d := fun X hX σ F H q hE hq => we_of (pe_one we) (ha X hX σ F H q hE hq)
theorem de_and (ha : DE j G a (.bl k)) (hb : k = true → DE j G (.BoolOp .And (b :: rest) pos) (.bl k')) : DE j G (.BoolOp .And (a :: b :: rest) pos) (.bl (k && k')) := by
  intro X hX σ F H q hE hq
  refine we_of (pe_and we we) (ha X hX σ F H _ hE fun v F1 H1 i1 g1 => ⟨k, is_bl.mp i1, ?_⟩)
  cases k with
  | true => exact hb rfl X hX σ F1 H1 q (hE.gr g1) fun v F2 H2 i2 g2 => hq v F2 H2 i2 (g1.trans g2)
  | false => exact hq _ F1 H1 (is_bl.mpr rfl) g1
theorem de_or (ha : DE j G a (.bl k)) (hb : k = false → DE j G (.BoolOp .Or (b :: rest) pos) (.bl k')) : DE j G (.BoolOp .Or (a :: b :: rest) pos) (.bl (k || k')) := by
  intro X hX σ F H q hE hq
  refine we_of (pe_or we we) (ha X hX σ F H _ hE fun v F1 H1 i1 g1 => ⟨k, is_bl.mp i1, ?_⟩)
  cases k with
  | false => exact hb rfl X hX σ F1 H1 q (hE.gr g1) fun v F2 H2 i2 g2 => hq v F2 H2 i2 (g1.trans g2)
  | true => exact hq _ F1 H1 (is_bl.mpr rfl) g1
theorem de_not (ha : DE j G a (.bl k)) : DE j G (.UnaryOp .Not a pos) (.bl (!k)) := fun X hX σ F H q hE hq =>
  we_of (pe_not we) (ha X hX σ F H _ hE fun v F1 H1 i1 g1 => ⟨k, is_bl.mp i1, hq _ F1 H1 (is_bl.mpr rfl) g1⟩)
theorem dw_and1 (ha : DT j G a k) : DW j G (.BoolOp .And [a] pos) k := fun X hX σ F H q hE hq => ww_of (pw_and1 wt) (ha X hX σ F H q hE hq)
theorem dw_or1 (ha : DT j G a k) : DW j G (.BoolOp .Or [a] pos) k := fun X hX σ F H q hE hq => ww_of (pw_or1 wt) (ha X hX σ F H q hE hq)
theorem dw_and (ha : DT j G a k) (hb : k = true → DW j G (.BoolOp .And (b :: rest) pos) k') : DW j G (.BoolOp .And (a :: b :: rest) pos) (k && k') := by
  intro X hX σ F H q hE hq
  refine ww_of (pw_and wt ww) (ha X hX σ F H _ hE fun F1 H1 g1 => ?_)
  cases k with
  | true => exact hb rfl X hX σ F1 H1 q (hE.gr g1) fun F2 H2 g2 => hq F2 H2 (g1.trans g2)
  | false => exact hq F1 H1 g1
theorem dw_or (ha : DT j G a k) (hb : k = false → DW j G (.BoolOp .Or (b :: rest) pos) k') : DW j G (.BoolOp .Or (a :: b :: rest) pos) (k || k') := by
  intro X hX σ F H q hE hq
  refine ww_of (pw_or wt ww) (ha X hX σ F H _ hE fun F1 H1 g1 => ?_)
  cases k with
  | false => exact hb rfl X hX σ F1 H1 q (hE.gr g1) fun F2 H2 g2 => hq F2 H2 (g1.trans g2)
  | true => exact hq F1 H1 g1
theorem dt_w (h : DW j G e k) : DT j G e k := fun X hX σ F H q hE hq => wt_of ww.pt (h X hX σ F H q hE hq)
theorem dt_not (ha : DT j G a k) : DT j G (.UnaryOp .Not a pos) (!k) := fun X hX σ F H q hE hq => wt_of (pt_not wt) (ha X hX σ F H _ hE fun F1 H1 g1 => hq F1 H1 g1)
theorem dt_val (ha : DE j G e (.bl k)) (he : ∀ (env : Env) whole, isTrue e env whole = (do let v ← whole; standAt e.pos; holding [v] (truthy v)) := by intro _ _; rfl) : DT j G e k := fun X hX σ F H q hE hq =>
  wt_of (pt_val we (he _)) (ha X hX σ F H _ hE fun v F1 H1 i1 g1 => ⟨k, is_bl.mp i1, hq F1 H1 g1⟩)
theorem de_if {c : Expr} (hc : DT j G c k) (ha : k = true → DE j G a d1) (hb : k = false → DE j G b d2) : DE j G (.IfExp c a b pos) (cond k d1 d2) := by
  intro X hX σ F H q hE hq
  refine we_of (pe_ifExp wt we we) (hc X hX σ F H _ hE fun F1 H1 g1 => ?_)
  cases k with
  | true => exact ha rfl X hX σ F1 H1 q (hE.gr g1) fun v F2 H2 i2 g2 => hq v F2 H2 i2 (g1.trans g2)
  | false => exact hb rfl X hX σ F1 H1 q (hE.gr g1) fun v F2 H2 i2 g2 => hq v F2 H2 i2 (g1.trans g2)
theorem le_if {c : Expr} (hc : DT j G c k) (ha : k = true → LE j G a xs) (hb : k = false → LE j G b ys) : LE j G (.IfExp c a b pos) (cond k xs ys) := by
  intro X hX σ F H q hE hq
  refine we_of (pe_ifExp wt we we) (hc X hX σ F H _ hE fun F1 H1 g1 => ?_)
  have back : ∀ p, H1 p = none → H p = none := fun p h => by
    cases z : H p with
    | none => rfl
    | some o => exact absurd h (g1.there (by rw [z]; simp))
  cases k with
  | true => exact ha rfl X hX σ F1 H1 q (hE.gr g1) fun p vs F2 H2 a1 a2 a3 a4 g2 => hq p vs F2 H2 (back p a1) a2 a3 a4 (g1.trans g2)
  | false => exact hb rfl X hX σ F1 H1 q (hE.gr g1) fun p vs F2 H2 a1 a2 a3 a4 g2 => hq p vs F2 H2 (back p a1) a2 a3 a4 (g1.trans g2)

/-! ### arithmetic -/
theorem de_bin {op : Operator} {r : R2} (ho : ∀ X, OpR X (binaryOp op) r) (ha : DE j G a x) (hb : DE j G b y)
    (hr : ∀ F H v u (q : VK), Good j.c j.E F H → Is j.c F x v → Is j.c F y u → (∀ w F' H', Is j.c F' d w → Gr j.c j.E F H F' H' → q w H') → r v u H q) : DE j G (.BinOp a op b pos) d := by
  intro X hX σ F H q hE hq
  refine we_of (pe_op (ho X) we we) (ha X hX σ F H _ hE fun v F1 H1 i1 g1 => hb X hX σ F1 H1 _ (hE.gr g1) fun u F2 H2 i2 g2 => ?_)
  exact hr F2 H2 v u q g2.good (Is.mono g2.ext x v i1) i2 fun w F3 H3 i3 g3 => hq w F3 H3 i3 ((g1.trans g2).trans g3)
theorem de_add (ha : DE j G a (.int m)) (hb : DE j G b (.int n)) : DE j G (.BinOp a .Add b pos) (.int (m + n)) := de_bin (fun _ => op_add) ha hb fun F H v u q g h1 h2 hq => ⟨m, n, is_int.mp h1, is_int.mp h2, hq _ F H (is_int.mpr rfl) (Gr.refl g)⟩
theorem de_sub (ha : DE j G a (.int m)) (hb : DE j G b (.int n)) : DE j G (.BinOp a .Sub b pos) (.int (m - n)) := de_bin (fun _ => op_sub) ha hb fun F H v u q g h1 h2 hq => ⟨m, n, is_int.mp h1, is_int.mp h2, hq _ F H (is_int.mpr rfl) (Gr.refl g)⟩
theorem de_mul (ha : DE j G a (.int m)) (hb : DE j G b (.int n)) (hc : CMul m n) : DE j G (.BinOp a .Mult b pos) (.int (m * n)) := de_bin (fun _ => op_mul) ha hb fun F H v u q g h1 h2 hq => ⟨m, n, is_int.mp h1, is_int.mp h2, hc, hq _ F H (is_int.mpr rfl) (Gr.refl g)⟩
theorem de_mod (ha : DE j G a (.int m)) (hb : DE j G b (.int n)) (hc : 0 < n) : DE j G (.BinOp a .Mod b pos) (.int (m % n)) := de_bin (fun _ => op_mod) ha hb fun F H v u q g h1 h2 hq => ⟨m, n, is_int.mp h1, is_int.mp h2, hc, hq _ F H (is_int.mpr rfl) (Gr.refl g)⟩
theorem de_fdiv (ha : DE j G a (.int m)) (hb : DE j G b (.int n)) (hc : CDiv m n) : DE j G (.BinOp a .FloorDiv b pos) (.int (m / n)) := de_bin (fun _ => op_fdiv) ha hb fun F H v u q g h1 h2 hq => ⟨m, n, is_int.mp h1, is_int.mp h2, hc, hq _ F H (is_int.mpr rfl) (Gr.refl g)⟩
theorem de_pow (ha : DE j G a (.int m)) (hb : DE j G b (.int n)) (hc : CPow m n) : DE j G (.BinOp a .Pow b pos) (.int (m ^ n.toNat)) := de_bin (fun _ => op_pow) ha hb fun F H v u q g h1 h2 hq => ⟨m, n, is_int.mp h1, is_int.mp h2, hc, hq _ F H (is_int.mpr rfl) (Gr.refl g)⟩
theorem de_neg (ha : DE j G a (.int m)) : DE j G (.UnaryOp .USub a pos) (.int (-m)) := fun X hX σ F H q hE hq =>
  we_of (pe_un un_neg we) (ha X hX σ F H _ hE fun v F1 H1 i1 g1 => ⟨m, is_int.mp i1, hq _ F1 H1 (is_int.mpr rfl) g1⟩)

theorem Gr.back {c : Cfg} {E : Addr → Prop} {F H F' H' : Hp} (g : Gr c E F H F' H') {p : Addr} (h : H' p = none) : H p = none := by
  cases z : H p with
  | none => rfl
  | some o => exact absurd h (g.there (by rw [z]; simp))
theorem Good.back {c : Cfg} {E : Addr → Prop} {F H : Hp} (g : Good c E F H) {p : Addr} (h : H p = none) : F p = none ∧ ¬ E p := by
  constructor
  · cases q : F p with
    | none => rfl
    | some u => rw [g.ext p u q] at h; cases h
  · intro z
    obtain ⟨_, ns, e⟩ := g.dr p z
    rw [h] at e; cases e
/-! ### tuples and lists -/
theorem de_tup {nn : Nat} (h : DA j G es ds) (hl : ds.length ≤ 100000) : DE j G (.Tuple es nn pos) (.tup ds) := by
  intro X hX σ F H q hE hq
  refine we_of (pe_tup wa) (h X hX σ F H _ hE fun vs F1 H1 i1 g1 => ⟨by rw [← i1.len]; exact Nat.le_trans hl (by decide), fun p hp => ?_⟩)
  have g2 := Gr.laid (E := j.E) g1.good (o := .tup vs) hp
  exact hq _ _ _ (is_tup.mpr ⟨p, vs, rfl, SqT.of upd_same, IsL.mono g2.ext ds vs i1⟩) (g1.trans g2)
theorem le_lst (h : DA j G es ds) (hl : ds.length ≤ 100000) : LE j G (.List es pos) ds := by
  intro X hX σ F H q hE hq
  refine we_of (pe_lst wa) (h X hX σ F H _ hE fun vs F1 H1 i1 g1 => ⟨by rw [← i1.len]; exact Nat.le_trans hl (by decide), fun p hp => ?_⟩)
  exact hq p vs F1 _ (g1.back hp) (g1.good.back hp) upd_same i1 (g1.trans (Gr.made g1.good hp))
theorem star_tup (ha : DE j G a (.tup xs)) (hr : DA j G es ds) (hs : ∀ env : Env, starEach (.Starred a p :: es) env = (true, eval a env) :: starEach es env := by intro _; rfl) : DA j G (.Starred a p :: es) (xs ++ ds) := by
  intro X hX σ F H q hE hq
  refine wa_of (StX.pa_star we wa (hs _)) ?_
  refine ha X hX σ F H _ hE fun v F1 H1 i1 g1 => ?_
  obtain ⟨t, vs, rfl, h2, h3⟩ := is_tup.mp i1
  refine ⟨t, vs, rfl, .inl (by rw [hX.K]; exact g1.good.ext.t h2), ?_⟩
  refine hr X hX σ F1 H1 _ (hE.gr g1) fun us F2 H2 i2 g2 => ?_
  exact hq _ F2 H2 ((IsL.mono g2.ext xs vs h3).app i2) (g1.trans g2)
theorem star_lst (ha : RE j G a (.lst xs)) (hr : DA j G es ds) (hs : ∀ env : Env, starEach (.Starred a p :: es) env = (true, eval a env) :: starEach es env := by intro _; rfl) : DA j G (.Starred a p :: es) (xs ++ ds) := by
  intro X hX σ F H q hE hq
  refine wa_of (StX.pa_star we wa (hs _)) ?_
  refine ha X hX σ F H _ hE fun v F1 H1 i1 g1 => ?_
  obtain ⟨t, vs, rfl, ⟨h2, _⟩, h3⟩ := i1
  refine ⟨t, vs, rfl, .inr (SqL.of h2), ?_⟩
  refine hr X hX σ F1 H1 _ (hE.gr g1) fun us F2 H2 i2 g2 => ?_
  exact hq _ F2 H2 ((IsL.mono g2.ext xs vs h3).app i2) (g1.trans g2)
theorem IsL.atI {c : Cfg} {F : Hp} {vs : List V} {i : Int} (h : IsL c F xs vs) (e : atI xs i = some d) : ∃ v, L2.atI vs i = some v ∧ Is c F d v := by
  unfold L2.atI at e ⊢
  rw [← h.len]
  cases q : ixN xs.length i with
  | none => rw [q] at e; cases e
  | some k =>
    rw [q] at e
    exact h.at_ e
theorem de_ixT (ha : DE j G a (.tup xs)) (hb : DE j G b (.int m)) (e : atI xs m = some d) (hs : PlainIx b := by exact fun _ _ => rfl) : DE j G (.Subscript a b pos) d := by
  intro X hX σ F H q hE hq
  refine we_of (pe_ix ix_tup we we hs) (ha X hX σ F H _ hE fun v F1 H1 i1 g1 => hb X hX σ F1 H1 _ (hE.gr g1) fun u F2 H2 i2 g2 => ?_)
  obtain ⟨t, vs, rfl, h2, h3⟩ := is_tup.mp (Is.mono g2.ext _ _ i1)
  obtain ⟨w, e1, e2⟩ := h3.atI e
  exact ⟨t, vs, m, w, rfl, is_int.mp i2, by rw [hX.K]; exact g2.good.ext.t h2, e1, hq w F2 H2 e2 (g1.trans g2)⟩
theorem de_ixL (ha : RE j G a (.lst xs)) (hb : DE j G b (.int m)) (e : atI xs m = some d) (hs : PlainIx b := by exact fun _ _ => rfl) : DE j G (.Subscript a b pos) d := by
  intro X hX σ F H q hE hq
  refine we_of (pe_ix ix_list we we hs) (ha X hX σ F H _ hE fun v F1 H1 i1 g1 => hb X hX σ F1 H1 _ (hE.gr g1) fun u F2 H2 i2 g2 => ?_)
  obtain ⟨t, vs, rfl, ⟨h2, _⟩, h3⟩ := i1.gr g1.good g2
  obtain ⟨w, e1, e2⟩ := h3.atI e
  exact ⟨t, vs, m, w, rfl, is_int.mp i2, SqL.of h2, e1, hq w F2 H2 e2 (g1.trans g2)⟩
/-! slices -/
def DP (j : J) (G : List Slot) (e : Option Expr) (o : Option Int) : Prop := ∀ X, At j X → ∃ t : TO, PO X e t ∧ ∀ σ F H (q : Option Int → Hp → Prop), EnvR j.c j.E F H σ G → (∀ F' H', Gr j.c j.E F H F' H' → q o H') → t σ H q
theorem dp_none : DP j G none none := fun X hX => ⟨_, po_none, fun σ F H q hE hq => hq F H (Gr.refl hE.good)⟩
theorem dp_some (ha : DE j G a (.int m)) : DP j G (some a) (some m) := fun X hX => ⟨_, po_some we, fun σ F H q hE hq => ha X hX σ F H _ hE fun v F1 H1 i1 g1 => ⟨m, is_int.mp i1, hq F1 H1 g1⟩⟩
def cutD (xs : List Dat) (lo hi : Option Int) : List Dat := (xs.drop (HT.sIx xs.length 0 lo)).take (HT.sIx xs.length xs.length hi - HT.sIx xs.length 0 lo)
theorem IsL.cut {c : Cfg} {F : Hp} {vs : List V} (h : IsL c F xs vs) (lo hi : Option Int) : IsL c F (cutD xs lo hi) (cutV vs lo hi) := by
  unfold cutD cutV
  rw [← h.len]
  exact (h.drop _).take _
theorem de_slT {lo hi : Option Expr} {p2 : Pos} {l h : Option Int} (ha : DE j G a (.tup xs)) (hl : DP j G lo l) (hh : DP j G hi h) : DE j G (.Subscript a (.Slice lo hi none p2) pos) (.tup (cutD xs l h)) := by
  intro X hX σ F H q hE hq
  obtain ⟨tl, pl, kl⟩ := hl X hX
  obtain ⟨th, ph, kh⟩ := hh X hX
  refine we_of (pe_slice sl_tupA we pl ph) (ha X hX σ F H _ hE fun v F1 H1 i1 g1 => kl σ F1 H1 _ (hE.gr g1) fun F2 H2 g2 => kh σ F2 H2 _ ((hE.gr g1).gr g2) fun F3 H3 g3 => ?_)
  have g13 := g2.trans g3
  obtain ⟨t, vs, rfl, h2, h3⟩ := is_tup.mp (Is.mono g13.ext _ _ i1)
  refine ⟨t, vs, rfl, by rw [hX.K]; exact g3.good.ext.t h2, fun hw => ?_, fun _ r hr => ?_⟩
  · refine hq _ F3 H3 (is_tup.mpr ⟨t, vs, rfl, h2, ?_⟩) (g1.trans g13)
    have e : cutD xs l h = xs := by
      unfold cutD
      rw [h3.len, hw.1, hw.2, ← h3.len]
      simp
    rw [e]; exact h3
  · have g4 := Gr.laid (E := j.E) g3.good (o := .tup (cutV vs l h)) hr
    exact hq _ _ _ (is_tup.mpr ⟨r, _, rfl, SqT.of upd_same, IsL.mono g4.ext _ _ (h3.cut l h)⟩) ((g1.trans g13).trans g4)
theorem le_slL {lo hi : Option Expr} {p2 : Pos} {l h : Option Int} (ha : RE j G a (.lst xs)) (hl : DP j G lo l) (hh : DP j G hi h) : LE j G (.Subscript a (.Slice lo hi none p2) pos) (cutD xs l h) := by
  intro X hX σ F H q hE hq
  obtain ⟨tl, pl, kl⟩ := hl X hX
  obtain ⟨th, ph, kh⟩ := hh X hX
  refine we_of (pe_slice sl_list we pl ph) (ha X hX σ F H _ hE fun v F1 H1 i1 g1 => kl σ F1 H1 _ (hE.gr g1) fun F2 H2 g2 => kh σ F2 H2 _ ((hE.gr g1).gr g2) fun F3 H3 g3 => ?_)
  have g13 := g2.trans g3
  obtain ⟨t, vs, rfl, ⟨h2, _⟩, h3⟩ := i1.gr g1.good g13
  refine ⟨t, vs, rfl, SqL.of h2, fun r hr => ?_⟩
  exact hq r _ F3 _ ((g1.trans g13).back hr) (g3.good.back hr) upd_same (h3.cut l h) ((g1.trans g13).trans (Gr.made g3.good hr))
/-! + -/
theorem le_cat (ha : RE j G a (.lst xs)) (hb : RE j G b (.lst ys)) (hl : xs.length + ys.length ≤ 100000) : LE j G (.BinOp a .Add b pos) (xs ++ ys) := by
  intro X hX σ F H q hE hq
  refine we_of (pe_op op_cat we we) (ha X hX σ F H _ hE fun v F1 H1 i1 g1 => hb X hX σ F1 H1 _ (hE.gr g1) fun u F2 H2 i2 g2 => ?_)
  obtain ⟨t, vs, rfl, ⟨h2, _⟩, h3⟩ := i1.gr g1.good g2
  obtain ⟨r, us, rfl, ⟨h4, _⟩, h5⟩ := i2
  refine ⟨t, r, vs, us, rfl, rfl, h2, h4, by rw [← h3.len, ← h5.len]; exact Nat.le_trans hl (by decide), fun w hw => ?_⟩
  exact hq w _ F2 _ ((g1.trans g2).back hw) (g2.good.back hw) upd_same (h3.app h5) ((g1.trans g2).trans (Gr.made g2.good hw))
theorem de_catT (ha : DE j G a (.tup xs)) (hb : DE j G b (.tup ys)) (hl : xs.length + ys.length ≤ 100000) : DE j G (.BinOp a .Add b pos) (.tup (xs ++ ys)) := by
  intro X hX σ F H q hE hq
  refine we_of (pe_op op_catA we we) (ha X hX σ F H _ hE fun v F1 H1 i1 g1 => hb X hX σ F1 H1 _ (hE.gr g1) fun u F2 H2 i2 g2 => ?_)
  obtain ⟨t, vs, rfl, h2, h3⟩ := is_tup.mp (Is.mono g2.ext _ _ i1)
  obtain ⟨r, us, rfl, h4, h5⟩ := is_tup.mp i2
  have k2 := h3.len
  have k3 := h5.len
  refine ⟨t, r, vs, us, rfl, rfl, by rw [hX.K]; exact g2.good.ext.t h2, by rw [hX.K]; exact g2.good.ext.t h4, by rw [← k2, ← k3]; exact Nat.le_trans hl (by decide), fun e => ?_, fun e e2 => ?_, fun e e2 w hw => ?_⟩
  · have e3 : xs = [] := List.eq_nil_of_length_eq_zero (by rw [k2, e]; rfl)
    subst e3
    exact hq _ F2 H2 (is_tup.mpr ⟨r, us, rfl, h4, h5⟩) (g1.trans g2)
  · have e3 : ys = [] := List.eq_nil_of_length_eq_zero (by rw [k3, e2]; rfl)
    subst e3
    exact hq _ F2 H2 (by rw [List.append_nil]; exact is_tup.mpr ⟨t, vs, rfl, h2, h3⟩) (g1.trans g2)
  · have g4 := Gr.laid (E := j.E) g2.good (o := .tup (vs ++ us)) hw
    exact hq _ _ _ (is_tup.mpr ⟨w, _, rfl, SqT.of upd_same, IsL.mono g4.ext _ _ (h3.app h5)⟩) ((g1.trans g2).trans g4)
end
end Cal
set_option Elab.async false
set_option linter.all false
set_option maxRecDepth 100000
set_option maxHeartbeats 4000000
namespace Cal
open PySem PySem.Spec PyProof.Rows L2
section
variable {j : J} {G : List Slot} {d d1 d2 x y z : Dat} {a b e o : Expr} {es rest : List Expr} {xs ys ds : List Dat} {pos p apos : Pos} {k k' : Bool} {m n : Int} {f : Str} {id T : String}
/-- a module's name, a built-in's name -/
abbrev GlN (j : J) (f : Str) : Prop := j.sc.names.lookup f = some .globalImplicit
theorem At.gl {X : Cx} (hX : At j X) (h : GlN j f) : Gl X f := by
  show X.env.kindOf f = _
  unfold Env.kindOf
  rw [hX.sc]; exact h

/-! ### built-ins of one argument -/
theorem de_b1 {r : Cx → List V → Hp → VK → Prop} (hc : ∀ X, At j X → CallR X (.builtin id) (r X)) (hm : j.c.mg f = none) (hv : bootBuiltins f = some (.builtin id)) (hg : GlN j f) (ha : RE j G a x)
    (hr : ∀ X, At j X → ∀ F H v (q : VK), Good j.c j.E F H → At0 j.c j.E F H x v → (∀ u F' H', Is j.c F' d u → Gr j.c j.E F H F' H' → q u H') → r X [v] H q)
    (hs : ∀ env : Env, starEach [a] env = (false, eval a env) :: starEach [] env) (hn : f ≠ "__name__") (hdb : (f == ("__debug__" : Str)) = false) : DE j G (.Call (.Name f p) [a] [] pos) d := by
  intro X hX σ F H q hE hq
  refine we_of (pe_callB (hc X hX) (hX.gl hg) (by rw [hX.mg]; exact hm) hv (pa_cons we pa_nil (hs _)) hn hdb (hs _)) (ha X hX σ F H _ hE fun v F1 H1 i1 g1 => ?_)
  exact hr X hX F1 H1 v q g1.good i1 fun u F2 H2 i2 g2 => hq u F2 H2 i2 (g1.trans g2)
theorem de_t1 {r : Cx → List V → Hp → VK → Prop} (hc : ∀ X, At j X → CallR X (.type T) (r X)) (hm : j.c.mg f = none) (hv : bootBuiltins f = some (.type T)) (hg : GlN j f) (ha : RE j G a x)
    (hr : ∀ X, At j X → ∀ F H v (q : VK), Good j.c j.E F H → At0 j.c j.E F H x v → (∀ u F' H', Is j.c F' d u → Gr j.c j.E F H F' H' → q u H') → r X [v] H q)
    (hs : ∀ env : Env, starEach [a] env = (false, eval a env) :: starEach [] env) (hn : f ≠ "__name__") (hdb : (f == ("__debug__" : Str)) = false) : DE j G (.Call (.Name f p) [a] [] pos) d := by
  intro X hX σ F H q hE hq
  refine we_of (pe_callTy (hc X hX) (hX.gl hg) (by rw [hX.mg]; exact hm) hv (pa_cons we pa_nil (hs _)) hn hdb (hs _)) (ha X hX σ F H _ hE fun v F1 H1 i1 g1 => ?_)
  exact hr X hX F1 H1 v q g1.good i1 fun u F2 H2 i2 g2 => hq u F2 H2 i2 (g1.trans g2)
theorem le_t1 {r : Cx → List V → Hp → VK → Prop} (hc : ∀ X, At j X → CallR X (.type T) (r X)) (hm : j.c.mg f = none) (hv : bootBuiltins f = some (.type T)) (hg : GlN j f) (ha : RE j G a x)
    (hr : ∀ X, At j X → ∀ F H v (q : VK), Good j.c j.E F H → At0 j.c j.E F H x v → (∀ p vs F' H', H p = none → (F' p = none ∧ ¬ j.E p) → H' p = some (.lst vs) → IsL j.c F' xs vs → Gr j.c j.E F H F' H' → q (.ref p) H') → r X [v] H q)
    (hs : ∀ env : Env, starEach [a] env = (false, eval a env) :: starEach [] env) (hn : f ≠ "__name__") (hdb : (f == ("__debug__" : Str)) = false) : LE j G (.Call (.Name f p) [a] [] pos) xs := by
  intro X hX σ F H q hE hq
  refine we_of (pe_callTy (hc X hX) (hX.gl hg) (by rw [hX.mg]; exact hm) hv (pa_cons we pa_nil (hs _)) hn hdb (hs _)) (ha X hX σ F H _ hE fun v F1 H1 i1 g1 => ?_)
  exact hr X hX F1 H1 v q g1.good i1 fun p vs F2 H2 c1 c2 c3 c4 g2 => hq p vs F2 H2 (g1.back c1) c2 c3 c4 (g1.trans g2)
theorem le_b1 {r : Cx → List V → Hp → VK → Prop} (hc : ∀ X, At j X → CallR X (.builtin id) (r X)) (hm : j.c.mg f = none) (hv : bootBuiltins f = some (.builtin id)) (hg : GlN j f) (ha : RE j G a x)
    (hr : ∀ X, At j X → ∀ F H v (q : VK), Good j.c j.E F H → At0 j.c j.E F H x v → (∀ p vs F' H', H p = none → (F' p = none ∧ ¬ j.E p) → H' p = some (.lst vs) → IsL j.c F' xs vs → Gr j.c j.E F H F' H' → q (.ref p) H') → r X [v] H q)
    (hs : ∀ env : Env, starEach [a] env = (false, eval a env) :: starEach [] env) (hn : f ≠ "__name__") (hdb : (f == ("__debug__" : Str)) = false) : LE j G (.Call (.Name f p) [a] [] pos) xs := by
  intro X hX σ F H q hE hq
  refine we_of (pe_callB (hc X hX) (hX.gl hg) (by rw [hX.mg]; exact hm) hv (pa_cons we pa_nil (hs _)) hn hdb (hs _)) (ha X hX σ F H _ hE fun v F1 H1 i1 g1 => ?_)
  exact hr X hX F1 H1 v q g1.good i1 fun p vs F2 H2 c1 c2 c3 c4 g2 => hq p vs F2 H2 (g1.back c1) c2 c3 c4 (g1.trans g2)
theorem at0_tup {c : Cfg} {E : Addr → Prop} {F H : Hp} {v : V} (h : At0 c E F H (.tup xs) v) : ∃ p vs, v = .ref p ∧ SqT c.K F p vs ∧ IsL c F xs vs := is_tup.mp h
theorem at0_lst {c : Cfg} {E : Addr → Prop} {F H : Hp} {v : V} (h : At0 c E F H (.lst xs) v) : ∃ p vs, v = .ref p ∧ (H p = some (.lst vs) ∧ ¬ E p) ∧ IsL c F xs vs := h
abbrev Stars (a : Expr) : Prop := ∀ env : Env, starEach [a] env = (false, eval a env) :: starEach [] env
theorem de_lenT (hm : j.c.mg "len" = none) (ha : RE j G a (.tup xs)) (hg : GlN j "len" := by rfl) (hs : Stars a := by intro _; rfl) : DE j G (.Call (.Name "len" p) [a] [] pos) (.int xs.length) :=
  de_b1 (fun X hX => call_len_seq) hm boot_len hg ha (fun X hX F H v q g i hq => by
    obtain ⟨t, vs, rfl, h2, h3⟩ := at0_tup i
    exact ⟨t, vs, rfl, .inr (by rw [hX.K]; exact g.ext.t h2), hq _ F H (is_int.mpr (by rw [h3.len])) (Gr.refl g)⟩) hs (by decide) (by decide)
theorem de_lenL (hm : j.c.mg "len" = none) (ha : RE j G a (.lst xs)) (hg : GlN j "len" := by rfl) (hs : Stars a := by intro _; rfl) : DE j G (.Call (.Name "len" p) [a] [] pos) (.int xs.length) :=
  de_b1 (fun X hX => call_len_seq) hm boot_len hg ha (fun X hX F H v q g i hq => by
    obtain ⟨t, vs, rfl, ⟨h2, _⟩, h3⟩ := at0_lst i
    exact ⟨t, vs, rfl, .inl (SqL.of h2), hq _ F H (is_int.mpr (by rw [h3.len])) (Gr.refl g)⟩) hs (by decide) (by decide)
theorem isL_bl {c : Cfg} {F : Hp} : ∀ {bs : List Bool} {vs : List V}, IsL c F (bs.map Dat.bl) vs → vs = bs.map V.bl
  | [], vs, h => IsL.nil_iff.mp h
  | b :: bs, vs, h => by
    obtain ⟨v, r, rfl, h2, h3⟩ := IsL.cons_iff.mp h
    rw [is_bl.mp h2, isL_bl h3]; rfl
theorem isL_int {c : Cfg} {F : Hp} : ∀ {bs : List Int} {vs : List V}, IsL c F (bs.map Dat.int) vs → vs = bs.map V.int
  | [], vs, h => IsL.nil_iff.mp h
  | b :: bs, vs, h => by
    obtain ⟨v, r, rfl, h2, h3⟩ := IsL.cons_iff.mp h
    rw [is_int.mp h2, isL_int h3]; rfl
theorem de_all {bs : List Bool} (hm : j.c.mg "all" = none) (ha : RE j G a (.lst (bs.map Dat.bl))) (hg : GlN j "all" := by rfl) (hs : Stars a := by intro _; rfl) : DE j G (.Call (.Name "all" p) [a] [] pos) (.bl (bs.all (fun x => x))) :=
  de_b1 (fun X hX => cr_all hX.calm) hm (by decide +kernel) hg ha (fun X hX F H v q g i hq => by
    obtain ⟨t, vs, rfl, ⟨h2, _⟩, h3⟩ := at0_lst i
    rw [isL_bl h3] at h2
    exact ⟨t, bs, rfl, SqL.of h2, hq _ F H (is_bl.mpr rfl) (Gr.refl g)⟩) hs (by decide) (by decide)
theorem de_any {bs : List Bool} (hm : j.c.mg "any" = none) (ha : RE j G a (.lst (bs.map Dat.bl))) (hg : GlN j "any" := by rfl) (hs : Stars a := by intro _; rfl) : DE j G (.Call (.Name "any" p) [a] [] pos) (.bl (bs.any (fun x => x))) :=
  de_b1 (fun X hX => cr_any hX.calm) hm (by decide +kernel) hg ha (fun X hX F H v q g i hq => by
    obtain ⟨t, vs, rfl, ⟨h2, _⟩, h3⟩ := at0_lst i
    rw [isL_bl h3] at h2
    exact ⟨t, bs, rfl, SqL.of h2, hq _ F H (is_bl.mpr rfl) (Gr.refl g)⟩) hs (by decide) (by decide)
theorem de_sum {bs : List Int} (hm : j.c.mg "sum" = none) (ha : RE j G a (.lst (bs.map Dat.int))) (hg : GlN j "sum" := by rfl) (hs : Stars a := by intro _; rfl) : DE j G (.Call (.Name "sum" p) [a] [] pos) (.int bs.sum) :=
  de_b1 (fun X hX => cr_sum hX.calm) hm (by decide +kernel) hg ha (fun X hX F H v q g i hq => by
    obtain ⟨t, vs, rfl, ⟨h2, _⟩, h3⟩ := at0_lst i
    rw [isL_int h3] at h2
    exact ⟨t, bs, rfl, SqL.of h2, hq _ F H (is_int.mpr rfl) (Gr.refl g)⟩) hs (by decide) (by decide)
theorem de_abs (hm : j.c.mg "abs" = none) (ha : RE j G a (.int m)) (hg : GlN j "abs" := by rfl) (hs : Stars a := by intro _; rfl) : DE j G (.Call (.Name "abs" p) [a] [] pos) (.int (if m < 0 then -m else m)) :=
  de_b1 (fun X hX => call_abs) hm (by decide +kernel) hg ha (fun X hX F H v q g i hq => ⟨m, by rw [at0_int i], hq _ F H (is_int.mpr rfl) (Gr.refl g)⟩) hs (by decide) (by decide)
theorem de_intI (hm : j.c.mg "int" = none) (ha : RE j G a (.int m)) (hg : GlN j "int" := by rfl) (hs : Stars a := by intro _; rfl) : DE j G (.Call (.Name "int" p) [a] [] pos) (.int m) :=
  de_t1 (fun X hX => call_int1) hm (by decide +kernel) hg ha (fun X hX F H v q g i hq => .inl ⟨m, by rw [at0_int i], hq _ F H (is_int.mpr rfl) (Gr.refl g)⟩) hs (by decide) (by decide)
theorem de_intB (hm : j.c.mg "int" = none) (ha : RE j G a (.bl k)) (hg : GlN j "int" := by rfl) (hs : Stars a := by intro _; rfl) : DE j G (.Call (.Name "int" p) [a] [] pos) (.int (if k then 1 else 0)) :=
  de_t1 (fun X hX => call_int1) hm (by decide +kernel) hg ha (fun X hX F H v q g i hq => .inr ⟨k, by rw [at0_bl i], hq _ F H (is_int.mpr rfl) (Gr.refl g)⟩) hs (by decide) (by decide)
theorem de_tupL (hm : j.c.mg "tuple" = none) (ha : RE j G a (.lst xs)) (hg : GlN j "tuple" := by rfl) (hs : Stars a := by intro _; rfl) : DE j G (.Call (.Name "tuple" p) [a] [] pos) (.tup xs) :=
  de_t1 (fun X hX => call_tuple_of) hm boot_tuple hg ha (fun X hX F H v q g i hq => by
    obtain ⟨t, vs, rfl, ⟨h2, _⟩, h3⟩ := at0_lst i
    refine ⟨t, vs, rfl, .inl ⟨SqL.of h2, fun l hl => ?_⟩⟩
    have g4 := Gr.laid (E := j.E) g (o := .tup vs) hl
    exact hq _ _ _ (is_tup.mpr ⟨l, _, rfl, SqT.of upd_same, IsL.mono g4.ext _ _ h3⟩) g4) hs (by decide) (by decide)
theorem le_listT (hm : j.c.mg "list" = none) (ha : RE j G a (.tup xs)) (hg : GlN j "list" := by rfl) (hs : Stars a := by intro _; rfl) : LE j G (.Call (.Name "list" p) [a] [] pos) xs :=
  le_t1 (fun X hX => call_list_of) hm boot_list hg ha (fun X hX F H v q g i hq => by
    obtain ⟨t, vs, rfl, h2, h3⟩ := at0_tup i
    exact ⟨t, vs, rfl, .inr (by rw [hX.K]; exact g.ext.t h2), fun l hl => hq l vs F _ hl (g.back hl) upd_same h3 (Gr.made g hl)⟩) hs (by decide) (by decide)
theorem le_listL (hm : j.c.mg "list" = none) (ha : RE j G a (.lst xs)) (hg : GlN j "list" := by rfl) (hs : Stars a := by intro _; rfl) : LE j G (.Call (.Name "list" p) [a] [] pos) xs :=
  le_t1 (fun X hX => call_list_of) hm boot_list hg ha (fun X hX F H v q g i hq => by
    obtain ⟨t, vs, rfl, ⟨h2, _⟩, h3⟩ := at0_lst i
    exact ⟨t, vs, rfl, .inl (SqL.of h2), fun l hl => hq l vs F _ hl (g.back hl) upd_same h3 (Gr.made g hl)⟩) hs (by decide) (by decide)
def rgD (m n : Int) : List Dat := (List.range (n - m).toNat).map fun i => Dat.int (m + (i : Nat))
theorem isL_rg {c : Cfg} {F : Hp} (m n : Int) : IsL c F (rgD m n) (rgV m n) := by
  have e1 : rgD m n = ((List.range (n - m).toNat).map fun i => m + ((i : Nat) : Int)).map Dat.int := by unfold rgD; rw [List.map_map]; rfl
  have e2 : rgV m n = ((List.range (n - m).toNat).map fun i => m + ((i : Nat) : Int)).map V.int := by unfold rgV; rw [List.map_map]; rfl
  rw [e1, e2]
  exact IsL.ints _
theorem le_listRg1 {p1 pp : Pos} (hm : j.c.mg "list" = none) (hm2 : j.c.mg "range" = none) (ha : DE j G a (.int n)) (hb : 0 ≤ n ∧ n ≤ 10000) (hg : GlN j "list" := by rfl) (hg2 : GlN j "range" := by rfl) (hs : Stars a := by intro _; rfl) :
    LE j G (.Call (.Name "list" p) [.Call (.Name "range" p1) [a] [] pp] [] pos) (rgD 0 n) := by
  intro X hX σ F H q hE hq
  refine we_of (pe_listRg hX.calm (hX.gl hg) (by rw [hX.mg]; exact hm) (prg_1 (hX.gl hg2) (by rw [hX.mg]; exact hm2) we (hs _)) (by rfl)) (ha X hX σ F H _ hE fun v F1 H1 i1 g1 => ⟨n, is_int.mp i1, RgOk.of_le (by omega) (by omega) (by omega) (by omega), fun l hl => ?_⟩)
  exact hq l _ F1 _ (g1.back hl) (g1.good.back hl) upd_same (isL_rg 0 n) (g1.trans (Gr.made g1.good hl))

/-! ### isinstance -/
/-- the type of a datum -/
def tyD : Dat → Value
  | .non => .type "NoneType"
  | .bl _ => .type "bool"
  | .int _ => .type "int"
  | .str _ => .type "str"
  | .tup _ => .type "tuple"
  | .tuf _ => .type "tuple"
  | .lst _ => .type "list"
  | .ins C _ _ => .ref C
  | .slo C _ => .ref C
  | .dic _ _ => .type "dict"
structure ICls (K : PySem.W.Frag) (C : Addr) : Prop where
  cl : Cls K C
  ha : PySem.W.findIn K (.ref C) "__class__" = some (some (.builtin "object.__class__"))
  hn : PySem.W.specialIn K (.builtin "object.__class__") "__get__" = some (some (.builtin "getset_descriptor.__get__"))
  htk : PySem.W.takesIn K (.builtin "object.__class__") = some true
  hm : PySem.W.mroIn K C (.type "object") = some true
def TyOk (c : Cfg) : Dat → Prop
  | .ins C _ _ => ICls c.K C
  | .tuf _ => False
  | .slo _ _ => False
  | .dic _ _ => False
  | _ => True
theorem tyX_of {c : Cfg} {E : Addr → Prop} {F H : Hp} (g : Good c E F H) {v : V} (hk : TyOk c d) (h : At0 c E F H d v) : TyX c.K H v (tyD d) := by
  cases d with
  | non => rw [at0_non h]; exact .base .non
  | bl b => rw [at0_bl h]; exact .base (.bl b)
  | int i => rw [at0_int h]; exact .base (.int i)
  | str x => rw [at0_str h]; exact .base (.str x)
  | tup xs =>
    obtain ⟨t, vs, rfl, h2, h3⟩ := at0_tup h
    rcases g.ext.t h2 with (h2 | ⟨o, h2⟩) | ⟨o, its, n, h2, h4, _⟩
    · exact .base (.tup h2)
    · exact .fTuple h2
    · exact .kTuple h2 h4
  | lst xs =>
    obtain ⟨t, vs, rfl, ⟨h2, _⟩, h3⟩ := at0_lst h
    exact .base (.lst h2)
  | ins C ns xs =>
    have h : Is c F (.ins C ns xs) v := h
    unfold Is at h
    obtain ⟨t, dx, vs, rfl, h2, h3⟩ := h
    exact .base (.ins (g.ext _ _ h2) hk.cl hk.ha hk.hn hk.htk hk.hm)
  | tuf xs => exact hk.elim
  | slo C xs => exact hk.elim
  | dic ks xs => exact hk.elim
theorem de_isi {T : String} {q0 : Pos} (hm : j.c.mg "isinstance" = none) (hm2 : j.c.mg f = none) (hv : bootBuiltins f = some (.type T)) (ha : RE j G a x) (ht : TyOk j.c x) (he : PySem.W.kitOne j.c.K (tyD x) (.type T) = some k)
    (hn : f ≠ "__name__" := by decide) (hdb : (f == ("__debug__" : Str)) = false := by decide) (hg : GlN j "isinstance" := by rfl) (hg2 : GlN j f := by rfl) (hs : ∀ env : Env, starEach [a, .Name f q0] env = (false, eval a env) :: starEach [.Name f q0] env := by intro _; rfl) : DE j G (.Call (.Name "isinstance" p) [a, .Name f q0] [] pos) (.bl k) := by
  intro X hX σ F H q hE hq
  refine we_of (pe_callB call_isi (hX.gl hg) (by rw [hX.mg]; exact hm) (by decide +kernel) (pa_cons we (pa_cons (pe_bltn (v := .ty T) (hX.gl hg2) (by rw [hX.mg]; exact hm2) hv rfl hn hdb) pa_nil) (hs _)) (by decide) (by decide) (hs _)) (ha X hX σ F H _ hE fun v F1 H1 i1 g1 => ?_)
  exact ⟨v, .ty T, tyD x, .type T, k, rfl, .ty T, by rw [hX.K]; exact tyX_of g1.good ht i1, by rw [hX.K]; exact he, hq _ F1 H1 (is_bl.mpr rfl) g1⟩
theorem de_isiC {C : Addr} {q0 : Pos} (hm : j.c.mg "isinstance" = none) (hm2 : j.c.mg f = some (.ref C)) (ha : RE j G a x) (ht : TyOk j.c x) (he : PySem.W.kitOne j.c.K (tyD x) (.ref C) = some k)
    (hdb : (f == ("__debug__" : Str)) = false := by decide) (hg : GlN j "isinstance" := by rfl) (hg2 : GlN j f := by rfl) (hs : ∀ env : Env, starEach [a, .Name f q0] env = (false, eval a env) :: starEach [.Name f q0] env := by intro _; rfl) : DE j G (.Call (.Name "isinstance" p) [a, .Name f q0] [] pos) (.bl k) := by
  intro X hX σ F H q hE hq
  refine we_of (pe_callB call_isi (hX.gl hg) (by rw [hX.mg]; exact hm) (by decide +kernel) (pa_cons we (pa_cons (pe_glob (v := .ref C) (hX.gl hg2) (by rw [hX.mg]; exact hm2) rfl hdb) pa_nil) (hs _)) (by decide) (by decide) (hs _)) (ha X hX σ F H _ hE fun v F1 H1 i1 g1 => ?_)
  exact ⟨v, .ref C, tyD x, .ref C, k, rfl, .own C, by rw [hX.K]; exact tyX_of g1.good ht i1, by rw [hX.K]; exact he, hq _ F1 H1 (is_bl.mpr rfl) g1⟩

/-! ### the program's own defs -/
/-- the def that the module's name f stands for keeps the promise -/
structure Has (c : Cfg) (k : Nat) (f : Str) (sp : Sp) : Prop where
  ex : ∃ t, c.mg f = some (.ref t) ∧ PySem.W.keepIn c.K (.ref t) = true ∧ FnR c.P c.w c.K c.mg c.base CX0 k t sp
/-- a promise over data: what is given (enc a, if dom a) makes f a -/
def spP {A : Type} (c : Cfg) (enc : A → List Dat) (dom : A → Prop) (g : A → Dat) : Sp := fun vs H Q _ => ∃ a F, dom a ∧ Good c no F H ∧ IsL c F (enc a) vs ∧ ∀ v F' H', Is c F' (g a) v → Gr c no F H F' H' → Q v H'
theorem fnR_at {X : Cx} (hX : At j X) {i t : Nat} {sp : Sp} (h : FnR j.c.P j.c.w j.c.K j.c.mg j.c.base CX0 i t sp) : FnR X.prog X.w X.K X.mg X.base CX0 i t sp := by
  rw [hX.prog, hX.w, hX.K, hX.mg, hX.base]; exact h
theorem pe_callR {X : Cx} {t : TA} {i g : Nat} {sp : Sp} (F : FnR X.prog X.w X.K X.mg X.base CX0 i g sp) (hr : Room i X.A) (hg : Gl X f) (hm : X.mg f = some (.ref g)) (hk : PySem.W.keepIn X.K (.ref g) = true) (ha : PA X (e :: es) t)
    (hdb : (f == ("__debug__" : Str)) = false) (he : starEach (e :: es) X.env = (false, eval e X.env) :: starEach es X.env) (hpl : (backTo pos (starEach es X.env)).any (·.1) = false) :
    PE X (.Call (.Name f p) (e :: es) [] pos) (fun σ H Q => t σ H fun vs H1 => sp vs H1 Q E0) := by
  refine ⟨fun pins s σ H Q I h => wpAny_Call_Name_kw (ld_glob I hg hm ?_ hdb)⟩
  refine PySem.W.callWith_K (h₀ := X.base) I.ok.mod.kin hk (thn (ha.run pos pins s σ H _ I h) fun us s1 ⟨vs, H1, I1, r, q⟩ => ⟨I1.kIn, ?_⟩) he hpl
  exact wpAny_call (run_fnR F hr pass0 I1 r q)
theorem de_call {A : Type} {enc : A → List Dat} {dom : A → Prop} {g : A → Dat} {i : Nat} (h : Has j.c i f (spP j.c enc dom g)) (a : A) (hd : dom a) (hi : i ≤ j.k) (ha : DA j G (e :: es) (enc a)) (hg : GlN j f := by rfl) (hdb : (f == ("__debug__" : Str)) = false := by decide)
    (he : ∀ env : Env, starEach (e :: es) env = (false, eval e env) :: starEach es env := by intro _; rfl) (hpl : ∀ env : Env, (backTo pos (starEach es env)).any (·.1) = false := by intro _; rfl) : DE j G (.Call (.Name f p) (e :: es) [] pos) (g a) := by
  intro X hX σ F H q hE hq
  obtain ⟨t, h1, h2, h3⟩ := h.ex
  refine we_of (pe_callR (fnR_at hX h3) (hX.room.mono hi) (hX.gl hg) (by rw [hX.mg]; exact h1) (by rw [hX.K]; exact h2) wa hdb (he _) (hpl _)) (ha X hX σ F H _ hE fun vs F1 H1 i1 g1 => ?_)
  exact ⟨a, F1, hd, g1.good.toNo, i1, fun v F2 H2 i2 g2 => hq v F2 H2 i2 (g1.trans (g2.up g1.good))⟩
/-- methods -/
structure HasM (c : Cfg) (k : Nat) (C : Addr) (m : Str) (sp : Sp) : Prop where
  ex : ∃ t, Meth c.K C m t ∧ FnR c.P c.w c.K c.mg c.base CX0 k t sp
def plainOf (o : Expr) (env : Env) : Sem Bool := do return (← importBound o env).getD true
/-- o.m(..), o an instance -/
theorem de_meth {A : Type} {enc : A → List Dat} {dom : A → Prop} {g : A → Dat} {i : Nat} {C : Addr} {f : Str} {ns : List Str} (h : HasM j.c i C f (spP j.c enc dom g)) (hc : Cls j.c.K C) (ho : DE j G o (.ins C ns xs)) (ha : DA j G (e :: es) ds) (a : A) (en : enc a = .ins C ns xs :: ds) (hd : dom a) (hi : i ≤ j.k)
    (hl : ∀ vs : List V, (ns.zip vs).lookup f = none) (he : ∀ env : Env, starEach (e :: es) env = (false, eval e env) :: starEach es env := by intro _; rfl) (hpl : ∀ env : Env, (backTo pos (starEach es env)).any (·.1) = false := by intro _; rfl)
    (ht : ∀ env : Env, eval (.Call (.Attribute o f apos) (e :: es) [] pos) env = (do
      let ov ← eval o env
      standAt apos.atName
      let (f, first) ← holding [ov] (getMethod ov f (plainOf o env))
      callWith pos f first (backTo pos (starEach (e :: es) env)) (backToKw pos (keywordEach [] env))) := by intro _; rfl) : DE j G (.Call (.Attribute o f apos) (e :: es) [] pos) (g a) := by
  intro X hX σ F H q hE hq
  obtain ⟨t, h1, h3⟩ := h.ex
  refine we_of (pe_methR we (by rw [hX.K]; exact hc) (by rw [hX.K]; exact h1) (fnR_at hX h3) (hX.room.mono hi) pass0 wa (he _) (hpl _) (ht _)) (ho X hX σ F H _ hE fun v F1 H1 i1 g1 => ?_)
  have i1' := i1
  unfold Is at i1
  obtain ⟨t1, dx, us, rfl, h4, h5, h6⟩ := i1
  refine ⟨t1, dx, _, rfl, g1.good.ext _ _ h4, hl us, ha X hX σ F1 H1 _ (hE.gr g1) fun vs F2 H2 i2 g2 => ?_⟩
  exact ⟨a, F2, hd, g2.good.toNo, by rw [en]; exact IsL.cons (Is.mono g2.ext _ _ i1') i2, fun v F3 H3 i3 g3 => hq v F3 H3 i3 ((g1.trans g2).trans (g3.up g2.good))⟩
/-- o.m(..), o an instance with slots -/
theorem de_methS {A : Type} {enc : A → List Dat} {dom : A → Prop} {g : A → Dat} {i : Nat} {C : Addr} {f : Str} (h : HasM j.c i C f (spP j.c enc dom g)) (hc : SlX.SCls j.c.K C) (ho : DE j G o (.slo C xs)) (ha : DA j G (e :: es) ds) (a : A) (en : enc a = .slo C xs :: ds) (hd : dom a) (hi : i ≤ j.k)
    (he : ∀ env : Env, starEach (e :: es) env = (false, eval e env) :: starEach es env := by intro _; rfl) (hpl : ∀ env : Env, (backTo pos (starEach es env)).any (·.1) = false := by intro _; rfl)
    (ht : ∀ env : Env, eval (.Call (.Attribute o f apos) (e :: es) [] pos) env = (do
      let ov ← eval o env
      standAt apos.atName
      let (f, first) ← holding [ov] (getMethod ov f (plainOf o env))
      callWith pos f first (backTo pos (starEach (e :: es) env)) (backToKw pos (keywordEach [] env))) := by intro _; rfl) : DE j G (.Call (.Attribute o f apos) (e :: es) [] pos) (g a) := by
  intro X hX σ F H q hE hq
  obtain ⟨t, h1, h3⟩ := h.ex
  refine we_of (SlX.pe_methSl we (by rw [hX.K]; exact hc) (by rw [hX.K]; exact h1) (fnR_at hX h3) (hX.room.mono hi) pass0 wa (he _) (hpl _) (ht _)) (ho X hX σ F H _ hE fun v F1 H1 i1 g1 => ?_)
  have i1' := i1
  unfold Is at i1
  obtain ⟨t1, dx, us, rfl, ⟨h4, h5⟩, h6⟩ := i1
  refine ⟨t1, dx, _, rfl, .inr ⟨g1.good.ext _ _ h4, g1.good.ext _ _ h5⟩, ha X hX σ F1 H1 _ (hE.gr g1) fun vs F2 H2 i2 g2 => ?_⟩
  exact ⟨a, F2, hd, g2.good.toNo, by rw [en]; exact IsL.cons (Is.mono g2.ext _ _ i1') i2, fun v F3 H3 i3 g3 => hq v F3 H3 i3 ((g1.trans g2).trans (g3.up g2.good))⟩
theorem de_methS0 {A : Type} {enc : A → List Dat} {dom : A → Prop} {g : A → Dat} {i : Nat} {C : Addr} {f : Str} (h : HasM j.c i C f (spP j.c enc dom g)) (hc : SlX.SCls j.c.K C) (ho : DE j G o (.slo C xs)) (a : A) (en : enc a = [.slo C xs]) (hd : dom a) (hi : i ≤ j.k)
    (ht : ∀ env : Env, eval (.Call (.Attribute o f apos) [] [] pos) env = (do
      let ov ← eval o env
      standAt apos.atName
      let (f, first) ← holding [ov] (getMethod ov f (plainOf o env))
      callWith pos f first (backTo pos (starEach [] env)) (backToKw pos (keywordEach [] env))) := by intro _; rfl) : DE j G (.Call (.Attribute o f apos) [] [] pos) (g a) := by
  intro X hX σ F H q hE hq
  obtain ⟨t, h1, h3⟩ := h.ex
  refine we_of (SlX.pe_methSl0 we (by rw [hX.K]; exact hc) (by rw [hX.K]; exact h1) (fnR_at hX h3) (hX.room.mono hi) pass0 (ht _)) (ho X hX σ F H _ hE fun v F1 H1 i1 g1 => ?_)
  have i1' := i1
  unfold Is at i1
  obtain ⟨t1, dx, us, rfl, ⟨h4, h5⟩, h6⟩ := i1
  refine ⟨t1, dx, _, rfl, .inr ⟨g1.good.ext _ _ h4, g1.good.ext _ _ h5⟩, ?_⟩
  exact ⟨a, F1, hd, g1.good.toNo, by rw [en]; exact IsL.cons i1' IsL.nil, fun v F3 H3 i3 g3 => hq v F3 H3 i3 (g1.trans (g3.up g1.good))⟩
end
end Cal
set_option Elab.async false
set_option linter.all false
set_option maxRecDepth 100000
set_option maxHeartbeats 4000000
namespace Cal
open PySem PySem.Spec PyProof.Rows L2

/-! ### one of several -/
section
variable (j : J) (G : List Slot)
def DX (e : Expr) (R : Dat → Prop) : Prop := ∀ X, At j X → ∀ σ F H (q : VK), EnvR j.c j.E F H σ G → (∀ v d F' H', R d → Is j.c F' d v → Gr j.c j.E F H F' H' → q v H') → WE X e σ H q
def DTX (e : Expr) (R : Bool → Prop) : Prop := ∀ X, At j X → ∀ σ F H (q : Bool → Hp → Prop), EnvR j.c j.E F H σ G → (∀ b F' H', R b → Gr j.c j.E F H F' H' → q b H') → WT X e σ H q
def DAX (es : List Expr) (R : List Dat → Prop) : Prop := ∀ X, At j X → ∀ σ F H (q : List V → Hp → Prop), EnvR j.c j.E F H σ G → (∀ vs ds F' H', R ds → IsL j.c F' ds vs → Gr j.c j.E F H F' H' → q vs H') → WA X es σ H q
def LX (e : Expr) (R : List Dat → Prop) : Prop := ∀ X, At j X → ∀ σ F H (q : VK), EnvR j.c j.E F H σ G → (∀ p vs xs F' H', R xs → H p = none → (F' p = none ∧ ¬ j.E p) → H' p = some (.lst vs) → IsL j.c F' xs vs → Gr j.c j.E F H F' H' → q (.ref p) H') → WE X e σ H q
/-- a value fit for a slot -/
def SX (e : Expr) (R : Slot → Prop) : Prop := ∀ X, At j X → ∀ σ F H (q : VK), EnvR j.c j.E F H σ G → (∀ v s F' H', R s → SlotR j.c j.E F' H' (some v) s → (∀ p, s.isOwn = true → v = .ref p → H p = none) → Gr j.c j.E F H F' H' → q v H') → WE X e σ H q
/-- the ifs of a comprehension -/
def DIX (ifs : List Expr) (R : Bool → Prop) : Prop := ∀ X, At j X → ∀ σ F H (q : Bool → Hp → Prop), EnvR j.c j.E F H σ G → (∀ b F' H', R b → Gr j.c j.E F H F' H' → q b H') → ∀ pins s, Inv X pins σ H s →
  wpAny (model X.prog X.w) X.A (forIn ifs true fun c r => if r = true then do let ok ← isTrue c X.env (eval c X.env); pure (ForInStep.yield ok) else pure (ForInStep.yield r)) (TP X pins σ q) X.xe s
end
section
variable {j : J} {G : List Slot} {e a b c0 : Expr} {es : List Expr} {d x y : Dat} {ds xs : List Dat} {pos : Pos} {k : Bool} {R : Dat → Prop}
theorem DE.toX (h : DE j G e d) (hr : R d) : DX j G e R := fun X hX σ F H q hE hq => h X hX σ F H q hE fun v F' H' i g => hq v d F' H' hr i g
theorem DX.toE (h : DX j G e (· = d)) : DE j G e d := fun X hX σ F H q hE hq => h X hX σ F H q hE fun v d' F' H' e1 i g => hq v F' H' (e1 ▸ i) g
theorem DX.imp {R' : Dat → Prop} (h : DX j G e R) (hr : ∀ d, R d → R' d) : DX j G e R' := fun X hX σ F H q hE hq => h X hX σ F H q hE fun v d F' H' e1 i g => hq v d F' H' (hr d e1) i g
theorem DT.toX {R : Bool → Prop} (h : DT j G e k) (hr : R k) : DTX j G e R := fun X hX σ F H q hE hq => h X hX σ F H q hE fun F' H' g => hq k F' H' hr g
theorem LE.toX {R : List Dat → Prop} (h : LE j G e xs) (hr : R xs) : LX j G e R := fun X hX σ F H q hE hq => h X hX σ F H q hE fun p vs F' H' a1 a2 a3 a4 g => hq p vs xs F' H' hr a1 a2 a3 a4 g
theorem LX.toE (h : LX j G e (· = xs)) : LE j G e xs := fun X hX σ F H q hE hq => h X hX σ F H q hE fun p vs xs' F' H' e1 a1 a2 a3 a4 g => hq p vs F' H' a1 a2 a3 (e1 ▸ a4) g
theorem LX.dx {R : List Dat → Prop} (h : LX j G e R) : DX j G e (fun d => ∃ xs, d = .lst xs ∧ R xs) := fun X hX σ F H q hE hq => h X hX σ F H q hE fun p vs xs F' H' hr h1 h2 h3 h4 g =>
  hq _ _ (upd F' p (.lst vs)) H' ⟨xs, rfl, hr⟩ (is_lst.mpr ⟨p, vs, rfl, upd_same, IsL.mono (ext_upd h2.1) xs vs h4⟩) (g.froze h1 h2 h3 fun _ z => by cases z)
theorem dix_nil {R : Bool → Prop} (hr : R true) : DIX j G [] R := fun X hX σ F H q hE hq pins s I => pts_nil.run pins s σ H _ I (hq true F H hr (Gr.refl hE.good))
theorem dix_one {R : Bool → Prop} (h : DTX j G e R) : DIX j G [e] R := fun X hX σ F H q hE hq pins s I => (pts_one wt).run pins s σ H _ I (h X hX σ F H q hE hq)
theorem DX.sx (h : DX j G e R) {S : Slot → Prop} (hr : ∀ d, R d → S (.dat d)) : SX j G e S := fun X hX σ F H q hE hq => h X hX σ F H q hE fun v d F' H' e1 i g => hq v (.dat d) F' H' (hr d e1) ⟨v, rfl, i⟩ (fun p z => by cases z) g
theorem LX.sx {R : List Dat → Prop} (h : LX j G e R) {S : Slot → Prop} (hr : ∀ d, R d → S (.own d)) : SX j G e S := fun X hX σ F H q hE hq => h X hX σ F H q hE fun p vs xs F' H' e1 a1 a2 a3 a4 g =>
  hq _ (.own xs) F' H' (hr xs e1) ⟨p, vs, rfl, a3, a2, a4⟩ (fun p' _ z => by cases z; exact a1) g
theorem DE.sx (h : DE j G e d) : SX j G e (· = .dat d) := (h.toX (R := (· = d)) rfl).sx fun d' e => by rw [e]
theorem LE.sx (h : LE j G e xs) : SX j G e (· = .own xs) := (h.toX (R := (· = xs)) rfl).sx fun d' e => by rw [e]
end

/-! ### slots set -/
def setG (G : List Slot) : List (Nat × Dat) → List Slot
  | [] => G
  | (i, d) :: r => setG (G.set i (.dat d)) r
def setS (σ : L2.St) : List (Nat × Dat) → List V → L2.St
  | (i, _) :: r, v :: vs => setS (σ.set i (some v)) r vs
  | _, _ => σ
section
variable {c : Cfg} {E : Addr → Prop} {F H F' H' : Hp} {σ : L2.St} {G : List Slot} {i : Nat} {v : V} {s : Slot}
theorem join_set_self (h : i < σ.length) : ((σ.set i (some v))[i]?).join = some v := by
  rw [List.getElem?_set_self h]; rfl
theorem EnvR.set (e : EnvR c E F H σ G) (h : SlotR c E F H (some v) s) (hs : ∀ p, s.isOwn = true → v = .ref p → ∀ (k : Nat) (t : Slot), k ≠ i → G[k]? = some t → t.isOwn = true → σ[k]? = some (some (.ref p)) → False) : EnvR c E F H (σ.set i (some v)) (G.set i s) := by
  refine ⟨e.good, by rw [List.length_set, List.length_set]; exact e.len, fun k t ht => ?_, fun k l t u p hkl ht hu ot ou ht2 hu2 => ?_⟩
  · by_cases hk : k = i
    · subst hk
      by_cases hl : k < G.length
      · rw [List.getElem?_set_self hl] at ht
        cases ht
        rw [join_set_self (by rw [e.len]; exact hl)]; exact h
      · rw [List.getElem?_eq_none (by rw [List.length_set]; omega)] at ht; cases ht
    · rw [List.getElem?_set_ne (Ne.symm hk)] at ht ⊢
      exact e.at_ k t ht
  · by_cases hk : k = i
    · subst hk
      have hl' : l ≠ k := Ne.symm hkl
      rw [List.getElem?_set_ne hkl] at hu hu2
      by_cases hl : k < G.length
      · rw [List.getElem?_set_self hl] at ht
        rw [List.getElem?_set_self (by rw [e.len]; exact hl)] at ht2
        cases ht; cases ht2
        exact hs p ot rfl l u hl' hu ou hu2
      · rw [List.getElem?_eq_none (by rw [List.length_set]; omega)] at ht; cases ht
    · rw [List.getElem?_set_ne (Ne.symm hk)] at ht ht2
      by_cases hl' : l = i
      · subst hl'
        by_cases hl : l < G.length
        · rw [List.getElem?_set_self hl] at hu
          rw [List.getElem?_set_self (by rw [e.len]; exact hl)] at hu2
          cases hu; cases hu2
          exact hs p ou rfl k t hk ht ot ht2
        · rw [List.getElem?_eq_none (by rw [List.length_set]; omega)] at hu; cases hu
      · rw [List.getElem?_set_ne (Ne.symm hl')] at hu hu2
        exact e.sep k l t u p hkl ht hu ot ou ht2 hu2
theorem EnvR.setD (e : EnvR c E F H σ G) {d : Dat} (h : Is c F d v) : EnvR c E F H (σ.set i (some v)) (G.set i (.dat d)) := e.set ⟨v, rfl, h⟩ fun p z => by cases z
theorem EnvR.setAll : ∀ {u : List (Nat × Dat)} {vs : List V} {σ : L2.St} {G : List Slot}, EnvR c E F H σ G → IsL c F (u.map (·.2)) vs → EnvR c E F H (setS σ u vs) (setG G u)
  | [], vs, σ, G, e, h => by
    rw [IsL.nil_iff.mp h]; exact e
  | (i, d) :: r, vs, σ, G, e, h => by
    obtain ⟨v, rs, rfl, h2, h3⟩ := IsL.cons_iff.mp h
    exact EnvR.setAll (u := r) (vs := rs) (σ := σ.set i (some v)) (G := G.set i (.dat d)) (e.setD h2) h3
/-- slots forgotten -/
def wipeG (G : List Slot) : List Nat → List Slot
  | [] => G
  | v :: vs => (wipeG G vs).set v .no
theorem EnvR.wk (e : EnvR c E F H σ G) {σ' : L2.St} {G' : List Slot} (hl : G'.length = G.length) (hs : σ'.length = σ.length) (h : ∀ (i : Nat) s, G'[i]? = some s → s = .no ∨ (G[i]? = some s ∧ σ'[i]? = σ[i]?)) : EnvR c E F H σ' G' := by
  refine ⟨e.good, by rw [hs, hl]; exact e.len, fun i s hi => ?_, fun i k s t p hik hi hk os ot x y => ?_⟩
  · rcases h i s hi with rfl | ⟨h1, h2⟩
    · trivial
    · rw [h2]; exact e.at_ i s h1
  · rcases h i s hi with rfl | ⟨h1, h2⟩
    · cases os
    · rcases h k t hk with rfl | ⟨h3, h4⟩
      · cases ot
      · rw [h2] at x; rw [h4] at y
        exact e.sep i k s t p hik h1 h3 os ot x y
theorem wipeG_len (G : List Slot) : ∀ vs, (wipeG G vs).length = G.length
  | [] => rfl
  | v :: vs => by unfold wipeG; rw [List.length_set, wipeG_len G vs]
theorem wipeG_at (G : List Slot) {i : Nat} {s : Slot} : ∀ vs, (wipeG G vs)[i]? = some s → s = .no ∨ (G[i]? = some s ∧ i ∉ vs)
  | [], h => .inr ⟨h, by simp⟩
  | v :: vs, h => by
    unfold wipeG at h
    by_cases e : v = i
    · subst e
      by_cases hl : v < (wipeG G vs).length
      · rw [List.getElem?_set_self hl] at h; cases h; exact .inl rfl
      · rw [List.getElem?_eq_none (by rw [List.length_set]; omega)] at h; cases h
    · rw [List.getElem?_set_ne e] at h
      rcases wipeG_at G vs h with h | ⟨h1, h2⟩
      · exact .inl h
      · exact .inr ⟨h1, by simp only [List.mem_cons, not_or]; exact ⟨fun z => e z.symm, h2⟩⟩
theorem wipe_out' {σ : L2.St} {i : Nat} : ∀ {vs : List Nat}, i ∉ vs → (wipe σ vs)[i]? = σ[i]?
  | [], _ => rfl
  | v :: vs, h => by
    unfold wipe
    simp only [List.mem_cons, not_or] at h
    rw [List.getElem?_set_ne (fun z => h.1 z.symm)]
    exact wipe_out' h.2
theorem wipe_in {σ : L2.St} {i : Nat} : ∀ {vs : List Nat}, i ∈ vs → i < σ.length → (wipe σ vs)[i]? = some none
  | v :: vs, h, hl => by
    unfold wipe
    by_cases e : v = i
    · subst e
      rw [List.getElem?_set_self (by rw [wipe_length]; exact hl)]
    · rw [List.getElem?_set_ne e]
      rcases List.mem_cons.mp h with z | z
      · exact absurd z.symm e
      · exact wipe_in z hl
theorem EnvR.wipe (e : EnvR c E F H σ G) (vs : List Nat) : EnvR c E F H (wipe σ vs) (wipeG G vs) :=
  e.wk (wipeG_len G vs) (wipe_length σ vs) fun i s h => by
    rcases wipeG_at G vs h with h | ⟨h1, h2⟩
    · exact .inl h
    · exact .inr ⟨h1, wipe_out' h2⟩
theorem setS_len : ∀ (u : List (Nat × Dat)) (vs : List V) (σ : L2.St), (setS σ u vs).length = σ.length
  | [], _, _ => rfl
  | (i, d) :: r, [], _ => rfl
  | (i, d) :: r, v :: vs, σ => by unfold setS; rw [setS_len r vs, List.length_set]
theorem setS_out : ∀ (u : List (Nat × Dat)) (vs : List V) (σ : L2.St) {i : Nat}, i ∉ u.map (·.1) → (setS σ u vs)[i]? = σ[i]?
  | [], _, _, _, _ => rfl
  | (i, d) :: r, [], _, _, _ => rfl
  | (i, d) :: r, v :: vs, σ, k, h => by
    unfold setS
    simp only [List.map_cons, List.mem_cons, not_or] at h
    rw [setS_out r vs _ h.2, List.getElem?_set_ne (fun z => h.1 z.symm)]
/-- a block's target is within its own names -/
theorem wipe_setS {σ : L2.St} {u : List (Nat × Dat)} {us : List V} {vs : List Nat} (h : ∀ i ∈ u.map (·.1), i ∈ vs) : L2.wipe (setS σ u us) vs = L2.wipe σ vs := by
  apply List.ext_getElem?
  intro i
  by_cases hi : i ∈ vs
  · by_cases hl : i < σ.length
    · rw [wipe_in hi hl, wipe_in hi (by rw [setS_len]; exact hl)]
    · rw [List.getElem?_eq_none (by rw [wipe_length, setS_len]; omega), List.getElem?_eq_none (by rw [wipe_length]; omega)]
  · rw [wipe_out' hi, wipe_out' hi, setS_out _ _ _ fun z => hi (h i z)]
theorem wipe_wipe {σ : L2.St} {vs : List Nat} : L2.wipe (L2.wipe σ vs) vs = L2.wipe σ vs := by
  apply List.ext_getElem?
  intro i
  by_cases hi : i ∈ vs
  · by_cases hl : i < σ.length
    · rw [wipe_in hi hl, wipe_in hi (by rw [wipe_length]; exact hl)]
    · rw [List.getElem?_eq_none (by rw [wipe_length, wipe_length]; omega), List.getElem?_eq_none (by rw [wipe_length]; omega)]
  · rw [wipe_out' hi]
end

/-! ### targets -/
/-- tg = a value of d: the slots u are set -/
def DG (j : J) (tg : Expr) (d : Dat) (u : List (Nat × Dat)) : Prop := ∀ X, At j X → ∀ v σ F H (q : L2.St → Hp → Prop), Good j.c j.E F H → Is j.c F d v → (∀ vs, IsL j.c F (u.map (·.2)) vs → q (setS σ u vs) H) → WG X tg v σ H q
def DGs (j : J) (tgs : List Expr) (ds : List Dat) (u : List (Nat × Dat)) : Prop := ∀ X, At j X → ∃ t : TGs, PGs X tgs t ∧ ∀ vs σ F H (q : L2.St → Hp → Prop), Good j.c j.E F H → IsL j.c F ds vs → (∀ us, IsL j.c F (u.map (·.2)) us → q (setS σ u us) H) → t vs σ H q
section
variable {j : J} {e : Expr} {es : List Expr} {d : Dat} {ds : List Dat} {u u' : List (Nat × Dat)} {pos : Pos} {i : Nat} {x : Str}
theorem At.stores {X : Cx} (hX : At j X) (h : (j.blk = false ∧ Loc j.sc x) ∨ j.sc.names.lookup x = some .local) : Loc X.env.scope x ∧ (X.fn x = true ∨ X.env.scope.names.lookup x = some .local) := by
  rw [hX.sc]
  rcases h with ⟨h1, h2⟩ | h
  · refine ⟨h2, ?_⟩
    rcases h2 with h2 | h2
    · exact .inr h2
    · exact .inl (hX.fn h1 x h2)
  · exact ⟨.inl h, .inr h⟩
theorem At.nodup {X : Cx} (hX : At j X) : X.N.Nodup := by rw [hX.N]; exact hX.nd
theorem dg_name (i : Nat) {x : Str} (hN : j.N[i]? = some x) (hs : (j.blk = false ∧ Loc j.sc x) ∨ j.sc.names.lookup x = some .local) : DG j (.Name x pos) d [(i, d)] := by
  intro X hX v σ F H q g iv hq
  obtain ⟨h1, h2⟩ := hX.stores hs
  exact wg_of (pg_name hX.nodup (by rw [hX.N]; exact hN) h1 h2) (hq [v] (IsL.cons iv IsL.nil))
theorem dgs_nil : DGs j [] [] [] := fun X hX => ⟨_, pgs_nil, fun vs σ F H q g i hq => ⟨IsL.nil_iff.mp i, hq [] IsL.nil⟩⟩
theorem setS_app : ∀ (u u' : List (Nat × Dat)) (vs vs' : List V) (σ : L2.St), u.length = vs.length → setS σ (u ++ u') (vs ++ vs') = setS (setS σ u vs) u' vs'
  | [], u', [], vs', σ, _ => rfl
  | (i, d) :: r, u', v :: vs, vs', σ, h => by
    show setS (σ.set i (some v)) (r ++ u') (vs ++ vs') = _
    rw [setS_app r u' vs vs' _ (by simpa using h)]; rfl
theorem dgs_cons (h : DG j e d u) (hr : DGs j es ds u') (hs : ∀ env : Env, (assignEach (e :: es) env).map (·.2) = assign e env :: (assignEach es env).map (·.2) := by intro _; rfl) : DGs j (e :: es) (d :: ds) (u ++ u') := by
  intro X hX
  obtain ⟨t, h1, h2⟩ := hr X hX
  refine ⟨_, pgs_cons wg h1 (hs _), fun vs σ F H q g i hq => ?_⟩
  obtain ⟨v, r, rfl, i1, i2⟩ := IsL.cons_iff.mp i
  refine ⟨v, r, rfl, h X hX v σ F H _ g i1 fun us iu => ?_⟩
  refine h2 r _ F H q g i2 fun us' iu' => ?_
  rw [← setS_app _ _ _ _ _ (by have := iu.len; simpa using this)]
  exact hq _ (by rw [List.map_append]; exact iu.app iu')
theorem dg_tup {kk n : Nat} (h : DGs j es ds u) (hl : ds.length = n := by rfl) (hn : ∀ env : Env, (assignEach es env).length = n := by intro _; rfl) (hst : ∀ env : Env, (assignEach es env).findIdx? (·.1) = none := by intro _; rfl) : DG j (.Tuple es kk pos) (.tup ds) u := by
  intro X hX v σ F H q g iv hq
  obtain ⟨t, h1, h2⟩ := h X hX
  obtain ⟨p, vs, rfl, i1, i2⟩ := is_tup.mp iv
  exact wg_of (pg_tup hX.calm h1 (hn _) (hst _)) ⟨p, vs, rfl, by rw [hX.K]; exact g.ext.t i1, by rw [← i2.len]; exact hl, h2 vs σ F H q g i2 hq⟩
end
end Cal
set_option Elab.async false
set_option linter.all false
set_option maxRecDepth 100000
set_option maxHeartbeats 4000000
namespace Cal
open PySem PySem.Spec PyProof.Rows L2

/-! ### statements -/
structure DEnds where
  nx : List Slot → Prop
  rt : Dat → Prop
  ro : List Dat → Prop := fun _ => False
/-- a state within a def: entered at (F0, H0); Fs stood at some point -/
structure SR (j : J) (F0 H0 Fs F H : Hp) (σ : L2.St) (G : List Slot) : Prop where
  env : EnvR j.c j.E F H σ G
  gr : Gr j.c j.E F0 H0 F H
  young : ∀ (i : Nat) (s : Slot) (p : Addr), G[i]? = some s → s.isOwn = true → σ[i]? = some (some (.ref p)) → H0 p = none
  base : Ext Fs F
structure EOk (j : J) (F0 H0 Fs : Hp) (De : Ends) (D : DEnds) : Prop where
  nx : ∀ σ F H G, D.nx G → SR j F0 H0 Fs F H σ G → De.nx σ H
  rt : ∀ v d F H, D.rt d → Is j.c F d v → Gr j.c j.E F0 H0 F H → De.rt v H
  ro : ∀ p vs xs F H, D.ro xs → H0 p = none → (F p = none ∧ ¬ j.E p) → H p = some (.lst vs) → IsL j.c F xs vs → Gr j.c j.E F0 H0 F H → De.rt (.ref p) H
def DS (j : J) (G : List Slot) (sts : List Stmt) (D : DEnds) : Prop := ∀ X, At j X → ∀ σ F0 H0 Fs F H De, SR j F0 H0 Fs F H σ G → EOk j F0 H0 Fs De D → WSs X sts De σ H
def D1 (j : J) (G : List Slot) (st : Stmt) (D : DEnds) : Prop := ∀ X, At j X → ∀ σ F0 H0 Fs F H De, SR j F0 H0 Fs F H σ G → EOk j F0 H0 Fs De D → WS X st De σ H
section
variable {j : J} {G G' : List Slot} {D D' : DEnds} {st : Stmt} {sts body els : List Stmt} {e a b c0 tg : Expr} {es : List Expr} {pos spos : Pos} {F0 H0 Fs F H F' H' : Hp} {σ : L2.St} {d : Dat} {xs ys : List Dat} {i l : Nat} {s t : Slot} {De : Ends} {k : Bool}
theorem SR.go (r : SR j F0 H0 Fs F H σ G) (g : Gr j.c j.E F H F' H') : SR j F0 H0 Fs F' H' σ G := ⟨r.env.gr g, r.gr.trans g, r.young, r.base.trans g.ext⟩
theorem SR.set {v : V} (r : SR j F0 H0 Fs F H σ G) (h : SlotR j.c j.E F H (some v) s) (hs : ∀ p, s.isOwn = true → v = .ref p → H0 p = none ∧ ∀ (k : Nat) (t : Slot), k ≠ i → G[k]? = some t → t.isOwn = true → σ[k]? = some (some (.ref p)) → False) : SR j F0 H0 Fs F H (σ.set i (some v)) (G.set i s) := by
  refine ⟨r.env.set h fun p o e => (hs p o e).2, r.gr, fun k t p ht ot e => ?_, r.base⟩
  by_cases hk : k = i
  · subst hk
    by_cases hl : k < G.length
    · rw [List.getElem?_set_self hl] at ht
      rw [List.getElem?_set_self (by rw [r.env.len]; exact hl)] at e
      cases ht; cases e
      exact (hs p ot rfl).1
    · rw [List.getElem?_eq_none (by rw [List.length_set]; omega)] at ht; cases ht
  · rw [List.getElem?_set_ne (Ne.symm hk)] at ht e
    exact r.young k t p ht ot e
/-- an own slot's object is there -/
theorem EnvR.ownThere {c : Cfg} {E : Addr → Prop} (r : EnvR c E F H σ G) {p : Addr} (h : G[i]? = some s) (o : s.isOwn = true) (e : σ[i]? = some (some (.ref p))) : H p ≠ none := by
  have z := r.at_ i s h
  rw [e] at z
  cases s with
  | own xs =>
    obtain ⟨p', vs, h1, h2, _⟩ := z
    cases h1
    rw [h2]; simp
  | owd ks xs =>
    obtain ⟨p', kv, vs, h1, ⟨ep, h2⟩, _⟩ := z
    cases h1
    rw [h2]; simp
  | no => cases o
  | dat _ => cases o
  | dr => cases o
/-- a value that came, into its slot -/
theorem SR.put {v : V} (r : SR j F0 H0 Fs F H σ G) (g : Gr j.c j.E F H F' H') (h : SlotR j.c j.E F' H' (some v) s) (hs : ∀ p, s.isOwn = true → v = .ref p → H p = none) : SR j F0 H0 Fs F' H' (σ.set i (some v)) (G.set i s) :=
  (r.go g).set h fun p o e => ⟨r.gr.back (hs p o e), fun k t _ ht ot e2 => r.env.ownThere ht ot e2 (hs p o e)⟩
theorem SR.setAll {u : List (Nat × Dat)} : ∀ {vs : List V} {σ : L2.St} {G : List Slot}, SR j F0 H0 Fs F H σ G → IsL j.c F (u.map (·.2)) vs → SR j F0 H0 Fs F H (setS σ u vs) (setG G u) := by
  induction u with
  | nil =>
    intro vs σ G r h
    rw [IsL.nil_iff.mp h]; exact r
  | cons q u ih =>
    intro vs σ G r h
    obtain ⟨i, d⟩ := q
    obtain ⟨v, rs, rfl, h2, h3⟩ := IsL.cons_iff.mp h
    exact ih (SR.set (i := i) (s := .dat d) (v := v) r ⟨v, rfl, h2⟩ fun p z => by cases z) h3
/-- less known -/
def Wk (G G' : List Slot) : Prop := G'.length = G.length ∧ ∀ (i : Nat) s, G'[i]? = some s → s = .no ∨ G[i]? = some s
theorem Wk.refl : Wk G G := ⟨rfl, fun _ _ h => .inr h⟩
theorem SR.wk (r : SR j F0 H0 Fs F H σ G) (w : Wk G G') : SR j F0 H0 Fs F H σ G' :=
  ⟨r.env.wk w.1 rfl fun i s h => (w.2 i s h).imp id fun z => ⟨z, rfl⟩, r.gr, fun i s p h o e => by
    rcases w.2 i s h with rfl | z
    · cases o
    · exact r.young i s p z o e, r.base⟩
theorem ds_wk (w : Wk G G') (h : DS j G' sts D) : DS j G sts D := fun X hX σ F0 H0 Fs F H De r ok => h X hX σ F0 H0 Fs F H De (r.wk w) ok
theorem EOk.imp (ok : EOk j F0 H0 Fs De D') (h1 : ∀ G, D.nx G → D'.nx G) (h2 : ∀ d, D.rt d → D'.rt d) (h3 : ∀ d, D.ro d → D'.ro d) : EOk j F0 H0 Fs De D :=
  ⟨fun σ F H G h r => ok.nx σ F H G (h1 G h) r, fun v d F H h => ok.rt v d F H (h2 d h), fun p vs xs F H h => ok.ro p vs xs F H (h3 xs h)⟩
theorem DS.imp (h : DS j G sts D) (h1 : ∀ G, D.nx G → D'.nx G) (h2 : ∀ d, D.rt d → D'.rt d) (h3 : ∀ d, D.ro d → D'.ro d) : DS j G sts D' := fun X hX σ F0 H0 Fs F H De r ok => h X hX σ F0 H0 Fs F H De r (ok.imp h1 h2 h3)
theorem D1.imp (h : D1 j G st D) (h1 : ∀ G, D.nx G → D'.nx G) (h2 : ∀ d, D.rt d → D'.rt d) (h3 : ∀ d, D.ro d → D'.ro d) : D1 j G st D' := fun X hX σ F0 H0 Fs F H De r ok => h X hX σ F0 H0 Fs F H De r (ok.imp h1 h2 h3)
theorem ds_nil (h : D.nx G) : DS j G [] D := fun X hX σ F0 H0 Fs F H De r ok => wss_of pss_nil (ok.nx σ F H G h r)
theorem ds_cons (h : D1 j G st { D with nx := fun G' => DS j G' sts D }) : DS j G (st :: sts) D := fun X hX σ F0 H0 Fs F H De r ok =>
  wss_of (pss_cons ws wss) (h X hX σ F0 H0 Fs F H _ r ⟨fun σ' F' H' G' k r' => k X hX σ' F0 H0 Fs F' H' De r' ok, ok.rt, ok.ro⟩)
/-- a middle word -/
theorem ds_mid (M : List Slot → Prop) (h : D1 j G st { D with nx := M }) (k : ∀ G', M G' → DS j G' sts D) : DS j G (st :: sts) D := ds_cons (h.imp k (fun _ z => z) fun _ z => z)
/-- what was own stands still from here on -/
theorem ds_freeze (i : Nat) (hi : G[i]? = some (.own xs)) (h : DS j (G.set i (.dat (.lst xs))) sts D) : DS j G sts D := by
  intro X hX σ F0 H0 Fs F H De r ok
  obtain ⟨p, vs, e1, e2, e3, e4⟩ := r.env.own hi
  have g : Gr j.c j.E F0 H0 (upd F p (.lst vs)) H := r.gr.froze (r.young i _ p hi rfl e1) e3 e2 fun _ z => by cases z
  have x : Ext F (upd F p (.lst vs)) := ext_upd e3.1
  refine h X hX σ F0 H0 Fs _ H De ⟨⟨g.good, by rw [List.length_set]; exact r.env.len, fun k s hk => ?_, fun k l s t q hkl hk hl os ot => ?_⟩, g, fun k s q hk os => ?_, r.base.trans x⟩ ok
  · by_cases z : k = i
    · subst z
      have hl : k < G.length := by
        rcases Nat.lt_or_ge k G.length with z | z
        · exact z
        · rw [List.getElem?_eq_none z] at hi; cases hi
      rw [List.getElem?_set_self hl] at hk
      cases hk
      exact ⟨.ref p, by rw [e1]; rfl, is_lst.mpr ⟨p, vs, rfl, upd_same, IsL.mono x xs vs e4⟩⟩
    · rw [List.getElem?_set_ne (Ne.symm z)] at hk
      have w := r.env.at_ k s hk
      cases s with
      | no => trivial
      | dat d =>
        obtain ⟨v, h1, h2⟩ := w
        exact ⟨v, h1, Is.mono x d v h2⟩
      | own ys =>
        obtain ⟨p', us, h1, h2, ⟨h3, h5⟩, h4⟩ := w
        refine ⟨p', us, h1, h2, ⟨?_, h5⟩, IsL.mono x ys us h4⟩
        rw [upd_ne fun y => ?_]; exact h3
        subst y
        exact r.env.sep k i _ _ p' z hk hi rfl rfl (join_some h1) e1
      | owd ks ys =>
        obtain ⟨p', kv, us, h1, h2, ⟨h3, h5⟩, h4, h6, h7⟩ := w
        refine ⟨p', kv, us, h1, h2, ⟨?_, h5⟩, h4, KeyAll.mono x ks kv h6, IsL.mono x ys us h7⟩
        rw [upd_ne fun y => ?_]; exact h3
        subst y
        exact r.env.sep k i _ _ p' z hk hi rfl rfl (join_some h1) e1
      | dr => exact w
  · have f : ∀ {m : Nat} {u : Slot}, (G.set i (.dat (.lst xs)))[m]? = some u → u.isOwn = true → G[m]? = some u := fun {m u} hm ou => by
      by_cases z : m = i
      · subst z
        by_cases hl : m < G.length
        · rw [List.getElem?_set_self hl] at hm; cases hm; cases ou
        · rw [List.getElem?_eq_none (by rw [List.length_set]; omega)] at hm; cases hm
      · rw [List.getElem?_set_ne (Ne.symm z)] at hm; exact hm
    exact r.env.sep k l s t q hkl (f hk os) (f hl ot) os ot
  · by_cases z : k = i
    · subst z
      by_cases hl : k < G.length
      · rw [List.getElem?_set_self hl] at hk; cases hk; cases os
      · rw [List.getElem?_eq_none (by rw [List.length_set]; omega)] at hk; cases hk
    · rw [List.getElem?_set_ne (Ne.symm z)] at hk
      exact r.young k s q hk os

/-! ### assignments -/
theorem d1_set (i : Nat) {x : Str} {S : Slot → Prop} {p : Pos} (h : SX j G e S) (hN : j.N[i]? = some x) (hq : ∀ s, S s → D.nx (G.set i s)) (hs : (j.blk = false ∧ Loc j.sc x) ∨ j.sc.names.lookup x = some .local := by first | exact .inr rfl | exact .inl ⟨rfl, .inr rfl⟩)
    (hw : ∀ env : Env, swapsWith e (some (.Name x p)) spos.line env = pure false := by intro _; rfl) : D1 j G (.Assign [.Name x p] e spos) D := by
  intro X hX σ F0 H0 Fs F H De r ok
  obtain ⟨h1, h2⟩ := hX.stores hs
  refine ws_of (ps_set hX.nodup (by rw [hX.N]; exact hN) h1 we (hw _) h2) ?_
  exact h X hX σ F H _ r.env fun v s F' H' hS hv ho g => ok.nx _ F' H' _ (hq s hS) (r.put g hv ho)
theorem d1_asg (i : Nat) {x : Str} {p : Pos} (h : DE j G e d) (hN : j.N[i]? = some x) (hq : D.nx (G.set i (.dat d))) (hs : (j.blk = false ∧ Loc j.sc x) ∨ j.sc.names.lookup x = some .local := by first | exact .inr rfl | exact .inl ⟨rfl, .inr rfl⟩)
    (hw : ∀ env : Env, swapsWith e (some (.Name x p)) spos.line env = pure false := by intro _; rfl) : D1 j G (.Assign [.Name x p] e spos) D := d1_set i h.sx hN (fun s z => by rw [z]; exact hq) hs hw
theorem d1_own (i : Nat) {x : Str} {p : Pos} (h : LE j G e xs) (hN : j.N[i]? = some x) (hq : D.nx (G.set i (.own xs))) (hs : (j.blk = false ∧ Loc j.sc x) ∨ j.sc.names.lookup x = some .local := by first | exact .inr rfl | exact .inl ⟨rfl, .inr rfl⟩)
    (hw : ∀ env : Env, swapsWith e (some (.Name x p)) spos.line env = pure false := by intro _; rfl) : D1 j G (.Assign [.Name x p] e spos) D := d1_set i h.sx hN (fun s z => by rw [z]; exact hq) hs hw
/-- (a, b) = a tuple -/
theorem d1_tg {u : List (Nat × Dat)} (h : DX j G e fun d => ∃ u, DG j tg d u ∧ D.nx (setG G u)) (hs : ∀ env : Env, swapsWithSole [tg] e spos.line env = pure false := by intro _; rfl) (hw : ∀ env : Env, swappedStores [tg] e env = pure none := by intro _; rfl)
    (h1 : ∀ env : Env, (assignEach [tg] env).map (·.2) = [assign tg env] := by intro _; rfl) : D1 j G (.Assign [tg] e spos) D := by
  intro X hX σ F0 H0 Fs F H De r ok
  refine ws_of (ps_asg we wg (hs _) (hw _) (h1 _)) ?_
  refine h X hX σ F H _ r.env fun v d F' H' ⟨u, hg, hn⟩ iv g => ?_
  exact hg X hX v σ F' H' _ g.good iv fun vs is => ok.nx _ F' H' _ hn (SR.setAll (r.go g) is)
/-- a, b = x, y -/
theorem d1_par (i l : Nat) {x y : Str} {px py pt pt2 : Pos} {kt k2 : Nat} {S T : Slot → Prop} (ha : SX j G a S) (hb : SX j G b T) (hN : j.N[i]? = some x) (hM : j.N[l]? = some y) (hil : i ≠ l) (hq : ∀ s t, S s → T t → D.nx ((G.set i s).set l t))
    (hx : j.sc.names.lookup x = some .local := by rfl) (hy : j.sc.names.lookup y = some .local := by rfl)
    (hw : ∀ env : Env, env.scope = j.sc → swappedStores [.Tuple [.Name x px, .Name y py] kt pt] (.Tuple [a, b] k2 pt2) env = pure (some [x, y]))
    (hs : ∀ env : Env, swapsWithSole [.Tuple [.Name x px, .Name y py] kt pt] (.Tuple [a, b] k2 pt2) spos.line env = pure false := by intro _; rfl)
    (hst : ∀ env : Env, starEach [a, b] env = (false, eval a env) :: starEach [b] env := by intro _; rfl) (hst2 : ∀ env : Env, starEach [b] env = (false, eval b env) :: starEach [] env := by intro _; rfl) :
    D1 j G (.Assign [.Tuple [.Name x px, .Name y py] kt pt] (.Tuple [a, b] k2 pt2) spos) D := by
  intro X hX σ F0 H0 Fs F H De r ok
  refine ws_of (ps_par (i := i) (j := l) hX.calm hX.nodup (by rw [hX.N]; exact hN) (by rw [hX.N]; exact hM) hil (by rw [hX.sc]; exact hx) (by rw [hX.sc]; exact hy) (pa_cons we (pa_cons we pa_nil (hst2 _)) (hst _)) (hw _ hX.sc) (hs _)) ?_
  refine ha X hX σ F H _ r.env fun v s F1 H1 hS hv ho g1 => ?_
  refine hb X hX σ F1 H1 _ (r.env.gr g1) fun u t F2 H2 hT hu ho2 g2 => ?_
  refine ⟨v, u, rfl, ok.nx _ F2 H2 _ (hq s t hS hT) ?_⟩
  have hv2 : SlotR j.c j.E F2 H2 (some v) s := by
    cases s with
    | no => trivial
    | dat d =>
      obtain ⟨w, z, h⟩ := hv
      exact ⟨w, z, Is.mono g2.ext d w h⟩
    | own zs =>
      obtain ⟨p, vs, z, h2, ⟨h3, h5⟩, h4⟩ := hv
      exact ⟨p, vs, z, g2.stays g1.good h2 (fun _ y => by cases y) h5, ⟨g2.fresh h3 h2, h5⟩, IsL.mono g2.ext zs vs h4⟩
    | owd ks zs =>
      obtain ⟨p, kv, vs, z, h2, ⟨h3, h7⟩, h4, h5, h6⟩ := hv
      exact ⟨p, kv, vs, z, g2.staysD g1.good h2 h7, ⟨g2.freshD h3 h2, h7⟩, h4, KeyAll.mono g2.ext ks kv h5, IsL.mono g2.ext zs vs h6⟩
    | dr => exact hv
  have r2 : SR j F0 H0 Fs F2 H2 (σ.set i (some v)) (G.set i s) := r.put (g1.trans g2) hv2 ho
  refine r2.set hu fun p o e => ⟨(r.go g1).gr.back (ho2 p o e), fun k w hk hw' ow e2 => ?_⟩
  -- the first's object was there when the second's came
  by_cases z : k = i
  · subst z
    by_cases hl : k < G.length
    · rw [List.getElem?_set_self hl] at hw'
      rw [List.getElem?_set_self (by rw [r.env.len]; exact hl)] at e2
      cases hw'; cases e2
      cases s with
      | own zs =>
        obtain ⟨p', vs, z, h2, _⟩ := hv
        cases z
        have := ho2 p o e
        rw [h2] at this; cases this
      | owd ks zs =>
        obtain ⟨p', kv, vs, z, ⟨ep, h2⟩, _⟩ := hv
        cases z
        have := ho2 p o e
        rw [h2] at this; cases this
      | no => cases ow
      | dat _ => cases ow
      | dr => cases ow
    · rw [List.getElem?_eq_none (by rw [List.length_set]; omega)] at hw'; cases hw'
  · rw [List.getElem?_set_ne (Ne.symm z)] at hw' e2
    exact (r.go g1).env.ownThere hw' ow e2 (ho2 p o e)

/-! ### if, return -/
theorem d1_ifX {T : Bool → Prop} (hc : DTX j G c0 T) (ha : T true → DS j G body D) (hb : T false → DS j G els D) : D1 j G (.If c0 body els spos) D := by
  intro X hX σ F0 H0 Fs F H De r ok
  refine ws_of (ps_if wt wss wss) (hc X hX σ F H _ r.env fun b F1 H1 hT g1 => ?_)
  cases b with
  | true => exact ha hT X hX σ F0 H0 Fs F1 H1 De (r.go g1) ok
  | false => exact hb hT X hX σ F0 H0 Fs F1 H1 De (r.go g1) ok
theorem d1_if (hc : DT j G c0 k) (ha : k = true → DS j G body D) (hb : k = false → DS j G els D) : D1 j G (.If c0 body els spos) D := d1_ifX (T := fun b => k = b) (hc.toX rfl) ha hb
theorem d1_retX {R : Dat → Prop} (h : DX j G e R) (hq : ∀ d, R d → D.rt d) : D1 j G (.Return (some e) spos) D := fun X hX σ F0 H0 Fs F H De r ok =>
  ws_of (ps_ret we) (h X hX σ F H _ r.env fun v d F' H' hR i g => ok.rt v d F' H' (hq d hR) i (r.gr.trans g))
theorem d1_ret (h : DE j G e d) (hq : D.rt d) : D1 j G (.Return (some e) spos) D := d1_retX (h.toX (R := (· = d)) rfl) fun d' z => by rw [z]; exact hq
theorem d1_retL (h : LE j G e xs) (hq : D.ro xs) : D1 j G (.Return (some e) spos) D := fun X hX σ F0 H0 Fs F H De r ok =>
  ws_of (ps_ret we) (h X hX σ F H _ r.env fun p vs F' H' a1 a2 a3 a4 g => ok.ro p vs xs F' H' hq (r.gr.back a1) a2 a3 a4 (r.gr.trans g))
/-- a list of its own is handed back -/
theorem d1_retO (i : Nat) {x : Str} {p : Pos} (hi : G[i]? = some (.own xs)) (hN : j.N[i]? = some x) (hv : Vis j.sc x) (hq : D.ro xs) (h1 : (x == ("__debug__" : Str)) = false := by decide) (h2 : (x == ("__classdict__" : Str)) = false := by decide) : D1 j G (.Return (some (.Name x p)) spos) D := by
  intro X hX σ F0 H0 Fs F H De r ok
  obtain ⟨q, vs, e1, e2, e3, e4⟩ := r.env.own hi
  exact ws_of (ps_ret (pe_var (i := i) (by rw [hX.N]; exact hN) (by rw [hX.sc]; exact hv) h1 h2)) ⟨_, e1, ok.ro q vs xs F H hq (r.young i _ q hi rfl e1) e3 e2 e4 r.gr⟩
theorem d1_retF (i : Nat) {x : Str} {p : Pos} (hi : G[i]? = some (.own xs)) (hN : j.N[i]? = some x) (hv : Vis j.sc x) (hq : D.rt (.lst xs)) (h1 : (x == ("__debug__" : Str)) = false := by decide) (h2 : (x == ("__classdict__" : Str)) = false := by decide) : D1 j G (.Return (some (.Name x p)) spos) D := by
  intro X hX σ F0 H0 Fs F H De r ok
  obtain ⟨q, vs, e1, e2, e3, e4⟩ := r.env.own hi
  refine ws_of (ps_ret (pe_var (i := i) (by rw [hX.N]; exact hN) (by rw [hX.sc]; exact hv) h1 h2)) ⟨_, e1, ok.rt _ (.lst xs) (upd F q (.lst vs)) H hq (is_lst.mpr ⟨q, vs, rfl, upd_same, IsL.mono (ext_upd e3.1) xs vs e4⟩) ?_⟩
  exact r.gr.froze (r.young i _ q hi rfl e1) e3 e2 fun _ z => by cases z
end
end Cal
set_option Elab.async false
set_option linter.all false
set_option maxRecDepth 100000
set_option maxHeartbeats 4000000
namespace Cal
open PySem PySem.Spec PyProof.Rows L2

/-! ### what is walked -/
/-- from F on, J hands out ds, one behind another -/
structure Walk (c : Cfg) (E : Addr → Prop) (J : It) (F : Hp) (ds : List Dat) : Prop where
  go : ∀ i F1 H1, Ext F F1 → Good c E F1 H1 → i < ds.length → J.go i H1
  yld : ∀ i F1 H1 x H2, Ext F F1 → Good c E F1 H1 → J.yld i H1 x H2 → i < ds.length → ∃ d F2, ds[i]? = some d ∧ Is c F2 d x ∧ Gr c E F1 H1 F2 H2
  stop : ∀ i F1 H1, Ext F F1 → Good c E F1 H1 → i = ds.length → J.stop i H1
def IT (j : J) (G : List Slot) (tg iter : Expr) (ds : List Dat) : Prop := ∀ X, At j X → ∀ σ F H (R : It → Hp → Prop), EnvR j.c j.E F H σ G →
  (∀ J F1 H1, Walk j.c j.E J F1 ds → Gr j.c j.E F H F1 H1 → R J H1) → WI X tg iter σ H R
/-- .. how many they are is not known -/
def ITX (j : J) (G : List Slot) (tg iter : Expr) (R0 : List Dat → Prop) : Prop := ∀ X, At j X → ∀ σ F H (R : It → Hp → Prop), EnvR j.c j.E F H σ G →
  (∀ ds J F1 H1, R0 ds → Walk j.c j.E J F1 ds → Gr j.c j.E F H F1 H1 → R J H1) → WI X tg iter σ H R
/-- .. after an own list was changed -/
def ITM (j : J) (G : List Slot) (tg iter : Expr) (R0 : List Dat → List Slot → Prop) : Prop := ∀ X, At j X → ∀ σ F0 H0 Fs F H (R : It → Hp → Prop), SR j F0 H0 Fs F H σ G →
  (∀ ds J G1 F1 H1, R0 ds G1 → Walk j.c j.E J F1 ds → SR j F0 H0 Fs F1 H1 σ G1 → R J H1) → WI X tg iter σ H R
section
variable {j : J} {G G' : List Slot} {D D' : DEnds} {st : Stmt} {sts body els : List Stmt} {e a b c0 tg iter elt : Expr} {es ifs : List Expr} {pos spos p : Pos} {F0 H0 Fs F H F' H' : Hp} {σ : L2.St} {d : Dat} {ds xs ys : List Dat} {i l : Nat} {m n : Int} {k : Bool}
theorem IT.toX {R0 : List Dat → Prop} (h : IT j G tg iter ds) (hr : R0 ds) : ITX j G tg iter R0 := fun X hX σ F H R hE hq => h X hX σ F H R hE fun J F1 H1 w g => hq ds J F1 H1 hr w g
theorem ITX.toM {R0 : List Dat → Prop} {R1 : List Dat → List Slot → Prop} (h : ITX j G tg iter R0) (hr : ∀ ds, R0 ds → R1 ds G) : ITM j G tg iter R1 := fun X hX σ F0 H0 Fs F H R r hq => h X hX σ F H R r.env fun ds J F1 H1 h0 w g => hq ds J G F1 H1 (hr ds h0) w (r.go g)
theorem walk_list {c : Cfg} {E : Addr → Prop} {q : Addr} {vs : List V} (h : F q = some (.lst vs)) (h2 : IsL c F ds vs) : Walk c E (Itl c.K q) F ds where
  go := fun i F1 H1 x g hi => by
    have hl := h2.len
    exact ⟨vs, vs[i]'(by omega), SqL.of (g.ext _ _ (x _ _ h)), List.getElem?_eq_getElem (by omega)⟩
  yld := fun i F1 H1 x H2 xt g y hi => by
    obtain ⟨rfl, y⟩ := y
    have e := y vs (SqL.of (g.ext _ _ (xt _ _ h)))
    obtain ⟨d, e1, e2⟩ := h2.at' e
    exact ⟨d, F1, e1, Is.mono xt d x e2, Gr.refl g⟩
  stop := fun i F1 H1 x g hi => ⟨vs, SqL.of (g.ext _ _ (x _ _ h)), by have := h2.len; omega⟩
theorem walk_tup {c : Cfg} {E : Addr → Prop} {q : Addr} {vs : List V} (h : SqT c.K F q vs) (h2 : IsL c F ds vs) : Walk c E (Itt c.K q) F ds where
  go := fun i F1 H1 x g hi => by
    have hl := h2.len
    exact ⟨vs, vs[i]'(by omega), (x.trans g.ext).t h, List.getElem?_eq_getElem (by omega)⟩
  yld := fun i F1 H1 x H2 xt g y hi => by
    obtain ⟨rfl, y⟩ := y
    have e := y vs ((xt.trans g.ext).t h)
    obtain ⟨d, e1, e2⟩ := h2.at' e
    exact ⟨d, F1, e1, Is.mono xt d x e2, Gr.refl g⟩
  stop := fun i F1 H1 x g hi => ⟨vs, (x.trans g.ext).t h, by have := h2.len; omega⟩
theorem walk_rng {c : Cfg} {E : Addr → Prop} {lo : Int} {n : Nat} : Walk c E (Itr lo n) F ((List.range n).map fun i => Dat.int (lo + (i : Nat))) where
  go := fun i F1 H1 x g hi => show i < n by simpa using hi
  yld := fun i F1 H1 x H2 xt g y hi => by
    obtain ⟨rfl, rfl⟩ := y
    have hi : i < n := by simpa using hi
    exact ⟨.int (lo + (i : Nat)), F1, by simp [hi], is_int.mpr rfl, Gr.refl g⟩
  stop := fun i F1 H1 x g hi => show n ≤ i by rw [hi]; simp
theorem it_list (h : DE j G e (.lst ds)) : IT j G tg e ds := fun X hX σ F H R hE hq => wi_of (pi_list we) (h X hX σ F H _ hE fun v F1 H1 i1 g1 => by
  obtain ⟨q, vs, rfl, h2, h3⟩ := is_lst.mp i1
  exact ⟨q, rfl, ⟨vs, SqL.of (g1.good.ext _ _ h2)⟩, by rw [hX.K]; exact hq _ F1 H1 (walk_list h2 h3) g1⟩)
theorem it_tup (h : DE j G e (.tup ds)) : IT j G tg e ds := fun X hX σ F H R hE hq => wi_of (pi_tup we) (h X hX σ F H _ hE fun v F1 H1 i1 g1 => by
  obtain ⟨q, vs, rfl, h2, h3⟩ := is_tup.mp i1
  exact ⟨q, rfl, ⟨vs, by rw [hX.K]; exact g1.good.ext.t h2⟩, by rw [hX.K]; exact hq _ F1 H1 (walk_tup h2 h3) g1⟩)
theorem itx_rng1 {R : Dat → Prop} {p1 : Pos} (h : DX j G e R) (hm : j.c.mg "range" = none) (hR : ∀ d, R d → ∃ n : Int, d = .int n ∧ 0 ≤ n ∧ n ≤ 1000000) (hg : GlN j "range" := by rfl) (hs : Stars e := by intro _; rfl) :
    ITX j G tg (.Call (.Name "range" p1) [e] [] pos) (fun ds => ∃ n : Int, R (.int n) ∧ 0 ≤ n ∧ ds = rgD 0 n) := by
  intro X hX σ F H R' hE hq
  refine wi_of (pi_range1 (hX.gl hg) (by rw [hX.mg]; exact hm) (pa_cons we pa_nil (hs _)) (hs _)) (h X hX σ F H _ hE fun v d F1 H1 hd i1 g1 => ?_)
  obtain ⟨n, rfl, h0, h1⟩ := hR d hd
  refine ⟨n, by rw [is_int.mp i1], by omega, by omega, ?_⟩
  refine hq (rgD 0 n) _ F1 H1 ⟨n, hd, h0, rfl⟩ ?_ g1
  have : rgD 0 n = (List.range n.toNat).map fun i => Dat.int (0 + (i : Nat)) := by unfold rgD; simp
  rw [this]
  exact walk_rng
theorem it_rng1 {p1 : Pos} (h : DE j G e (.int n)) (hm : j.c.mg "range" = none) (hn : 0 ≤ n ∧ n ≤ 1000000) (hg : GlN j "range" := by rfl) (hs : Stars e := by intro _; rfl) : IT j G tg (.Call (.Name "range" p1) [e] [] pos) (rgD 0 n) :=
  fun X hX σ F H R hE hq => itx_rng1 (h.toX (R := (· = .int n)) rfl) hm (fun d hd => ⟨n, hd, hn.1, hn.2⟩) hg hs X hX σ F H R hE fun ds J F1 H1 ⟨n', e1, _, e2⟩ w g => by
    cases e1; subst e2
    exact hq J F1 H1 w g
theorem it_rng2 {p1 : Pos} (h : DE j G a (.int m)) (h2 : DE j G b (.int n)) (hm : j.c.mg "range" = none) (hn : 0 ≤ m ∧ m ≤ 1000000 ∧ 0 ≤ n ∧ n ≤ 1000000) (hg : GlN j "range" := by rfl)
    (hs : ∀ env : Env, starEach [a, b] env = [(false, eval a env), (false, eval b env)] := by intro _; rfl) (hs2 : Stars b := by intro _; rfl) : IT j G tg (.Call (.Name "range" p1) [a, b] [] pos) (rgD m n) := by
  intro X hX σ F H R' hE hq
  refine wi_of (pi_range2 (hX.gl hg) (by rw [hX.mg]; exact hm) (pa_cons we (pa_cons we pa_nil (hs2 _)) (by rw [hs, hs2]; rfl)) (hs _) (by rw [hs2]; rfl)) (h X hX σ F H _ hE fun v F1 H1 i1 g1 => h2 X hX σ F1 H1 _ (hE.gr g1) fun u F2 H2 i2 g2 => ?_)
  refine ⟨m, n, by rw [is_int.mp i1, is_int.mp i2], ⟨by omega, by omega, by omega, by omega⟩, ?_⟩
  exact hq _ F2 H2 walk_rng (g1.trans g2)
/-! zip -/
def zipD : List Dat → List Dat → List Dat
  | x :: xs, y :: ys => .tup [x, y] :: zipD xs ys
  | _, _ => []
theorem zipD_len : ∀ xs ys : List Dat, (zipD xs ys).length = min xs.length ys.length
  | [], ys => by simp [zipD]
  | x :: xs, [] => by simp [zipD]
  | x :: xs, y :: ys => by simp [zipD, zipD_len xs ys]
theorem zipD_at : ∀ {xs ys : List Dat} {i : Nat} {x y : Dat}, xs[i]? = some x → ys[i]? = some y → (zipD xs ys)[i]? = some (.tup [x, y])
  | [], _, i, x, y, h, _ => by simp at h
  | _ :: _, [], i, x, y, _, h => by simp at h
  | x0 :: xs, y0 :: ys, 0, x, y, h, k => by cases h; cases k; rfl
  | x0 :: xs, y0 :: ys, i + 1, x, y, h, k => by
    show (zipD xs ys)[i]? = _
    exact zipD_at (by simpa using h) (by simpa using k)
theorem laid_pair {c : Cfg} {E : Addr → Prop} {T : Addr} {x y : V} {dx dy : Dat} (g : Good c E F H) (hT : H T = none) (h1 : Is c F dx x) (h2 : Is c F dy y) : ∃ F2, Is c F2 (.tup [dx, dy]) (.ref T) ∧ Gr c E F H F2 (upd H T (.tup [x, y])) := by
  have g2 := Gr.laid (E := E) g (o := .tup [x, y]) hT
  exact ⟨_, is_tup.mpr ⟨T, [x, y], rfl, SqT.of upd_same, IsL.cons (Is.mono g2.ext _ _ h1) (IsL.cons (Is.mono g2.ext _ _ h2) IsL.nil)⟩, g2⟩
theorem walk_zipT {c : Cfg} {E : Addr → Prop} {q r : Addr} {vs us : List V} (h1 : SqT c.K F q vs) (i1 : IsL c F xs vs) (h2 : SqT c.K F r us) (i2 : IsL c F ys us) : Walk c E (RZ.ItzT c.K q r) F (zipD xs ys) where
  go := fun i F1 H1 x g hi => by
    rw [zipD_len] at hi
    have l1 := i1.len
    have l2 := i2.len
    exact ⟨vs, us, vs[i]'(by omega), us[i]'(by omega), (x.trans g.ext).t h1, (x.trans g.ext).t h2, List.getElem?_eq_getElem (by omega), List.getElem?_eq_getElem (by omega)⟩
  yld := fun i F1 H1 x H2 xt g y hi => by
    obtain ⟨T, v, u, rfl, hT, rfl, y1, y2⟩ := y
    obtain ⟨dv, e1, e2⟩ := i1.at' (y1 vs ((xt.trans g.ext).t h1))
    obtain ⟨du, e3, e4⟩ := i2.at' (y2 us ((xt.trans g.ext).t h2))
    obtain ⟨F2, z1, z2⟩ := laid_pair g hT (Is.mono xt _ _ e2) (Is.mono xt _ _ e4)
    exact ⟨_, F2, zipD_at e1 e3, z1, z2⟩
  stop := fun i F1 H1 x g hi => ⟨vs, us, (x.trans g.ext).t h1, (x.trans g.ext).t h2, by rw [zipD_len] at hi; have := i1.len; have := i2.len; omega⟩
theorem it_zipT {kk : Nat} {tpos p1 : Pos} (h : DE j G a (.tup xs)) (h2 : DE j G b (.tup ys)) (hm : j.c.mg "zip" = none) (hg : GlN j "zip" := by rfl)
    (hs : ∀ env : Env, starEach [a, b] env = (false, eval a env) :: starEach [b] env := by intro _; rfl) (hs2 : Stars b := by intro _; rfl) (hpl : ∀ env : Env, (backTo pos (starEach [b] env)).any (·.1) = false := by intro _; rfl) :
    IT j G (.Tuple es kk tpos) (.Call (.Name "zip" p1) [a, b] [] pos) (zipD xs ys) := by
  intro X hX σ F H R' hE hq
  refine wi_of (RZ.pi_zipA (hX.gl hg) (by rw [hX.mg]; exact hm) (pa_cons we (pa_cons we pa_nil (hs2 _)) (hs _)) (hs _) (hpl _)) (h X hX σ F H _ hE fun v F1 H1 i1 g1 => h2 X hX σ F1 H1 _ (hE.gr g1) fun u F2 H2 i2 g2 => ?_)
  obtain ⟨q, vs, rfl, z1, z2⟩ := is_tup.mp (Is.mono g2.ext _ _ i1)
  obtain ⟨r, us, rfl, z3, z4⟩ := is_tup.mp i2
  exact ⟨q, r, vs, us, rfl, .inr ⟨by rw [hX.K]; exact g2.good.ext.t z1, by rw [hX.K]; exact g2.good.ext.t z3, by rw [hX.K]; exact hq _ F2 H2 (walk_zipT z1 z2 z3 z4) (g1.trans g2)⟩⟩

/-! ### for -/
/-- as: what is walked, as things of a type; P: the state by what is still to come -/
theorem d1_forM {A : Type} {enc : A → Dat} {R0 : List Dat → List Slot → Prop} (P : List A → List Slot → Prop) (hi : ITM j G tg iter R0) (h0 : ∀ ds G', R0 ds G' → ∃ as : List A, ds = as.map enc ∧ P as G')
    (hs : ∀ a as G, P (a :: as) G → ∃ u, DG j tg (enc a) u ∧ DS j (setG G u) body { D with nx := fun G2 => ∃ G3, Wk G2 G3 ∧ P as G3 }) (hd : ∀ G, P [] G → D.nx G)
    (hf : ∀ (env : Env) x, foldedSetIterable iter env x = pure x := by intro _ _; rfl) : D1 j G (.For tg iter body [] spos) D := by
  intro X hX σ F0 H0 Fs F H De r ok
  have hp : PassesOwn (model X.prog X.w) X.A X.env X.xe := by rw [hX.xe]; exact PassesOwn.never
  refine ws_of (ps_for hp hX.calm wi wg wss (hf _)) (hi X hX σ F0 H0 Fs F H _ r fun ds J G1 F1 H1 hR w r1 => ?_)
  obtain ⟨as, rfl, hP⟩ := h0 ds G1 hR
  refine ⟨fun i m σ H => ∃ F G, SR j F0 H0 Fs F H σ G ∧ Ext F1 F ∧ i ≤ as.length ∧ m = as.length - i ∧ P (as.drop i) G, ⟨_, F1, G1, r1, Ext.refl _, Nat.zero_le _, rfl, hP⟩, ?_⟩
  rintro i m σ2 H2 ⟨F2, G2, r2, x2, hi2, rfl, p2⟩
  by_cases hlt : i < as.length
  · refine .inr ⟨w.go i F2 H2 x2 r2.env.good (by simpa using hlt), fun σ' H' => ∃ F' G', SR j F0 H0 Fs F' H' σ' G' ∧ Ext F1 F' ∧ P (as.drop (i + 1)) G', fun σ' H' ⟨F', G', a1, a2, a3⟩ => ⟨as.length - (i + 1), by omega, F', G', a1, a2, hlt, rfl, a3⟩, fun x H3 y => ?_⟩
    obtain ⟨d, F3, e1, e2, g3⟩ := w.yld i F2 H2 x H3 x2 r2.env.good y (by simpa using hlt)
    have e3 : d = enc as[i] := by
      rw [List.getElem?_map, List.getElem?_eq_getElem hlt] at e1
      exact (Option.some.inj e1).symm
    subst e3
    rw [List.drop_eq_getElem_cons hlt] at p2
    obtain ⟨u, hu, hb⟩ := hs _ _ _ p2
    refine hu X hX x σ2 F3 H3 _ g3.good e2 fun vs iv => ?_
    have r3 := SR.setAll (r2.go g3) iv
    -- the body is entered with F3 as its floor
    refine hb X hX _ F0 H0 F3 F3 H3 _ ⟨r3.env, r3.gr, r3.young, Ext.refl _⟩ ⟨fun σ' F' H' G' ⟨G3, wk, hP'⟩ r' => ?_, ok.rt, ok.ro⟩
    have r'' := r'.wk wk
    exact ⟨F', G3, ⟨r''.env, r''.gr, r''.young, (r2.base.trans g3.ext).trans r''.base⟩, (x2.trans g3.ext).trans r''.base, hP'⟩
  · have e : i = as.length := by omega
    subst e
    refine .inl ⟨w.stop _ F2 H2 x2 r2.env.good (by simp), ok.nx σ2 F2 H2 G2 (hd G2 ?_) r2⟩
    rw [List.drop_length] at p2
    exact p2
theorem d1_for {A : Type} {enc : A → Dat} {as : List A} (P : List A → List Slot → Prop) (hi : IT j G tg iter (as.map enc)) (h0 : P as G)
    (hs : ∀ a as G, P (a :: as) G → ∃ u, DG j tg (enc a) u ∧ DS j (setG G u) body { D with nx := fun G2 => ∃ G3, Wk G2 G3 ∧ P as G3 }) (hd : ∀ G, P [] G → D.nx G)
    (hf : ∀ (env : Env) x, foldedSetIterable iter env x = pure x := by intro _ _; rfl) : D1 j G (.For tg iter body [] spos) D :=
  d1_forM (R0 := fun ds G' => ds = as.map enc ∧ G' = G) P ((hi.toX (R0 := (· = as.map enc)) rfl).toM fun ds h => ⟨h, rfl⟩) (fun ds G' ⟨h1, h2⟩ => ⟨as, h1, h2 ▸ h0⟩) hs hd hf
/-! ### while -/
theorem d1_while (P : Nat → List Slot → Prop) {m0 : Nat} (h0 : P m0 G) (hs : ∀ m G, P m G → ∃ b, DT j G c0 b ∧ (b = true → DS j G body { D with nx := fun G2 => ∃ G3 m', Wk G2 G3 ∧ m' < m ∧ P m' G3 }) ∧ (b = false → D.nx G)) : D1 j G (.While c0 body [] spos) D := by
  intro X hX σ F0 H0 Fs F H De r ok
  have hp : PassesOwn (model X.prog X.w) X.A X.env X.xe := by rw [hX.xe]; exact PassesOwn.never
  refine ws_of (ps_while hp wt wss) ⟨fun m σ H => ∃ F G, SR j F0 H0 Fs F H σ G ∧ P m G, ⟨m0, F, G, r, h0⟩, ?_⟩
  rintro m σ2 H2 ⟨F2, G2, r2, p2⟩
  obtain ⟨b, hb, ht, hf⟩ := hs m G2 p2
  refine hb X hX σ2 F2 H2 _ r2.env fun F3 H3 g3 => ?_
  cases b with
  | true =>
    refine ⟨fun σ' H' => ∃ m', m' < m ∧ ∃ F' G', SR j F0 H0 Fs F' H' σ' G' ∧ P m' G', fun σ' H' h => h, ht rfl X hX σ2 F0 H0 Fs F3 H3 _ (r2.go g3) ⟨fun σ' F' H' G' ⟨G3, m', wk, hm, hP⟩ r' => ⟨m', hm, F', G3, r'.wk wk, hP⟩, ok.rt, ok.ro⟩⟩
  | false => exact ok.nx σ2 F3 H3 G2 (hf rfl) (r2.go g3)

/-! ### comprehensions -/
/-- the block's kind of context -/
def jB (j : J) (scope : Scope) : J := { j with sc := relS scope j.sc, lam := none, blk := true }
theorem At.blkAt {X : Cx} (hX : At j X) {scope : Scope} (s : Shared) (H : Hp) (cl : List (Str × Addr)) (C : Addr) (fp : List Addr) : At (jB j scope) (X.blk s H scope (compEnvC scope cl C X.env) fp) where
  prog := hX.prog
  w := hX.w
  K := hX.K
  mg := hX.mg
  base := hX.base
  N := hX.N
  sc := by
    show relS scope X.env.scope = _
    rw [hX.sc]; rfl
  calm := hX.calm
  room := hX.room
  nd := hX.nd
  fn := fun z => by cases z
  lam := fun p z => by cases z
  xe := rfl
def UE (j : J) (e : Expr) : TE := fun σ H q => ∀ X, At j X → WE X e σ H q
def UG (j : J) (tg : Expr) : TG := fun v σ H q => ∀ X, At j X → WG X tg v σ H q
def UI (j : J) (tg iter : Expr) : TI := fun σ H q => ∀ X, At j X → WI X tg iter σ H q
def UTs (j : J) (ifs : List Expr) : TT := fun σ H q => ∀ X, At j X → ∀ pins s, Inv X pins σ H s →
  wpAny (model X.prog X.w) X.A (forIn ifs true fun c r => if r = true then do let ok ← isTrue c X.env (eval c X.env); pure (ForInStep.yield ok) else pure (ForInStep.yield r)) (TP X pins σ q) X.xe s
theorem ue {X : Cx} (hX : At j X) : PE X e (UE j e) := ⟨fun pins s σ H q I h => we.run pins s σ H q I (h X hX)⟩
theorem ug {X : Cx} (hX : At j X) : PG X tg (UG j tg) := ⟨fun pins s σ H v u q I r h => wg.run pins s σ H v u q I r (h X hX)⟩
theorem ui {X : Cx} (hX : At j X) : PI X tg iter (UI j tg iter) := ⟨fun pins s σ H R I h => wi.run pins s σ H R I (h X hX)⟩
theorem uts {X : Cx} (hX : At j X) : PTs X ifs (UTs j ifs) := ⟨fun pins s σ H q I h => h X hX pins s I⟩
/-- the reading of a comprehension, from the walk -/
theorem lc_read {scope : Scope} {vs : List Nat} {X : Cx} (hX : At j X) {R0 : List Dat → Prop} (hi : ITX j G tg iter R0) (Acc : List Dat → Nat → List Dat → Prop) (hz : ∀ ds, R0 ds → ds.length ≤ 1000000) (h0 : ∀ ds, R0 ds → Acc ds 0 [])
    (hs : ∀ ds i d ys, R0 ds → ds[i]? = some d → Acc ds i ys → ∃ u, DG (jB j scope) tg d u ∧ (∀ k ∈ u.map (·.1), k ∈ vs) ∧ ∃ Rb : Bool → Prop, DIX (jB j scope) (setG (wipeG G vs) u) ifs Rb ∧ (Rb false → Acc ds (i + 1) ys) ∧ (Rb true → DX (jB j scope) (setG (wipeG G vs) u) elt fun y => Acc ds (i + 1) (ys ++ [y])))
    {q : VK} (hE : EnvR j.c j.E F H σ G) (hq : ∀ p vs xs F' H', (∃ ds, R0 ds ∧ Acc ds ds.length xs) → H p = none → (F' p = none ∧ ¬ j.E p) → H' p = some (.lst vs) → IsL j.c F' xs vs → Gr j.c j.E F H F' H' → q (.ref p) H') :
    tLc (WI X tg iter) (UG (jB j scope) tg) (UTs (jB j scope) ifs) (UE (jB j scope) elt) vs σ H q := by
  refine hi X hX σ F H _ hE fun ds J F1 H1 hR w g1 => ?_
  intro B hB
  have gB : Gr j.c j.E F H F1 (upd H1 B (.lst [])) := g1.trans (Gr.made g1.good hB)
  have nB : H B = none := g1.back hB
  have bB := g1.good.back hB
  refine ⟨fun i m H2 => ∃ F2 ys us, Gr j.c j.E F H F2 H2 ∧ Ext F1 F2 ∧ H2 B = some (.lst us) ∧ (F2 B = none ∧ ¬ j.E B) ∧ IsL j.c F2 ys us ∧ i ≤ ds.length ∧ m = ds.length - i ∧ Acc ds i ys ∧ ys.length ≤ i, ⟨_, F1, [], [], gB, Ext.refl _, upd_same, bB, IsL.nil, Nat.zero_le _, rfl, h0 ds hR, Nat.zero_le _⟩, ?_⟩
  rintro i m H2 ⟨F2, ys, us, g2, x2, hB2, bB2, iy, hi2, rfl, ha, hle⟩
  by_cases hlt : i < ds.length
  · refine .inr ⟨w.go i F2 H2 x2 g2.good hlt, fun H2 => ∃ F2 ys us, Gr j.c j.E F H F2 H2 ∧ Ext F1 F2 ∧ H2 B = some (.lst us) ∧ (F2 B = none ∧ ¬ j.E B) ∧ IsL j.c F2 ys us ∧ Acc ds (i + 1) ys ∧ ys.length ≤ i + 1, fun H' ⟨F', ys', us', a1, a2, a3, a4, a5, a6, a7⟩ => ⟨ds.length - (i + 1), by omega, F', ys', us', a1, a2, a3, a4, a5, hlt, rfl, a6, a7⟩, fun x H3 y => ?_⟩
    obtain ⟨d, F3, e1, e2, g3⟩ := w.yld i F2 H2 x H3 x2 g2.good y hlt
    obtain ⟨u, hu, huv, Rb, hb, hbf, hbt⟩ := hs ds i d ys hR e1 ha
    intro X' hX'
    refine hu X' hX' x _ F3 H3 _ g3.good e2 fun vs' iv => ?_
    have E3 : EnvR j.c j.E F3 H3 (setS (L2.wipe σ vs) u vs') (setG (wipeG G vs) u) := EnvR.setAll ((hE.gr (g2.trans g3)).wipe vs) iv
    have fB3 : F3 B = none := g3.fresh bB2.1 hB2
    have hB3 : H3 B = some (.lst us) := g3.stays g2.good hB2 (fun _ z => by cases z) bB2.2
    refine ⟨by rw [wipe_setS huv, wipe_wipe], fun X'' hX'' => hb X'' hX'' _ F3 H3 _ E3 fun b F4 H4 hRb g4 => ?_⟩
    have fB4 : F4 B = none := g4.fresh fB3 hB3
    have hB4 : H4 B = some (.lst us) := g4.stays g3.good hB3 (fun _ z => by cases z) bB2.2
    have x4 := (x2.trans g3.ext).trans g4.ext
    have y4 := g3.ext.trans g4.ext
    cases b with
    | false =>
      rw [if_neg Bool.false_ne_true]
      exact ⟨F4, ys, us, (g2.trans g3).trans g4, x4, hB4, ⟨fB4, bB2.2⟩, IsL.mono y4 ys us iy, hbf hRb, by omega⟩
    | true =>
      rw [if_pos rfl]
      intro X3 hX3
      refine hbt hRb X3 hX3 _ F4 H4 _ (E3.gr g4) fun v y F5 H5 hy i5 g5 => ?_
      have fB5 : F5 B = none := g5.fresh fB4 hB4
      have hB5 : H5 B = some (.lst us) := g5.stays g4.good hB4 (fun _ z => by cases z) bB2.2
      have ll := iy.len
      have zz := hz ds hR
      refine ⟨us, hB5, Nat.lt_of_lt_of_le (by omega : us.length < 2000000) (by decide), F5, ys ++ [y], us ++ [v], ?_, x4.trans g5.ext, upd_same, ⟨fB5, bB2.2⟩, (IsL.mono (y4.trans g5.ext) ys us iy).snoc i5, hy, by rw [List.length_append, List.length_singleton]; omega⟩
      exact Gr.wrote (((g2.trans g3).trans g4).trans g5) nB hB5 fB5 (fun _ z => by cases z) (fun _ z => by cases z) bB2.2
  · have e : i = ds.length := by omega
    subst e
    exact .inl ⟨w.stop _ F2 H2 x2 g2.good rfl, hq B us ys F2 H2 ⟨ds, hR, ha⟩ nB bB2 hB2 iy g2⟩
theorem At.blkOk {X : Cx} (hX : At j X) {scope : Scope} {own : List (Str × Nat)} (h : blkC j.N j.sc scope own = true) : BlkOk X.N X.env.scope scope own := by
  rw [hX.N, hX.sc]
  exact blkOk_by h
/-- [elt for tg in iter if ..] -/
theorem lx_comp {scope : Scope} (own : List (Str × Nat)) {R0 : List Dat → Prop} (hi : ITX j G tg iter R0) (ok : blkC j.N j.sc scope own = true) (Acc : List Dat → Nat → List Dat → Prop) (hz : ∀ ds, R0 ds → ds.length ≤ 1000000) (h0 : ∀ ds, R0 ds → Acc ds 0 [])
    (hs : ∀ ds i d ys, R0 ds → ds[i]? = some d → Acc ds i ys → ∃ u, DG (jB j scope) tg d u ∧ (∀ k ∈ u.map (·.1), k ∈ own.map (·.2)) ∧ ∃ Rb : Bool → Prop, DIX (jB j scope) (setG (wipeG G (own.map (·.2))) u) ifs Rb ∧ (Rb false → Acc ds (i + 1) ys) ∧ (Rb true → DX (jB j scope) (setG (wipeG G (own.map (·.2))) u) elt fun y => Acc ds (i + 1) (ys ++ [y])))
    (hf : ∀ (env : Env) x, foldedSetIterable iter env x = pure x := by intro _ _; rfl) : LX j G (.ListComp elt [⟨tg, iter, ifs, 0⟩] scope pos) (fun xs => ∃ ds, R0 ds ∧ Acc ds ds.length xs) := by
  intro X hX σ F H q hE hq
  refine we_of (pe_lc hX.calm hX.nodup wi (hX.blkOk ok) (fun s H C cl fp => ug (hX.blkAt s H cl C fp)) (fun s H C cl fp => uts (hX.blkAt s H cl C fp)) (fun s H C cl fp => ue (hX.blkAt s H cl C fp)) (hf _)) ?_
  exact lc_read hX hi Acc hz h0 hs hE hq
/-- name = [elt for tg in iter if ..], on one line -/
theorem d1_comp (k : Nat) {x : Str} {py : Pos} {scope : Scope} (own : List (Str × Nat)) {R0 : List Dat → Prop} (hi : ITX j G tg iter R0) (ok : blkC j.N j.sc scope own = true) (Acc : List Dat → Nat → List Dat → Prop) (hz : ∀ ds, R0 ds → ds.length ≤ 1000000) (h0 : ∀ ds, R0 ds → Acc ds 0 [])
    (hs : ∀ ds i d ys, R0 ds → ds[i]? = some d → Acc ds i ys → ∃ u, DG (jB j scope) tg d u ∧ (∀ k ∈ u.map (·.1), k ∈ own.map (·.2)) ∧ ∃ Rb : Bool → Prop, DIX (jB j scope) (setG (wipeG G (own.map (·.2))) u) ifs Rb ∧ (Rb false → Acc ds (i + 1) ys) ∧ (Rb true → DX (jB j scope) (setG (wipeG G (own.map (·.2))) u) elt fun y => Acc ds (i + 1) (ys ++ [y])))
    (hN : j.N[k]? = some x) (hl : j.sc.names.lookup x = some .local) (hq : ∀ xs, (∃ ds, R0 ds ∧ Acc ds ds.length xs) → D.nx (G.set k (.own xs))) 
    (hsw : ∀ env : Env, env.scope = j.sc → swapsWith (.ListComp elt [⟨tg, iter, ifs, 0⟩] scope pos) (some (.Name x py)) spos.line env = pure true)
    (hf : ∀ (env : Env) x, foldedSetIterable iter env x = pure x := by intro _ _; rfl) : D1 j G (.Assign [.Name x py] (.ListComp elt [⟨tg, iter, ifs, 0⟩] scope pos) spos) D := by
  intro X hX σ F0 H0 Fs F H De r okE
  refine ws_of (ps_setLc (i := k) hX.calm hX.nodup (by rw [hX.N]; exact hN) (by rw [hX.sc]; exact hl) (hsw _ hX.sc) wi (hX.blkOk ok) (fun s H C cl fp => ug (hX.blkAt s H cl C fp)) (fun s H C cl fp => uts (hX.blkAt s H cl C fp)) (fun s H C cl fp => ue (hX.blkAt s H cl C fp)) (hf _)) ?_
  refine lc_read hX hi Acc hz h0 hs r.env fun p vs xs F' H' hx a1 a2 a3 a4 g => ?_
  exact okE.nx _ F' H' _ (hq xs hx) (r.put (s := .own xs) g ⟨p, vs, rfl, a3, a2, a4⟩ fun p' _ z => by cases z; exact a1)
end
end Cal
set_option Elab.async false
set_option linter.all false
set_option maxRecDepth 100000
set_option maxHeartbeats 4000000
namespace Cal
open PySem PySem.Spec PyProof.Rows L2
section
variable {j : J} {G G' : List Slot} {D D' : DEnds} {st : Stmt} {sts body els : List Stmt} {e a b c0 tg tg1 iter iter1 elt : Expr} {es ifs : List Expr} {pos spos p : Pos} {F0 H0 Fs F H F' H' : Hp} {σ : L2.St} {d : Dat} {ds xs ys : List Dat} {i l : Nat} {m n : Int} {k : Bool} {A B : Type}

/-! ### comprehensions, typed -/
theorem map_take_succ {f : A → B} {as : List A} {i : Nat} (h : i < as.length) : (as.take (i + 1)).map f = (as.take i).map f ++ [f as[i]] := by
  rw [List.take_succ_eq_append_getElem h, List.map_append]; rfl
theorem filt_take_succ {f : A → B} {p : A → Bool} {as : List A} {i : Nat} (h : i < as.length) : ((as.take (i + 1)).filter p).map f = ((as.take i).filter p).map f ++ (if p as[i] then [f as[i]] else []) := by
  rw [List.take_succ_eq_append_getElem h, List.filter_append, List.map_append]
  congr 1
  by_cases q : p as[i] = true
  · rw [if_pos q, List.filter_cons, if_pos q]; rfl
  · rw [if_neg q, List.filter_cons, if_neg q]; rfl
/-- what one turn of a comprehension does: the element is kept if p, as f -/
abbrev Turn1 (j : J) (G : List Slot) (scope : Scope) (vs : List Nat) (tg : Expr) (ifs : List Expr) (elt : Expr) (d : Dat) (p : Bool) (y : Dat) : Prop :=
  ∃ u, DG (jB j scope) tg d u ∧ (∀ k ∈ u.map (·.1), k ∈ vs) ∧ DIX (jB j scope) (setG (wipeG G vs) u) ifs (fun b => b = p) ∧ (p = true → DE (jB j scope) (setG (wipeG G vs) u) elt y)
theorem turns_acc {scope : Scope} {vs : List Nat} {enc : A → Dat} {as : List A} {pp : A → Bool} {f : A → Dat} (ht : ∀ a ∈ as, Turn1 j G scope vs tg ifs elt (enc a) (pp a) (f a)) :
    ∀ (ds : List Dat) i d ys, ds = as.map enc → ds[i]? = some d → ys = ((as.take i).filter pp).map f → ∃ u, DG (jB j scope) tg d u ∧ (∀ k ∈ u.map (·.1), k ∈ vs) ∧ ∃ Rb : Bool → Prop, DIX (jB j scope) (setG (wipeG G vs) u) ifs Rb ∧ (Rb false → ys = ((as.take (i + 1)).filter pp).map f) ∧ (Rb true → DX (jB j scope) (setG (wipeG G vs) u) elt fun y => ys ++ [y] = ((as.take (i + 1)).filter pp).map f) := by
  rintro ds i d ys rfl hd rfl
  rw [List.getElem?_map] at hd
  have hlt : i < as.length := by
    rcases Nat.lt_or_ge i as.length with z | z
    · exact z
    · rw [List.getElem?_eq_none z] at hd; cases hd
  rw [List.getElem?_eq_getElem hlt] at hd
  cases hd
  obtain ⟨u, h1, h2, h3, h4⟩ := ht as[i] (List.getElem_mem hlt)
  refine ⟨u, h1, h2, _, h3, fun z => ?_, fun z => (h4 z.symm).toX ?_⟩
  · rw [filt_take_succ hlt, ← z, if_neg Bool.false_ne_true, List.append_nil]
  · rw [filt_take_succ hlt, ← z, if_pos rfl]
theorem le_comp {scope : Scope} (own : List (Str × Nat)) (enc : A → Dat) (as : List A) (pp : A → Bool) (f : A → Dat) (hi : IT j G tg iter (as.map enc)) (hz : as.length ≤ 1000000) (ht : ∀ a ∈ as, Turn1 j G scope (own.map (·.2)) tg ifs elt (enc a) (pp a) (f a))
    (ok : blkC j.N j.sc scope own = true := by decide +kernel) (hf : ∀ (env : Env) x, foldedSetIterable iter env x = pure x := by intro _ _; rfl) : LE j G (.ListComp elt [⟨tg, iter, ifs, 0⟩] scope pos) ((as.filter pp).map f) := by
  intro X hX σ F H q hE hq
  refine lx_comp own (hi.toX (R0 := (· = as.map enc)) rfl) ok (fun _ i ys => ys = ((as.take i).filter pp).map f) (fun ds e => by rw [e, List.length_map]; exact hz) (fun ds e => rfl) (turns_acc ht) hf X hX σ F H q hE fun p vs xs F' H' ⟨ds, e1, e2⟩ a1 a2 a3 a4 g => ?_
  rw [e1, List.length_map, List.take_length] at e2
  subst e2
  exact hq p vs F' H' a1 a2 a3 a4 g
theorem filter_all {as : List A} : as.filter (fun _ => true) = as := List.filter_eq_self.mpr fun _ _ => rfl
theorem le_map {scope : Scope} (own : List (Str × Nat)) (enc : A → Dat) (as : List A) (f : A → Dat) (hi : IT j G tg iter (as.map enc)) (hz : as.length ≤ 1000000) (ht : ∀ a ∈ as, ∃ u, DG (jB j scope) tg (enc a) u ∧ (∀ k ∈ u.map (·.1), k ∈ own.map (·.2)) ∧ DE (jB j scope) (setG (wipeG G (own.map (·.2))) u) elt (f a))
    (ok : blkC j.N j.sc scope own = true := by decide +kernel) (hf : ∀ (env : Env) x, foldedSetIterable iter env x = pure x := by intro _ _; rfl) : LE j G (.ListComp elt [⟨tg, iter, [], 0⟩] scope pos) (as.map f) := by
  have := le_comp (pos := pos) own enc as (fun _ => true) f hi hz (fun a ha => let ⟨u, h1, h2, h3⟩ := ht a ha; ⟨u, h1, h2, dix_nil rfl, fun _ => h3⟩) ok hf
  rw [filter_all] at this
  exact this
theorem d1_compT (l : Nat) {x : Str} {py : Pos} {scope : Scope} (own : List (Str × Nat)) (enc : A → Dat) (as : List A) (pp : A → Bool) (f : A → Dat) (hi : IT j G tg iter (as.map enc)) (hz : as.length ≤ 1000000) (ht : ∀ a ∈ as, Turn1 j G scope (own.map (·.2)) tg ifs elt (enc a) (pp a) (f a))
    (hN : j.N[l]? = some x) (hl : j.sc.names.lookup x = some .local) (hq : D.nx (G.set l (.own ((as.filter pp).map f))))
    (hsw : ∀ env : Env, env.scope = j.sc → swapsWith (.ListComp elt [⟨tg, iter, ifs, 0⟩] scope pos) (some (.Name x py)) spos.line env = pure true)
    (ok : blkC j.N j.sc scope own = true := by decide +kernel) (hf : ∀ (env : Env) x, foldedSetIterable iter env x = pure x := by intro _ _; rfl) : D1 j G (.Assign [.Name x py] (.ListComp elt [⟨tg, iter, ifs, 0⟩] scope pos) spos) D := by
  refine d1_comp l own (hi.toX (R0 := (· = as.map enc)) rfl) ok (fun _ i ys => ys = ((as.take i).filter pp).map f) (fun ds e => by rw [e, List.length_map]; exact hz) (fun ds e => rfl) (turns_acc ht) hN hl (fun xs ⟨ds, e1, e2⟩ => ?_) hsw hf
  rw [e1, List.length_map, List.take_length] at e2
  subst e2
  exact hq
theorem d1_mapT (l : Nat) {x : Str} {py : Pos} {scope : Scope} (own : List (Str × Nat)) (enc : A → Dat) (as : List A) (f : A → Dat) (hi : IT j G tg iter (as.map enc)) (hz : as.length ≤ 1000000) (ht : ∀ a ∈ as, ∃ u, DG (jB j scope) tg (enc a) u ∧ (∀ k ∈ u.map (·.1), k ∈ own.map (·.2)) ∧ DE (jB j scope) (setG (wipeG G (own.map (·.2))) u) elt (f a))
    (hN : j.N[l]? = some x) (hl : j.sc.names.lookup x = some .local) (hq : D.nx (G.set l (.own (as.map f))))
    (hsw : ∀ env : Env, env.scope = j.sc → swapsWith (.ListComp elt [⟨tg, iter, [], 0⟩] scope pos) (some (.Name x py)) spos.line env = pure true)
    (ok : blkC j.N j.sc scope own = true := by decide +kernel) (hf : ∀ (env : Env) x, foldedSetIterable iter env x = pure x := by intro _ _; rfl) : D1 j G (.Assign [.Name x py] (.ListComp elt [⟨tg, iter, [], 0⟩] scope pos) spos) D :=
  d1_compT l own enc as (fun _ => true) f hi hz (fun a ha => let ⟨u, h1, h2, h3⟩ := ht a ha; ⟨u, h1, h2, dix_nil rfl, fun _ => h3⟩) hN hl (by rw [filter_all]; exact hq) hsw ok hf

/-! ### two fors -/
theorem lc2_read {scope : Scope} {vs vs1 : List Nat} {X : Cx} (hX : At j X) {enc : A → Dat} {as : List A} {enc1 : A → B → Dat} {bs : A → List B} {f : A → B → Dat} (hi : IT j G tg iter (as.map enc)) (hz : ((as.map fun a => (bs a).map (f a)).flatten).length ≤ 1000000) (hv : ∀ k ∈ vs1, k ∈ vs)
    (hs : ∀ a ∈ as, ∃ u, DG (jB j scope) tg (enc a) u ∧ (∀ k ∈ u.map (·.1), k ∈ vs) ∧ IT (jB j scope) (setG (wipeG G vs) u) tg1 iter1 ((bs a).map (enc1 a)) ∧
      ∀ b ∈ bs a, ∃ u1, DG (jB j scope) tg1 (enc1 a b) u1 ∧ (∀ k ∈ u1.map (·.1), k ∈ vs1) ∧ DE (jB j scope) (setG (wipeG (setG (wipeG G vs) u) vs1) u1) elt (f a b))
    {q : VK} (hE : EnvR j.c j.E F H σ G) (hq : ∀ p us F' H', H p = none → (F' p = none ∧ ¬ j.E p) → H' p = some (.lst us) → IsL j.c F' ((as.map fun a => (bs a).map (f a)).flatten) us → Gr j.c j.E F H F' H' → q (.ref p) H') :
    tLc2 (WI X tg iter) (UG (jB j scope) tg) (UTs (jB j scope) []) (UI (jB j scope) tg1 iter1) (UG (jB j scope) tg1) (UTs (jB j scope) []) (UE (jB j scope) elt) vs vs1 σ H q := by
  refine hi X hX σ F H _ hE fun J F1 H1 w g1 => ?_
  intro L hL
  have gB : Gr j.c j.E F H F1 (upd H1 L (.lst [])) := g1.trans (Gr.made g1.good hL)
  have nB : H L = none := g1.back hL
  have bB := g1.good.back hL
  have tot : ∀ i (hi : i < as.length) , (((as.take (i + 1)).map fun a => (bs a).map (f a)).flatten) = (((as.take i).map fun a => (bs a).map (f a)).flatten) ++ (bs as[i]).map (f as[i]) := fun i hi => by
    rw [map_take_succ hi, List.flatten_append]; simp
  have lim : ∀ i k (hi : i < as.length), ((((as.take i).map fun a => (bs a).map (f a)).flatten) ++ ((bs as[i]).take k).map (f as[i])).length ≤ 1000000 := fun i k hi => by
    refine Nat.le_trans ?_ hz
    have e : as.map (fun a => (bs a).map (f a)) = (as.take (i+1)).map (fun a => (bs a).map (f a)) ++ (as.drop (i+1)).map (fun a => (bs a).map (f a)) := by rw [← List.map_append, List.take_append_drop]
    rw [e, List.flatten_append, tot i hi]
    simp only [List.length_append, List.length_map, List.length_take]
    omega
  refine ⟨fun i m H2 => ∃ F2 us, Gr j.c j.E F H F2 H2 ∧ Ext F1 F2 ∧ H2 L = some (.lst us) ∧ (F2 L = none ∧ ¬ j.E L) ∧ IsL j.c F2 (((as.take i).map fun a => (bs a).map (f a)).flatten) us ∧ i ≤ as.length ∧ m = as.length - i, ⟨_, F1, [], gB, Ext.refl _, upd_same, bB, IsL.nil, Nat.zero_le _, rfl⟩, ?_⟩
  rintro i m H2 ⟨F2, us, g2, x2, hB2, bB2, iy, hi2, rfl⟩
  by_cases hlt : i < as.length
  · refine .inr ⟨w.go i F2 H2 x2 g2.good (by simpa using hlt), fun H2 => ∃ F2 us, Gr j.c j.E F H F2 H2 ∧ Ext F1 F2 ∧ H2 L = some (.lst us) ∧ (F2 L = none ∧ ¬ j.E L) ∧ IsL j.c F2 (((as.take (i + 1)).map fun a => (bs a).map (f a)).flatten) us, fun H' ⟨F', us', a1, a2, a3, a4, a5⟩ => ⟨as.length - (i + 1), by omega, F', us', a1, a2, a3, a4, a5, hlt, rfl⟩, fun x H3 y => ?_⟩
    obtain ⟨d, F3, e1, e2, g3⟩ := w.yld i F2 H2 x H3 x2 g2.good y (by simpa using hlt)
    have e3 : d = enc as[i] := by
      rw [List.getElem?_map, List.getElem?_eq_getElem hlt] at e1
      exact (Option.some.inj e1).symm
    subst e3
    obtain ⟨u, hu, huv, hin, hb⟩ := hs as[i] (List.getElem_mem hlt)
    intro X' hX'
    refine hu X' hX' x _ F3 H3 _ g3.good e2 fun vs' iv => ?_
    have E3 : EnvR j.c j.E F3 H3 (setS (L2.wipe σ vs) u vs') (setG (wipeG G vs) u) := EnvR.setAll ((hE.gr (g2.trans g3)).wipe vs) iv
    have fB3 : F3 L = none := g3.fresh bB2.1 hB2
    have hB3 : H3 L = some (.lst us) := g3.stays g2.good hB2 (fun _ z => by cases z) bB2.2
    refine ⟨by rw [wipe_setS huv, wipe_wipe], fun X'' hX'' pins s I => pts_nil.run pins s _ H3 _ I ?_⟩
    unfold tYes
    dsimp only
    rw [if_pos rfl]
    intro X3 hX3
    refine hin X3 hX3 _ F3 H3 _ E3 fun J4 F4 H4 w4 g4 => ?_
    have fB4 : F4 L = none := g4.fresh fB3 hB3
    have hB4 : H4 L = some (.lst us) := g4.stays g3.good hB3 (fun _ z => by cases z) bB2.2
    have y4 := g3.ext.trans g4.ext
    have E4 := E3.gr g4
    refine ⟨fun k m H5 => ∃ F5 us, Ext F4 F5 ∧ Gr j.c j.E F H F5 H5 ∧ H5 L = some (.lst us) ∧ (F5 L = none ∧ ¬ j.E L) ∧ IsL j.c F5 ((((as.take i).map fun a => (bs a).map (f a)).flatten) ++ ((bs as[i]).take k).map (f as[i])) us ∧ k ≤ (bs as[i]).length ∧ m = (bs as[i]).length - k, ?_, ?_⟩
    · refine ⟨_, F4, us, Ext.refl _, (g2.trans g3).trans g4, hB4, ⟨fB4, bB2.2⟩, ?_, Nat.zero_le _, rfl⟩
      simpa using IsL.mono y4 _ us iy
    rintro k m H5 ⟨F5, us5, g45, g5, hB5, bB5, iy5, hk5, rfl⟩
    by_cases hlk : k < (bs as[i]).length
    · refine .inr ⟨w4.go k F5 H5 g45 g5.good (by simpa using hlk), fun H6 => ∃ F5 us, Ext F4 F5 ∧ Gr j.c j.E F H F5 H6 ∧ H6 L = some (.lst us) ∧ (F5 L = none ∧ ¬ j.E L) ∧ IsL j.c F5 ((((as.take i).map fun a => (bs a).map (f a)).flatten) ++ ((bs as[i]).take (k + 1)).map (f as[i])) us, fun H' ⟨F', us', a1, a2, a3, a4, a5⟩ => ⟨(bs as[i]).length - (k + 1), by omega, F', us', a1, a2, a3, a4, a5, hlk, rfl⟩, fun x1 H6 y1 => ?_⟩
      obtain ⟨d1, F6, e5, e6, g6⟩ := w4.yld k F5 H5 x1 H6 g45 g5.good y1 (by simpa using hlk)
      have e7 : d1 = enc1 as[i] (bs as[i])[k] := by
        rw [List.getElem?_map, List.getElem?_eq_getElem hlk] at e5
        exact (Option.some.inj e5).symm
      subst e7
      obtain ⟨u1, hu1, huv1, he1⟩ := hb _ (List.getElem_mem hlk)
      intro X4 hX4
      refine hu1 X4 hX4 x1 _ F6 H6 _ g6.good e6 fun vs6 iv6 => ?_
      have E5 : EnvR j.c j.E F5 H5 (setS (L2.wipe σ vs) u vs') (setG (wipeG G vs) u) := EnvR.setAll ((hE.gr g5).wipe vs) (IsL.mono (g4.ext.trans g45) _ _ iv)
      have E6 := EnvR.setAll ((E5.gr g6).wipe vs1) iv6
      have fB6 : F6 L = none := g6.fresh bB5.1 hB5
      have hB6 : H6 L = some (.lst us5) := g6.stays g5.good hB5 (fun _ z => by cases z) bB2.2
      refine ⟨by rw [wipe_setS huv1, wipe_wipe], fun X5 hX5 pins s I => pts_nil.run pins s _ H6 _ I ?_⟩
      unfold tYes
      dsimp only
      rw [if_pos rfl]
      intro X6 hX6
      refine he1 X6 hX6 _ F6 H6 _ E6 fun v F7 H7 i7 g7 => ?_
      have fB7 : F7 L = none := g7.fresh fB6 hB6
      have hB7 : H7 L = some (.lst us5) := g7.stays g6.good hB6 (fun _ z => by cases z) bB2.2
      have ll := iy5.len
      have z2 := lim i k hlt
      have gw := Gr.wrote (u := .lst (us5 ++ [v])) ((g5.trans g6).trans g7) nB hB7 fB7 (fun _ z => by cases z) (fun _ z => by cases z) bB2.2
      refine ⟨us5, hB7, Nat.lt_of_lt_of_le (by omega : us5.length < 2000000) (by decide), F7, us5 ++ [v], (g45.trans g6.ext).trans g7.ext, gw, upd_same, ⟨fB7, bB2.2⟩, ?_⟩
      rw [map_take_succ hlk, ← List.append_assoc]
      exact (IsL.mono (g6.ext.trans g7.ext) _ us5 iy5).snoc i7
    · have e : k = (bs as[i]).length := by omega
      subst e
      refine .inl ⟨w4.stop _ F5 H5 g45 g5.good (by simp), F5, us5, g5, (x2.trans y4).trans g45, hB5, bB5, ?_⟩
      rw [tot i hlt]
      rw [List.take_length] at iy5
      exact iy5
  · have e : i = as.length := by omega
    subst e
    refine .inl ⟨w.stop _ F2 H2 x2 g2.good (by simp), hq L us F2 H2 nB bB2 hB2 ?_ g2⟩
    rw [List.take_length] at iy
    exact iy
theorem le_comp2 {scope : Scope} (own : List (Str × Nat)) (vs1 : List Nat) (enc : A → Dat) (as : List A) (enc1 : A → B → Dat) (bs : A → List B) (f : A → B → Dat) (hi : IT j G tg iter (as.map enc)) (hz : ((as.map fun a => (bs a).map (f a)).flatten).length ≤ 1000000)
    (hs : ∀ a ∈ as, ∃ u, DG (jB j scope) tg (enc a) u ∧ (∀ k ∈ u.map (·.1), k ∈ own.map (·.2)) ∧ IT (jB j scope) (setG (wipeG G (own.map (·.2))) u) tg1 iter1 ((bs a).map (enc1 a)) ∧
      ∀ b ∈ bs a, ∃ u1, DG (jB j scope) tg1 (enc1 a b) u1 ∧ (∀ k ∈ u1.map (·.1), k ∈ vs1) ∧ DE (jB j scope) (setG (wipeG (setG (wipeG G (own.map (·.2))) u) vs1) u1) elt (f a b))
    (hv : ∀ k ∈ vs1, k ∈ own.map (·.2) := by decide) (ok : blkC j.N j.sc scope own = true := by decide +kernel) (hf : ∀ (env : Env) x, foldedSetIterable iter env x = pure x := by intro _ _; rfl) (hf1 : ∀ (env : Env) x, foldedSetIterable iter1 env x = pure x := by intro _ _; rfl) :
    LE j G (.ListComp elt [⟨tg, iter, [], 0⟩, ⟨tg1, iter1, [], 0⟩] scope pos) ((as.map fun a => (bs a).map (f a)).flatten) := by
  intro X hX σ F H q hE hq
  refine we_of (pe_lc2 hX.calm hX.nodup wi (hX.blkOk ok) hv (fun s H C cl fp => ug (hX.blkAt s H cl C fp)) (fun s H C cl fp => uts (hX.blkAt s H cl C fp)) (fun s H C cl fp => ui (hX.blkAt s H cl C fp)) (fun s H C cl fp => ug (hX.blkAt s H cl C fp)) (fun s H C cl fp => uts (hX.blkAt s H cl C fp)) (fun s H C cl fp => ue (hX.blkAt s H cl C fp)) (hf _) (fun _ x => hf1 _ x)) ?_
  exact lc2_read hX hi hz hv hs hE hq
theorem d1_comp2 (l : Nat) {x : Str} {py : Pos} {scope : Scope} (own : List (Str × Nat)) (vs1 : List Nat) (enc : A → Dat) (as : List A) (enc1 : A → B → Dat) (bs : A → List B) (f : A → B → Dat) (hi : IT j G tg iter (as.map enc)) (hz : ((as.map fun a => (bs a).map (f a)).flatten).length ≤ 1000000)
    (hs : ∀ a ∈ as, ∃ u, DG (jB j scope) tg (enc a) u ∧ (∀ k ∈ u.map (·.1), k ∈ own.map (·.2)) ∧ IT (jB j scope) (setG (wipeG G (own.map (·.2))) u) tg1 iter1 ((bs a).map (enc1 a)) ∧
      ∀ b ∈ bs a, ∃ u1, DG (jB j scope) tg1 (enc1 a b) u1 ∧ (∀ k ∈ u1.map (·.1), k ∈ vs1) ∧ DE (jB j scope) (setG (wipeG (setG (wipeG G (own.map (·.2))) u) vs1) u1) elt (f a b))
    (hN : j.N[l]? = some x) (hl : j.sc.names.lookup x = some .local) (hq : D.nx (G.set l (.own ((as.map fun a => (bs a).map (f a)).flatten))))
    (hsw : ∀ env : Env, env.scope = j.sc → swapsWith (.ListComp elt [⟨tg, iter, [], 0⟩, ⟨tg1, iter1, [], 0⟩] scope pos) (some (.Name x py)) spos.line env = pure true)
    (hv : ∀ k ∈ vs1, k ∈ own.map (·.2) := by decide) (ok : blkC j.N j.sc scope own = true := by decide +kernel) (hf : ∀ (env : Env) x, foldedSetIterable iter env x = pure x := by intro _ _; rfl) (hf1 : ∀ (env : Env) x, foldedSetIterable iter1 env x = pure x := by intro _ _; rfl) :
    D1 j G (.Assign [.Name x py] (.ListComp elt [⟨tg, iter, [], 0⟩, ⟨tg1, iter1, [], 0⟩] scope pos) spos) D := by
  intro X hX σ F0 H0 Fs F H De r okE
  refine ws_of (ps_setLc2 (i := l) hX.calm hX.nodup (by rw [hX.N]; exact hN) (by rw [hX.sc]; exact hl) (hsw _ hX.sc) wi (hX.blkOk ok) hv (fun s H C cl fp => ug (hX.blkAt s H cl C fp)) (fun s H C cl fp => uts (hX.blkAt s H cl C fp)) (fun s H C cl fp => ui (hX.blkAt s H cl C fp)) (fun s H C cl fp => ug (hX.blkAt s H cl C fp)) (fun s H C cl fp => uts (hX.blkAt s H cl C fp)) (fun s H C cl fp => ue (hX.blkAt s H cl C fp)) (hf _) (fun _ x => hf1 _ x)) ?_
  refine lc2_read hX hi hz hv hs r.env fun p us F' H' a1 a2 a3 a4 g => ?_
  exact okE.nx _ F' H' _ hq (r.put (s := .own _) g ⟨p, us, rfl, a3, a2, a4⟩ fun p' _ z => by cases z; exact a1)

/-! ### own lists changed -/
/-- e gives a datum, own lists may change -/
def DM (j : J) (G : List Slot) (e : Expr) (R : Dat → List Slot → Prop) : Prop := ∀ X, At j X → ∀ σ F0 H0 Fs F H (q : VK), SR j F0 H0 Fs F H σ G → (∀ v d F' H' G', R d G' → Is j.c F' d v → Ext F F' → SR j F0 H0 Fs F' H' σ G' → q v H') → WE X e σ H q
def DMA (j : J) (G : List Slot) (es : List Expr) (R : List Dat → List Slot → Prop) : Prop := ∀ X, At j X → ∀ σ F0 H0 Fs F H (q : List V → Hp → Prop), SR j F0 H0 Fs F H σ G → (∀ vs ds F' H' G', R ds G' → IsL j.c F' ds vs → Ext F F' → SR j F0 H0 Fs F' H' σ G' → q vs H') → WA X es σ H q
/-- the own list at i rewritten -/
theorem SR.wrote {q : Addr} {vs us : List V} (r : SR j F0 H0 Fs F H σ G) (hi : G[i]? = some (.own xs)) (he : σ[i]? = some (some (.ref q))) (hq : H q = some (.lst vs)) (iu : IsL j.c F ys us) : SR j F0 H0 Fs F (upd H q (.lst us)) σ (G.set i (.own ys)) := by
  obtain ⟨p', vs', e1, e2, e3, e4⟩ := r.env.own hi
  rw [he] at e1; cases e1
  rw [hq] at e2; cases e2
  have g := Gr.wrote (u := .lst us) r.gr (r.young i _ q hi rfl he) hq e3.1 (fun _ z => by cases z) (fun _ z => by cases z) e3.2
  have hl : i < G.length := by
    rcases Nat.lt_or_ge i G.length with z | z
    · exact z
    · rw [List.getElem?_eq_none z] at hi; cases hi
  have own : ∀ {k : Nat} {t : Slot}, (G.set i (.own ys))[k]? = some t → t.isOwn = true → ∃ t', G[k]? = some t' ∧ t'.isOwn = true := fun {k t} hk ot => by
    by_cases z : k = i
    · subst z; exact ⟨_, hi, rfl⟩
    · rw [List.getElem?_set_ne (Ne.symm z)] at hk; exact ⟨t, hk, ot⟩
  refine ⟨⟨g.good, by rw [List.length_set]; exact r.env.len, fun k s hk => ?_, fun k l s t p hkl hk hl' os ot x y => ?_⟩, g, fun k s p hk os e => ?_, r.base⟩
  · by_cases z : k = i
    · subst z
      rw [List.getElem?_set_self hl] at hk
      cases hk
      exact ⟨q, us, by rw [he]; rfl, upd_same, e3, iu⟩
    · rw [List.getElem?_set_ne (Ne.symm z)] at hk
      have w := r.env.at_ k s hk
      cases s with
      | no => trivial
      | dat d => exact w
      | dr => exact w
      | own zs =>
        obtain ⟨p', us', h1, h2, h3, h4⟩ := w
        have n : p' ≠ q := fun y => by
          subst y
          exact r.env.sep k i _ _ p' z hk hi rfl rfl (join_some h1) he
        exact ⟨p', us', h1, by rw [upd_ne n]; exact h2, h3, h4⟩
      | owd ks zs =>
        obtain ⟨p', kv, us', h1, ⟨ep, h2⟩, h3, h4, h5, h6⟩ := w
        have n : p' ≠ q := fun y => by
          subst y
          exact r.env.sep k i _ _ p' z hk hi rfl rfl (join_some h1) he
        exact ⟨p', kv, us', h1, ⟨ep, by rw [upd_ne n]; exact h2⟩, h3, h4, h5, h6⟩
  · obtain ⟨s', a1, a2⟩ := own hk os
    obtain ⟨t', b1, b2⟩ := own hl' ot
    exact r.env.sep k l s' t' p hkl a1 b1 a2 b2 x y
  · obtain ⟨s', a1, a2⟩ := own hk os
    exact r.young k s' p a1 a2 e
theorem SR.own (r : SR j F0 H0 Fs F H σ G) (hi : G[i]? = some (.own xs)) : ∃ p vs, σ[i]? = some (some (.ref p)) ∧ H p = some (.lst vs) ∧ (F p = none ∧ ¬ j.E p) ∧ IsL j.c F xs vs := r.env.own hi
abbrev Few (es : List Expr) (pos : Pos) : Prop := ∀ env : Env, ((backTo pos (starEach es env)).all (fun x => !x.1) && (backToKw pos (keywordEach [] env)).all (fun x => x.1.isSome) && decide (es.length + ([] : List Keyword).length + (if ([] : List Keyword).isEmpty then 0 else 1) < 30)) = true
/-- name.append(e) -/
theorem d1_appendX (i : Nat) {x : Str} {p1 apos : Pos} {R : Dat → Prop} (hi : G[i]? = some (.own xs)) (hN : j.N[i]? = some x) (hv : Vis j.sc x) (h : DX j G e R) (hl : xs.length ≤ 1000000) (hq : ∀ d, R d → D.nx (G.set i (.own (xs ++ [d]))))
    (h1 : (x == ("__debug__" : Str)) = false := by decide) (h2 : (x == ("__classdict__" : Str)) = false := by decide) (hs : Stars e := by intro _; rfl) (hfew : Few [e] pos := by intro _; rfl) (hline : (apos.endLine == pos.line) = true := by rfl)
    (hbase : ∀ env : Env, attributeBase (.Name x p1) "append" env (eval (.Name x p1) env) = eval (.Name x p1) env := by intro _; rfl) (hw : ∀ env : Env, swapsWith (.Call (.Attribute (.Name x p1) "append" apos) [e] [] pos) none spos.line env = pure false := by intro _; rfl) :
    D1 j G (.Expr (.Call (.Attribute (.Name x p1) "append" apos) [e] [] pos) spos) D := by
  intro X hX σ F0 H0 Fs F H De r ok
  obtain ⟨q, vs, e1, e2, e3, e4⟩ := r.own hi
  refine ws_of (ps_expr (pe_bm PySem.F.plainAttrs_list PySem.F.slot_list_append PySem.F.type_list_append mt_append (pe_var (i := i) (by rw [hX.N]; exact hN) (by rw [hX.sc]; exact hv) h1 h2) (pa_cons we pa_nil (hs _)) (hbase _) (hfew _) hline (hs _) (by rfl)) (hw _)) ⟨_, e1, .inl ⟨rfl, vs, SqL.of e2⟩, ?_⟩
  refine h X hX σ F H _ r.env fun v d F1 H1 hd i1 g1 => ?_
  obtain ⟨q', vs', a1, a2, a3, a4⟩ := (r.go g1).own hi
  rw [e1] at a1; cases a1
  have hlen := a4.len
  refine ⟨q, vs', v, rfl, rfl, a2, Nat.lt_of_lt_of_le (by omega : vs'.length < 2000000) (by decide), ok.nx _ F1 _ _ (hq d hd) ((r.go g1).wrote hi e1 a2 (a4.snoc i1))⟩
theorem d1_append (i : Nat) {x : Str} {p1 apos : Pos} (hi : G[i]? = some (.own xs)) (hN : j.N[i]? = some x) (hv : Vis j.sc x) (h : DE j G e d) (hl : xs.length ≤ 1000000) (hq : D.nx (G.set i (.own (xs ++ [d]))))
    (h1 : (x == ("__debug__" : Str)) = false := by decide) (h2 : (x == ("__classdict__" : Str)) = false := by decide) (hs : Stars e := by intro _; rfl) (hfew : Few [e] pos := by intro _; rfl) (hline : (apos.endLine == pos.line) = true := by rfl)
    (hbase : ∀ env : Env, attributeBase (.Name x p1) "append" env (eval (.Name x p1) env) = eval (.Name x p1) env := by intro _; rfl) (hw : ∀ env : Env, swapsWith (.Call (.Attribute (.Name x p1) "append" apos) [e] [] pos) none spos.line env = pure false := by intro _; rfl) :
    D1 j G (.Expr (.Call (.Attribute (.Name x p1) "append" apos) [e] [] pos) spos) D := d1_appendX i hi hN hv (h.toX (R := (· = d)) rfl) hl (fun d' z => by rw [z]; exact hq) h1 h2 hs hfew hline hbase hw
/-- name.extend(e), e a list -/
theorem d1_extend (i : Nat) {x : Str} {p1 apos : Pos} (hi : G[i]? = some (.own xs)) (hN : j.N[i]? = some x) (hv : Vis j.sc x) (h : RE j G e (.lst ys)) (hl : xs.length + ys.length ≤ 1000000) (hq : D.nx (G.set i (.own (xs ++ ys))))
    (h1 : (x == ("__debug__" : Str)) = false := by decide) (h2 : (x == ("__classdict__" : Str)) = false := by decide) (hs : Stars e := by intro _; rfl) (hfew : Few [e] pos := by intro _; rfl) (hline : (apos.endLine == pos.line) = true := by rfl)
    (hbase : ∀ env : Env, attributeBase (.Name x p1) "extend" env (eval (.Name x p1) env) = eval (.Name x p1) env := by intro _; rfl) (hw : ∀ env : Env, swapsWith (.Call (.Attribute (.Name x p1) "extend" apos) [e] [] pos) none spos.line env = pure false := by intro _; rfl) :
    D1 j G (.Expr (.Call (.Attribute (.Name x p1) "extend" apos) [e] [] pos) spos) D := by
  intro X hX σ F0 H0 Fs F H De r ok
  obtain ⟨q, vs, e1, e2, e3, e4⟩ := r.own hi
  refine ws_of (ps_expr (pe_bm PySem.F.plainAttrs_list PySem.F.slot_list_extend PySem.F.type_list_extend mt_extend (pe_var (i := i) (by rw [hX.N]; exact hN) (by rw [hX.sc]; exact hv) h1 h2) (pa_cons we pa_nil (hs _)) (hbase _) (hfew _) hline (hs _) (by rfl)) (hw _)) ⟨_, e1, .inl ⟨rfl, vs, SqL.of e2⟩, ?_⟩
  refine h X hX σ F H _ r.env fun v F1 H1 i1 g1 => ?_
  obtain ⟨q', vs', a1, a2, a3, a4⟩ := (r.go g1).own hi
  rw [e1] at a1; cases a1
  obtain ⟨t, us, rfl, ⟨b1, b2⟩, b3⟩ := at0_lst i1
  have hlen := a4.len
  have hlen2 := b3.len
  exact ⟨q, t, vs', us, rfl, rfl, a2, b1, Nat.le_trans (by omega : vs'.length + us.length ≤ 1000000) (by decide), ok.nx _ F1 _ _ hq ((r.go g1).wrote hi e1 a2 (a4.app b3))⟩
/-- name.pop(0) -/
theorem dm_pop0 (i : Nat) {x : Str} {p1 apos p2 : Pos} {kk : Nat} (hi : G[i]? = some (.own (d :: xs))) (hN : j.N[i]? = some x) (hv : Vis j.sc x)
    (h1 : (x == ("__debug__" : Str)) = false := by decide) (h2 : (x == ("__classdict__" : Str)) = false := by decide) (hfew : Few [.Constant (.int 0) kk p2] pos := by intro _; rfl) (hline : (apos.endLine == pos.line) = true := by rfl)
    (hbase : ∀ env : Env, attributeBase (.Name x p1) "pop" env (eval (.Name x p1) env) = eval (.Name x p1) env := by intro _; rfl) :
    DM j G (.Call (.Attribute (.Name x p1) "pop" apos) [.Constant (.int 0) kk p2] [] pos) (fun d' G' => d' = d ∧ G' = G.set i (.own xs)) := by
  intro X hX σ F0 H0 Fs F H q r hq
  obtain ⟨t, vs, e1, e2, e3, e4⟩ := r.own hi
  refine we_of (pe_bm PySem.F.plainAttrs_list PySem.F.slot_list_pop PySem.F.type_list_pop mt_popAt (pe_var (i := i) (by rw [hX.N]; exact hN) (by rw [hX.sc]; exact hv) h1 h2) (pa_cons pe_int pa_nil (by rfl)) (hbase _) (hfew _) hline (by rfl) (by rfl)) ⟨_, e1, .inl ⟨rfl, vs, SqL.of e2⟩, ?_⟩
  obtain ⟨v, us, rfl, i1, i2⟩ := IsL.cons_iff.mp e4
  refine ⟨t, _, 0, 0, v, rfl, rfl, e2, by decide, by decide, ?_, rfl, hq v d F _ _ ⟨rfl, rfl⟩ i1 (Ext.refl _) (r.wrote hi e1 e2 i2)⟩
  simp [seqIndex?]
/-- name.pop() -/
theorem dm_pop (i : Nat) {x : Str} {p1 apos : Pos} (hi : G[i]? = some (.own (xs ++ [d]))) (hN : j.N[i]? = some x) (hv : Vis j.sc x)
    (h1 : (x == ("__debug__" : Str)) = false := by decide) (h2 : (x == ("__classdict__" : Str)) = false := by decide) (hline : (apos.endLine == pos.line) = true := by rfl)
    (hbase : ∀ env : Env, attributeBase (.Name x p1) "pop" env (eval (.Name x p1) env) = eval (.Name x p1) env := by intro _; rfl) :
    DM j G (.Call (.Attribute (.Name x p1) "pop" apos) [] [] pos) (fun d' G' => d' = d ∧ G' = G.set i (.own xs)) := by
  intro X hX σ F0 H0 Fs F H q r hq
  obtain ⟨t, vs, e1, e2, e3, e4⟩ := r.own hi
  refine we_of (pe_bm0 PySem.F.plainAttrs_list PySem.F.slot_list_pop PySem.F.type_list_pop mt_pop (pe_var (i := i) (by rw [hX.N]; exact hN) (by rw [hX.sc]; exact hv) h1 h2) (hbase _) hline) ⟨_, e1, .inl ⟨rfl, vs, SqL.of e2⟩, ?_⟩
  have hl := e4.len
  rw [List.length_append, List.length_singleton] at hl
  obtain ⟨v, hv1, hv2⟩ := e4.at_ (i := xs.length) (d := d) (by simp)
  refine ⟨t, vs, v, rfl, rfl, e2, by rw [← hl]; exact hv1, hq v d F _ _ ⟨rfl, rfl⟩ hv2 (Ext.refl _) (r.wrote hi e1 e2 ?_)⟩
  have := e4.take xs.length
  rw [List.take_left] at this
  rw [List.dropLast_eq_take, ← hl]
  exact this
/-- name = such -/
theorem d1_setM (i : Nat) {x : Str} {p : Pos} {R : Dat → List Slot → Prop} (h : DM j G e R) (hN : j.N[i]? = some x) (hq : ∀ d G', R d G' → D.nx (G'.set i (.dat d))) (hs : (j.blk = false ∧ Loc j.sc x) ∨ j.sc.names.lookup x = some .local := by first | exact .inr rfl | exact .inl ⟨rfl, .inr rfl⟩)
    (hw : ∀ env : Env, swapsWith e (some (.Name x p)) spos.line env = pure false := by intro _; rfl) : D1 j G (.Assign [.Name x p] e spos) D := by
  intro X hX σ F0 H0 Fs F H De r ok
  obtain ⟨h1, h2⟩ := hX.stores hs
  refine ws_of (ps_set hX.nodup (by rw [hX.N]; exact hN) h1 we (hw _) h2) ?_
  exact h X hX σ F0 H0 Fs F H _ r fun v d F' H' G' hR iv _ r' => ok.nx _ F' H' _ (hq d G' hR) (r'.set ⟨v, rfl, iv⟩ fun p z => by cases z)
/-- arguments, the last of which changes lists -/
theorem dma_last {R : Dat → List Slot → Prop} (h : DM j G e R) (hs : Stars e := by intro _; rfl) : DMA j G [e] (fun ds G' => ∃ d, ds = [d] ∧ R d G') := by
  intro X hX σ F0 H0 Fs F H q r hq
  refine wa_of (pa_cons we pa_nil (hs _)) (h X hX σ F0 H0 Fs F H _ r fun v d F' H' G' hR iv x r' => ?_)
  exact hq [v] [d] F' H' G' ⟨d, rfl, hR⟩ (IsL.cons iv IsL.nil) x r'
theorem dma_cons {R : List Dat → List Slot → Prop} (h : DE j G e d) (hr : DMA j G es R) (hs : ∀ env : Env, starEach (e :: es) env = (false, eval e env) :: starEach es env := by intro _; rfl) : DMA j G (e :: es) (fun ds G' => ∃ ds', ds = d :: ds' ∧ R ds' G') := by
  intro X hX σ F0 H0 Fs F H q r hq
  refine wa_of (pa_cons we wa (hs _)) (h X hX σ F H _ r.env fun v F1 H1 i1 g1 => ?_)
  exact hr X hX σ F0 H0 Fs F1 H1 _ (r.go g1) fun vs ds F2 H2 G2 hR i2 x2 r2 => hq (v :: vs) (d :: ds) F2 H2 G2 ⟨ds, rfl, hR⟩ (IsL.cons (Is.mono x2 d v i1) i2) (g1.ext.trans x2) r2
theorem dm_call {A : Type} {enc : A → List Dat} {dom : A → Prop} {g : A → Dat} {f : Str} {i : Nat} {R : List Dat → List Slot → Prop} (h : Has j.c i f (spP j.c enc dom g)) (a : A) (hd : dom a) (hi : i ≤ j.k) (ha : DMA j G (e :: es) R) (hR : ∀ ds G', R ds G' → ds = enc a) (hg : GlN j f := by rfl) (hdb : (f == ("__debug__" : Str)) = false := by decide)
    (he : ∀ env : Env, starEach (e :: es) env = (false, eval e env) :: starEach es env := by intro _; rfl) (hpl : ∀ env : Env, (backTo pos (starEach es env)).any (·.1) = false := by intro _; rfl) : DM j G (.Call (.Name f p) (e :: es) [] pos) (fun d G' => d = g a ∧ ∃ ds, R ds G') := by
  intro X hX σ F0 H0 Fs F H q r hq
  obtain ⟨t, h1, h2, h3⟩ := h.ex
  refine we_of (pe_callR (fnR_at hX h3) (hX.room.mono hi) (hX.gl hg) (by rw [hX.mg]; exact h1) (by rw [hX.K]; exact h2) wa hdb (he _) (hpl _)) (ha X hX σ F0 H0 Fs F H _ r fun vs ds F1 H1 G1 hr i1 x1 r1 => ?_)
  rw [hR ds G1 hr] at i1
  exact ⟨a, F1, hd, r1.env.good.toNo, i1, fun v F2 H2 i2 g2 => hq v _ F2 H2 G1 ⟨rfl, ds, hr⟩ i2 (x1.trans g2.ext) (r1.go (g2.up r1.env.good))⟩
theorem itm_list {R : Dat → List Slot → Prop} (h : DM j G e R) (hR : ∀ d G', R d G' → ∃ ds, d = .lst ds) : ITM j G tg e (fun ds G' => R (.lst ds) G') := fun X hX σ F0 H0 Fs F H R' r hq => wi_of (pi_list we) (h X hX σ F0 H0 Fs F H _ r fun v d F1 H1 G1 hr i1 x1 r1 => by
  obtain ⟨ds, rfl⟩ := hR d G1 hr
  obtain ⟨q, vs, rfl, h2, h3⟩ := is_lst.mp i1
  exact ⟨q, rfl, ⟨vs, SqL.of (r1.env.good.ext _ _ h2)⟩, by rw [hX.K]; exact hq ds _ G1 F1 H1 hr (walk_list h2 h3) r1⟩)
end
end Cal
set_option Elab.async false
set_option linter.all false
set_option maxRecDepth 100000
set_option maxHeartbeats 4000000
namespace Cal
open PySem PySem.Spec PyProof.Rows L2
section
variable {j : J} {G G' : List Slot} {D D' : DEnds} {st : Stmt} {sts body els : List Stmt} {e a b c0 tg iter elt : Expr} {es ifs : List Expr} {pos spos p : Pos} {F0 H0 Fs F H F' H' : Hp} {σ : L2.St} {d x y : Dat} {ds xs ys : List Dat} {i l : Nat} {m n : Int} {k : Bool}

/-- name[e1] = e2, an own list -/
theorem d1_setL (i : Nat) {x : Str} {p1 : Pos} {kk : Nat} (hi : G[i]? = some (.own xs)) (hN : j.N[i]? = some x) (hv : Vis j.sc x) (ha : DE j G a d) (hb : DE j G b (.int m)) (hm : ixN xs.length m = some kk) (hq : D.nx (G.set i (.own (xs.set kk d))))
    (h1 : (x == ("__debug__" : Str)) = false := by decide) (h2 : (x == ("__classdict__" : Str)) = false := by decide)
    (hs : ∀ env : Env, swapsWithSole [.Subscript (.Name x p1) b p] a spos.line env = pure false := by intro _; rfl) (hw : ∀ env : Env, swappedStores [.Subscript (.Name x p1) b p] a env = pure none := by intro _; rfl)
    (h3 : ∀ env : Env, (assignEach [.Subscript (.Name x p1) b p] env).map (·.2) = [assign (.Subscript (.Name x p1) b p) env] := by intro _; rfl)
    (h4 : ∀ (env : Env) v, assign (.Subscript (.Name x p1) b p) env v = (do
      let ov ← holding [v] (eval (.Name x p1) env)
      let iv ← holding [v, ov] (eval b env)
      standAt p
      holding [v, ov, iv] (setItem ov iv v)
      release [v, ov, iv] []) := by intro _ _; rfl) : D1 j G (.Assign [.Subscript (.Name x p1) b p] a spos) D := by
  intro X hX σ F0 H0 Fs F H De r ok
  refine ws_of (ps_asg we (pg_sub (pe_var (i := i) (by rw [hX.N]; exact hN) (by rw [hX.sc]; exact hv) h1 h2) we set_list (h4 _)) (hs _) (hw _) (h3 _)) ?_
  refine ha X hX σ F H _ r.env fun v F1 H1 i1 g1 => ?_
  obtain ⟨q, vs, e1, e2, e3, e4⟩ := (r.go g1).own hi
  refine ⟨_, e1, hb X hX σ F1 H1 _ (r.go g1).env fun u F2 H2 i2 g2 => ?_⟩
  have r2 := (r.go g1).go g2
  obtain ⟨q', vs', a1, a2, a3, a4⟩ := r2.own hi
  rw [e1] at a1; cases a1
  refine ⟨q, vs', m, kk, rfl, is_int.mp i2, a2, by rw [← a4.len]; exact hm, ok.nx _ F2 _ _ hq (r2.wrote hi e1 a2 (a4.set kk (Is.mono g2.ext d v i1)))⟩

/-- for tg in an own list: if test: return e -/
theorem d1_search {A : Type} {enc : A → Dat} {as : List A} (i : Nat) {x : Str} {p1 p2 p3 : Pos} (hi : G[i]? = some (.own (as.map enc))) (hN : j.N[i]? = some x) (hv : Vis j.sc x) (vs : List Nat) (hiv : i ∉ vs) (T : A → Bool)
    (hs : ∀ a ∈ as, ∃ u, DG j tg (enc a) u ∧ (∀ k ∈ u.map (·.1), k ∈ vs) ∧ DT j (setG (wipeG G vs) u) c0 (T a) ∧ (T a = true → ∃ d, DE j (setG (wipeG G vs) u) e d ∧ D.rt d)) (hd : (∀ a ∈ as, T a = false) → D.nx (wipeG G vs))
    (h1 : (x == ("__debug__" : Str)) = false := by decide) (h2 : (x == ("__classdict__" : Str)) = false := by decide) : D1 j G (.For tg (.Name x p1) [.If c0 [.Return (some e) p2] [] p3] [] spos) D := by
  intro X hX σ F0 H0 Fs F H De r ok
  have hp : PassesOwn (model X.prog X.w) X.A X.env X.xe := by rw [hX.xe]; exact PassesOwn.never
  obtain ⟨q, us, e1, e2, e3, e4⟩ := r.own hi
  refine ws_of (ps_for hp hX.calm (pi_list (pe_var (i := i) (by rw [hX.N]; exact hN) (by rw [hX.sc]; exact hv) h1 h2)) wg (pss_one (ps_if wt (pss_one (ps_ret we)) pss_nil))) ?_
  refine ⟨_, e1, q, rfl, ⟨us, SqL.of e2⟩, ?_⟩
  refine ⟨fun n m σ' H' => ∃ F', EnvR j.c j.E F' H' σ' (wipeG G vs) ∧ Gr j.c j.E F0 H0 F' H' ∧ Ext F F' ∧ H' q = some (.lst us) ∧ F' q = none ∧ σ'.length = σ.length ∧ (∀ k, k ∉ vs → σ'[k]? = σ[k]?) ∧ n ≤ as.length ∧ m = as.length - n ∧ ∀ a ∈ as.take n, T a = false, ⟨_, F, r.env.wk (wipeG_len G vs) rfl fun k s h => (wipeG_at G vs h).imp id fun z => ⟨z.1, rfl⟩, r.gr, Ext.refl _, e2, e3.1, rfl, fun _ _ => rfl, Nat.zero_le _, rfl, fun a ha => by simp at ha⟩, ?_⟩
  rintro n m σ1 H1 ⟨F1, E1, g1, x1, hq1, fq1, l1, k1, hn, rfl, hT⟩
  have hlen : us.length = as.length := by rw [← e4.len, List.length_map]
  by_cases hlt : n < as.length
  · refine .inr ⟨⟨us, us[n]'(by omega), SqL.of hq1, List.getElem?_eq_getElem (by omega)⟩, fun σ' H' => ∃ F', EnvR j.c j.E F' H' σ' (wipeG G vs) ∧ Gr j.c j.E F0 H0 F' H' ∧ Ext F F' ∧ H' q = some (.lst us) ∧ F' q = none ∧ σ'.length = σ.length ∧ (∀ k, k ∉ vs → σ'[k]? = σ[k]?) ∧ ∀ a ∈ as.take (n + 1), T a = false, fun σ' H' ⟨F', b1, b2, b3, b4, b5, b6, b7, b8⟩ => ⟨as.length - (n + 1), by omega, F', b1, b2, b3, b4, b5, b6, b7, hlt, rfl, b8⟩, fun v H2 y => ?_⟩
    obtain ⟨rfl, y⟩ := y
    obtain ⟨dd, z1, z2⟩ := e4.at' (y us (SqL.of hq1))
    have z3 : dd = enc as[n] := by
      rw [List.getElem?_map, List.getElem?_eq_getElem hlt] at z1
      exact (Option.some.inj z1).symm
    subst z3
    obtain ⟨u, hu, huv, hc, hr⟩ := hs as[n] (List.getElem_mem hlt)
    refine hu X hX v σ1 F1 H2 _ E1.good (Is.mono x1 _ _ z2) fun ws iw => ?_
    have E2 := E1.setAll iw
    refine hc X hX _ F1 H2 _ E2 fun F3 H3 g3 => ?_
    cases hb : T as[n] with
    | true =>
      rw [if_pos rfl]
      obtain ⟨d, hd1, hd2⟩ := hr hb
      exact hd1 X hX _ F3 H3 _ (E2.gr g3) fun w F4 H4 i4 g4 => ok.rt w d F4 H4 hd2 i4 ((g1.trans g3).trans g4)
    | false =>
      rw [if_neg Bool.false_ne_true]
      have E3 := E2.gr g3
      have uk : ∀ k, k ∉ vs → (setS σ1 u ws)[k]? = σ1[k]? := fun k hk => setS_out u ws σ1 fun z => hk (huv k z)
      have E1' := E1.gr g3
      refine ⟨F3, ?_, g1.trans g3, x1.trans g3.ext, g3.stays E1.good hq1 (fun _ z => by cases z) e3.2, g3.fresh fq1 hq1, by rw [setS_len]; exact l1, fun k hk => (uk k hk).trans (k1 k hk), fun a ha => ?_⟩
      · refine E1'.wk rfl (setS_len u ws σ1) fun k s h => ?_
        by_cases hk : k ∈ vs
        · rcases wipeG_at G vs h with z | ⟨z, z'⟩
          · exact .inl z
          · exact absurd hk z'
        · exact .inr ⟨h, uk k hk⟩
      · rw [List.take_succ_eq_append_getElem hlt] at ha
        rcases List.mem_append.mp ha with z | z
        · exact hT a z
        · rw [List.mem_singleton.mp z]; exact hb
  · have e : n = as.length := by omega
    subst e
    refine .inl ⟨⟨us, SqL.of hq1, by omega⟩, ok.nx σ1 F1 H1 _ (hd fun a ha => hT a (by rw [List.take_length]; exact ha)) ⟨E1, g1, fun k s t hk os ht => ?_, r.base.trans x1⟩⟩
    rcases wipeG_at G vs hk with z | ⟨z, z'⟩
    · subst z; cases os
    · exact r.young k s t z os (by rw [← k1 k z']; exact ht)

/-! ### defs -/
def startG (N : List Str) (ds : List Dat) : List Slot := ds.map Slot.dat ++ List.replicate (N.length - ds.length) .no
theorem start_env {c : Cfg} {E : Addr → Prop} {N : List Str} {vs : List V} (g : Good c E F H) (h : IsL c F ds vs) : EnvR c E F H (L2.start N vs) (startG N ds) := by
  have hl := h.len
  refine ⟨g, by unfold L2.start startG; simp [hl], fun i s hs => ?_, fun i k s t p hik hs ht os ot _ _ => ?_⟩
  · unfold startG at hs
    by_cases hi : i < ds.length
    · rw [List.getElem?_append_left (by simpa using hi), List.getElem?_map, List.getElem?_eq_getElem hi] at hs
      cases hs
      obtain ⟨v, e1, e2⟩ := h.at_ (List.getElem?_eq_getElem hi)
      refine ⟨v, ?_, e2⟩
      unfold L2.start
      rw [List.getElem?_append_left (by rw [List.length_map]; omega), List.getElem?_map, e1]; rfl
    · rw [List.getElem?_append_right (by simpa using hi), List.getElem?_replicate] at hs
      split at hs
      · cases hs; trivial
      · cases hs
  · have z : ∀ {m : Nat} {u : Slot}, (startG N ds)[m]? = some u → u.isOwn = true → False := fun {m u} hu ou => by
      have q := List.mem_of_getElem? hu
      unfold startG at q
      rcases List.mem_append.mp q with q | q
      · obtain ⟨w, _, rfl⟩ := List.mem_map.mp q; cases ou
      · rw [(List.mem_replicate.mp q).2] at ou; cases ou
    exact z hs os
theorem startG_own {N : List Str} {i : Nat} {s : Slot} (h : (startG N ds)[i]? = some s) (o : s.isOwn = true) : False := by
  have q := List.mem_of_getElem? h
  unfold startG at q
  rcases List.mem_append.mp q with q | q
  · obtain ⟨w, _, rfl⟩ := List.mem_map.mp q; cases o
  · rw [(List.mem_replicate.mp q).2] at o; cases o
/-- a def that is defined in the program: its facts, in one -/
structure Def (c : Cfg) (f : Str) (st : Stmt) (N ps : List Str) : Prop where
  ex : ∃ (nm qual : Str) (t : Addr) (fd : FuncData), Fun c.K nm qual st t fd ∧ c.mg f = some (.ref t) ∧ Binds c.K fd ps []
  sc : FnScope N ps (defScope st)
abbrev jF (c : Cfg) (N : List Str) (st : Stmt) (k : Nat) : J := { c := c, N := N, sc := defScope st, k := k }
theorem at_body {c : Cfg} {N ps : List Str} {sc : Scope} {qual : Str} {t : Addr} {cdv : Value} {A : Around} {outer : List Env} {s : Shared} {Ex : XK} {CX : CXT} (S : FnScope N ps sc) (k : Nat) (Ed : Addr → Prop) (hr : Room k (A.deeper (envOfC qual sc s.heap.objs.size t cdv))) :
    At { c := c, N := N, sc := sc, k := k, E := Ed } (cxOf CX c.P c.w c.K c.mg c.base N qual sc t cdv A outer s H Ex).nox :=
  ⟨rfl, rfl, rfl, rfl, rfl, rfl, rfl, rfl, hr, S.nd, fun _ _ _ => rfl, fun _ z => (by cases z), rfl⟩
theorem has_of {A : Type} {c : Cfg} {enc : A → List Dat} {dom : A → Prop} {g : A → Dat} {k : Nat} {f : Str} {N ps : List Str} (d : Def c f st N ps) (hl : ∀ a, (enc a).length = ps.length)
    (hb : ∀ a, dom a → DS (jF c N st k) (startG N (enc a)) (defBody st) { nx := fun _ => g a = .non, rt := fun r => r = g a }) : Has c (k + 1) f (spP c enc dom g) := by
  obtain ⟨nm, qual, t, fd, hF, hm, hB⟩ := d.ex
  refine ⟨t, hm, hF.kp, ?_⟩
  have ok : FnOk c.P c.w c.K c.mg c.base CX0 (k + 1) t fd ps (spP c enc dom g) := hF.ok d.sc (fun vs H Q E ⟨a, F, _, _, h3, _⟩ => by rw [← h3.len, hl]) fun cdv A outer s H vs Q E hr ⟨a, F, h1, h2, h3, h4⟩ => by
    refine ⟨_, wss, hb a h1 _ (at_body (c := c) d.sc k no hr) (L2.start N vs) F H F F H _ ⟨start_env h2 h3, Gr.refl h2, fun i s p hs os => (startG_own hs os).elim, Ext.refl _⟩ ⟨fun σ F' H' G hn r => ?_, fun v d F' H' e i g => ?_, fun p vs xs F' H' z => z.elim⟩⟩
    · exact h4 .non F' H' (by rw [hn]; unfold Is; rfl) r.gr
    · subst e
      exact h4 v F' H' i g
  have := ok.raw hB (dvs := []) .nil
  exact this.imp fun vs H Q E h => by rw [List.append_nil]; exact h

/-! ### a list that calls change -/
/-- a promise: the first argument is such a list, the others enc a; the answer is one of R a -/
def spD {A : Type} (c : Cfg) (enc : A → List Dat) (dom : A → Prop) (R : A → Dat → Prop) : Sp := fun vs H Q _ => ∃ a F q us, vs = .ref q :: us ∧ dom a ∧ Good c (fun b => b = q) F H ∧ IsL c F (enc a) us ∧ ∀ v d F' H', R a d → Is c F' d v → Gr c (fun b => b = q) F H F' H' → Q v H'
theorem dx_callD {A : Type} {enc : A → List Dat} {dom : A → Prop} {R : A → Dat → Prop} {f x : Str} {i : Nat} {q : Addr} {p1 : Pos} (hE : j.E = fun b => b = q) (h : Has j.c i f (spD j.c enc dom R)) (l : Nat) (hG : G[l]? = some .dr) (hN : j.N[l]? = some x) (hv : Vis j.sc x) (a : A) (hd : dom a) (hi : i ≤ j.k) (ha : DA j G es (enc a)) (hg : GlN j f := by rfl) (hdb : (f == ("__debug__" : Str)) = false := by decide)
    (h1 : (x == ("__debug__" : Str)) = false := by decide) (h2 : (x == ("__classdict__" : Str)) = false := by decide) (he : ∀ env : Env, starEach (.Name x p1 :: es) env = (false, eval (.Name x p1) env) :: starEach es env := by intro _; rfl) (hpl : ∀ env : Env, (backTo pos (starEach es env)).any (·.1) = false := by intro _; rfl) : DX j G (.Call (.Name f p) (.Name x p1 :: es) [] pos) (R a) := by
  intro X hX σ F H Q hEv hq
  obtain ⟨t, t1, t2, t3⟩ := h.ex
  refine we_of (pe_callR (fnR_at hX t3) (hX.room.mono hi) (hX.gl hg) (by rw [hX.mg]; exact t1) (by rw [hX.K]; exact t2) (pa_cons (pe_var (i := l) (by rw [hX.N]; exact hN) (by rw [hX.sc]; exact hv) h1 h2) wa (he _)) hdb (he _) (hpl _)) ?_
  obtain ⟨q', e1, e2⟩ := hEv.at_ l _ hG
  rw [hE] at e2
  subst e2
  refine ⟨_, join_some e1, ha X hX σ F H _ hEv fun us F1 H1 i1 g1 => ?_⟩
  have g1' := g1.good
  rw [hE] at g1'
  refine ⟨a, F1, q', us, rfl, hd, g1', i1, fun v d F2 H2 hr i2 g2 => hq v d F2 H2 hr i2 (g1.trans (by rw [hE]; exact g2))⟩
theorem hasD_of {A : Type} {c : Cfg} {enc : A → List Dat} {dom : A → Prop} {R : A → Dat → Prop} {k : Nat} {f : Str} {N ps : List Str} (d : Def c f st N ps) (hl : ∀ a, (enc a).length + 1 = ps.length)
    (hb : ∀ a q, dom a → DS { c := c, N := N, sc := defScope st, k := k, E := fun b => b = q } (.dr :: startG (N.drop 1) (enc a)) (defBody st) { nx := fun _ => False, rt := R a }) (hN : N.length ≠ 0) : Has c (k + 1) f (spD c enc dom R) := by
  obtain ⟨nm, qual, t, fd, hF, hm, hB⟩ := d.ex
  refine ⟨t, hm, hF.kp, ?_⟩
  have ok : FnOk c.P c.w c.K c.mg c.base CX0 (k + 1) t fd ps (spD c enc dom R) := hF.ok d.sc (fun vs H Q E ⟨a, F, q, us, e0, _, _, h3, _⟩ => by rw [e0, List.length_cons, ← h3.len, hl]) fun cdv A outer s H vs Q E hr ⟨a, F, q, us, e0, h1, h2, h3, h4⟩ => by
    subst e0
    have E0 := start_env (N := N.drop 1) h2 h3
    have st : L2.start N (.ref q :: us) = some (.ref q) :: L2.start (N.drop 1) us := by
      unfold L2.start
      rw [List.map_cons, List.cons_append, List.length_cons, List.length_drop]
      congr 3
      omega
    have E1 : EnvR c (fun b => b = q) F H (L2.start N (.ref q :: us)) (.dr :: startG (N.drop 1) (enc a)) := by
      rw [st]
      refine ⟨h2, by rw [List.length_cons, List.length_cons, E0.len], fun i s hs => ?_, fun i k s t p hik hs ht os ot x y => ?_⟩
      · cases i with
        | zero => cases hs; exact ⟨q, rfl, rfl⟩
        | succ i => exact E0.at_ i s hs
      · cases i with
        | zero => cases hs; cases os
        | succ i => exact (startG_own (by simpa using hs) os).elim
    refine ⟨_, wss, hb a q h1 _ (at_body (c := c) d.sc k (fun b => b = q) hr) (L2.start N (.ref q :: us)) F H F F H _ ⟨E1, Gr.refl h2, fun i s p hs os => ?_, Ext.refl _⟩ ⟨fun σ F' H' G hn r => hn.elim, fun v d F' H' e i g => h4 v d F' H' e i g, fun p vs xs F' H' z => z.elim⟩⟩
    cases i with
    | zero => cases hs; cases os
    | succ i => exact (startG_own (by simpa using hs) os).elim
  have := ok.raw hB (dvs := []) .nil
  exact this.imp fun vs H Q E h => by rw [List.append_nil]; exact h
/-- from here on the own list of ints at i may be changed by calls -/
theorem ds_draws {ns : List Int} (i : Nat) (hE : j.E = no) (hi : G[i]? = some (.own (ns.map Dat.int))) (hno : ∀ k s, k ≠ i → G[k]? = some s → s.isOwn = false) (h : ∀ q, DS { j with E := fun b => b = q } (G.set i .dr) sts { nx := fun _ => False, rt := D.rt }) : DS j G sts D := by
  intro X hX σ F0 H0 Fs F H De r ok
  obtain ⟨q, vs, e1, e2, e3, e4⟩ := r.own hi
  have e5 := isL_int e4
  subst e5
  have hl : i < G.length := by
    rcases Nat.lt_or_ge i G.length with z | z
    · exact z
    · rw [List.getElem?_eq_none z] at hi; cases hi
  have hX' : At { j with E := fun b => b = q } X := ⟨hX.prog, hX.w, hX.K, hX.mg, hX.base, hX.N, hX.sc, hX.calm, hX.room, hX.nd, hX.fn, hX.lam, hX.xe⟩
  have g0 : Good j.c (fun b => b = q) F H := ⟨r.env.good.ext, r.env.good.tab, r.env.good.out, fun b hb => by subst hb; exact ⟨e3.1, ns, e2⟩⟩
  have own' : ∀ {k : Nat} {s : Slot}, (G.set i .dr)[k]? = some s → s.isOwn = true → False := fun {k s} hk os => by
    by_cases z : k = i
    · subst z
      rw [List.getElem?_set_self hl] at hk; cases hk; cases os
    · rw [List.getElem?_set_ne (Ne.symm z)] at hk
      rw [hno k s z hk] at os; cases os
  have yg := r.young i _ q hi rfl e1
  refine h q X hX' σ F H F F H De ⟨⟨g0, by rw [List.length_set]; exact r.env.len, fun k s hk => ?_, fun k l s t p hkl hk hl os ot => (own' hk os).elim⟩, Gr.refl g0, fun k s p hk os => (own' hk os).elim, Ext.refl _⟩ ⟨fun σ F H G z => z.elim, fun v d F' H' hr iv g => ok.rt v d F' H' hr iv ?_, fun p vs xs F' H' z => z.elim⟩
  · by_cases z : k = i
    · subst z
      rw [List.getElem?_set_self hl] at hk
      cases hk
      exact ⟨q, by rw [e1]; rfl, rfl⟩
    · rw [List.getElem?_set_ne (Ne.symm z)] at hk
      have w := r.env.at_ k s hk
      cases s with
      | no => trivial
      | dat d => exact w
      | own ys => have := hno k _ z hk; cases this
      | owd ks ys => have := hno k _ z hk; cases this
      | dr =>
        obtain ⟨p', h1, h2⟩ := w
        rw [hE] at h2; exact h2.elim
  · have r' := r.gr
    rw [hE] at r' ⊢
    refine ⟨g.good.toNo, r'.ext.trans g.ext, fun b hb hb' => ?_, fun b o ho ht _ => ?_⟩
    · by_cases z : F b = none
      · have w := g.new b z hb'
        cases y : H0 b with
        | none => rfl
        | some o => exact absurd w (r'.there (by rw [y]; simp))
      · exact r'.new b hb z
    · have n : b ≠ q := ne_of_none ho yg
      exact g.keep b o (r'.keep b o ho ht fun z => z) ht n

/-! ### one of several, through expressions -/
theorem dx_ixT {R : Dat → Prop} (ha : DE j G a (.tup xs)) (hb : DX j G b R) (hR : ∀ z, R z → ∃ m : Int, z = .int m ∧ 0 ≤ m ∧ m < xs.length) (hs : PlainIx b := by exact fun _ _ => rfl) : DX j G (.Subscript a b pos) (fun d => d ∈ xs) := by
  intro X hX σ F H q hE hq
  refine we_of (pe_ix ix_tup we we hs) (ha X hX σ F H _ hE fun v F1 H1 i1 g1 => hb X hX σ F1 H1 _ (hE.gr g1) fun u z F2 H2 hz i2 g2 => ?_)
  obtain ⟨m, rfl, m0, m1⟩ := hR z hz
  obtain ⟨t, vs, rfl, h2, h3⟩ := is_tup.mp (Is.mono g2.ext _ _ i1)
  have e : atI xs m = some xs[m.toNat] := by
    unfold atI
    have : ixN xs.length m = some m.toNat := by unfold ixN; rw [if_pos m0, if_pos (by omega)]
    rw [this]
    exact List.getElem?_eq_getElem (by omega)
  obtain ⟨w, e1, e2⟩ := h3.atI e
  exact ⟨t, vs, m, w, rfl, is_int.mp i2, by rw [hX.K]; exact g2.good.ext.t h2, e1, hq w _ F2 H2 (List.getElem_mem _) e2 (g1.trans g2)⟩
theorem dx_ixL {R : Dat → Prop} (ha : RE j G a (.lst xs)) (hb : DX j G b R) (hR : ∀ z, R z → ∃ m : Int, z = .int m ∧ 0 ≤ m ∧ m < xs.length) (hs : PlainIx b := by exact fun _ _ => rfl) : DX j G (.Subscript a b pos) (fun d => d ∈ xs) := by
  intro X hX σ F H q hE hq
  refine we_of (pe_ix ix_list we we hs) (ha X hX σ F H _ hE fun v F1 H1 i1 g1 => hb X hX σ F1 H1 _ (hE.gr g1) fun u z F2 H2 hz i2 g2 => ?_)
  obtain ⟨m, rfl, m0, m1⟩ := hR z hz
  obtain ⟨t, vs, rfl, ⟨h2, _⟩, h3⟩ := i1.gr g1.good g2
  have e : atI xs m = some xs[m.toNat] := by
    unfold atI
    have : ixN xs.length m = some m.toNat := by unfold ixN; rw [if_pos m0, if_pos (by omega)]
    rw [this]
    exact List.getElem?_eq_getElem (by omega)
  obtain ⟨w, e1, e2⟩ := h3.atI e
  exact ⟨t, vs, m, w, rfl, is_int.mp i2, SqL.of h2, e1, hq w _ F2 H2 (List.getElem_mem _) e2 (g1.trans g2)⟩
theorem dtx_eqI {R : Dat → Prop} (ha : DX j G a R) (hb : DE j G b (.int n)) (hR : ∀ z, R z → ∃ m : Int, z = .int m) : DTX j G (.Compare a [.Eq] [b] pos) (fun _ => True) := by
  intro X hX σ F H q hE hq
  refine wt_of (pt_cmpR (op_eqp hX.room) we we (nomark _ (by decide) (by decide))) ?_
  refine ha X hX σ F H _ hE fun v z F1 H1 hz i1 g1 => hb X hX σ F1 H1 _ (hE.gr g1) fun u F2 H2 i2 g2 => ?_
  obtain ⟨m, rfl⟩ := hR z hz
  refine ⟨.int m, .int n, ?_, ?_, rfl, rfl, (by show min 0 0 ≤ 60; decide), _, rfl, hq _ F2 H2 trivial (g1.trans g2)⟩
  · rw [is_int.mp i1]; exact .int m
  · rw [is_int.mp i2]; exact .int n
theorem dx_add {R : Dat → Prop} (ha : DE j G a (.int m)) (hb : DX j G b R) (hR : ∀ z, R z → ∃ n : Int, z = .int n) : DX j G (.BinOp a .Add b pos) (fun d => ∃ n : Int, R (.int n) ∧ d = .int (m + n)) := by
  intro X hX σ F H q hE hq
  refine we_of (pe_op op_add we we) (ha X hX σ F H _ hE fun v F1 H1 i1 g1 => hb X hX σ F1 H1 _ (hE.gr g1) fun u z F2 H2 hz i2 g2 => ?_)
  obtain ⟨n, rfl⟩ := hR z hz
  exact ⟨m, n, is_int.mp i1, is_int.mp i2, hq _ _ F2 H2 ⟨n, hz, rfl⟩ (is_int.mpr rfl) (g1.trans g2)⟩
theorem dx_if {T : Bool → Prop} {R : Dat → Prop} (hc : DTX j G c0 T) (ha : T true → DX j G a R) (hb : T false → DX j G b R) : DX j G (.IfExp c0 a b pos) R := by
  intro X hX σ F H q hE hq
  refine we_of (pe_ifExp wt we we) (hc X hX σ F H _ hE fun k F1 H1 hk g1 => ?_)
  cases k with
  | true => exact ha hk X hX σ F1 H1 q (hE.gr g1) fun v d F2 H2 hd i2 g2 => hq v d F2 H2 hd i2 (g1.trans g2)
  | false => exact hb hk X hX σ F1 H1 q (hE.gr g1) fun v d F2 H2 hd i2 g2 => hq v d F2 H2 hd i2 (g1.trans g2)
theorem dax_nil : DAX j G [] (fun ds => ds = []) := fun X hX σ F H q hE hq => wa_of pa_nil (hq [] [] F H rfl IsL.nil (Gr.refl hE.good))
theorem dax_cons {R : Dat → Prop} {S : List Dat → Prop} (h : DX j G e R) (hr : DAX j G es S) (hs : ∀ env : Env, starEach (e :: es) env = (false, eval e env) :: starEach es env := by intro _; rfl) : DAX j G (e :: es) (fun ds => ∃ d r, ds = d :: r ∧ R d ∧ S r) := by
  intro X hX σ F H q hE hq
  refine wa_of (pa_cons we wa (hs _)) ?_
  refine h X hX σ F H _ hE fun v d F1 H1 hd i1 g1 => ?_
  refine hr X hX σ F1 H1 _ (hE.gr g1) fun vs ds F2 H2 hds i2 g2 => ?_
  exact hq _ (d :: ds) F2 H2 ⟨d, ds, rfl, hd, hds⟩ (IsL.cons (Is.mono g2.ext d v i1) i2) (g1.trans g2)
theorem dx_tup {nn : Nat} {S : List Dat → Prop} (h : DAX j G es S) (hl : ∀ ds, S ds → ds.length ≤ 100000) : DX j G (.Tuple es nn pos) (fun d => ∃ ds, d = .tup ds ∧ S ds) := by
  intro X hX σ F H q hE hq
  refine we_of (pe_tup wa) (h X hX σ F H _ hE fun vs ds F1 H1 hS i1 g1 => ⟨by rw [← i1.len]; exact Nat.le_trans (hl ds hS) (by decide), fun p hp => ?_⟩)
  have g2 := Gr.laid (E := j.E) g1.good (o := .tup vs) hp
  exact hq _ (.tup ds) _ _ ⟨ds, rfl, hS⟩ (is_tup.mpr ⟨p, vs, rfl, SqT.of upd_same, IsL.mono g2.ext ds vs i1⟩) (g1.trans g2)
theorem dx_tupL {S : List Dat → Prop} (hm : j.c.mg "tuple" = none) (ha : LX j G a S) (hg : GlN j "tuple" := by rfl) (hs : Stars a := by intro _; rfl) : DX j G (.Call (.Name "tuple" p) [a] [] pos) (fun d => ∃ xs, d = .tup xs ∧ S xs) := by
  intro X hX σ F H q hE hq
  refine we_of (pe_callTy call_tuple_of (hX.gl hg) (by rw [hX.mg]; exact hm) boot_tuple (pa_cons we pa_nil (hs _)) (by decide) (by decide) (hs _)) (ha X hX σ F H _ hE fun t vs xs F1 H1 hS a1 a2 a3 a4 g1 => ?_)
  refine ⟨t, vs, rfl, .inl ⟨SqL.of a3, fun l hl => ?_⟩⟩
  have g4 := Gr.laid (E := j.E) g1.good (o := .tup vs) hl
  exact hq _ _ _ _ ⟨xs, rfl, hS⟩ (is_tup.mpr ⟨l, _, rfl, SqT.of upd_same, IsL.mono g4.ext _ _ a4⟩) (g1.trans g4)
end
end Cal
set_option Elab.async false
set_option linter.all false
set_option maxRecDepth 100000
set_option maxHeartbeats 4000000
namespace Cal
open PySem PySem.Spec PyProof.Rows L2
section
variable {j : J} {G G' : List Slot} {D D' : DEnds} {st : Stmt} {sts body els : List Stmt} {e a b c0 tg iter elt o : Expr} {es ifs : List Expr} {pos spos p p1 p2 : Pos} {F0 H0 Fs F H F' H' : Hp} {σ : L2.St} {d x y : Dat} {ds xs ys : List Dat} {i l kk : Nat} {m n : Int} {k : Bool} {f : Str} {C : Addr} {ns : List Str}

/-! ### fields -/
abbrev AB (o : Expr) (f : Str) : Prop := ∀ env : Env, attributeBase o f env (eval o env) = eval o env
theorem de_fld (ho : DE j G o (.ins C ns ds)) (hc : Cls j.c.K C) (hn : NoAttr j.c.K C f) (kk : Nat) (hk : ∀ vs : List V, vs.length = ns.length → (ns.zip vs).lookup f = vs[kk]?) (hd : ds[kk]? = some d) (hb : AB o f := by intro _; rfl) : DE j G (.Attribute o f pos) d := by
  intro X hX σ F H q hE hq
  refine we_of (pe_fld we (hb _)) (ho X hX σ F H _ hE fun v F1 H1 i1 g1 => ?_)
  unfold Is at i1
  obtain ⟨t, dx, vs, rfl, h2, h3, h4⟩ := i1
  obtain ⟨u, e1, e2⟩ := h4.at_ hd
  exact ⟨t, C, dx, _, u, rfl, g1.good.ext _ _ h2, by rw [hX.K]; exact hc, by rw [hX.K]; exact hn, by rw [hk vs h3.symm]; exact e1, hq u F1 H1 e2 g1⟩
theorem de_sl {q : Addr} (ho : DE j G o (.slo C ds)) (hc : SlX.SCls j.c.K C) (kk : Nat) (hs : SlX.Slot1 j.c.K C f q kk) (hd : ds[kk]? = some d) (hb : AB o f := by intro _; rfl) : DE j G (.Attribute o f pos) d := by
  intro X hX σ F H Q hE hq
  refine we_of (SlX.pe_sl we (hb _)) (ho X hX σ F H _ hE fun v F1 H1 i1 g1 => ?_)
  unfold Is at i1
  obtain ⟨t, dx, vs, rfl, ⟨h2, h3⟩, h4⟩ := i1
  obtain ⟨u, e1, e2⟩ := h4.at_ hd
  refine ⟨t, C, dx, q, vs.map some, kk, u, rfl, .inr ⟨g1.good.ext _ _ h2, g1.good.ext _ _ h3⟩, by rw [hX.K]; exact hc, by rw [hX.K]; exact hs, ?_, hq u F1 H1 e2 g1⟩
  rw [List.getElem?_map, e1]; rfl

/-! ### methods -/
structure DefM (c : Cfg) (C : Addr) (f : Str) (st : Stmt) (N ps : List Str) : Prop where
  ex : ∃ (nm qual : Str) (t : Addr) (fd : FuncData), Fun c.K nm qual st t fd ∧ Meth c.K C f t ∧ Binds c.K fd ps []
  sc : FnScope N ps (defScope st)
theorem fnR_of {A : Type} {c : Cfg} {enc : A → List Dat} {dom : A → Prop} {g : A → Dat} {k : Nat} {N ps : List Str} {nm qual : Str} {t : Addr} {fd : FuncData} (hF : Fun c.K nm qual st t fd) (S : FnScope N ps (defScope st)) (hl : ∀ a, (enc a).length = ps.length)
    (hb : ∀ a, dom a → DS (jF c N st k) (startG N (enc a)) (defBody st) { nx := fun _ => g a = .non, rt := fun r => r = g a }) : FnOk c.P c.w c.K c.mg c.base CX0 (k + 1) t fd ps (spP c enc dom g) :=
  hF.ok S (fun vs H Q E ⟨a, F, _, _, h3, _⟩ => by rw [← h3.len, hl]) fun cdv A outer s H vs Q E hr ⟨a, F, h1, h2, h3, h4⟩ => by
    refine ⟨_, wss, hb a h1 _ (at_body (c := c) S k no hr) (L2.start N vs) F H F F H _ ⟨start_env h2 h3, Gr.refl h2, fun i s p hs os => (startG_own hs os).elim, Ext.refl _⟩ ⟨fun σ F' H' G hn r => ?_, fun v d F' H' e i g => ?_, fun p vs xs F' H' z => z.elim⟩⟩
    · exact h4 .non F' H' (by rw [hn]; unfold Is; rfl) r.gr
    · subst e
      exact h4 v F' H' i g
theorem hasM_of {A : Type} {c : Cfg} {enc : A → List Dat} {dom : A → Prop} {g : A → Dat} {k : Nat} {N ps : List Str} (d : DefM c C f st N ps) (hl : ∀ a, (enc a).length = ps.length)
    (hb : ∀ a, dom a → DS (jF c N st k) (startG N (enc a)) (defBody st) { nx := fun _ => g a = .non, rt := fun r => r = g a }) : HasM c (k + 1) C f (spP c enc dom g) := by
  obtain ⟨nm, qual, t, fd, hF, hm, hB⟩ := d.ex
  refine ⟨t, hm, ?_⟩
  have := (fnR_of hF d.sc hl hb).raw hB (dvs := []) .nil
  exact this.imp fun vs H Q E h => by rw [List.append_nil]; exact h

/-! ### properties -/
structure DefP (c : Cfg) (C : Addr) (f : Str) (st : Stmt) (N : List Str) : Prop where
  ex : ∃ (nm qual : Str) (p t : Addr) (fd : FuncData), Fun c.K nm qual st t fd ∧ PropOf c.K C f p t ∧ Binds c.K fd ["self"] []
  sc : FnScope N ["self"] (defScope st)
structure HasP (c : Cfg) (k : Nat) (C : Addr) (f : Str) (sp : Sp) : Prop where
  ex : ∃ (p t : Addr) (fd : FuncData), PropOf c.K C f p t ∧ Binds c.K fd ["self"] [] ∧ FnOk c.P c.w c.K c.mg c.base CX0 k t fd ["self"] sp
theorem hasP_of {A : Type} {c : Cfg} {enc : A → List Dat} {dom : A → Prop} {g : A → Dat} {k : Nat} {N : List Str} (d : DefP c C f st N) (hl : ∀ a, (enc a).length = 1)
    (hb : ∀ a, dom a → DS (jF c N st k) (startG N (enc a)) (defBody st) { nx := fun _ => g a = .non, rt := fun r => r = g a }) : HasP c (k + 1) C f (spP c enc dom g) := by
  obtain ⟨nm, qual, p, t, fd, hF, hm, hB⟩ := d.ex
  exact ⟨p, t, fd, hm, hB, fnR_of hF d.sc hl hb⟩
theorem fnOk_at {X : Cx} (hX : At j X) {i t : Nat} {fd : FuncData} {ps : List Str} {sp : Sp} (h : FnOk j.c.P j.c.w j.c.K j.c.mg j.c.base CX0 i t fd ps sp) : FnOk X.prog X.w X.K X.mg X.base CX0 i t fd ps sp := by
  rw [hX.prog, hX.w, hX.K, hX.mg, hX.base]; exact h
theorem de_prop {A : Type} {enc : A → List Dat} {dom : A → Prop} {g : A → Dat} {i : Nat} (h : HasP j.c i C f (spP j.c enc dom g)) (hc : Cls j.c.K C) (ho : DE j G o (.ins C ns ds)) (a : A) (en : enc a = [.ins C ns ds]) (hd : dom a) (hi : i + 1 ≤ j.k) (hb : AB o f := by intro _; rfl) : DE j G (.Attribute o f pos) (g a) := by
  intro X hX σ F H q hE hq
  obtain ⟨p, t, fd, h1, h2, h3⟩ := h.ex
  refine we_of (pe_prop (ds := []) (dvs := []) we (by rw [hX.K]; exact hc) (by rw [hX.K]; exact h1) (fnOk_at hX h3) (hX.room.mono hi) (by rw [hX.K]; exact h2) .nil pass0 (hb _)) (ho X hX σ F H _ hE fun v F1 H1 i1 g1 => ?_)
  have i1' := i1
  unfold Is at i1
  obtain ⟨t1, dx, us, rfl, h4, h5, h6⟩ := i1
  exact ⟨t1, dx, _, rfl, g1.good.ext _ _ h4, a, F1, hd, g1.good.toNo, by rw [en]; exact IsL.cons i1' IsL.nil, fun v F3 H3 i3 g3 => hq v F3 H3 i3 (g1.trans (g3.up g1.good))⟩

/-! ### len(o), o with __len__ -/
theorem de_lenO {A : Type} {enc : A → List Dat} {dom : A → Prop} {g : A → Dat} {i : Nat} (hm : j.c.mg "len" = none) (h : HasM j.c i C "__len__" (spP j.c enc dom g)) (ho : DE j G o (.ins C ns ds)) (a : A) (en : enc a = [.ins C ns ds]) (hd : dom a) (hg : ∃ n : Int, g a = .int n ∧ 0 ≤ n ∧ n < 2 ^ 63) (hi : i + 1 ≤ j.k) (hgl : GlN j "len" := by rfl) (hs : Stars o := by intro _; rfl) :
    DE j G (.Call (.Name "len" p) [o] [] pos) (g a) := by
  intro X hX σ F H q hE hq
  obtain ⟨t, h1, h3⟩ := h.ex
  have call : CallR X (.builtin "len") (fun vs H Q => ∃ v F1, vs = [v] ∧ Is j.c F1 (.ins C ns ds) v ∧ Good j.c no F1 H ∧ ∀ u F' H', Is j.c F' (g a) u → Gr j.c no F1 H F' H' → Q u H') := by
    intro pins s σ H vs us Q I rv ⟨v, F1, ev, iv, gd, hQ⟩
    subst ev
    obtain ⟨u, rfl, ru⟩ := rv.one
    have iv' := iv
    unfold Is at iv
    obtain ⟨t1, dx, us, rfl, h4, h5, h6⟩ := iv
    cases ru
    obtain ⟨mA, O, _⟩ := ins_get I.hok (gd.ext _ _ h4)
    obtain ⟨od, J, _⟩ := O.look
    obtain ⟨mm, hF⟩ := I.fr
    refine PySem.W.len_K hF I.ok.mod.kin J (f := t) (by rw [hX.K]; exact h1.at_) (by rw [hX.K]; exact h1.fn) ?_
    refine wpAny_call (codeAny_mono (fnR_at hX h3 X.A.in1 X.stack s H [.ref t1] [.ref t1] (fun u H' => ∃ F', Is j.c F' (g a) u ∧ Gr j.c no F1 H F' H') E0 ((hX.room.mono hi).in1) I.env0.in1 (.cons rfl .nil) ⟨a, F1, hd, gd, by rw [en]; exact IsL.cons iv' IsL.nil, fun v F' H' i g => ⟨F', i, g⟩⟩) fun r s' hr => ?_)
    cases r with
    | error e => exact hr.elim
    | ok fl =>
      cases fl with
      | ret u =>
        obtain ⟨v, H', I3, rv, F', i3, g3⟩ := I.after hr
        obtain ⟨n, hn, n0, n1⟩ := hg
        rw [hn] at i3
        rw [is_int.mp i3] at rv
        obtain ⟨tk, rfl⟩ := rv
        exact ⟨⟨n0, n1⟩, ⟨.int n, H', I3.tok _, ⟨_, rfl⟩, hQ (.int n) F' H' (by rw [hn]; exact is_int.mpr rfl) g3⟩⟩
      | next => exact hr.elim
      | brk => exact hr.elim
      | cont => exact hr.elim
  refine we_of (pe_callB call (hX.gl hgl) (by rw [hX.mg]; exact hm) boot_len (pa_cons we pa_nil (hs _)) (by decide) (by decide) (hs _)) (ho X hX σ F H _ hE fun v F1 H1 i1 g1 => ?_)
  exact ⟨v, F1, rfl, i1, g1.good.toNo, fun u F' H' i2 g2 => hq u F' H' i2 (g1.trans (g2.up g1.good))⟩

/-! ### making instances -/
/-- __init__'s promise -/
def spI {A : Type} (c : Cfg) (C : Addr) (enc : A → List Dat) (dom : A → Prop) (g : A → Dat) : Sp := fun vs H1 Q _ => ∃ a F H q dx us, vs = .ref q :: us ∧ dom a ∧ Good c no F H ∧ H q = none ∧ H dx = none ∧ dx ≠ q ∧ H1 = upd (upd H dx (.own q)) q (.ins C dx []) ∧ IsL c F (enc a) us ∧
  ∀ F' H', Is c F' (g a) (.ref q) → Gr c no F H F' H' → Q .non H'
structure HasI (c : Cfg) (k : Nat) (x : Str) (C : Addr) (sp : Sp) : Prop where
  ex : ∃ (t : Addr) (fd : FuncData) (ps : List Str), c.mg x = some (.ref C) ∧ Mk c.K C t ∧ Binds c.K fd ps [] ∧ FnOk c.P c.w c.K c.mg c.base CX0 k t fd ps sp
theorem de_make {A : Type} {enc : A → List Dat} {dom : A → Prop} {g : A → Dat} {i : Nat} {x : Str} (h : HasI j.c i x C (spI j.c C enc dom g)) (a : A) (hd : dom a) (hi : i + 1 ≤ j.k) (ha : DA j G (e :: es) (enc a)) (hg : GlN j x := by rfl) (hdb : (x == ("__debug__" : Str)) = false := by decide)
    (he : ∀ env : Env, starEach (e :: es) env = (false, eval e env) :: starEach es env := by intro _; rfl) (hpl : ∀ env : Env, (backTo pos (starEach es env)).any (·.1) = false := by intro _; rfl) : DE j G (.Call (.Name x p) (e :: es) [] pos) (g a) := by
  intro X hX σ F H q hE hq
  obtain ⟨t, fd, ps, h1, h2, h3, h4⟩ := h.ex
  refine we_of (pe_make (ds := []) (dvs := []) (by rw [hX.K]; exact h2) (fnOk_at hX h4) (hX.room.mono hi) (hX.gl hg) (by rw [hX.mg]; exact h1) (by rw [hX.K]; exact h3) .nil pass0 wa hdb (he _) (hpl _)) (ha X hX σ F H _ hE fun vs F1 H1 i1 g1 => ?_)
  intro t1 dx n1 n2 ne
  rw [List.append_nil]
  exact ⟨a, F1, H1, t1, dx, vs, rfl, hd, g1.good.toNo, n1, n2, ne, rfl, i1, fun F' H' i2 g2 => ⟨rfl, hq _ F' H' i2 (g1.trans (g2.up g1.good))⟩⟩
/-- an instance's def __init__ -/
structure DefI (c : Cfg) (x : Str) (C : Addr) (st : Stmt) (N ps : List Str) : Prop where
  ex : ∃ (nm qual : Str) (t : Addr) (fd : FuncData), Fun c.K nm qual st t fd ∧ Mk c.K C t ∧ Binds c.K fd ps [] ∧ c.mg x = some (.ref C)
  sc : FnScope N ps (defScope st)
theorem hasI_of {A : Type} {c : Cfg} {enc : A → List Dat} {dom : A → Prop} {g : A → Dat} {k : Nat} {x : Str} {N ps : List Str} (d : DefI c x C st N ps) (hl : ∀ a, (enc a).length + 1 = ps.length)
    (hb : ∀ a, dom a → ∀ X, At (jF c N st k) X → ∀ F H q dx us (De : Ends), Good c no F H → H q = none → H dx = none → dx ≠ q → IsL c F (enc a) us → (∀ F' H' σ, Is c F' (g a) (.ref q) → Gr c no F H F' H' → De.nx σ H') → WSs X (defBody st) De (L2.start N (.ref q :: us)) (upd (upd H dx (.own q)) q (.ins C dx []))) : HasI c (k + 1) x C (spI c C enc dom g) := by
  obtain ⟨nm, qual, t, fd, hF, hM, hB, hm⟩ := d.ex
  refine ⟨t, fd, ps, hm, hM, hB, hF.ok d.sc (fun vs H Q E ⟨a, F, H', q, dx, us, e, _, _, _, _, _, _, h3, _⟩ => by rw [e, List.length_cons, ← h3.len, hl]) fun cdv A outer s H1 vs Q E hr ⟨a, F, H, q, dx, us, ev, h1, h2, h3, h4, h5, eH, h6, h7⟩ => ?_⟩
  subst ev eH
  exact ⟨_, wss, hb a h1 _ (at_body (c := c) d.sc k no hr) F H q dx us _ h2 h3 h4 h5 h6 fun F' H' σ i g => h7 F' H' i g⟩

/-! ### a number off the list -/
theorem dx_take {ps pos1 pos2 pos3 pos4 pos5 apos cpos : Pos} {dn : Str} {q0 : Addr} {mn : Expr} {k0 k1 : Nat} (hE : j.E = fun b => b = q0) (l : Nat) (hG : G[l]? = some .dr) (hN : j.N[l]? = some dn) (hv : Vis j.sc dn) (hm : j.c.mg "int" = none) (hM : DE j G mn (.int m)) (h0 : 0 < m) (hline : (apos.endLine == cpos.line) = true := by rfl)
    (h1 : (dn == ("__debug__" : Str)) = false := by decide) (h2 : (dn == ("__classdict__" : Str)) = false := by decide) (hg : GlN j "int" := by rfl) (hfew : Few [.Constant (.int 0) k0 ps] cpos := by intro _; rfl)
    (hbase : ∀ env : Env, attributeBase (.Name dn p1) "pop" env (eval (.Name dn p1) env) = eval (.Name dn p1) env := by intro _; rfl)
    (hs : Stars (.Call (.Attribute (.Name dn p1) "pop" apos) [.Constant (.int 0) k0 ps] [] cpos) := by intro _; rfl) :
    DX j G (.IfExp (.Compare (.Name dn p2) [.NotEq] [.List [] pos1] pos2) (.BinOp (.Call (.Name "int" p) [.Call (.Attribute (.Name dn p1) "pop" apos) [.Constant (.int 0) k0 ps] [] cpos] [] pos3) .Mod mn pos4) (.Constant (.int 0) k1 pos5) pos) (fun d => ∃ r : Int, d = .int r ∧ 0 ≤ r ∧ r < m) := by
  intro X hX σ F H Q hEv hq
  obtain ⟨q, e1, e2⟩ := hEv.at_ l _ hG
  have e1 := join_some e1
  obtain ⟨z1, nn, z2⟩ := hEv.good.dr q e2
  have hN' : X.N[l]? = some dn := by rw [hX.N]; exact hN
  have hv' : Vis X.env.scope dn := by rw [hX.sc]; exact hv
  refine we_of (pe_ifExp (pt_cmpR (op_nep hX.room) (pe_var (i := l) hN' hv' h1 h2) (pe_lst pa_nil) (nomark _ (by decide) (by decide)))
    (pe_op op_mod (pe_callTy call_int1 (hX.gl hg) (by rw [hX.mg]; exact hm) (by decide +kernel) (pa_cons (pe_bm PySem.F.plainAttrs_list PySem.F.slot_list_pop PySem.F.type_list_pop mt_popAt (pe_var (i := l) hN' hv' h1 h2) (pa_cons pe_int pa_nil (by rfl)) (hbase _) (hfew _) hline (by rfl) (by rfl)) pa_nil (hs _)) (by decide) (by decide) (hs _)) we) pe_int) ?_
  refine ⟨_, e1, by decide, fun t ht => ?_⟩
  have g1 : Gr j.c j.E F H F (upd H t (.lst [])) := Gr.made hEv.good ht
  have z2' := (g1.good.dr q e2)
  have nq : q ≠ t := ne_of_none z2 ht
  refine ⟨.list (pys (nn.map Dat.int)), .list [], ?_, ?_, ?_, rfl, ?_, _, rfl, ?_⟩
  · refine .lst (SqL.of (by rw [upd_ne nq]; exact z2)) ?_
    exact IsL.dp (c := { j.c with K := X.K }) (F := fun _ => none) (fun a o z => by cases z) (nn.map Dat.int) (nn.map V.int) (by rw [pls_all]; simp [pl]) (IsL.ints nn)
  · exact .lst (SqL.of upd_same) .nil
  · show PyData.plainAll _ = true
    exact pys_plain _
  · show min _ (PyData.depth (.list [])) ≤ 60
    exact Nat.le_trans (Nat.min_le_right _ _) (by decide)
  cases nn with
  | nil =>
    rw [show (fun d e : PyData => !d.eqv e) (.list (pys (([] : List Int).map Dat.int))) (.list []) = false from rfl]
    exact iteF (hq _ (.int 0) F _ ⟨0, rfl, Int.le_refl _, h0⟩ (is_int.mpr rfl) g1)
  | cons n0 nn =>
    rw [show (fun d e : PyData => !d.eqv e) (.list (pys ((n0 :: nn).map Dat.int))) (.list []) = true from rfl]
    refine iteT ?_
    have hH : upd H t (HO.lst []) q = some (.lst ((n0 :: nn).map V.int)) := by rw [upd_ne nq]; exact z2
    refine ⟨_, e1, .inl ⟨rfl, _, SqL.of hH⟩, ?_⟩
    refine ⟨q, _, 0, 0, .int n0, rfl, rfl, hH, by decide, by decide, by simp [seqIndex?], rfl, ?_⟩
    have g2 : Gr j.c j.E F (upd H t (.lst [])) F (upd (upd H t (.lst [])) q (.lst (nn.map V.int))) := Gr.wroteE g1.good e2
    refine .inl ⟨n0, rfl, ?_⟩
    refine hM X hX σ F _ _ (hEv.gr (g1.trans g2)) fun v F3 H3 i3 g3 => ?_
    exact ⟨n0, m, rfl, is_int.mp i3, h0, hq _ (.int (n0 % m)) F3 H3 ⟨n0 % m, rfl, Int.emod_nonneg _ (by omega), Int.emod_lt_of_pos _ h0⟩ (is_int.mpr rfl) ((g1.trans g2).trans g3)⟩
end
end Cal
set_option Elab.async false
set_option linter.all false
set_option maxRecDepth 100000
set_option maxHeartbeats 4000000
namespace Cal
open PySem PySem.Spec PyProof.Rows L2

/-! ### iterators that hand out pairs -/
/-- such an iterator: go, stop by the turn and the heap, pr the pair at a turn -/
def ItP (go : Nat → Hp → Prop) (pr : Nat → Hp → V → V → Prop) (stop : Nat → Hp → Prop) : It :=
  ⟨go, fun i H v H' => ∃ T x y, v = .ref T ∧ H T = none ∧ H' = upd H T (.tup [x, y]) ∧ pr i H x y, stop⟩
theorem turn_pairs {P : Program} {w : World} {K : PySem.W.Frag} {elts : List Expr} {kk : Nat} {tpos : Pos} {go stop : Nat → Hp → Prop} {pr : Nat → Hp → V → V → Prop} {own : List Addr} {it : Addr} {tn : Nat → Heap → Prop}
    (mem : it ∈ own) (obj : ∀ i h, tn i h → ∀ b ∈ own, ∃ o, h.get? b = some o ∧ ∀ v, o.data ≠ .cell v) (keep : ∀ i h h', tn i h → (∀ b ∈ own, ∀ o, h.get? b = some o → h'.get? b = some o) → tn i h')
    (item : ∀ (X : Cx), X.prog = P → X.w = w → X.K = K → X.calm = true → ∀ (i : Nat) (pins : List (Addr × Obj)) (s : Shared) (σ : L2.St) (H : Hp), Inv X pins σ H s → tn i s.heap → go i H →
      ∃ (fp wr : List Addr) (n : Nat) (Y : Nat → Heap → Value → Heap → Prop) (St : Nat → Heap → Prop), GoesN P w X.A (.Tuple elts kk tpos) it fp wr n Y St ∧ i < n ∧ St i s.heap ∧ (∀ b ∈ wr, b ∈ own) ∧ (∀ h', St (i + 1) h' → tn (i + 1) h') ∧
        ∀ v h', Y i s.heap v h' → ∃ T u1 u2 x y, v = .ref T ∧ s.heap.objs.size ≤ T ∧ h'.IsTuple T #[u1, u2] ∧ RelV x u1 ∧ RelV y u2 ∧ pr i H x y)
    (done : ∀ (X : Cx), X.prog = P → X.w = w → X.K = K → X.calm = true → ∀ (i : Nat) (pins : List (Addr × Obj)) (s : Shared) (σ : L2.St) (H : Hp), Inv X pins σ H s → tn i s.heap → stop i H →
      ∃ (fp wr : List Addr) (Y : Nat → Heap → Value → Heap → Prop) (St : Nat → Heap → Prop), GoesN P w X.A (.Tuple elts kk tpos) it fp wr i Y St ∧ St i s.heap ∧ (∀ b ∈ wr, b ∈ own))
    (self : ∀ (A : Around) (i : Nat) (s : Shared) (Q : Value → Shared → Prop) (E : Value → Shared → Prop), tn i s.heap → Q (.ref it) s → wpAny (model P w) A (pyIter (.ref it)) Q E s) :
    Turn P w K (.Tuple elts kk tpos) (ItP go pr stop) own it tn where
  mem := mem
  obj := obj
  keep := keep
  item := by
    intro X hP hw hK hc i pins s σ H E I hf st hg
    obtain ⟨fp, wr, n, Y, St, W, hin, hst, hsub, hnx, hy⟩ := item X hP hw hK hc i pins s σ H I st hg
    subst hP hw hK
    refine thn (W.goes i s (fun v s2 => ∃ x H', Inv X pins σ H' s2 ∧ RelV x v ∧ (ItP go pr stop).yld i H x H' ∧ tn (i + 1) s2.heap ∧ ∀ b ∈ own, H' b = none) E hin hst fun v h' tk hY st' hk htk => ?_) fun r s1 ⟨v, e, q⟩ => ⟨v, e, q⟩
    obtain ⟨T, u1, u2, x, y, rfl, hT, hTup, r1, r2, hp⟩ := hy v h' hY
    have hTn : H T = none := I.hok.fresh hT
    have new : ObjOk X.prog X.w (upd H T (.tup [x, y])) h' T (.tup [x, y]) := ⟨by show 2 ≤ sizeLine; decide, [u1, u2], .cons r1 (.cons r2 .nil), hTup⟩
    refine ⟨.ref T, _, I.turnedNew (t' := tk) (ch := own) (fun b o hb q => hk b o (fun z => hb (hsub b z)) q) hf hT new, rfl, ⟨T, x, y, rfl, hTn, rfl, hp⟩, hnx h' st', fun b hb => ?_⟩
    have hbl : b < s.heap.objs.size := by
      obtain ⟨o, e, _⟩ := obj i s.heap st b hb
      exact Heap.lt_size e
    rw [upd_ne (Nat.ne_of_lt (Nat.lt_of_lt_of_le hbl hT))]
    exact (hf b hb).1
  done := by
    intro X hP hw hK hc i pins s σ H E I hf st hg
    obtain ⟨fp, wr, Y, St, W, hst, hsub⟩ := done X hP hw hK hc i pins s σ H I st hg
    subst hP hw hK
    exact W.stops s (fun s1 => Inv X pins σ H s1) E hst fun h' tk hk htk => I.turnedL (t' := tk) (ch := own) (fun b o hb q => hk b o (fun z => hb (hsub b z)) q) hf
  self := self

/-! ### enumerate, of a tuple -/
theorem meets_enum1 {v : Value} {o : Obj} {H : Heap → Prop} (B : Begins v o H) :
    Meets (Builtin.«enumerate.__new__» ⟨[.type "enumerate", v], []⟩) (fun _ R s => H s.heap ∧
      R (.ok (.ret (.ref (s.heap.push o).objs.size))) { s with heap := (s.heap.push o).push { cls := .type "enumerate", data := .fields #[.none, .bool false, .ref s.heap.objs.size, rawInt 0, .none, .none] } }) :=
  .of_wp fun prog w A R s h => by
    obtain ⟨hp, g, d, tk, os⟩ := s; obtain ⟨h1, h⟩ := h
    have hsub := sub_enumerate
    have q1 : ∀ {A' : Around} {E : Value → Shared → Prop} {Q : Value → Shared → Prop}, Q (.ref hp.objs.size) ⟨hp.push o, g, d, tk, os⟩ → wpAny (model prog w) A' (pyIter v) Q E ⟨hp, g, d, tk, os⟩ :=
      fun q => B.iter prog w _ _ ⟨hp, g, d, tk, os⟩ _ h1 q
    wp_walk using q1
    refine wpAny_stack_any fun st => wpAny_pure ?_
    split
    · rename_i c _ _ _ _ _
      cases (c == Value.type "enumerate")
      · wp_walk using q1
        exact ⟨_, rfl, h⟩
      · wp_walk using q1
        exact ⟨_, rfl, h⟩
    · wp_walk using q1
      exact ⟨_, rfl, h⟩
end Cal
set_option Elab.async false
set_option linter.all false
set_option maxRecDepth 100000
set_option maxHeartbeats 4000000
namespace Cal
open PySem PySem.Spec PyProof.Rows L2
section
variable {P : Program} {w : World} {K : PySem.W.Frag} {elts : List Expr} {kk : Nat} {tpos : Pos}
theorem vals_at {vs : List V} {us : List Value} (h : Vals vs us) {i : Nat} {u : Value} (e : us[i]? = some u) : ∃ v, vs[i]? = some v ∧ RelV v u := by
  have hl := h.length
  have hi : i < us.length := by
    rcases Nat.lt_or_ge i us.length with z | z
    · exact z
    · rw [List.getElem?_eq_none z] at e; cases e
  obtain ⟨u', e1, r⟩ := h.get (List.getElem?_eq_getElem (show i < vs.length by omega))
  rw [e] at e1; cases e1
  exact ⟨_, List.getElem?_eq_getElem (by omega), r⟩
/-- enumerate(t), t a tuple -/
def Iet (K : PySem.W.Frag) (a : Addr) : It := ItP (fun i H => ∃ (xs : List V), SqT K H a xs ∧ i < xs.length) (fun i H x y => x = .int (i : Nat) ∧ ∀ xs, SqT K H a xs → xs[i]? = some y) (fun i H => ∃ xs : List V, SqT K H a xs ∧ xs.length = i)
theorem turn_enumT (a e it : Addr) (hae : a ≠ e) (hai : a ≠ it) : Turn P w K (.Tuple elts kk tpos) (Iet K a) [e, it] e (fun i h => (∃ old, IsEnum h e it ((i : Nat) : Int) old) ∧ h.IsTupleIter it a i ∧ e ≠ it) := by
  refine turn_pairs (by simp) (fun i h st b hb => ?_) (fun i h h' st k => ?_) ?_ ?_ ?_
  · obtain ⟨⟨old, he⟩, ⟨o, ho, hc, hd⟩, _⟩ := st
    rcases List.mem_cons.mp hb with z | z
    · rw [z]; exact ⟨_, he, fun v q => nomatch q⟩
    · rw [List.mem_singleton.mp z]; exact ⟨o, ho, fun v q => by rw [hd] at q; cases q⟩
  · obtain ⟨⟨old, he⟩, hi, hne⟩ := st
    exact ⟨⟨old, k e (by simp) _ he⟩, hi.at fun o q => k it (by simp) o q, hne⟩
  · intro X hP hw hK hc i pins s σ H I st hg
    subst hP hw hK
    obtain ⟨⟨old, he⟩, hit, hne⟩ := st
    obtain ⟨xs, hq, hx⟩ := hg
    obtain ⟨its, rv, p, hz⟩ := I.tuple hq
    have hl := rv.length
    have D := Draws.tuple (prog := X.prog) (w := X.w) (A := X.A.in1) (by have := I.ok.hd hc; exact this) it a hai its.toArray
    have W := GoesN.enumFrom (elts := elts) (x1 := kk) (pos := tpos) 0 D e hne (by simp [hne, Ne.symm hae]) (by simp)
    refine ⟨_, _, _, _, _, W, by simp; omega, ⟨⟨old, by simpa using he⟩, hit, p⟩, fun b hb => by simpa using hb, fun h' ⟨⟨old', he'⟩, hit', _⟩ => ⟨⟨old', by simpa using he'⟩, hit', hne⟩, fun v h' ⟨T, t, x, ev, hT, hx', hTup⟩ => ?_⟩
    obtain ⟨y, hy, ry⟩ := vals_at rv (u := x) (i := i) (by simpa using hx')
    exact ⟨T, _, x, .int (i : Nat), y, ev, hT, hTup, ⟨t, by simp⟩, ry, rfl, fun ys hys => by rw [I.tuple_inj hys hq]; exact hy⟩
  · intro X hP hw hK hc i pins s σ H I st hg
    subst hP hw hK
    obtain ⟨⟨old, he⟩, hit, hne⟩ := st
    obtain ⟨xs, hq, hx⟩ := hg
    obtain ⟨its, rv, p, hz⟩ := I.tuple hq
    have hl := rv.length
    have D := Draws.tuple (prog := X.prog) (w := X.w) (A := X.A.in1) (by have := I.ok.hd hc; exact this) it a hai its.toArray
    have W := GoesN.enumFrom (elts := elts) (x1 := kk) (pos := tpos) 0 D e hne (by simp [hne, Ne.symm hae]) (by simp)
    have es : its.toArray.size = i := by simp; omega
    rw [es] at W
    exact ⟨_, _, _, _, W, ⟨⟨old, by simpa using he⟩, hit, p⟩, fun b hb => by simpa using hb⟩
  · intro A i s Q E st h
    obtain ⟨⟨_, he⟩, _⟩ := st
    exact wpAny_pyIter_enum he h
theorem call_enumT {A : Around} {E : Value → Shared → Prop} {s : Shared} {t : Addr} {items : Array Value} {Q : Value → Shared → Prop} (h1 : s.heap.IsTuple t items)
    (h : ∀ h', IsEnum h' (s.heap.objs.size + 1) s.heap.objs.size 0 .none → h'.IsTupleIter s.heap.objs.size t 0 → h'.objs.size = s.heap.objs.size + 2 →
      (∀ b o, s.heap.get? b = some o → h'.get? b = some o) → Q (.ref (s.heap.objs.size + 1)) { s with heap := h' }) :
    wpAny (model P w) A (call (.type "enumerate") [.ref t]) Q E s := by
  refine callType_new F.called_enumerate (by decide) (F.typeCall_enumerate_1 _) (F.newCall_enumerate_1 _) (fun obj => F.args_object_init_2 obj _) F.entry_enumerate_new
    (meets_enum1 (begins_tuple t items)) ⟨h1, ?_⟩
  generalize ho : ({ cls := .type "tuple_iterator", data := .fields #[.ref t, .int 0 0] } : Obj) = o
  have hz : (s.heap.push o).objs.size = s.heap.objs.size + 1 := Heap.size_push ..
  show _ ∧ _
  rw [hz]
  have he : IsEnum ((s.heap.push o).push { cls := .type "enumerate", data := .fields #[.none, .bool false, .ref s.heap.objs.size, rawInt 0, .none, .none] }) (s.heap.objs.size + 1) s.heap.objs.size 0 .none := by
    have := Heap.get?_push_size (s.heap.push o) (o := { cls := .type "enumerate", data := .fields #[.none, .bool false, .ref s.heap.objs.size, rawInt 0, .none, .none] }) rfl
    rw [hz] at this; exact this
  refine ⟨⟨_, he, rfl⟩, h _ he ⟨o, Heap.get?_push_of_some _ (Heap.get?_push_size _ (by subst ho; rfl)), by subst ho; rfl, by subst ho; rfl⟩ (by rw [Heap.size_push, hz]) fun b o x => Heap.get?_push_of_some _ (Heap.get?_push_of_some _ x)⟩
def iEnumT (K : PySem.W.Frag) (ta : TA) : TI := fun σ H R => ta σ H fun vs H1 => ∃ a xs, vs = [.ref a] ∧ SqT K H1 a xs ∧ R (Iet K a) H1
theorem pi_enumT {X : Cx} {e : Expr} {ta : TA} {p pos : Pos} (hg : Gl X "enumerate") (hm : X.mg "enumerate" = none) (ha : PA X [e] ta) (hs : starEach [e] X.env = [(false, eval e X.env)] := by rfl) :
    PI X (.Tuple elts kk tpos) (.Call (.Name "enumerate" p) [e] [] pos) (iEnumT X.K ta) := by
  refine ⟨fun pins s σ H R I h => ?_⟩
  refine Call_ (ld_blt I hg hm boot_enumerate (PyProof.Rows.callWith_type1 (thn (ha.run pos pins s σ H _ I h) fun us s1 ⟨vs, H1, I1, r1, q1⟩ => ?_) hs rfl))
  obtain ⟨a, xs, ex, hq, q⟩ := q1
  subst ex
  obtain ⟨u, rfl, ru⟩ := r1.one
  cases ru
  obtain ⟨its, rv, p', hz⟩ := I1.tuple hq
  have hal : a < s1.heap.objs.size := p'.lt
  refine call_enumT p' fun h' he hit hsz hk => wpAny_pyIter_enum he ?_
  have I2 : Inv X pins σ H1 { s1 with heap := h' } := I1.kept (t' := s1.toks) hk
  refine ⟨s1.heap.objs.size + 1, [s1.heap.objs.size + 1, s1.heap.objs.size], _, _, H1, rfl, I2, turn_enumT a (s1.heap.objs.size + 1) s1.heap.objs.size (Nat.ne_of_lt (Nat.lt_succ_of_lt hal)) (Nat.ne_of_lt hal), ⟨⟨.none, he⟩, hit, Nat.succ_ne_self _⟩, fun b hb => ?_, q⟩
  have hle : s1.heap.objs.size ≤ b := by
    rcases List.mem_cons.mp hb with z | z
    · rw [z]; exact Nat.le_add_right _ _
    · rw [List.mem_singleton.mp z]; exact Nat.le_refl _
  exact I1.fpOk hle (I1.hok.fresh hle)

/-! ### zip of a list and a tuple -/
def IzLT (K : PySem.W.Frag) (a b : Addr) : It := ItP (fun i H => ∃ xs ys : List V, SqL K H a xs ∧ SqT K H b ys ∧ i < xs.length ∧ i < ys.length) (fun i H x y => (∀ xs, SqL K H a xs → xs[i]? = some x) ∧ ∀ ys, SqT K H b ys → ys[i]? = some y)
  (fun i H => ∃ xs ys : List V, SqL K H a xs ∧ SqT K H b ys ∧ i = min xs.length ys.length)
theorem turn_zipLT {a b z TI TO i1 i2 : Addr} (S : ZipSep2 z TI TO i1 i2 [i1, a] [i2, b]) (na : a ≠ i1) (nb : b ≠ i2) : Turn P w K (.Tuple elts kk tpos) (IzLT K a b) [z, TI, TO, i1, i2] z (fun i h => IsZip h z TI TO .none ∧ IsTupOf2 h TI (.ref i1) (.ref i2) ∧ (∃ x y, IsTupOf2 h TO x y) ∧ h.IsListIter i1 a i ∧ h.IsTupleIter i2 b i) := by
  have goes : ∀ (X : Cx), X.prog = P → X.w = w → X.K = K → X.calm = true → ∀ (i : Nat) (pins : List (Addr × Obj)) (s : Shared) (σ : L2.St) (H : Hp) (its its2 : List Value), Inv X pins σ H s →
      GoesN P w X.A (.Tuple elts kk tpos) z (z :: TI :: TO :: ([i1, a] ++ [i2, b])) [z, TO, i1, i2] (min its.length its2.length) (fun i h₀ v h => ∃ T x y, v = .ref T ∧ h₀.objs.size ≤ T ∧ its.toArray[i]? = some x ∧ its2.toArray[i]? = some y ∧ h.IsTuple T #[x, y])
        (fun i h => IsZip h z TI TO .none ∧ IsTupOf2 h TI (.ref i1) (.ref i2) ∧ (∃ a1 a2, IsTupOf2 h TO a1 a2) ∧ (h.IsListIter i1 a i ∧ h.IsList a its.toArray) ∧ (h.IsTupleIter i2 b i ∧ h.IsTuple b its2.toArray)) := by
    intro X hP hw hK hc i pins s σ H its its2 I
    subst hP hw hK
    have hh : X.A.in1.handled = none := I.ok.hd hc
    have D1 := Draws.list (prog := X.prog) (w := X.w) (A := X.A.in1) hh i1 a na its.toArray
    have D2 := Draws.tuple (prog := X.prog) (w := X.w) (A := X.A.in1) hh i2 b nb its2.toArray
    have W := GoesN.zip2 (elts := elts) (x1 := kk) (pos := tpos) S D1 D2
    simpa using W
  refine turn_pairs (by simp) (fun i h st c hc => ?_) (fun i h h' st k => ?_) ?_ ?_ ?_
  · obtain ⟨hz, hTI, ⟨x, y, hTO⟩, ⟨o1, e1, _, d1⟩, ⟨o2, e2, _, d2⟩⟩ := st
    have e' : c = z ∨ c = TI ∨ c = TO ∨ c = i1 ∨ c = i2 := by simpa using hc
    rcases e' with q | q | q | q | q
    · rw [q]; exact ⟨_, hz, fun v q => nomatch q⟩
    · rw [q]; exact ⟨_, hTI, fun v q => nomatch q⟩
    · rw [q]; exact ⟨_, hTO, fun v q => nomatch q⟩
    · rw [q]; exact ⟨o1, e1, fun v q => by rw [d1] at q; cases q⟩
    · rw [q]; exact ⟨o2, e2, fun v q => by rw [d2] at q; cases q⟩
  · obtain ⟨hz, hTI, ⟨x, y, hTO⟩, h1, h2⟩ := st
    exact ⟨k z (by simp) _ hz, k TI (by simp) _ hTI, ⟨x, y, k TO (by simp) _ hTO⟩, h1.at fun o q => k i1 (by simp) o q, h2.at fun o q => k i2 (by simp) o q⟩
  · intro X hP hw hK hc i pins s σ H I ⟨hz, hTI, hTO, h1, h2⟩ hg
    have hK' := hK
    subst hK'
    obtain ⟨xs, ys, hq1, hq2, l1, l2⟩ := hg
    obtain ⟨its, rv, p, _⟩ := I.list hq1
    obtain ⟨its2, rv2, p2, _⟩ := I.tuple hq2
    have e1 := rv.length
    have e2 := rv2.length
    refine ⟨_, _, _, _, _, goes X hP hw rfl hc i pins s σ H its its2 I, by omega, ⟨hz, hTI, hTO, ⟨h1, p.isList⟩, h2, p2⟩, fun b hb => ?_, fun h' ⟨a1, a2, a3, a4, a5⟩ => ⟨a1, a2, a3, a4.1, a5.1⟩, fun v h' ⟨T, x, y, ev, hT, hx, hy, hTup⟩ => ?_⟩
    · have : b = z ∨ b = TO ∨ b = i1 ∨ b = i2 := by simpa using hb
      rcases this with q | q | q | q <;> simp [q]
    · obtain ⟨vx, z1, z2⟩ := vals_at rv (u := x) (i := i) (by simpa using hx)
      obtain ⟨vy, z3, z4⟩ := vals_at rv2 (u := y) (i := i) (by simpa using hy)
      exact ⟨T, x, y, vx, vy, ev, hT, hTup, z2, z4, fun l hl => by rw [I.list_inj hl hq1]; exact z1, fun l hl => by rw [I.tuple_inj hl hq2]; exact z3⟩
  · intro X hP hw hK hc i pins s σ H I ⟨hz, hTI, hTO, h1, h2⟩ hg
    have hK' := hK
    subst hK'
    obtain ⟨xs, ys, hq1, hq2, l1⟩ := hg
    obtain ⟨its, rv, p, _⟩ := I.list hq1
    obtain ⟨its2, rv2, p2, _⟩ := I.tuple hq2
    have e1 := rv.length
    have e2 := rv2.length
    have W := goes X hP hw rfl hc i pins s σ H its its2 I
    rw [show min its.length its2.length = i by omega] at W
    refine ⟨_, _, _, _, W, ⟨hz, hTI, hTO, ⟨h1, p.isList⟩, h2, p2⟩, fun b hb => ?_⟩
    have : b = z ∨ b = TO ∨ b = i1 ∨ b = i2 := by simpa using hb
    rcases this with q | q | q | q <;> simp [q]
  · intro A i s Q E st h
    exact wpAny_pyIter_zip st.1 h
def iZipLT (K : PySem.W.Frag) (ta : TA) : TI := fun σ H R => ta σ H fun vs H1 => ∃ a b xs ys, vs = [.ref a, .ref b] ∧ SqL K H1 a xs ∧ SqT K H1 b ys ∧ R (IzLT K a b) H1
theorem zip_made {X : Cx} {pins : List (Addr × Obj)} {σ : L2.St} {H1 : Hp} {s1 : Shared} {a b : Addr} {xs ys : List V} {Q : Value → Shared → Prop} {E : Value → Shared → Prop} (I1 : Inv X pins σ H1 s1) (hq1 : SqL X.K H1 a xs) (hq2 : SqT X.K H1 b ys)
    (h : ∀ (s2 : Shared) (z : Addr), Inv X pins σ H1 s2 → IsZip s2.heap z (s1.heap.objs.size + 2) (s1.heap.objs.size + 3) .none → (∀ {tg : Expr} {R : It → Hp → Prop} {elts : List Expr} {kk : Nat} {tpos : Pos}, R (IzLT X.K a b) H1 → PIE X pins σ (.Tuple elts kk tpos) R (.ref z) s2) → Q (.ref z) s2) : wpAny (model X.prog X.w) X.A (call (.type "zip") [.ref a, .ref b]) Q E s1 := by
  obtain ⟨its, rv, p, _⟩ := I1.list hq1
  obtain ⟨its2, rv2, p2, _⟩ := I1.tuple hq2
  have la : a < s1.heap.objs.size := by obtain ⟨_, _, e, _⟩ := p; exact Heap.lt_size e
  have lb : b < s1.heap.objs.size := p2.lt
  refine zip_begins2 (begins_list a its.toArray) (begins_tuple b its2.toArray) p.isList p2 fun h' hz hTI hTO g1 g2 hsz hk => ?_
  have I2 : Inv X pins σ H1 { s1 with heap := h' } := I1.kept (t' := s1.toks) hk
  refine h { s1 with heap := h' } _ I2 hz fun {tg R elts kk tpos} q => ?_
  have S : ZipSep2 (s1.heap.objs.size + 4) (s1.heap.objs.size + 2) (s1.heap.objs.size + 3) s1.heap.objs.size (s1.heap.objs.size + 1) [s1.heap.objs.size, a] [s1.heap.objs.size + 1, b] := zip_sep2 (fun c hc => by rw [List.mem_singleton.mp hc]; exact la) (fun c hc => by rw [List.mem_singleton.mp hc]; exact lb)
  refine ⟨s1.heap.objs.size + 4, [s1.heap.objs.size + 4, s1.heap.objs.size + 2, s1.heap.objs.size + 3, s1.heap.objs.size, s1.heap.objs.size + 1], _, _, H1, rfl, I2, turn_zipLT S (Nat.ne_of_lt la) (Nat.ne_of_lt (Nat.lt_succ_of_lt lb)), ⟨hz, hTI, ⟨_, _, hTO⟩, ⟨_, g1, rfl, rfl⟩, ⟨_, g2, rfl, rfl⟩⟩, fun c hc => ?_, q⟩
  have hle : s1.heap.objs.size ≤ c := by
    have e' : c = s1.heap.objs.size + 4 ∨ c = s1.heap.objs.size + 2 ∨ c = s1.heap.objs.size + 3 ∨ c = s1.heap.objs.size ∨ c = s1.heap.objs.size + 1 := by simpa using hc
    rcases e' with z | z | z | z | z <;> rw [z] <;> first | exact Nat.le_add_right _ _ | exact Nat.le_refl _
  exact I1.fpOk hle (I1.hok.fresh hle)
theorem pi_zipLT {X : Cx} {e e2 : Expr} {ta : TA} {p pos : Pos} (hg : Gl X "zip") (hm : X.mg "zip" = none) (ha : PA X [e, e2] ta)
    (hs : starEach [e, e2] X.env = (false, eval e X.env) :: starEach [e2] X.env := by rfl) (hpl : (backTo pos (starEach [e2] X.env)).any (·.1) = false := by rfl) :
    PI X (.Tuple elts kk tpos) (.Call (.Name "zip" p) [e, e2] [] pos) (iZipLT X.K ta) := by
  refine ⟨fun pins s σ H R I h => ?_⟩
  refine Call_ (ld_blt I hg hm PyProof.Rows.boot_zip (PyProof.Rows.callWith_type1 (thn (ha.run pos pins s σ H _ I h) fun us s1 ⟨vs, H1, I1, r1, q1⟩ => ?_) hs hpl))
  obtain ⟨a, b, xs, ys, ex, hq1, hq2, q⟩ := q1
  subst ex
  obtain ⟨u1, u2, rfl, ru1, ru2⟩ := r1.two
  cases ru1
  cases ru2
  exact zip_made I1 hq1 hq2 fun s2 z I2 hz hp => wpAny_pyIter_zip hz (hp (tg := .Name "" pos) q)
end

/-! ### as data -/
section
variable {j : J} {G : List Slot} {e a b tg : Expr} {es : List Expr} {pos p p1 tpos : Pos} {F : Hp} {ds xs ys : List Dat} {kk : Nat}
/-- (0, x0), (1, x1), .. -/
def enumD (n : Nat) : List Dat → List Dat
  | [] => []
  | x :: xs => .tup [.int (n : Nat), x] :: enumD (n + 1) xs
theorem enumD_len : ∀ (n : Nat) (xs : List Dat), (enumD n xs).length = xs.length
  | _, [] => rfl
  | n, x :: xs => by unfold enumD; rw [List.length_cons, List.length_cons, enumD_len]
theorem enumD_at : ∀ {n i : Nat} {xs : List Dat} {x : Dat}, xs[i]? = some x → (enumD n xs)[i]? = some (.tup [.int ((n + i : Nat) : Int), x])
  | n, i, [], x, h => by simp at h
  | n, 0, y :: ys, x, h => by cases h; rfl
  | n, i + 1, y :: ys, x, h => by
    show (enumD (n + 1) ys)[i]? = _
    rw [enumD_at (n := n + 1) (by simpa using h)]
    congr 4
    omega
theorem walk_enumT {c : Cfg} {E : Addr → Prop} {q : Addr} {vs : List V} (h1 : SqT c.K F q vs) (i1 : IsL c F xs vs) : Walk c E (Iet c.K q) F (enumD 0 xs) where
  go := fun i F1 H1 x g hi => ⟨vs, (x.trans g.ext).t h1, by rw [enumD_len] at hi; rw [← i1.len]; exact hi⟩
  yld := fun i F1 H1 x H2 xt g y hi => by
    obtain ⟨T, v, u, rfl, hT, rfl, rfl, y2⟩ := y
    obtain ⟨du, e3, e4⟩ := i1.at' (y2 vs ((xt.trans g.ext).t h1))
    obtain ⟨F2, z1, z2⟩ := laid_pair g hT (dx := .int (i : Nat)) (is_int.mpr rfl) (Is.mono xt _ _ e4)
    exact ⟨_, F2, by have := enumD_at (n := 0) e3; rw [Nat.zero_add] at this; exact this, z1, z2⟩
  stop := fun i F1 H1 x g hi => ⟨vs, (x.trans g.ext).t h1, by rw [hi, enumD_len, i1.len]⟩
theorem it_enumT {p1 : Pos} (h : DE j G e (.tup xs)) (hm : j.c.mg "enumerate" = none) (hg : GlN j "enumerate" := by rfl) (hs : ∀ env : Env, starEach [e] env = [(false, eval e env)] := by intro _; rfl) :
    IT j G (.Tuple es kk tpos) (.Call (.Name "enumerate" p1) [e] [] pos) (enumD 0 xs) := by
  intro X hX σ F H R hE hq
  refine wi_of (pi_enumT (hX.gl hg) (by rw [hX.mg]; exact hm) (pa_cons we pa_nil (hs _)) (hs _)) (h X hX σ F H _ hE fun v F1 H1 i1 g1 => ?_)
  obtain ⟨q, vs, rfl, h2, h3⟩ := is_tup.mp i1
  exact ⟨q, vs, rfl, by rw [hX.K]; exact g1.good.ext.t h2, by rw [hX.K]; exact hq _ F1 H1 (walk_enumT h2 h3) g1⟩
theorem walk_zipLT {c : Cfg} {E : Addr → Prop} {q r : Addr} {vs us : List V} (h1 : F q = some (.lst vs)) (i1 : IsL c F xs vs) (h2 : SqT c.K F r us) (i2 : IsL c F ys us) : Walk c E (IzLT c.K q r) F (zipD xs ys) where
  go := fun i F1 H1 x g hi => by
    rw [zipD_len] at hi
    have l1 := i1.len
    have l2 := i2.len
    exact ⟨vs, us, SqL.of (g.ext _ _ (x _ _ h1)), (x.trans g.ext).t h2, by omega, by omega⟩
  yld := fun i F1 H1 x H2 xt g y hi => by
    obtain ⟨T, v, u, rfl, hT, rfl, y1, y2⟩ := y
    obtain ⟨dv, e1, e2⟩ := i1.at' (y1 vs (SqL.of (g.ext _ _ (xt _ _ h1))))
    obtain ⟨du, e3, e4⟩ := i2.at' (y2 us ((xt.trans g.ext).t h2))
    obtain ⟨F2, z1, z2⟩ := laid_pair g hT (Is.mono xt _ _ e2) (Is.mono xt _ _ e4)
    exact ⟨_, F2, zipD_at e1 e3, z1, z2⟩
  stop := fun i F1 H1 x g hi => ⟨vs, us, SqL.of (g.ext _ _ (x _ _ h1)), (x.trans g.ext).t h2, by rw [zipD_len] at hi; rw [hi, i1.len, i2.len]⟩
theorem it_zipLT (h : DE j G a (.lst xs)) (h2 : DE j G b (.tup ys)) (hm : j.c.mg "zip" = none) (hg : GlN j "zip" := by rfl)
    (hs : ∀ env : Env, starEach [a, b] env = (false, eval a env) :: starEach [b] env := by intro _; rfl) (hs2 : Stars b := by intro _; rfl) (hpl : ∀ env : Env, (backTo pos (starEach [b] env)).any (·.1) = false := by intro _; rfl) :
    IT j G (.Tuple es kk tpos) (.Call (.Name "zip" p1) [a, b] [] pos) (zipD xs ys) := by
  intro X hX σ F H R' hE hq
  refine wi_of (pi_zipLT (hX.gl hg) (by rw [hX.mg]; exact hm) (pa_cons we (pa_cons we pa_nil (hs2 _)) (hs _)) (hs _) (hpl _)) (h X hX σ F H _ hE fun v F1 H1 i1 g1 => h2 X hX σ F1 H1 _ (hE.gr g1) fun u F2 H2 i2 g2 => ?_)
  obtain ⟨q, vs, rfl, z1, z2⟩ := is_lst.mp (Is.mono g2.ext _ _ i1)
  obtain ⟨r, us, rfl, z3, z4⟩ := is_tup.mp i2
  exact ⟨q, r, vs, us, rfl, SqL.of (g2.good.ext _ _ z1), by rw [hX.K]; exact g2.good.ext.t z3, by rw [hX.K]; exact hq _ F2 H2 (walk_zipLT z1 z2 z3 z4) (g1.trans g2)⟩
end
end Cal
set_option Elab.async false
set_option linter.all false
set_option maxRecDepth 100000
set_option maxHeartbeats 4000000
namespace Cal
open PySem PySem.Spec PyProof.Rows L2

/-! ### t[::-1] -/
section
variable {prog : Program} {w : World} {A : Around} {E : Value → Shared → Prop} {s : Shared}
theorem places_rev (n : Nat) : Builtin.Slice.slicePlaces ((n : Int) - 1) (-1) (-1) = n := by
  unfold Builtin.Slice.slicePlaces
  rw [if_neg (by decide)]
  by_cases h : (n : Int) - 1 > -1
  · rw [if_pos h, show (- (-1 : Int)) = 1 by decide, Int.ediv_one]
    omega
  · rw [if_neg h]
    omega
theorem fm_congr {α β : Type} {f g : α → Option β} : ∀ {l : List α}, (∀ a ∈ l, f a = g a) → l.filterMap f = l.filterMap g
  | [], _ => rfl
  | a :: l, h => by
    rw [List.filterMap_cons, List.filterMap_cons, h a List.mem_cons_self, fm_congr fun b hb => h b (List.mem_cons_of_mem _ hb)]
theorem pick_rev (xs : Array Value) : ((List.range xs.size).filterMap fun (k : Nat) => xs[((xs.size : Int) - 1 + (k : Int) * (-1)).toNat]?).toArray = xs.toList.reverse.toArray := by
  have e : ∀ k ∈ List.range xs.size, xs[((xs.size : Int) - 1 + (k : Int) * (-1)).toNat]? = xs[xs.size - 1 - k]? := fun k hk => by
    have := List.mem_range.mp hk
    have e2 : ((xs.size : Int) - 1 + (k : Int) * (-1)).toNat = xs.size - 1 - k := by omega
    rw [e2]
  rw [fm_congr e]
  have e3 : (List.range xs.size).filterMap (fun k => xs[xs.size - 1 - k]?) = ((List.range xs.size).map fun k => xs.size - 1 - k).filterMap (xs[·]?) := by
    rw [List.filterMap_map]; rfl
  rw [e3, PySem.W.krv_range, List.filterMap_reverse, PySem.W.krv_all]
theorem getItem_tuple_rev {t sl : Addr} {items : Array Value} {vl vu vs : Value} {Q : Value → Shared → Prop} (ht : IsTup s.heap t items) (hs : s.heap.IsSliceOf sl vl vu vs) (pl : IsPart vl none) (pu : IsPart vu none) (ps : IsPart vs (some (-1)))
    (h : Q (.ref s.heap.objs.size) { s with heap := s.heap.push { cls := .type "tuple", data := .seq items.toList.reverse.toArray } }) (hsz : items.size ≤ sizeLine) : wpAny (model prog w) A (getItem (.ref t) (.ref sl)) Q E s := by
  have htake : sizeOk (.seq items.toList.reverse.toArray) := by
    show items.toList.reverse.toArray.size ≤ sizeLine
    rw [List.size_toArray, List.length_reverse, Array.length_toList]; exact hsz
  obtain ⟨os, hos, hcs, hds⟩ := id hs
  have hTs : s.TypeIs (.ref sl) "slice" := ⟨os, hos, hcs⟩
  unfold getItem
  try with_reducible refine wpAny_holding ?_
  first | refine wpAny_bind (wpAny_pure ?_) | skip
  refine wpAny_bind (wpAny_sequenceKey ht.typeIs (by decide) ?_)
  refine wpAny_bind (wpAny_callSpecial?_slot (name := Str.ofString "__getitem__") ht.typeIs PyProof.Rows.slot_tuple_getitem
    (wpAny_call_entry PyProof.Rows.slot_tuple_getitem ht.typeIs PyProof.Rows.entry_tuple_getitem ?_ (PyProof.Rows.args_tuple_getitem _ _)))
  show wpAny _ _ (Builtin.Tuple.tupleItemsOf (.ref t) >>= _) _ _ s
  refine wpAny_bind (PyProof.Rows.tupleItemsOf_ ht ?_)
  refine wpAny_bind (wpAny_typeOf hTs ?_)
  rw [if_pos (by decide)]
  have sa : ∀ {Q : Int × Int × Nat → Shared → Prop}, Q ((items.size : Int) - 1, -1, items.size) s → wpAny (model prog w) A.in1 (Builtin.Slice.sliceApplied (.ref sl) (pure (items.size : Int))) Q (fun e s' => E e s') s := fun {Q} q => by
    unfold Builtin.Slice.sliceApplied Builtin.Slice.sliceFields
    refine wpAny_bind (wpAny_bind (wpAny_field hos hds (x := vl) rfl (wpAny_bind (wpAny_field hos hds (x := vu) rfl (wpAny_bind (wpAny_field hos hds (x := vs) rfl (wpAny_pure ?_)))))))
    refine wpAny_bind (HT.slicePart_ ps ?_)
    show wpAny _ _ (if ((-1 : Int) == 0) = true then _ else _) _ _ s
    rw [if_neg (by decide)]
    refine wpAny_bind (HT.slicePart_ pl (wpAny_bind (HT.slicePart_ pu (wpAny_bind (wpAny_pure ?_)))))
    show wpAny _ _ (pure ((items.size : Int) - 1, (-1 : Int), Builtin.Slice.slicePlaces ((items.size : Int) - 1) (-1) (-1))) _ _ s
    rw [places_rev]
    exact wpAny_pure q
  refine wpAny_bind (sa ?_)
  show wpAny _ _ (if ((items.size : Int) - 1 == 0 && (-1 : Int) == 1 && items.size == items.size) = true then _ else _) _ _ s
  rw [if_neg (by simp), pick_rev]
  first
    | exact wpAny_bind (m := Builtin.Tuple.tupleExact _) (wpAny_newObj_type (wpAny_pure ⟨_, rfl, wpAny_pure h⟩) htake)
    | exact wpAny_bind (m := Builtin.Tuple.tupleExact _) (wpAny_newObj_type (wpAny_bind (wpAny_pure (wpAny_pure ⟨_, rfl, wpAny_pure h⟩))) htake)
    | exact wpAny_bind (wpAny_bind (m := Builtin.Tuple.tupleExact _) (wpAny_newObj_type (wpAny_pure (wpAny_pure ⟨_, rfl, wpAny_pure h⟩)) htake))
    | exact wpAny_bind (wpAny_bind (m := Builtin.Tuple.tupleExact _) (wpAny_newObj_type (wpAny_pure ⟨_, rfl, wpAny_pure h⟩) htake))
end
def tRevT (K : PySem.W.Frag) (te : TE) : TE := fun σ H Q => te σ H fun x H1 => ∃ a xs, x = .ref a ∧ SqT K H1 a xs ∧ ∀ p, H1 p = none → Q (.ref p) (upd H1 p (.tup xs.reverse))
theorem pe_revT {X : Cx} {e : Expr} {te : TE} {k : Nat} {p1 p2 p3 pos : Pos} (he : PE X e te) : PE X (.Subscript e (.Slice none none (some (.UnaryOp .USub (.Constant (.int 1) k p1) p2)) p3) pos) (tRevT X.K te) := by
  refine ⟨fun pins s σ H Q I h => ?_⟩
  refine Subscript_ (thn (he.run pins s σ H _ I h) fun v s1 ⟨x, H1, I1, r1, q1⟩ => ?_)
  obtain ⟨a, xs, ex, hx, q⟩ := q1
  subst ex
  cases r1
  have hst : PO X (some (.UnaryOp .USub (.Constant (.int 1) k p1) p2)) (tPart (tUn (rU fun i => .int (-i)) (tC (.int 1)))) := po_some (pe_un un_neg pe_int)
  refine wpAny_Slice (thn (po_none.run pins s1 σ H1 (fun o H2 => o = none ∧ H2 = H1) I1 ⟨rfl, rfl⟩) fun vl s2 ⟨l, H2, I2, pl, el, e2⟩ => ?_)
  subst el e2
  refine thn (po_none.run pins s2 σ H2 (fun o H3 => o = none ∧ H3 = H2) I2 ⟨rfl, rfl⟩) fun vu s3 ⟨u, H3, I3, pu, eu, e3⟩ => ?_
  subst eu e3
  refine thn (hst.run pins s3 σ H3 (fun o H4 => o = some (-1) ∧ H4 = H3) I3 ⟨1, rfl, -1, rfl, rfl, rfl⟩) fun vs s4 ⟨o, H4, I4, ps, eo, e4⟩ => ?_
  subst eo e4
  have I5 : Inv X pins σ H4 { s4 with heap := s4.heap.push { cls := .type "slice", data := .fields #[vl, vu, vs] } } := I4.kept (t' := s4.toks) fun b ob q => Heap.get?_push_of_some _ q
  obtain ⟨its, r, ht, hz⟩ := I5.tuple hx
  have hlen := r.length
  show wpAny (model X.prog X.w) X.A (subscriptTail e (.Slice none none (some (.UnaryOp .USub (.Constant (.int 1) k p1) p2)) p3) (.ref a) (.ref s4.heap.objs.size)) (EP X pins σ Q) X.xe { s4 with heap := s4.heap.push { cls := .type "slice", data := .fields #[vl, vu, vs] } }
  refine tail_any (ops := [.ref a, .ref s4.heap.objs.size]) ht.typeIs (PyProof.Rows.slot_tuple_getitem.lookup) ?_ (by with_unfolding_all rfl)
  refine getItem_tuple_rev ht (Heap.IsSliceOf.new _ vl vu vs) pl pu ps ?_ (by rw [List.size_toArray]; omega)
  refine ⟨.ref _, _, I5.laid (t' := s4.toks) (o := .tup xs.reverse) (fun b ob q => Heap.get?_push_of_some _ q) (Nat.le_refl _) ?_, rfl, q _ (I5.hok.fresh (Nat.le_refl _))⟩
  exact ⟨by rw [List.length_reverse]; exact hz, _, r.reverse, IsTup.new _ _⟩
section
variable {j : J} {G : List Slot} {e a b o : Expr} {es : List Expr} {pos p p1 p2 p3 apos : Pos} {F H : Hp} {ds xs ys : List Dat} {kk : Nat}
theorem de_revT (h : DE j G e (.tup xs)) : DE j G (.Subscript e (.Slice none none (some (.UnaryOp .USub (.Constant (.int 1) kk p1) p2)) p3) pos) (.tup xs.reverse) := by
  intro X hX σ F H q hE hq
  refine we_of (pe_revT we) (h X hX σ F H _ hE fun v F1 H1 i1 g1 => ?_)
  obtain ⟨t, vs, rfl, h2, h3⟩ := is_tup.mp i1
  refine ⟨t, vs, rfl, by rw [hX.K]; exact g1.good.ext.t h2, fun w hw => ?_⟩
  have g4 := Gr.laid (E := j.E) g1.good (o := .tup vs.reverse) hw
  exact hq _ _ _ (is_tup.mpr ⟨w, _, rfl, SqT.of upd_same, IsL.mono g4.ext _ _ h3.rev⟩) (g1.trans g4)

/-! ### tuples whose object is known -/
def tTupF (t : TA) : TE := fun σ H Q => t σ H fun xs H1 => xs.length ≤ sizeLine ∧ ∀ p o, H1 p = none → o.dict = none → Q (.ref p) (upd H1 p (.frz o (.tup xs)))
theorem pe_tupF {X : Cx} {t : TA} {x1} (h : PA X es t) : PE X (.Tuple es x1 pos) (tTupF t) := by
  refine ⟨fun pins s σ H Q I hq => ?_⟩
  refine wpAny_Tuple_spliced (thn (h.run pos pins s σ H _ I hq) fun us s1 ⟨xs, H1, I1, r, z, q⟩ => ⟨by rw [← r.length]; exact z, ?_⟩)
  have hf : H1 s1.heap.objs.size = none := I1.hok.fresh (Nat.le_refl _)
  have e := Heap.get?_push_size s1.heap (o := { cls := .type "tuple", data := .seq us.toArray }) rfl
  refine ⟨.ref s1.heap.objs.size, upd H1 s1.heap.objs.size (.frz _ (.tup xs)), I1.laid (t' := s1.toks) (fun b u e => Heap.get?_push_of_some _ e) (Nat.le_refl _) ⟨e, z, us, r, _, e, rfl, _, rfl⟩, rfl, q _ _ hf rfl⟩
theorem Is.tuf {c : Cfg} {v : V} (h : Is c F (.tuf xs) v) : Is c F (.tup xs) v := by
  unfold Is at h
  obtain ⟨p, o, vs, rfl, ⟨h1, h2⟩, h3⟩ := h
  exact is_tup.mpr ⟨p, vs, rfl, .inl (.inr ⟨o, h1⟩), h3⟩
theorem DE.tuf (h : DE j G e (.tuf xs)) : DE j G e (.tup xs) := fun X hX σ F H q hE hq => h X hX σ F H q hE fun v F' H' i g => hq v F' H' i.tuf g
theorem de_tupF {nn : Nat} (h : DA j G es ds) (hl : ds.length ≤ 100000) : DE j G (.Tuple es nn pos) (.tuf ds) := by
  intro X hX σ F H q hE hq
  refine we_of (pe_tupF wa) (h X hX σ F H _ hE fun vs F1 H1 i1 g1 => ⟨by rw [← i1.len]; exact Nat.le_trans hl (by decide), fun p o hp ho => ?_⟩)
  have g2 := Gr.laid (E := j.E) g1.good (o := .frz o (.tup vs)) hp
  exact hq _ _ _ (by unfold Is; exact ⟨p, o, vs, rfl, ⟨upd_same, ho⟩, IsL.mono g2.ext ds vs i1⟩) (g1.trans g2)
/-- t + u, u not empty -/
def rCatF (K : PySem.W.Frag) : R2 := fun x y H Q => ∃ a b xs ys, x = .ref a ∧ y = .ref b ∧ SqT K H a xs ∧ SqT K H b ys ∧ xs.length + ys.length ≤ sizeLine ∧ ys ≠ [] ∧
  (xs = [] → Q (.ref b) H) ∧ (xs ≠ [] → ∀ p o, H p = none → o.dict = none → Q (.ref p) (upd H p (.frz o (.tup (xs ++ ys)))))
end
end Cal
set_option Elab.async false
set_option linter.all false
set_option maxRecDepth 100000
set_option maxHeartbeats 4000000
namespace Cal
open PySem PySem.Spec PyProof.Rows L2

/-! ### a dict's keys found, whatever they are -/
/-- the entries' keys are ks -/
def KeysOf (w : World) (h : Heap) (ks : List NestedKey) (es : Array DictEntry) : Prop := es.size = ks.length ∧ ∀ (i : Nat) (k : NestedKey), ks[i]? = some k → ∃ e, es[i]? = some e ∧ e.hash = k.hash w ∧ NestedIs h k e.key
section
variable {prog : Program} {w : World} {A : Around} {E : Value → Shared → Prop} {s : Shared}
theorem KeysOf.back {h : Heap} {ks : List NestedKey} {es : Array DictEntry} (H : KeysOf w h ks es) {i : Nat} {e : DictEntry} (he : es[i]? = some e) : ∃ k, ks[i]? = some k ∧ e.hash = k.hash w ∧ NestedIs h k e.key := by
  have hi : i < es.size := by
    rcases Nat.lt_or_ge i es.size with z | z
    · exact z
    · rw [Array.getElem?_eq_none z] at he; cases he
  obtain ⟨e', h1, h2, h3⟩ := H.2 i _ (List.getElem?_eq_getElem (by rw [← H.1]; exact hi))
  rw [he] at h1; cases h1
  exact ⟨_, List.getElem?_eq_getElem _, h2, h3⟩
theorem tell_n {k : NestedKey} {kv : Value} {stored : List Value} {Q : Bool → Shared → Prop} (hkey : NestedIs s.heap k kv) (hd : k.depth ≤ 8) (hst : ∀ v ∈ stored, ∃ k', NestedIs s.heap k' v ∧ k'.depth ≤ 8) (h : Q false s) : wpAny (model prog w) A (tableMayTell kv stored) Q E s := by
  unfold tableMayTell
  split
  · exact wpAny_pure h
  · refine wpAny_bind (quiet_key (prog := prog) (w := w) k kv 8 s hkey hd A E _ ?_)
    simp only [Bool.not_true, Bool.false_eq_true, if_false]
    refine wpAny_bind ?_
    refine wpAny_forIn_list _ (fun rest r s' => s' = s ∧ r = (none, ()) ∧ ∀ v ∈ rest, ∃ k', NestedIs s.heap k' v ∧ k'.depth ≤ 8) _ ?_ ?_ _ _ ⟨rfl, rfl, hst⟩
    · rintro x rest r s' ⟨rfl, rfl, hr⟩
      obtain ⟨k', hb, hd'⟩ := hr x List.mem_cons_self
      refine wpAny_bind (quiet_key (prog := prog) (w := w) k' x 8 s' hb hd' A E _ ?_)
      simp only [Bool.not_true, Bool.false_eq_true, if_false]
      exact wpAny_pure ⟨rfl, rfl, fun v hv => hr v (List.mem_cons_of_mem _ hv)⟩
    · rintro r s' ⟨rfl, rfl, _⟩
      exact wpAny_pure h
theorem idx_unique {α : Type} {l : List α} (hn : l.Nodup) {i j : Nat} {x : α} (h1 : l[i]? = some x) (h2 : l[j]? = some x) : i = j := by
  have hi : i < l.length := by
    rcases Nat.lt_or_ge i l.length with z | z
    · exact z
    · rw [List.getElem?_eq_none z] at h1; cases h1
  exact (List.getElem?_inj hi hn).mp (h1.trans h2.symm)
theorem find_n {d : Addr} {o : Obj} {es : Array DictEntry} {ep : Nat} {ks : List NestedKey} {k : NestedKey} {kv : Value} {Q : Option Nat → Shared → Prop} (hu : A.units + 8 < cLine) (hkey : NestedIs s.heap k kv) (hkt : (k = .none ∧ kv = .none) ∨ ∃ a, kv = .ref a) (hd8 : k.depth ≤ 8)
    (ho : s.heap.get? d = some o) (hd : o.data = .dict es ep) (hK : KeysOf w s.heap ks es) (h8 : ∀ k ∈ ks, k.depth ≤ 8) (hn : ks.Nodup) (hnone : k ∉ ks → Q none s) (hsome : ∀ j : Nat, ks[j]? = some k → Q (some j) s) :
    wpAny (model prog w) A (dictFind d kv (k.hash w)) Q E s := by
  have hst : ∀ v ∈ (placesWithHash es.size (fun i => es[i]?.map (·.hash)) (k.hash w)).filterMap (fun i => es[i]?.map (·.key)), ∃ k', NestedIs s.heap k' v ∧ k'.depth ≤ 8 := by
    intro v hv
    obtain ⟨i, _, hi⟩ := List.mem_filterMap.mp hv
    cases hei : es[i]? with
    | none => rw [hei] at hi; cases hi
    | some e =>
      rw [hei] at hi
      obtain rfl : e.key = v := by simpa using hi
      obtain ⟨k', h1, h2, h3⟩ := hK.back hei
      exact ⟨k', h3, h8 k' (List.mem_of_getElem? h1)⟩
  have hask : ∀ (j : Nat), ks[j]? = some k → ((es[j]?.map (·.hash)) == some (k.hash w)) = true := fun j hj => by
    obtain ⟨e, h1, h2, _⟩ := hK.2 j k hj
    rw [h1]; simp [h2]
  have hany : ∀ a, kv = .ref a → ¬ (es.any fun e => e.key == Value.ref a && e.hash != k.hash w) = true := by
    intro a ea
    rw [← Array.any_toList, List.any_eq_true]
    rintro ⟨e, hin, hc⟩
    obtain ⟨i, hi, hei⟩ := List.getElem_of_mem hin
    have he : es[i]? = some e := by rw [← Array.getElem?_toList, List.getElem?_eq_getElem hi, hei]
    obtain ⟨k', h1, h2, h3⟩ := hK.back he
    simp only [Bool.and_eq_true, beq_iff_eq, bne_iff_ne, ne_eq] at hc
    rw [hc.1, ← ea] at h3
    exact hc.2 (by rw [h2, NestedIs.inj _ _ _ h3 hkey])
  have hsz := hK.1
  -- one turn of a walk over the places: what is known ahead of i, then ahead of x
  have ahead : ∀ {x : Nat} {rest : List Nat} {i : Nat}, x :: rest = (List.range' i (es.size - i)).filter (fun i => (es[i]?.map (·.hash)) == some (k.hash w)) → i ≤ es.size →
      i ≤ x ∧ x < es.size ∧ (∀ j, i ≤ j → j < x → ks[j]? ≠ some k) ∧ rest = (List.range' (x + 1) (es.size - (x + 1))).filter (fun i => (es[i]?.map (·.hash)) == some (k.hash w)) ∧ ∃ k' e, ks[x]? = some k' ∧ es[x]? = some e ∧ e.hash = k'.hash w ∧ NestedIs s.heap k' e.key := by
    intro x rest i hr hi
    obtain ⟨hix, hxn, hpx, hskip, hrest⟩ := filter_range'_cons _ _ _ _ _ hr.symm
    have hlt : x < es.size := by omega
    refine ⟨hix, hlt, fun j h1 h2 hj => ?_, by rw [hrest]; congr 2; omega, ?_⟩
    · have := hskip j h1 h2
      rw [hask j hj] at this
      exact absurd this (by decide)
    · obtain ⟨e, h1, h2, h3⟩ := hK.2 x _ (List.getElem?_eq_getElem (by rw [← hsz]; exact hlt))
      exact ⟨_, e, List.getElem?_eq_getElem _, h1, h2, h3⟩
  have last : ∀ {i : Nat}, [] = (List.range' i (es.size - i)).filter (fun i => (es[i]?.map (·.hash)) == some (k.hash w)) → ∀ j, i ≤ j → ks[j]? ≠ some k := by
    intro i hr j h1 hj
    have hjl : j < es.size := by
      rw [hsz]
      rcases Nat.lt_or_ge j ks.length with h' | h'
      · exact h'
      · rw [List.getElem?_eq_none h'] at hj; cases hj
    have := List.filter_eq_nil_iff.mp hr.symm j (List.mem_range'_1.mpr ⟨h1, by omega⟩)
    rw [hask j hj] at this
    exact this rfl
  have start : placesWithHash es.size (fun i => es[i]?.map (·.hash)) (k.hash w) = (List.range' 0 (es.size - 0)).filter (fun i => (es[i]?.map (·.hash)) == some (k.hash w)) := by
    rw [placesWithHash, List.range_eq_range', Nat.sub_zero]
  have eqb : ∀ {k' : NestedKey} {v : Value} {Q : Bool → Shared → Prop}, NestedIs s.heap k' v → k' ∈ ks → Q (decide (k' = k)) s → wpAny (model prog w) A (eqBool v kv) Q E s := fun {k' v Q} h hm q =>
    eqAt_key k' k A s _ _ h hkey (by have := h8 k' hm; omega) _ _ _ _ (by rw [← NestedKey.decide_eq]; exact q)
  have toNone : (∀ j, ks[j]? ≠ some k) → Q none s := fun h => hnone fun hm => by
    obtain ⟨i, hi, he⟩ := List.getElem_of_mem hm
    exact h i (by rw [List.getElem?_eq_getElem hi, he])
  unfold dictFind
  try with_reducible refine wpAny_holding ?_
  refine wpAny_bind (wpAny_dictEntries ho hd ?_)
  have main : ∀ {tells : Bool}, tells = false → wpAny (model prog w) A (do
      let mut hit : Option Nat := none
      for i in placesWithHash es.size (fun i => es[i]?.map (·.hash)) (k.hash w) do
        if let some e := es[i]? then
          if e.hash == k.hash w then
            let before ← dictEpoch d (keyPart kv)
            let same ← eqBool e.key kv
            if (← dictEpoch d (keyPart kv)) != before then unsupported "dict.changed-during-lookup"
            if same then
              if hit.isSome then unsupported "dict.find:order-among-keys-of-one-hash"
              rule "dict.find.hit"
              if ((placesWithHash es.size (fun i => es[i]?.map (·.hash)) (k.hash w)).filterMap (fun i => es[i]?.map (·.key))).length < 2 then return some i
              hit := some i
            else
              rule "dict.find.same-hash-other-key"
              if tells && !(0 ≤ k.hash w && k.hash w < 32) then unsupported "dict.find:asked-again-or-not-hangs-on-the-table"
      return hit) Q E s := by
    intro tells ht
    subst ht
    refine wpAny_bind ?_
    refine wpAny_forIn_list _
      (fun rest b s' => s' = s ∧ ∃ i hit, b = (none, hit) ∧ rest = (List.range' i (es.size - i)).filter (fun i => (es[i]?.map (·.hash)) == some (k.hash w)) ∧ i ≤ es.size ∧
        ((hit = none ∧ ∀ j, j < i → ks[j]? ≠ some k) ∨ ∃ j, hit = some j ∧ j < i ∧ ks[j]? = some k)) _ ?_ ?_ _ _
      ⟨rfl, 0, none, rfl, start, Nat.zero_le _, .inl ⟨rfl, fun _ h => absurd h (Nat.not_lt_zero _)⟩⟩
    · rintro x rest b s' ⟨rfl, i, hit, rfl, hr, hi, hH⟩
      obtain ⟨hix, hlt, hskip, hrest, k', e, hk', he, hh, hN⟩ := ahead hr hi
      have hHx : (hit = none ∧ ∀ j, j < x → ks[j]? ≠ some k) ∨ ∃ j, hit = some j ∧ j < x ∧ ks[j]? = some k := by
        rcases hH with ⟨h0, hno⟩ | ⟨j, h1, hji, hj⟩
        · refine .inl ⟨h0, fun j hjx hj => ?_⟩
          rcases Nat.lt_or_ge j i with h | h
          · exact hno j h hj
          · exact hskip j h hjx hj
        · exact .inr ⟨j, h1, by omega, hj⟩
      have hstay : ¬ k' = k → ((hit = none ∧ ∀ j, j < x + 1 → ks[j]? ≠ some k) ∨ ∃ j, hit = some j ∧ j < x + 1 ∧ ks[j]? = some k) := by
        intro hne
        rcases hHx with ⟨h0, hno⟩ | ⟨j, h1, hjx, hj⟩
        · refine .inl ⟨h0, fun j hjx hj => ?_⟩
          rcases Nat.lt_or_ge j x with h | h
          · exact hno j h hj
          · have hjx' : j = x := by omega
            subst hjx'
            rw [hk'] at hj
            exact hne (Option.some.inj hj)
        · exact .inr ⟨j, h1, by omega, hj⟩
      rw [he]
      dsimp only
      by_cases hhh : (e.hash == k.hash w) = true
      · rw [if_pos hhh]
        refine wpAny_bind (wpAny_dictEpoch ho hd (wpAny_bind (eqb hN (List.mem_of_getElem? hk') (wpAny_bind (wpAny_dictEpoch ho hd ?_)))))
        show wpAny _ _ (if (ep != ep) = true then _ else _) _ E _
        rw [if_neg (by simp)]
        by_cases hkk : k' = k
        · rw [decide_eq_true hkk]
          subst hkk
          rcases hHx with ⟨rfl, _⟩ | ⟨j, _, hjx, hj⟩
          · first | rw [if_pos rfl] | skip
            simp only [Option.isSome_none, Bool.false_eq_true, if_false]
            first | refine wpAny_bind (wpAny_pure ?_) | skip
            refine wpAny_bind (wpAny_rule ?_)
            split
            · exact wpAny_pure (wpAny_pure (hsome x hk'))
            · exact wpAny_pure ⟨rfl, x + 1, some x, rfl, hrest, hlt, .inr ⟨x, rfl, Nat.lt_succ_self x, hk'⟩⟩
          · exact absurd (idx_unique hn hj hk') (by omega)
        · rw [decide_eq_false hkk]
          simp only [Bool.false_eq_true, if_false]
          refine wpAny_bind (wpAny_rule ?_)
          first | rw [if_neg (by simp)] | skip
          first
            | exact wpAny_pure ⟨rfl, x + 1, hit, rfl, hrest, hlt, hstay hkk⟩
            | exact wpAny_bind (wpAny_pure (wpAny_pure ⟨rfl, x + 1, hit, rfl, hrest, hlt, hstay hkk⟩))
      · rw [if_neg hhh]
        refine wpAny_pure ⟨rfl, x + 1, hit, rfl, hrest, hlt, hstay ?_⟩
        intro hkk
        rw [hh, hkk] at hhh; simp at hhh
    · rintro b s' ⟨rfl, i, hit, rfl, hr, hi, hH⟩
      rcases hH with ⟨rfl, hno⟩ | ⟨j, rfl, _, hj⟩
      · refine wpAny_pure (toNone fun j hj => ?_)
        rcases Nat.lt_or_ge j i with h | h
        · exact hno j h hj
        · exact last hr j h hj
      · exact wpAny_pure (hsome j hj)
  have walk : wpAny (model prog w) A (dictWalkPlain d kv (k.hash w) es (placesWithHash es.size (fun i => es[i]?.map (·.hash)) (k.hash w))) Q E s := by
    unfold dictWalkPlain
    refine wpAny_bind ?_
    refine wpAny_forIn_list _
      (fun rest b s' => s' = s ∧ b = (none, ()) ∧ ∃ i, rest = (List.range' i (es.size - i)).filter (fun i => (es[i]?.map (·.hash)) == some (k.hash w)) ∧ i ≤ es.size ∧ ∀ j, j < i → ks[j]? ≠ some k) _ ?_ ?_ _ _
      ⟨rfl, rfl, 0, start, Nat.zero_le _, fun _ h => absurd h (Nat.not_lt_zero _)⟩
    · rintro x rest b s' ⟨rfl, rfl, i, hr, hi, hno⟩
      obtain ⟨hix, hlt, hskip, hrest, k', e, hk', he, hh, hN⟩ := ahead hr hi
      have hno' : ∀ j, j < x → ks[j]? ≠ some k := fun j hjx hj => by
        rcases Nat.lt_or_ge j i with h | h
        · exact hno j h hj
        · exact hskip j h hjx hj
      have hstay : ¬ k' = k → ∀ j, j < x + 1 → ks[j]? ≠ some k := fun hne j hjx hj => by
        rcases Nat.lt_or_ge j x with h | h
        · exact hno' j h hj
        · have hjx' : j = x := by omega
          subst hjx'
          rw [hk'] at hj
          exact hne (Option.some.inj hj)
      rw [he]
      dsimp only
      by_cases hhh : (e.hash == k.hash w) = true
      · rw [if_pos hhh]
        refine wpAny_bind (wpAny_dictEpoch ho hd (wpAny_bind (eqb hN (List.mem_of_getElem? hk') (wpAny_bind (wpAny_dictEpoch ho hd ?_)))))
        show wpAny _ _ (if (ep != ep) = true then _ else _) _ E _
        rw [if_neg (by simp)]
        by_cases hkk : k' = k
        · rw [decide_eq_true hkk]
          subst hkk
          first | rw [if_pos rfl] | skip
          try simp only [if_true]
          first
            | exact wpAny_bind (wpAny_rule (wpAny_pure (wpAny_pure (hsome x hk'))))
            | exact wpAny_bind (wpAny_pure (wpAny_bind (wpAny_rule (wpAny_pure (wpAny_pure (hsome x hk'))))))
        · rw [decide_eq_false hkk]
          simp only [Bool.false_eq_true, if_false]
          first
            | exact wpAny_bind (wpAny_rule (wpAny_pure ⟨rfl, rfl, x + 1, hrest, hlt, hstay hkk⟩))
            | exact wpAny_bind (wpAny_pure (wpAny_bind (wpAny_rule (wpAny_pure ⟨rfl, rfl, x + 1, hrest, hlt, hstay hkk⟩))))
      · rw [if_neg hhh]
        refine wpAny_pure ⟨rfl, rfl, x + 1, hrest, hlt, hstay ?_⟩
        intro hkk
        rw [hh, hkk] at hhh; simp at hhh
    · rintro b s' ⟨rfl, rfl, i, hr, hi, hno⟩
      refine wpAny_pure (toNone fun j hj => ?_)
      rcases Nat.lt_or_ge j i with h | h
      · exact hno j h hj
      · exact last hr j h hj
  rcases hkt with ⟨rfl, rfl⟩ | ⟨a, rfl⟩
  · dsimp only
    by_cases hall : ((Value.none :: (placesWithHash es.size (fun i => es[i]?.map (·.hash)) (NestedKey.none.hash w)).filterMap (fun i => es[i]?.map (·.key))).all carriedByValue) = true
    · rw [if_pos hall]
      first
        | exact walk
        | exact wpAny_bind (wpAny_mono walk (fun v s' hq => wpAny_pure hq) fun _ _ e => e)
    · rw [if_neg hall]
      by_cases hone : (((placesWithHash es.size (fun i => es[i]?.map (·.hash)) (NestedKey.none.hash w)).filterMap (fun i => es[i]?.map (·.key))) == [Value.none]) = true
      · rw [if_pos hone]
        refine wpAny_bind (wpAny_pure ?_)
        rw [if_neg (by simp)]
        exact main rfl
      · rw [if_neg hone]
        refine wpAny_bind (tell_n hkey hd8 hst ?_)
        rw [if_neg (by simp)]
        exact main rfl
  · dsimp only
    rw [if_neg (show ¬ ((Value.ref a :: (placesWithHash es.size (fun i => es[i]?.map (·.hash)) (k.hash w)).filterMap (fun i => es[i]?.map (·.key))).all carriedByValue) = true by simp [carriedByValue])]
    rw [if_neg (hany a rfl)]
    by_cases hone : (((placesWithHash es.size (fun i => es[i]?.map (·.hash)) (k.hash w)).filterMap (fun i => es[i]?.map (·.key))) == [Value.ref a]) = true
    · rw [if_pos hone]
      refine wpAny_bind (wpAny_pure ?_)
      rw [if_neg (by simp)]
      exact main rfl
    · rw [if_neg hone]
      refine wpAny_bind (tell_n hkey hd8 hst ?_)
      rw [if_neg (by simp)]
      exact main rfl
end
end Cal
set_option Elab.async false
set_option linter.all false
set_option maxRecDepth 100000
set_option maxHeartbeats 4000000
namespace Cal
open PySem PySem.Spec PyProof.Rows L2

section
variable {prog : Program} {w : World} {A : Around} {E : Value → Shared → Prop} {s : Shared} {d : Addr} {es : Array DictEntry} {ep : Nat} {ks : List NestedKey} {k : NestedKey} {kv : Value}
/-- what a lookup asks: the key, the dict, its keys -/
structure Asks (w : World) (h : Heap) (d : Addr) (es : Array DictEntry) (ep : Nat) (ks : List NestedKey) (k : NestedKey) (kv : Value) : Prop where
  key : NestedIs h k kv
  kt : (k = .none ∧ kv = .none) ∨ ∃ a, kv = .ref a
  d8 : k.depth ≤ 8
  raw : h.DictRaw d es ep
  is : KeysOf w h ks es
  h8 : ∀ x ∈ ks, NestedKey.depth x ≤ 8
  nd : ks.Nodup
theorem get_n {Q : Option Value → Shared → Prop} (hu : A.units + 8 < cLine) (a : Asks w s.heap d es ep ks k kv) (hnone : k ∉ ks → ∀ t, Q none { s with toks := t }) (hsome : ∀ (j : Nat) e t, ks[j]? = some k → es[j]? = some e → Q (some e.val) { s with toks := t }) :
    wpAny (model prog w) A (dictGet d kv) Q E s := by
  obtain ⟨o, ho, hc, hd⟩ := a.raw
  unfold dictGet
  try with_reducible refine wpAny_holding ?_
  refine wpAny_bind (pyHash_key k kv A s _ a.key (by have := a.d8; omega) ?_)
  refine wpAny_bind (find_n (s := { s with toks := s.toks + k.draws }) hu a.key a.kt a.d8 ho hd a.is a.h8 a.nd (fun h => ?_) fun j hj => ?_)
  · exact wpAny_pure (hnone h _)
  · obtain ⟨e, h1, _, _⟩ := a.is.2 j k hj
    refine wpAny_bind (wpAny_dictEntries (s := { s with toks := s.toks + k.draws }) ho hd ?_)
    rw [h1]
    exact wpAny_pure (hsome j e _ hj h1)
theorem contains_n {Q : Bool → Shared → Prop} (hu : A.units + 9 < cLine) (hd : (d == sysModules) = false) (a : Asks w s.heap d es ep ks k kv) (h : ∀ t, Q (decide (k ∈ ks)) { s with toks := t }) :
    wpAny (model prog w) A (contains (.ref d) kv) Q E s := by
  unfold contains
  try with_reducible refine wpAny_holding ?_
  refine wpAny_bind (wpAny_specialOf a.raw.typeIs slot_dict_contains.lookup ?_)
  show wpAny _ _ (if (some (Value.builtin "dict.__contains__") == some Value.none) = true then _ else _) _ E s
  rw [if_neg (by rw [beq_builtin_none]; exact Bool.false_ne_true)]
  refine wpAny_bind (wpAny_callSpecialUnlessNone?_slot (name := Str.ofString "__contains__") a.raw.typeIs slot_dict_contains
    (wpAny_call_entry slot_dict_contains a.raw.typeIs entry_dict_contains ?_ (args_dict_contains _ _)))
  show wpAny _ _ (dictGet d kv >>= _) _ _ s
  refine wpAny_bind (get_n (by show A.units + 1 + 8 < cLine; omega) a (fun hk t => ?_) fun j e t hj he => ?_)
  · have h' := h t
    rw [decide_eq_false hk] at h'
    show wpAny _ _ (Builtin.Dict.pendingKey? d kv >>= _) _ _ _
    exact wpAny_bind (wpAny_pendingKey_other hd (wpAny_pure ⟨_, rfl, wpAny_truthy_bool h'⟩))
  · have h' := h t
    rw [decide_eq_true (List.mem_of_getElem? hj)] at h'
    show wpAny _ _ (ret (.bool true)) _ _ _
    exact wpAny_pure ⟨_, rfl, wpAny_truthy_bool h'⟩
theorem getItem_n {Q : Value → Shared → Prop} (hu : A.units + 9 < cLine) (a : Asks w s.heap d es ep ks k kv) (hk : k ∈ ks) (h : ∀ (j : Nat) e t, ks[j]? = some k → es[j]? = some e → Q e.val { s with toks := t }) :
    wpAny (model prog w) A (getItem (.ref d) kv) Q E s := by
  unfold getItem
  try with_reducible refine wpAny_holding ?_
  refine wpAny_bind (wpAny_sequenceKey a.raw.typeIs (by decide) ?_)
  refine wpAny_bind (wpAny_callSpecial?_slot (name := Str.ofString "__getitem__") a.raw.typeIs slot_dict_getitem
    (wpAny_call_entry slot_dict_getitem a.raw.typeIs entry_dict_getitem ?_ (args_dict_getitem _ _)))
  show wpAny _ _ (dictGet d kv >>= _) _ _ s
  refine wpAny_bind (get_n (by show A.units + 1 + 8 < cLine; omega) a (fun hk' => absurd hk hk') fun j e t hj he => ?_)
  exact wpAny_pure ⟨_, rfl, wpAny_pure (h j e t hj he)⟩
/-- behind a store -/
theorem dictSet_n {v : Value} {Q : Unit → Shared → Prop} (hu : A.units + 8 < cLine) (a : Asks w s.heap d es ep ks k kv) (hz : ks.length ≤ sizeLine)
    (hnew : k ∉ ks → ∀ h' t, h'.DictRaw d (es.push ⟨k.hash w, kv, v⟩) (ep + 1) → Heap.SameBut d s.heap h' → Q () { s with heap := h', toks := t })
    (hold : ∀ (j : Nat) h' t, ks[j]? = some k → h'.DictRaw d (es.modify j fun e => { e with val := v }) ep → Heap.SameBut d s.heap h' → Q () { s with heap := h', toks := t }) :
    wpAny (model prog w) A (dictSet d kv v) Q E s := by
  obtain ⟨o, ho, hc, hd⟩ := a.raw
  unfold dictSet
  try with_reducible refine wpAny_holding ?_
  refine wpAny_bind (pyHash_key k kv A s _ a.key (by have := a.d8; omega) ?_)
  unfold dictSetHashed
  try with_reducible refine wpAny_holding ?_
  refine wpAny_bind (find_n (s := { s with toks := s.toks + k.draws }) hu a.key a.kt a.d8 ho hd a.is a.h8 a.nd (fun h => ?_) fun j hj => ?_)
  · exact wpAny_bind (wpAny_rule (wpAny_updateDictKeys (hz := by have e := a.is.1; omega) (s := { s with toks := s.toks + k.draws }) ho hd (hnew h _ _ ⟨_, Heap.get?_update_self _ ho (Obj.isFreed_of_dict (Obj.data_mapDictKeys hd _)), hc.mapDictKeys _, Obj.data_mapDictKeys hd _⟩ (Heap.SameBut.update ..))))
  · exact wpAny_bind (wpAny_rule (wpAny_bind (wpAny_updateDict (s := { s with toks := s.toks + k.draws }) ho hd (wpAny_point (hold j _ _ hj ⟨_, Heap.get?_update_self _ ho (Obj.isFreed_of_dict (Obj.data_mapDict hd _)), hc.mapDict _, Obj.data_mapDict hd _⟩ (Heap.SameBut.update ..))))))
theorem setItem_n {v : Value} {Q : Unit → Shared → Prop} (hu : A.units + 9 < cLine) (a : Asks w s.heap d es ep ks k kv) (hz : ks.length ≤ sizeLine)
    (hnew : k ∉ ks → ∀ h' t, h'.DictRaw d (es.push ⟨k.hash w, kv, v⟩) (ep + 1) → Heap.SameBut d s.heap h' → Q () { s with heap := h', toks := t })
    (hold : ∀ (j : Nat) h' t, ks[j]? = some k → h'.DictRaw d (es.modify j fun e => { e with val := v }) ep → Heap.SameBut d s.heap h' → Q () { s with heap := h', toks := t }) :
    wpAny (model prog w) A (setItem (.ref d) kv v) Q E s := by
  unfold setItem
  try with_reducible refine wpAny_holding ?_
  refine wpAny_bind (wpAny_sequenceKey a.raw.typeIs (by decide) ?_)
  refine wpAny_bind (wpAny_callSpecial?_slot (name := Str.ofString "__setitem__") a.raw.typeIs slot_dict_setitem
    (wpAny_call_entry slot_dict_setitem a.raw.typeIs entry_dict_setitem ?_ (args_dict_setitem _ _ _)))
  show wpAny _ _ (Builtin.Dict.notOrdered "__setitem__" ⟨[.ref d, kv, v], []⟩ >>= _) _ _ s
  refine wpAny_bind (wpAny_notOrdered_dict a.raw.typeIs ?_)
  show wpAny _ _ (dictSet d kv v >>= _) _ _ s
  exact wpAny_bind (dictSet_n (by show A.units + 1 + 8 < cLine; omega) a hz (fun h h' t r b => wpAny_pure ⟨.none, rfl, wpAny_pure (hnew h h' t r b)⟩) fun j h' t hj r b => wpAny_pure ⟨.none, rfl, wpAny_pure (hold j h' t hj r b)⟩)
end
end Cal
set_option Elab.async false
set_option linter.all false
set_option maxRecDepth 100000
set_option maxHeartbeats 4000000
namespace Cal
open PySem PySem.Spec PyProof.Rows L2

section
variable {c : Cfg} {F H : Hp}
mutual
theorem is_kd : ∀ (k : NestedKey) (v : V), Is c F (kd k) v ↔ KeyIs c F k v
  | .none, v => by unfold kd Is KeyIs; exact Iff.rfl
  | .num i, v => by unfold kd Is KeyIs; exact Iff.rfl
  | .text x, v => by unfold kd Is KeyIs; exact Iff.rfl
  | .tup ks, v => by
    unfold kd Is KeyIs
    constructor
    · rintro ⟨p, vs, h1, h2, h3⟩; exact ⟨p, vs, h1, h2, (isL_kds ks vs).mp h3⟩
    · rintro ⟨p, vs, h1, h2, h3⟩; exact ⟨p, vs, h1, h2, (isL_kds ks vs).mpr h3⟩
theorem isL_kds : ∀ (ks : List NestedKey) (vs : List V), IsL c F (kds ks) vs ↔ KeyAll c F ks vs
  | [], vs => by unfold kds IsL KeyAll; exact Iff.rfl
  | k :: ks, vs => by
    unfold kds IsL KeyAll
    constructor
    · rintro ⟨v, r, h1, h2, h3⟩; exact ⟨v, r, h1, (is_kd k v).mp h2, (isL_kds ks r).mp h3⟩
    · rintro ⟨v, r, h1, h2, h3⟩; exact ⟨v, r, h1, (is_kd k v).mpr h2, (isL_kds ks r).mpr h3⟩
end
theorem KeyAll.nil_iff {vs : List V} : KeyAll c F [] vs ↔ vs = [] := by unfold KeyAll; exact Iff.rfl
theorem KeyAll.cons_iff {k : NestedKey} {ks : List NestedKey} {vs : List V} : KeyAll c F (k :: ks) vs ↔ ∃ v r, vs = v :: r ∧ KeyIs c F k v ∧ KeyAll c F ks r := by
  constructor
  · intro h; unfold KeyAll at h; exact h
  · intro h; unfold KeyAll; exact h
theorem KeyAll.len {ks : List NestedKey} {vs : List V} (h : KeyAll c F ks vs) : ks.length = vs.length := by
  induction ks generalizing vs with
  | nil => rw [KeyAll.nil_iff.mp h]; rfl
  | cons k ks ih =>
    obtain ⟨v, r, rfl, _, h3⟩ := KeyAll.cons_iff.mp h
    rw [List.length_cons, List.length_cons, ih h3]
theorem KeyAll.at_ {ks : List NestedKey} {vs : List V} (h : KeyAll c F ks vs) {i : Nat} {k : NestedKey} (e : ks[i]? = some k) : ∃ v, vs[i]? = some v ∧ KeyIs c F k v := by
  induction ks generalizing vs i with
  | nil => simp at e
  | cons k0 ks ih =>
    obtain ⟨v, r, rfl, h2, h3⟩ := KeyAll.cons_iff.mp h
    cases i with
    | zero => cases e; exact ⟨v, rfl, h2⟩
    | succ i => exact ih h3 (by simpa using e)
theorem KeyAll.snoc {ks : List NestedKey} {vs : List V} {k : NestedKey} {v : V} (h : KeyAll c F ks vs) (hk : KeyIs c F k v) : KeyAll c F (ks ++ [k]) (vs ++ [v]) := by
  induction ks generalizing vs with
  | nil => rw [KeyAll.nil_iff.mp h]; exact KeyAll.cons_iff.mpr ⟨v, [], rfl, hk, KeyAll.nil_iff.mpr rfl⟩
  | cons k0 ks ih =>
    obtain ⟨v0, r, rfl, h2, h3⟩ := KeyAll.cons_iff.mp h
    exact KeyAll.cons_iff.mpr ⟨v0, _, rfl, h2, ih h3⟩
section
variable {X : Cx} {pins : List (Addr × Obj)} {σ : L2.St} {s : Shared}
mutual
theorem KeyIs.nested (I : Inv X pins σ H s) (hK : X.K = c.K) (e : Ext F H) : ∀ (k : NestedKey) (v : V) (u : Value), KeyIs c F k v → RelV v u → NestedIs s.heap k u
  | .none, v, u, h, r => by
    unfold KeyIs at h; subst h
    cases r; exact .none
  | .num i, v, u, h, r => by
    unfold KeyIs at h; subst h
    obtain ⟨t, rfl⟩ := r; exact .int i t
  | .text x, v, u, h, r => by
    unfold KeyIs at h; subst h
    obtain ⟨t, rfl⟩ := r; exact .text x t
  | .tup ks, v, u, h, r => by
    unfold KeyIs at h
    obtain ⟨p, vs, rfl, h2, h3⟩ := h
    cases r
    obtain ⟨its, rv, ⟨o, ho, hc, n, hd⟩, _⟩ := I.tuple (by rw [hK]; exact e.t h2)
    exact .tup ho hc hd (KeyAll.nested I hK e ks vs its h3 rv)
theorem KeyAll.nested (I : Inv X pins σ H s) (hK : X.K = c.K) (e : Ext F H) : ∀ (ks : List NestedKey) (vs : List V) (us : List Value), KeyAll c F ks vs → Vals vs us → NestedAll s.heap ks us
  | [], vs, us, h, r => by
    rw [KeyAll.nil_iff.mp h] at r
    cases r; exact .nil
  | k :: ks, vs, us, h, r => by
    obtain ⟨v, q, rfl, h2, h3⟩ := KeyAll.cons_iff.mp h
    cases r with
    | cons r1 r2 => exact .cons (KeyIs.nested I hK e k v _ h2 r1) (KeyAll.nested I hK e ks q _ h3 r2)
end
/-- zip3, by places -/
theorem zip3_at : ∀ {ks : List NestedKey} {kv vs : List V} {i : Nat} {k : NestedKey} {v u : V}, ks[i]? = some k → kv[i]? = some v → vs[i]? = some u → (zip3 ks kv vs)[i]? = some (k, v, u)
  | [], _, _, i, _, _, _, h, _, _ => by simp at h
  | _ :: _, [], _, i, _, _, _, _, h, _ => by simp at h
  | _ :: _, _ :: _, [], i, _, _, _, _, _, h => by simp at h
  | k0 :: ks, v0 :: kv, u0 :: vs, 0, k, v, u, h1, h2, h3 => by cases h1; cases h2; cases h3; rfl
  | k0 :: ks, v0 :: kv, u0 :: vs, i + 1, k, v, u, h1, h2, h3 => by
    show (zip3 ks kv vs)[i]? = _
    exact zip3_at (by simpa using h1) (by simpa using h2) (by simpa using h3)
theorem zip3_len : ∀ {ks : List NestedKey} {kv vs : List V}, ks.length = kv.length → ks.length = vs.length → (zip3 ks kv vs).length = ks.length
  | [], kv, vs, _, _ => by cases kv <;> cases vs <;> rfl
  | k :: ks, [], vs, h, _ => by simp at h
  | k :: ks, v :: kv, [], _, h => by simp at h
  | k :: ks, v :: kv, u :: vs, h, h' => by
    show (zip3 ks kv vs).length + 1 = _
    rw [zip3_len (by simpa using h) (by simpa using h')]; rfl
theorem zip3_snoc : ∀ {ks : List NestedKey} {kv vs : List V} {k : NestedKey} {v u : V}, ks.length = kv.length → ks.length = vs.length → zip3 (ks ++ [k]) (kv ++ [v]) (vs ++ [u]) = zip3 ks kv vs ++ [(k, v, u)]
  | [], kv, vs, k, v, u, h, h' => by
    cases kv with
    | cons _ _ => simp at h
    | nil =>
      cases vs with
      | cons _ _ => simp at h'
      | nil => rfl
  | k0 :: ks, [], vs, _, _, _, h, _ => by simp at h
  | k0 :: ks, v0 :: kv, [], _, _, _, _, h => by simp at h
  | k0 :: ks, v0 :: kv, u0 :: vs, k, v, u, h, h' => by
    show (k0, v0, u0) :: zip3 (ks ++ [k]) (kv ++ [v]) (vs ++ [u]) = _
    rw [zip3_snoc (by simpa using h) (by simpa using h')]; rfl
theorem paired_at {α β : Type} {R : α → β → Prop} : ∀ {xs : List α} {ys : List β}, Paired R xs ys → ∀ {i : Nat} {x : α}, xs[i]? = some x → ∃ y, ys[i]? = some y ∧ R x y
  | _, _, .nil, i, x, h => by simp at h
  | _, _, .cons r t, 0, x, h => by cases h; exact ⟨_, rfl, r⟩
  | _, _, .cons r t, i + 1, x, h => paired_at t (i := i) (by simpa using h)
theorem paired_snoc {α β : Type} {R : α → β → Prop} : ∀ {xs : List α} {ys : List β} {x : α} {y : β}, Paired R xs ys → R x y → Paired R (xs ++ [x]) (ys ++ [y])
  | _, _, _, _, .nil, h => .cons h .nil
  | _, _, _, _, .cons r t, h => .cons r (paired_snoc t h)
theorem paired_set {α β : Type} {R : α → β → Prop} : ∀ {xs : List α} {ys : List β} {x : α} {y : β} {i : Nat}, Paired R xs ys → R x y → Paired R (xs.set i x) (ys.set i y)
  | _, _, _, _, _, .nil, _ => .nil
  | _, _, _, _, 0, .cons r t, h => .cons h t
  | _, _, _, _, i + 1, .cons r t, h => .cons r (paired_set t h)
/-- a dict's facts, unfolded -/
structure DK (c : Cfg) (F : Hp) (ks : List NestedKey) (kv vs : List V) (xs : List Dat) : Prop where
  len : ks.length = vs.length
  nd : ks.Nodup
  d8 : ∀ k ∈ ks, k.depth ≤ 8
  keys : KeyAll c F ks kv
  vals : IsL c F xs vs
theorem dic_open (I : Inv X pins σ H s) (hw : X.w = c.w) {d : Addr} {ep : Nat} {xs : List (NestedKey × V × V)} (h : H d = some (DicO c.w d ep xs)) : xs.length ≤ sizeLine ∧ (d == sysModules) = false ∧ ∃ es : Array DictEntry, s.heap.DictRaw d es ep ∧ Paired (EntR c.w) xs es.toList := (I.hok d _ h).1
theorem keysOf (I : Inv X pins σ H s) (hK : X.K = c.K) (e : Ext F H) {ks : List NestedKey} {kv vs : List V} {xs : List Dat} {es : Array DictEntry} (D : DK c F ks kv vs xs) (p : Paired (EntR c.w) (zip3 ks kv vs) es.toList) : KeysOf c.w s.heap ks es := by
  have l1 := D.keys.len
  refine ⟨by rw [← zip3_len l1 D.len, Paired.length p]; simp, fun i k hk => ?_⟩
  obtain ⟨v, h1, h2⟩ := D.keys.at_ hk
  have hi : i < vs.length := by
    rcases Nat.lt_or_ge i ks.length with z | z
    · rw [← D.len]; exact z
    · rw [List.getElem?_eq_none z] at hk; cases hk
  obtain ⟨en, e1, e2, e3, e4⟩ := paired_at p (zip3_at hk h1 (List.getElem?_eq_getElem hi))
  exact ⟨en, by rw [← Array.getElem?_toList]; exact e1, e2, KeyIs.nested I hK e k v _ h2 e3⟩
/-- a key that is asked for -/
def AskK (k : NestedKey) : Prop := (k = .none ∨ ∃ ks, k = .tup ks) ∧ k.depth ≤ 8
theorem asks_of (I : Inv X pins σ H s) (hK : X.K = c.K) (e : Ext F H) {d : Addr} {ep : Nat} {ks : List NestedKey} {kv vs : List V} {xs : List Dat} {es : Array DictEntry} (D : DK c F ks kv vs xs) (p : Paired (EntR c.w) (zip3 ks kv vs) es.toList) (r : s.heap.DictRaw d es ep)
    {k : NestedKey} {v : V} {u : Value} (hk : AskK k) (ik : KeyIs c F k v) (ru : RelV v u) : Asks c.w s.heap d es ep ks k u where
  key := KeyIs.nested I hK e k v u ik ru
  kt := by
    rcases hk.1 with rfl | ⟨ks', rfl⟩
    · unfold KeyIs at ik; subst ik
      cases ru; exact .inl ⟨rfl, rfl⟩
    · unfold KeyIs at ik
      obtain ⟨p, vs, rfl, _⟩ := ik
      cases ru; exact .inr ⟨_, rfl⟩
  d8 := hk.2
  raw := r
  is := keysOf I hK e D p
  h8 := D.d8
  nd := D.nd
end
end
end Cal
set_option Elab.async false
set_option linter.all false
set_option maxRecDepth 100000
set_option maxHeartbeats 4000000
namespace Cal
open PySem PySem.Spec PyProof.Rows L2

theorem at0_kd {c : Cfg} {E : Addr → Prop} {F H : Hp} {k : NestedKey} {v : V} (h : At0 c E F H (kd k) v) : KeyIs c F k v := by
  cases k with
  | none => exact (is_kd .none v).mp h
  | num i => exact (is_kd (.num i) v).mp h
  | text x => exact (is_kd (.text x) v).mp h
  | tup ks =>
    have h' : Is c F (kd (.tup ks)) v := by
      unfold kd at h ⊢
      exact h
    exact (is_kd (.tup ks) v).mp h'
theorem at0_dic {c : Cfg} {E : Addr → Prop} {F H : Hp} {ks : List NestedKey} {xs : List Dat} {v : V} (h : At0 c E F H (.dic ks xs) v) : ∃ p ep kv vs, v = .ref p ∧ H p = some (DicO c.w p ep (zip3 ks kv vs)) ∧ ¬ E p ∧ DK c F ks kv vs xs := by
  obtain ⟨p, kv, vs, h1, ⟨⟨ep, h2⟩, h3⟩, ⟨h4, h5, h6⟩, h7, h8⟩ := h
  exact ⟨p, ep, kv, vs, h1, h2, h3, h4, h5, h6, h7, h8⟩
/-- a lookup -/
def rAsk (c : Cfg) (R : NestedKey → List NestedKey → List Dat → List V → VK → Hp → Prop) : R2 := fun u v H q => ∃ F E k ks xs p ep kv vs, Good c E F H ∧ AskK k ∧ KeyIs c F k u ∧ v = .ref p ∧ H p = some (DicO c.w p ep (zip3 ks kv vs)) ∧ DK c F ks kv vs xs ∧ R k ks xs vs q H
section
variable {j : J} {G : List Slot} {e a b : Expr} {pos p1 p : Pos} {F H : Hp} {k : NestedKey} {ks : List NestedKey} {xs : List Dat} {d : Dat}
theorem op_inD {X : Cx} {n : Nat} {c : Cfg} (hr : Room n X.A) (hK : X.K = c.K) (hw : X.w = c.w) : OpR X (compareOp .In) (rAsk c fun k ks xs vs q H => q (.bl (decide (k ∈ ks))) H) := by
  intro pins s σ H u v uu vv q I r1 r2 h
  obtain ⟨F, E, k, ks, xs, p, ep, kv, vs, g, hk, ik, rfl, hp, D, hq⟩ := h
  cases r2
  obtain ⟨hz, hsm, es, raw, pr⟩ := dic_open I hw hp
  have ask := asks_of I hK g.ext D pr raw hk ik r1
  rw [← hw] at ask
  show wpAny _ _ (do return Value.bool (← contains (.ref p) uu)) _ _ s
  exact wpAny_bind (contains_n (by have := hr.units; omega) hsm ask fun t => wpAny_pure ⟨.bl _, H, I.tok _, rfl, hq⟩)
theorem op_notinD {X : Cx} {n : Nat} {c : Cfg} (hr : Room n X.A) (hK : X.K = c.K) (hw : X.w = c.w) : OpR X (compareOp .NotIn) (rAsk c fun k ks xs vs q H => q (.bl (!decide (k ∈ ks))) H) := by
  intro pins s σ H u v uu vv q I r1 r2 h
  obtain ⟨F, E, k, ks, xs, p, ep, kv, vs, g, hk, ik, rfl, hp, D, hq⟩ := h
  cases r2
  obtain ⟨hz, hsm, es, raw, pr⟩ := dic_open I hw hp
  have ask := asks_of I hK g.ext D pr raw hk ik r1
  rw [← hw] at ask
  show wpAny _ _ (do return Value.bool (!(← contains (.ref p) uu))) _ _ s
  exact wpAny_bind (contains_n (by have := hr.units; omega) hsm ask fun t => wpAny_pure ⟨.bl _, H, I.tok _, rfl, hq⟩)
theorem c_inD (hk : AskK k) : CmpIs j .In (kd k) (.dic ks xs) (decide (k ∈ ks)) := fun X hX => ⟨_, op_inD hX.room hX.K hX.w, fun F H v u q g h1 h2 hq => by
  obtain ⟨p, ep, kv, vs, rfl, hp, _, D⟩ := at0_dic h2
  exact ⟨F, j.E, k, ks, xs, p, ep, kv, vs, g, hk, at0_kd h1, rfl, hp, D, hq⟩⟩
theorem c_notinD (hk : AskK k) : CmpIs j .NotIn (kd k) (.dic ks xs) (!decide (k ∈ ks)) := fun X hX => ⟨_, op_notinD hX.room hX.K hX.w, fun F H v u q g h1 h2 hq => by
  obtain ⟨p, ep, kv, vs, rfl, hp, _, D⟩ := at0_dic h2
  exact ⟨F, j.E, k, ks, xs, p, ep, kv, vs, g, hk, at0_kd h1, rfl, hp, D, hq⟩⟩
theorem val_at {c : Cfg} {w : World} {ks : List NestedKey} {kv vs : List V} {es : Array DictEntry} (l1 : ks.length = kv.length) (l2 : ks.length = vs.length) (pr : Paired (EntR w) (zip3 ks kv vs) es.toList) {i : Nat} {en : DictEntry} (hi : i < ks.length) (he : es[i]? = some en) : ∃ v, vs[i]? = some v ∧ RelV v en.val := by
  have q := zip3_at (List.getElem?_eq_getElem hi) (List.getElem?_eq_getElem (show i < kv.length by omega)) (List.getElem?_eq_getElem (show i < vs.length by omega))
  obtain ⟨en', e1, _, _, e4⟩ := paired_at pr q
  rw [← Array.getElem?_toList, e1] at he
  cases he
  exact ⟨_, List.getElem?_eq_getElem _, e4⟩
/-- o[k], o a dict: its value at the key's place -/
theorem ix_D {X : Cx} {n : Nat} {c : Cfg} (hr : Room n X.A) (hK : X.K = c.K) (hw : X.w = c.w) : IxR X (fun v u H q => rAsk c (fun k ks xs vs q H => k ∈ ks ∧ ∀ (i : Nat) w, ks[i]? = some k → vs[i]? = some w → q w H) u v H q) := by
  intro value slice pins s σ H x y v u Q I rx ry h hs
  obtain ⟨F, E, k, ks, xs, p, ep, kv, vs, g, hk, ik, rfl, hp, D, hm, hq⟩ := h
  cases rx
  obtain ⟨hz, hsm, es, raw, pr⟩ := dic_open I hw hp
  have ask := asks_of I hK g.ext D pr raw hk ik ry
  rw [← hw] at ask
  refine tail_any (ops := [.ref p, u]) raw.typeIs (slot_dict_getitem.lookup) ?_ hs
  refine getItem_n (by have := hr.units; omega) ask hm fun i en t hi he => ?_
  have hlt : i < ks.length := by
    rcases Nat.lt_or_ge i ks.length with z | z
    · exact z
    · rw [List.getElem?_eq_none z] at hi; cases hi
  obtain ⟨w, hw1, hw2⟩ := val_at (c := c) D.keys.len D.len pr hlt he
  exact ⟨w, H, I.tok _, hw2, hq i w hi hw1⟩
theorem de_getD {i : Nat} (ha : RE j G a (.dic ks xs)) (hb : DE j G b (kd k)) (hk : AskK k) (hi : ks[i]? = some k) (hd : xs[i]? = some d) (hs : PlainIx b := by exact fun _ _ => rfl) : DE j G (.Subscript a b pos) d := by
  intro X hX σ F H q hE hq
  refine we_of (pe_ix (ix_D hX.room hX.K hX.w) we we hs) (ha X hX σ F H _ hE fun v F1 H1 i1 g1 => hb X hX σ F1 H1 _ (hE.gr g1) fun u F2 H2 i2 g2 => ?_)
  obtain ⟨p, ep, kv, vs, rfl, hp, _, D⟩ := at0_dic (i1.gr g1.good g2)
  refine ⟨F2, j.E, k, ks, xs, p, ep, kv, vs, g2.good, hk, (is_kd k u).mp i2, rfl, hp, D, List.mem_of_getElem? hi, fun i' w hi' hw' => ?_⟩
  have e : i' = i := idx_unique D.nd hi' hi
  subst e
  obtain ⟨w', e1, e2⟩ := D.vals.at_ hd
  rw [hw'] at e1; cases e1
  exact hq w F2 H2 e2 (g1.trans g2)
end
end Cal
set_option Elab.async false
set_option linter.all false
set_option maxRecDepth 100000
set_option maxHeartbeats 4000000
namespace Cal
open PySem PySem.Spec PyProof.Rows L2

def dsK (ks : List NestedKey) (k : NestedKey) : List NestedKey := if k ∈ ks then ks else ks ++ [k]
def dsX (ks : List NestedKey) (xs : List Dat) (k : NestedKey) (d : Dat) : List Dat := if k ∈ ks then xs.set (ks.idxOf k) d else xs ++ [d]
def dsV (ks : List NestedKey) (vs : List V) (k : NestedKey) (v : V) : List V := if k ∈ ks then vs.set (ks.idxOf k) v else vs ++ [v]
def dsKV (ks : List NestedKey) (kv : List V) (k : NestedKey) (v : V) : List V := if k ∈ ks then kv else kv ++ [v]
theorem idxOf_at {ks : List NestedKey} {k : NestedKey} (nd : ks.Nodup) {i : Nat} (h : ks[i]? = some k) : ks.idxOf k = i := by
  have hm := List.mem_of_getElem? h
  have hl := List.idxOf_lt_length_of_mem hm
  exact idx_unique nd (List.getElem?_eq_getElem hl |>.trans (by rw [List.getElem_idxOf hl])) h
theorem dicO_ok {P : Program} {w : World} {H : Hp} {h : Heap} {d : Addr} {ep : Nat} {xs : List (NestedKey × V × V)} {es : Array DictEntry} (hz : xs.length ≤ sizeLine) (hm : (d == sysModules) = false) (r : h.DictRaw d es ep) (p : Paired (EntR w) xs es.toList) : ObjOk P w H h d (DicO w d ep xs) := by
  refine ⟨⟨hz, hm, es, r, p⟩, let ⟨o, e, _⟩ := r; ⟨o, e⟩, fun h1 h2 ⟨z1, z2, es', r', p'⟩ st => ⟨z1, z2, es', r'.at st, p'⟩⟩
theorem dk_set {c : Cfg} {F : Hp} {ks : List NestedKey} {kv vs : List V} {xs : List Dat} (D : DK c F ks kv vs xs) {k : NestedKey} {u v : V} {d : Dat} (hk : k.depth ≤ 8) (iu : KeyIs c F k u) (iv : Is c F d v) : DK c F (dsK ks k) (dsKV ks kv k u) (dsV ks vs k v) (dsX ks xs k d) := by
  unfold dsK dsKV dsV dsX
  by_cases hm : k ∈ ks
  · rw [if_pos hm, if_pos hm, if_pos hm, if_pos hm]
    exact ⟨by rw [List.length_set]; exact D.len, D.nd, D.d8, D.keys, D.vals.set _ iv⟩
  · rw [if_neg hm, if_neg hm, if_neg hm, if_neg hm]
    refine ⟨by rw [List.length_append, List.length_append, D.len]; rfl, List.nodup_append.mpr ⟨D.nd, by simp, fun a ha b hb e => ?_⟩, fun x hx => ?_, D.keys.snoc iu, D.vals.snoc iv⟩
    · rw [List.mem_singleton.mp hb] at e
      exact hm (e ▸ ha)
    · rcases List.mem_append.mp hx with z | z
      · exact D.d8 x z
      · rw [List.mem_singleton.mp z]; exact hk
theorem zip3_set : ∀ {ks : List NestedKey} {kv vs : List V} {i : Nat} {k : NestedKey} {u v : V}, ks[i]? = some k → kv[i]? = some u → zip3 ks kv (vs.set i v) = (zip3 ks kv vs).set i (k, u, v)
  | [], _, _, i, _, _, _, h, _ => by simp at h
  | _ :: _, [], _, i, _, _, _, _, h => by simp at h
  | _ :: _, _ :: _, [], i, _, _, _, _, _ => by simp [zip3]
  | k0 :: ks, u0 :: kv, v0 :: vs, 0, k, u, v, h1, h2 => by cases h1; cases h2; rfl
  | k0 :: ks, u0 :: kv, v0 :: vs, i + 1, k, u, v, h1, h2 => by
    show (k0, u0, v0) :: zip3 ks kv (vs.set i v) = (k0, u0, v0) :: (zip3 ks kv vs).set i (k, u, v)
    rw [zip3_set (by simpa using h1) (by simpa using h2)]
theorem modify_at {α : Type} {f : α → α} : ∀ {l : List α} {i : Nat} {a : α}, l[i]? = some a → l.modify i f = l.set i (f a)
  | [], i, a, h => by simp at h
  | x :: l, 0, a, h => by cases h; rfl
  | x :: l, i + 1, a, h => by
    have := modify_at (f := f) (l := l) (i := i) (a := a) (by simpa using h)
    simp [List.modify_succ_cons, this]
/-- the store, by values -/
theorem set_state {X : Cx} {pins : List (Addr × Obj)} {σ : L2.St} {H : Hp} {s : Shared} {c : Cfg} {F : Hp} {p : Addr} {ep : Nat} {k : NestedKey} {ks : List NestedKey} {kv vs : List V} {xs : List Dat} {u v : V} {uu vv : Value} {es : Array DictEntry} (I : Inv X pins σ H s) (hw : X.w = c.w) (hp : H p = some (DicO c.w p ep (zip3 ks kv vs))) (D : DK c F ks kv vs xs) (hl : ks.length ≤ 1000000)
    (hsm : (p == sysModules) = false) (pr : Paired (EntR c.w) (zip3 ks kv vs) es.toList) (ru : RelV u uu) (rv : RelV v vv) {A : Around} {E : Value → Shared → Prop} {ask : Asks X.w s.heap p es ep ks k uu} {Q : Unit → Shared → Prop} {t : Sem Unit}
    (run : ∀ {Q : Unit → Shared → Prop}, (k ∉ ks → ∀ h' t, h'.DictRaw p (es.push ⟨k.hash X.w, uu, vv⟩) (ep + 1) → Heap.SameBut p s.heap h' → Q () { s with heap := h', toks := t }) →
      (∀ (j : Nat) h' t, ks[j]? = some k → h'.DictRaw p (es.modify j fun e => { e with val := vv }) ep → Heap.SameBut p s.heap h' → Q () { s with heap := h', toks := t }) → wpAny (model X.prog X.w) A t Q E s)
    (hq : ∀ ep' s', Inv X pins σ (upd H p (DicO c.w p ep' (zip3 (dsK ks k) (dsKV ks kv k u) (dsV ks vs k v)))) s' → Q () s') : wpAny (model X.prog X.w) A t Q E s := by
  have tr : ∃ o, H p = some o := ⟨_, hp⟩
  have l1 := D.keys.len
  refine run (fun hn h' t r b => hq (ep + 1) _ ?_) fun i h' t hi r b => hq ep _ ?_
  · refine I.write (x := p) (e := p) (by rw [hp]; unfold DicO; exact trivial) (.inl rfl) (fun b' w hb hu => (b.2 b' hb).trans hu) (let ⟨o, e, _⟩ := r; ⟨o, e⟩) ?_
    unfold dsK dsKV dsV
    rw [if_neg hn, if_neg hn, if_neg hn, zip3_snoc l1 D.len, ← hw]
    rw [← hw] at pr
    refine dicO_ok ?_ hsm r ?_
    · rw [List.length_append, zip3_len l1 D.len, List.length_singleton]
      exact Nat.le_trans (by omega : ks.length + 1 ≤ 1000001) (by decide)
    · rw [Array.toList_push]
      exact paired_snoc pr ⟨rfl, ru, rv⟩
  · refine I.write (x := p) (e := p) (by rw [hp]; unfold DicO; exact trivial) (.inl rfl) (fun b' w hb hu => (b.2 b' hb).trans hu) (let ⟨o, e, _⟩ := r; ⟨o, e⟩) ?_
    have hm := List.mem_of_getElem? hi
    unfold dsK dsKV dsV
    rw [if_pos hm, if_pos hm, if_pos hm, idxOf_at D.nd hi, ← hw]
    rw [← hw] at pr
    have hlt : i < ks.length := by
      rcases Nat.lt_or_ge i ks.length with z | z
      · exact z
      · rw [List.getElem?_eq_none z] at hi; cases hi
    have lv : vs.length = ks.length := D.len.symm
    refine dicO_ok ?_ hsm r ?_
    · rw [zip3_len l1 (by rw [List.length_set]; exact D.len)]
      exact Nat.le_trans hl (by decide)
    · have q := zip3_at hi (List.getElem?_eq_getElem (show i < kv.length by omega)) (List.getElem?_eq_getElem (show i < vs.length by omega))
      obtain ⟨en, e1, e2, e3, e4⟩ := paired_at pr q
      have z1 : zip3 ks kv (vs.set i v) = (zip3 ks kv vs).set i (k, kv[i]'(by omega), v) := by
        exact zip3_set hi (List.getElem?_eq_getElem _)
      have z2 : (es.modify i fun e => { e with val := vv }).toList = es.toList.set i { en with val := vv } := by
        obtain ⟨l⟩ := es
        have := modify_at (f := fun e : DictEntry => { e with val := vv }) e1
        simpa using this
      rw [z1, z2]
      exact paired_set pr ⟨e2, e3, rv⟩
end Cal
set_option Elab.async false
set_option linter.all false
set_option maxRecDepth 100000
set_option maxHeartbeats 4000000
namespace Cal
open PySem PySem.Spec PyProof.Rows L2

/-- a new dict -/
def LED (j : J) (G : List Slot) (e : Expr) (ks : List NestedKey) (xs : List Dat) : Prop := ∀ X, At j X → ∀ σ F H (q : VK), EnvR j.c j.E F H σ G →
  (∀ p kv vs F' H', H p = none → (F' p = none ∧ ¬ j.E p) → DicAt H' j.c.w p (zip3 ks kv vs) → DK j.c F' ks kv vs xs → Gr j.c j.E F H F' H' → q (.ref p) H') → WE X e σ H q
section
variable {j : J} {G G' : List Slot} {D : DEnds} {e a b kx vx tg iter : Expr} {es : List Expr} {pos spos p1 p : Pos} {F0 H0 Fs F H F' H' : Hp} {σ : L2.St} {d : Dat} {ks : List NestedKey} {xs : List Dat} {k : NestedKey} {A : Type} {i : Nat}
theorem DK.mono {c : Cfg} {F F' : Hp} {ks : List NestedKey} {kv vs : List V} {xs : List Dat} (e : Ext F F') (D : DK c F ks kv vs xs) : DK c F' ks kv vs xs := ⟨D.len, D.nd, D.d8, KeyAll.mono e _ _ D.keys, IsL.mono e _ _ D.vals⟩
theorem DK.slot {c : Cfg} {E : Addr → Prop} {p : Addr} {kv vs : List V} (h1 : F p = none ∧ ¬ E p) (h2 : DicAt H c.w p (zip3 ks kv vs)) (D : DK c F ks kv vs xs) : SlotR c E F H (some (.ref p)) (.owd ks xs) := ⟨p, kv, vs, rfl, h2, h1, ⟨D.len, D.nd, D.d8⟩, D.keys, D.vals⟩
theorem LED.sx (h : LED j G e ks xs) : SX j G e (· = .owd ks xs) := fun X hX σ F H q hE hq => h X hX σ F H q hE fun p kv vs F' H' a1 a2 a3 a4 g => hq _ _ F' H' rfl (a4.slot a2 a3) (fun p' _ z => by cases z; exact a1) g
theorem LED.re (h : LED j G e ks xs) : RE j G e (.dic ks xs) := fun X hX σ F H q hE hq => h X hX σ F H q hE fun p kv vs F' H' a1 a2 a3 a4 g => hq _ F' H' ⟨p, kv, vs, rfl, ⟨a3, a2.2⟩, ⟨a4.len, a4.nd, a4.d8⟩, a4.keys, a4.vals⟩ g
theorem LED.de (h : LED j G e ks xs) : DE j G e (.dic ks xs) := fun X hX σ F H q hE hq => h X hX σ F H q hE fun p kv vs F' H' a1 a2 ⟨ep, a3⟩ a4 g => by
  have x := ext_upd (o := DicO j.c.w p ep (zip3 ks kv vs)) a2.1
  refine hq _ (upd F' p (DicO j.c.w p ep (zip3 ks kv vs))) H' ?_ (g.froze a1 a2 a3 fun _ z => by unfold DicO at z; cases z)
  have a5 := a4.mono x
  unfold Is
  exact ⟨p, kv, vs, rfl, ⟨ep, upd_same⟩, ⟨a5.len, a5.nd, a5.d8⟩, a5.keys, a5.vals⟩
theorem LED.is {ks' : List NestedKey} {xs' : List Dat} (h : LED j G e ks xs) (h1 : ks = ks') (h2 : xs = xs') : LED j G e ks' xs' := h1 ▸ h2 ▸ h
theorem dic_new {P : Program} {w : World} {H : Hp} (h : Heap) (hb : sysModules < h.objs.size) : ObjOk P w H (h.push { cls := .type "dict", data := .dict #[] }) h.objs.size (DicO w h.objs.size 0 []) :=
  dicO_ok (es := #[]) (Nat.zero_le _) (beq_eq_false_iff_ne.mpr (Ne.symm (Nat.ne_of_lt hb))) ⟨_, Heap.get?_push_size _ rfl, ⟨rfl, rfl, rfl⟩, rfl⟩ .nil
theorem DK.nil {c : Cfg} : DK c F [] [] [] [] := ⟨rfl, List.nodup_nil, fun _ h => by simp at h, KeyAll.nil_iff.mpr rfl, IsL.nil⟩
/-- one store after another -/
def dsAll (key : A → NestedKey) (val : A → Dat) : List A → List NestedKey × List Dat := List.foldl (fun r a => (dsK r.1 (key a), dsX r.1 r.2 (key a) (val a))) ([], [])
theorem dsAll_snoc (key : A → NestedKey) (val : A → Dat) (as : List A) (a : A) : dsAll key val (as ++ [a]) = (dsK (dsAll key val as).1 (key a), dsX (dsAll key val as).1 (dsAll key val as).2 (key a) (val a)) := by
  unfold dsAll
  rw [List.foldl_append]; rfl
theorem dsK_len (ks : List NestedKey) (k : NestedKey) : (dsK ks k).length ≤ ks.length + 1 := by
  unfold dsK
  split
  · omega
  · simp
theorem dsAll_len (key : A → NestedKey) (val : A → Dat) : ∀ (n : Nat) (as : List A), as.length = n → (dsAll key val as).1.length ≤ n
  | 0, as, h => by rw [List.eq_nil_of_length_eq_zero h]; exact Nat.le_refl 0
  | n + 1, as, h => by
    have hne : as ≠ [] := fun z => by rw [z] at h; cases h
    rw [← List.dropLast_concat_getLast hne, dsAll_snoc]
    have := dsAll_len key val n as.dropLast (by rw [List.length_dropLast, h]; rfl)
    exact Nat.le_trans (dsK_len _ _) (by omega)
theorem led_comp {scope : Scope} (own : List (Str × Nat)) (enc : A → Dat) (as : List A) (key : A → NestedKey) (val : A → Dat) (hi : IT j G tg iter (as.map enc)) (hz : as.length ≤ 100000)
    (hs : ∀ a ∈ as, ∃ u, DG (jB j scope) tg (enc a) u ∧ (∀ k ∈ u.map (·.1), k ∈ own.map (·.2)) ∧ DE (jB j scope) (setG (wipeG G (own.map (·.2))) u) kx (kd (key a)) ∧ DE (jB j scope) (setG (wipeG G (own.map (·.2))) u) vx (val a) ∧ AskK (key a))
    (ok : blkC j.N j.sc scope own = true := by decide +kernel) (hf : ∀ (env : Env) x, foldedSetIterable iter env x = pure x := by intro _ _; rfl) : LED j G (.DictComp kx vx [⟨tg, iter, [], 0⟩] scope pos) (dsAll key val as).1 (dsAll key val as).2 := by
  intro X hX σ F H q hE hq
  unfold WE
  intro pins s I
  have bok := hX.blkOk ok
  have ndX := hX.nodup
  have cellsThere : ∀ y ∈ scope.names, y.2 = .free → ∃ c, X.env.cells.lookup y.1 = some c := fun y hy z => I.ok.has _ (bok.free y hy z)
  rw [arm_eval_DictComp]
  refine wpAny_comprehension_free (use := none) rfl (hf _) (closure_ok cellsThere) bok.kind (fun y hy z => by rw [bok.uniq y hy, z]) (thn (WI.go (hi X hX σ F H (fun Jt H1 => ∃ F1, Walk j.c j.E Jt F1 (as.map enc) ∧ Gr j.c j.E F H F1 H1) hE (fun Jt F1 H1 wk g1 => ⟨F1, wk, g1⟩)) pins s I) fun xv s1 hx => thn hx fun itv s2 h2 => ?_)
  obtain ⟨it, fp, tn, Jt, H2, rfl, I2, TT, stn, ffp, F1, wk, g1⟩ := h2
  refine wpAny_newObj_type (newEnv_comp ?_)
  have wX : X.w = j.c.w := hX.w
  -- the new dict
  generalize hP : s2.heap.objs.size = P
  have hPn : H2 P = none := I2.hok.fresh (Nat.le_of_eq hP)
  generalize hs3 : ({ s2 with heap := s2.heap.push { cls := .type "dict", data := .dict #[] } } : Shared) = s3
  have heap3 : s3.heap = s2.heap.push { cls := .type "dict", data := .dict #[] } := by rw [← hs3]
  generalize hH3 : upd H2 P (DicO j.c.w P 0 []) = H3
  have I3 : Inv X pins σ H3 s3 := by
    rw [← hs3, ← hH3]
    refine I2.laid (t' := s2.toks) (fun b o z => Heap.get?_push_of_some _ z) (Nat.le_of_eq hP) ?_
    rw [← hP, ← wX]
    exact dic_new s2.heap I2.big
  have g3 : Gr j.c j.E F H F1 H3 := by rw [← hH3]; exact g1.trans (Gr.made g1.good hPn)
  have nP : H P = none := g1.back hPn
  have bP : F1 P = none ∧ ¬ j.E P := g1.good.back hPn
  have fpLt : ∀ b ∈ fp, b < s2.heap.objs.size := fun b hb => by
    obtain ⟨o, z, _⟩ := TT.obj _ _ stn b hb
    exact Heap.lt_size z
  have fp3 : ∀ b ∈ fp, FpOk X pins H3 b ∧ b < s3.heap.objs.size := fun b hb => by
    have lt := fpLt b hb
    rw [← hH3]
    refine ⟨⟨?_, (ffp b hb).2⟩, by rw [heap3, Heap.size_push]; exact Nat.lt_succ_of_lt lt⟩
    rw [upd_ne (by rw [← hP]; exact Nat.ne_of_lt lt)]
    exact (ffp b hb).1
  have tn3 : tn 0 s3.heap := TT.keep _ _ _ stn fun b _ o z => by rw [heap3]; exact Heap.get?_push_of_some _ z
  have I4 := block_start I3 bok ndX fp3
  show codeAny _ _ (.compStart (.DictComp kx vx [⟨tg, iter, [], 0⟩] scope pos) 0 (.ref it) (.ref P) (compEnvC scope (cellsFrom (s3.heap.objs.size + 1) scope.names (cloFrom X.env.cells scope.names [])) s3.heap.objs.size X.env)) (compPost (model X.prog X.w) X.A X.xe none _ (.ref P) s3.heap.objs.size) { s3 with heap := pushCells (s3.heap.push { cls := .type "dict", data := .dict #[] }) scope.names }
  have hXb := hX.blkAt (scope := scope) s3 H3 (cellsFrom (s3.heap.objs.size + 1) scope.names (cloFrom X.env.cells scope.names [])) s3.heap.objs.size fp
  generalize hce : compEnvC scope (cellsFrom (s3.heap.objs.size + 1) scope.names (cloFrom X.env.cells scope.names [])) s3.heap.objs.size X.env = ce at I4 hXb ⊢
  have ceL : ce.locals = s3.heap.objs.size := by subst hce; rfl
  generalize hs4 : ({ s3 with heap := pushCells (s3.heap.push { cls := .type "dict", data := .dict #[] }) scope.names } : Shared) = s4 at I4 ⊢
  have tn4 : tn 0 s4.heap := TT.keep _ _ _ tn3 fun b _ o z => by rw [← hs4]; exact pushCells_keeps _ _ _ _ (Heap.get?_push_of_some _ z)
  have none3 : ∀ b ∈ fp, H3 b = none := fun b hb => (fp3 b hb).1.1
  have fpb : ∀ {σ' : L2.St} {H' : Hp} {s' : Shared}, Inv (X.blk s3 H3 scope ce fp) [] σ' H' s' → (∀ b ∈ fp, H' b = none) → ∀ b ∈ fp, FpOk (X.blk s3 H3 scope ce fp) [] H' b := fun {σ' H' s'} I' hn b hb =>
    ⟨hn b hb, (I'.ok.exf b hb).1, I'.ok.exfs b hb, .inl hb, fun x c z => (I'.ok.exf b hb).2 x c z, fun p hp => absurd (show p ∈ ([] : List (Addr × Obj)) ++ [] from hp) (by simp)⟩
  -- what the dict holds at turn n
  let At_ (n : Nat) (H' : Hp) : Prop := ∃ F' kv vs, Gr j.c j.E F H F' H' ∧ Ext F1 F' ∧ DicAt H' j.c.w P (zip3 (dsAll key val (as.take n)).1 kv vs) ∧ (F' P = none ∧ ¬ j.E P) ∧ DK j.c F' (dsAll key val (as.take n)).1 kv vs (dsAll key val (as.take n)).2
  have at0 : At_ 0 H3 := ⟨F1, [], [], g3, Ext.refl _, ⟨0, by rw [← hH3, upd_same]; rfl⟩, bP, DK.nil⟩
  have loop : codeAny (model X.prog X.w) X.A (.compLoop (.DictComp kx vx [⟨tg, iter, [], 0⟩] scope pos) 0 (.ref it) (.ref P) ce) (compPost (model X.prog X.w) X.A X.xe none (EP X pins σ q) (.ref P) s3.heap.objs.size) s4 := by
    refine compLoop_anyD (fun n s' => ∃ i H', n = as.length - i ∧ i ≤ as.length ∧ Inv (X.blk s3 H3 scope ce fp) [] (L2.wipe σ (own.map (·.2))) H' s' ∧ tn i s'.heap ∧ (∀ b ∈ fp, H' b = none) ∧ At_ i H') ?_ as.length ⟨0, H3, rfl, Nat.zero_le _, I4, tn4, none3, at0⟩
    rintro n s5 ⟨i, H5, rfl, hi5, I5, tn5, n5, F5, kv5, vs5, g5, x5, d5, b5, D5⟩
    by_cases hlt : i < as.length
    · have ti := TT.item (X.blk s3 H3 scope ce fp) rfl rfl rfl hX.calm i [] s5 _ H5 (fun _ _ => False) I5 (fpb I5 n5) tn5 (wk.go i F5 H5 x5 g5.good (by simpa using hlt))
      refine thnF ti fun r s6 ⟨u0, hr, h6⟩ => ?_
      subst hr
      refine thnF h6 fun _ s7 ⟨x, H7, I7, r7, y7, tn7, n7⟩ => ?_
      obtain ⟨dd, F7, e1, e2, g7⟩ := wk.yld i F5 H5 x H7 x5 g5.good y7 (by simpa using hlt)
      have e3 : dd = enc as[i] := by
        rw [List.getElem?_map, List.getElem?_eq_getElem hlt] at e1
        exact (Option.some.inj e1).symm
      subst e3
      obtain ⟨u, hu, huv, hkx, hvx, hak⟩ := hs as[i] (List.getElem_mem hlt)
      have I7p := I7.pinned (fpb I7 n7) (TT.obj _ _ tn7)
      refine thnF (WG.go (hu _ hXb x _ F7 H7 (fun σ8 H8 => H8 = H7 ∧ L2.wipe σ8 (own.map (·.2)) = L2.wipe σ (own.map (·.2)) ∧ EnvR j.c j.E F7 H7 σ8 (setG (wipeG G (own.map (·.2))) u)) g7.good e2 (fun ws iw => ⟨rfl, by rw [wipe_setS huv, wipe_wipe], EnvR.setAll ((hE.gr (g5.trans g7)).wipe _) iw⟩)) _ s7 u0 I7p r7) fun _ s8 ⟨σ8, H8, I8, eH8, hw8, E8⟩ => ?_
      subst eH8
      refine wpAny_tests_nil ?_
      rw [if_pos rfl]
      -- the dict at P through the turn
      have P7 : F7 P = none := by obtain ⟨_, z⟩ := d5; exact g7.fresh b5.1 z
      have d7 := g7.staysD g5.good d5 bP.2
      refine thnF (WE.go (hkx _ hXb σ8 F7 H8 (fun y H9 => ∃ F9, Is j.c F9 (kd (key as[i])) y ∧ Gr j.c j.E F7 H8 F9 H9) E8 (fun y F9 H9 iy g9 => ⟨F9, iy, g9⟩)) _ s8 I8) fun z s9 ⟨y, H9, I9, ry, F9, iy, g9⟩ => ?_
      refine thnF (WE.go (hvx _ hXb σ8 F9 H9 (fun y H10 => ∃ F10, Is j.c F10 (val as[i]) y ∧ Gr j.c j.E F9 H9 F10 H10) (E8.gr g9) (fun y F10 H10 iy g10 => ⟨F10, iy, g10⟩)) _ s9 I9) fun z2 s10 ⟨y2, H10, I10, ry2, F10, iy2, g10⟩ => ?_
      have g710 := g9.trans g10
      have d10 := g710.staysD g7.good d7 bP.2
      have P10 : F10 P = none := by obtain ⟨_, z⟩ := d7; exact g710.fresh P7 z
      have D10 := (D5.mono g7.ext).mono g710.ext
      obtain ⟨ep, d10⟩ := d10
      have hlen : (dsAll key val (as.take i)).1.length ≤ 1000000 := Nat.le_trans (dsAll_len key val _ (as.take i) rfl) (by rw [List.length_take]; omega)
      obtain ⟨hz, hsm, es, raw, pr⟩ := dic_open I10 hX.w d10
      have ik := (is_kd (key as[i]) y).mp (Is.mono g10.ext _ _ iy)
      have ask := asks_of I10 hX.K g710.good.ext D10 pr raw hak ik ry
      rw [← wX] at ask
      have hun : X.A.units + 8 < cLine := by have := hX.room.units; omega
      refine set_state I10 hX.w d10 D10 hlen hsm pr ry ry2 (ask := ask) (fun h1 h2 => dictSet_n hun ask (Nat.le_trans hlen (by decide)) h1 h2) fun ep' s11 I11 => ?_
      have i11 : i + 1 ≤ as.length := hlt
      refine ⟨as.length - (i + 1), by omega, i + 1, _, rfl, i11, (I11.unpinned (pins := [])).weak (by rw [← hw8, wipe_length]) (fun m v z => by rw [← hw8] at z; exact (wipe_some z).1), TT.keep _ _ _ tn7 fun b hb o z => ?_, fun b hb => ?_, ?_⟩
      · exact (I11.pin (b, o) (List.mem_append_right _ (List.mem_append_right _ (mem_pinsAt hb z)))).1
      · obtain ⟨o, z, _⟩ := TT.obj _ _ tn7 b hb
        exact (I11.pin (b, o) (List.mem_append_right _ (List.mem_append_right _ (mem_pinsAt hb z)))).2.1
      · have et : as.take (i + 1) = as.take i ++ [as[i]] := List.take_succ_eq_append_getElem hlt
        refine ⟨F10, dsKV (dsAll key val (as.take i)).1 kv5 (key as[i]) y, dsV (dsAll key val (as.take i)).1 vs5 (key as[i]) y2, Gr.wrote ((g5.trans g7).trans g710) nP d10 P10 (fun _ z => by unfold DicO at z; cases z) (fun q => dicO_code q) bP.2, (x5.trans g7.ext).trans g710.ext, ⟨ep', ?_⟩, ⟨P10, bP.2⟩, ?_⟩
        · rw [et, dsAll_snoc, upd_same]
        · rw [et, dsAll_snoc]
          exact dk_set D10 hak.2 ik iy2
    · have e : i = as.length := by omega
      subst e
      have td := TT.done (X.blk s3 H3 scope ce fp) rfl rfl rfl hX.calm _ [] s5 _ H5 (fun _ _ => False) I5 (fpb I5 n5) tn5 (wk.stop _ F5 H5 x5 g5.good (by simp))
      refine thnF td fun r s6 ⟨hr, I6⟩ => ?_
      subst hr
      have I7 : Inv X pins σ H5 s6 := I3.call' (ch := fp) I6.os I6.base I6.hok I6.bare fun b hb => ⟨(fp3 b hb).1.2.2.2.1, (fp3 b hb).1.2.1, (fp3 b hb).1.2.2.2.2.1, (fp3 b hb).1.2.2.2.2.2⟩
      have nL : H5 s3.heap.objs.size = none := by
        have z : H5 ce.locals = none := I6.free
        rw [ceL] at z
        exact z
      obtain ⟨m, hn, _⟩ := I6.loc
      have hn : s6.heap.Ns ce.locals m := hn
      rw [ceL] at hn
      obtain ⟨f0, f1, f2, f3, f4, f5⟩ := I3.fpOk (Nat.le_refl _) nL
      rw [List.take_length] at d5 D5
      exact ⟨m, hn, fun h'' sb => ⟨.ref P, H5, I7.turned (t' := s6.toks) (fun b o hb z => (sb.2 b hb).trans z) f0 f1 f3 f4 f5, rfl, hq P kv5 vs5 F5 H5 nP b5 d5 D5 g5⟩⟩
  exact codeAny_compStart_dict loop (TT.self X.A 0 _ _ _ tn4 loop)
end
end Cal
set_option Elab.async false
set_option linter.all false
set_option maxRecDepth 100000
set_option maxHeartbeats 4000000
namespace Cal
open PySem PySem.Spec PyProof.Rows L2

section
variable {j : J} {G G' : List Slot} {D : DEnds} {e a b kx vx tg iter : Expr} {es : List Expr} {pos spos p1 p p2 : Pos} {F0 H0 Fs F H F' H' : Hp} {σ : L2.St} {d : Dat} {ks : List NestedKey} {xs : List Dat} {k : NestedKey} {A : Type} {i kk : Nat}
/-- {k: v} -/
theorem led_disp1 (ha : DE j G a (kd k)) (hb : DE j G b d) (hk : AskK k) : LED j G (.Dict [some a] [b] pos) [k] [d] := by
  intro X hX σ F H q hE hq
  unfold WE
  intro pins s I
  have wX : X.w = j.c.w := hX.w
  refine wpAny_Dict_any (by rfl) rfl (by simp) (by show 1 ≤ 15; decide) ?_
  generalize hP : s.heap.objs.size = P
  have hPn : H P = none := I.hok.fresh (Nat.le_of_eq hP)
  have g0 : Gr j.c j.E F H F (upd H P (DicO j.c.w P 0 [])) := Gr.made hE.good hPn
  have bP := hE.good.back hPn
  have I0 : Inv X pins σ (upd H P (DicO j.c.w P 0 [])) { s with heap := s.heap.push { cls := .type "dict", data := .dict #[] } } := by
    refine I.laid (t' := s.toks) (fun b o z => Heap.get?_push_of_some _ z) (Nat.le_of_eq hP) ?_
    rw [← hP, ← wX]
    exact dic_new s.heap I.big
  refine pairTrees_cons_walk (thn (WE.go (ha X hX σ F _ (fun y H1 => ∃ F1, Is j.c F1 (kd k) y ∧ Gr j.c j.E F (upd H P (DicO j.c.w P 0 [])) F1 H1) (hE.gr g0) (fun y F1 H1 i1 g1 => ⟨F1, i1, g1⟩)) pins _ I0) fun u1 s1 ⟨y1, H1, I1, r1, F1, i1, g1⟩ => ?_)
  refine thn (WE.go (hb X hX σ F1 H1 (fun y H2 => ∃ F2, Is j.c F2 d y ∧ Gr j.c j.E F1 H1 F2 H2) ((hE.gr g0).gr g1) (fun y F2 H2 i2 g2 => ⟨F2, i2, g2⟩)) pins s1 I1) fun u2 s2 ⟨y2, H2, I2, r2, F2, i2, g2⟩ => ?_
  refine pairTrees_nil_walk ?_
  have g12 := g1.trans g2
  have dP : H2 P = some (DicO j.c.w P 0 (zip3 [] [] [])) := g12.stays g0.good (by rw [upd_same]; rfl) (fun _ z => by unfold DicO at z; cases z) bP.2
  have fP : F2 P = none := g12.fresh bP.1 (by rw [upd_same])
  obtain ⟨hz, hsm, es, raw, pr⟩ := dic_open I2 hX.w dP
  have ik := (is_kd k y1).mp (Is.mono g2.ext _ _ i1)
  have D0 : DK j.c F2 [] [] [] [] := DK.nil
  have ask := asks_of I2 hX.K g2.good.ext D0 pr raw hk ik r1
  rw [← wX] at ask
  have hun : X.A.units + 8 < cLine := by have := hX.room.units; omega
  unfold storeAll
  rw [List.forIn_cons]
  refine wpAny_bind (wpAny_bind ?_)
  refine set_state I2 hX.w dP D0 (Nat.zero_le _) hsm pr r1 r2 (ask := ask) (fun h1 h2 => dictSet_n hun ask (Nat.zero_le _) h1 h2) fun ep' s3 I3 => ?_
  refine wpAny_pure ?_
  dsimp only
  rw [List.forIn_nil]
  refine wpAny_pure ?_
  have DD := dk_set D0 hk.2 ik i2
  have e1 : dsK [] k = [k] := by unfold dsK; rw [if_neg (by simp)]; rfl
  have e2 : dsX [] [] k d = [d] := by unfold dsX; rw [if_neg (by simp)]; rfl
  rw [e1, e2] at DD
  refine ⟨.ref P, _, I3, rfl, hq P _ _ F2 _ hPn ⟨fP, bP.2⟩ ⟨ep', by rw [e1, upd_same]⟩ DD ?_⟩
  exact Gr.wrote ((g0.trans g12)) hPn dP fP (fun _ z => by unfold DicO at z; cases z) (fun q => dicO_code q) bP.2

/-- the own dict at i rewritten -/
theorem SR.wroteD {q : Addr} {ep : Nat} {kv vs kv' vs' : List V} {ks' : List NestedKey} {xs' : List Dat} {ep' : Nat} (r : SR j F0 H0 Fs F H σ G) (hi : G[i]? = some (.owd ks xs)) (he : σ[i]? = some (some (.ref q))) (hq : H q = some (DicO j.c.w q ep (zip3 ks kv vs))) (D : DK j.c F ks' kv' vs' xs') :
    SR j F0 H0 Fs F (upd H q (DicO j.c.w q ep' (zip3 ks' kv' vs'))) σ (G.set i (.owd ks' xs')) := by
  obtain ⟨p', kv0, vs0, e1, ⟨ep0, e2⟩, e3, _⟩ := r.env.owd hi
  rw [he] at e1; cases e1
  have g := Gr.wrote (u := DicO j.c.w q ep' (zip3 ks' kv' vs')) r.gr (r.young i _ q hi rfl he) hq e3.1 (fun _ z => by unfold DicO at z; cases z) (fun q => dicO_code q) e3.2
  have hl : i < G.length := by
    rcases Nat.lt_or_ge i G.length with z | z
    · exact z
    · rw [List.getElem?_eq_none z] at hi; cases hi
  have own : ∀ {m : Nat} {t : Slot}, (G.set i (.owd ks' xs'))[m]? = some t → t.isOwn = true → ∃ t', G[m]? = some t' ∧ t'.isOwn = true := fun {m t} hk ot => by
    by_cases z : m = i
    · subst z; exact ⟨_, hi, rfl⟩
    · rw [List.getElem?_set_ne (Ne.symm z)] at hk; exact ⟨t, hk, ot⟩
  refine ⟨⟨g.good, by rw [List.length_set]; exact r.env.len, fun m s hm => ?_, fun m l s t p hml hm hl' os ot x y => ?_⟩, g, fun m s p hm os e => ?_, r.base⟩
  · by_cases z : m = i
    · subst z
      rw [List.getElem?_set_self hl] at hm
      cases hm
      rw [he]
      exact D.slot e3 ⟨ep', upd_same⟩
    · rw [List.getElem?_set_ne (Ne.symm z)] at hm
      have w := r.env.at_ m s hm
      cases s with
      | no => trivial
      | dat d => exact w
      | dr => exact w
      | own zs =>
        obtain ⟨p', us', h1, h2, h3, h4⟩ := w
        have n : p' ≠ q := fun y => by
          subst y
          exact r.env.sep m i _ _ p' z hm hi rfl rfl (join_some h1) he
        exact ⟨p', us', h1, by rw [upd_ne n]; exact h2, h3, h4⟩
      | owd kz zs =>
        obtain ⟨p', kvz, us', h1, ⟨epz, h2⟩, h3, h4, h5, h6⟩ := w
        have n : p' ≠ q := fun y => by
          subst y
          exact r.env.sep m i _ _ p' z hm hi rfl rfl (join_some h1) he
        exact ⟨p', kvz, us', h1, ⟨epz, by rw [upd_ne n]; exact h2⟩, h3, h4, h5, h6⟩
  · obtain ⟨s', a1, a2⟩ := own hm os
    obtain ⟨t', b1, b2⟩ := own hl' ot
    exact r.env.sep m l s' t' p hml a1 b1 a2 b2 x y
  · obtain ⟨s', a1, a2⟩ := own hm os
    exact r.young m s' p a1 a2 e
def rSetN (c : Cfg) : TSet := fun o i v H q => ∃ F k ks xs p ep kv vs d, Ext F H ∧ AskK k ∧ KeyIs c F k i ∧ Is c F d v ∧ o = .ref p ∧ H p = some (DicO c.w p ep (zip3 ks kv vs)) ∧ DK c F ks kv vs xs ∧ ks.length ≤ 1000000 ∧ ∀ ep', q (upd H p (DicO c.w p ep' (zip3 (dsK ks k) (dsKV ks kv k i) (dsV ks vs k v))))
theorem set_dictN {X : Cx} {n : Nat} {c : Cfg} (hr : Room n X.A) (hK : X.K = c.K) (hw : X.w = c.w) : PSet X (rSetN c) := by
  intro pins s σ H o i v ov iv u q I ro ri rv h
  obtain ⟨F, k, ks, xs, p, ep, kv, vs, d, ex, hk, ik, iv', rfl, hp, D, hl, hq⟩ := h
  cases ro
  obtain ⟨hz, hsm, es, raw, pr⟩ := dic_open I hw hp
  have ask := asks_of I hK ex D pr raw hk ik ri
  rw [← hw] at ask
  exact set_state I hw hp D hl hsm pr ri rv (ask := ask) (fun h1 h2 => setItem_n (by have := hr.units; omega) ask (Nat.le_trans hl (by decide)) h1 h2) fun ep' s' I' => ⟨_, I', hq ep'⟩
/-- name[e1] = e2, an own dict -/
theorem d1_setD (i : Nat) {x : Str} (hi : G[i]? = some (.owd ks xs)) (hN : j.N[i]? = some x) (hv : Vis j.sc x) (ha : DE j G a d) (hb : DE j G b (kd k)) (hk : AskK k) (hz : ks.length ≤ 1000000) (hq : D.nx (G.set i (.owd (dsK ks k) (dsX ks xs k d))))
    (h1 : (x == ("__debug__" : Str)) = false := by decide) (h2 : (x == ("__classdict__" : Str)) = false := by decide)
    (hs : ∀ env : Env, swapsWithSole [.Subscript (.Name x p1) b p] a spos.line env = pure false := by intro _; rfl) (hw : ∀ env : Env, swappedStores [.Subscript (.Name x p1) b p] a env = pure none := by intro _; rfl)
    (h3 : ∀ env : Env, (assignEach [.Subscript (.Name x p1) b p] env).map (·.2) = [assign (.Subscript (.Name x p1) b p) env] := by intro _; rfl)
    (h4 : ∀ (env : Env) v, assign (.Subscript (.Name x p1) b p) env v = (do
      let ov ← holding [v] (eval (.Name x p1) env)
      let iv ← holding [v, ov] (eval b env)
      standAt p
      holding [v, ov, iv] (setItem ov iv v)
      release [v, ov, iv] []) := by intro _ _; rfl) : D1 j G (.Assign [.Subscript (.Name x p1) b p] a spos) D := by
  intro X hX σ F0 H0 Fs F H De r ok
  refine ws_of (ps_asg we (pg_sub (pe_var (i := i) (by rw [hX.N]; exact hN) (by rw [hX.sc]; exact hv) h1 h2) we (set_dictN hX.room hX.K hX.w) (h4 _)) (hs _) (hw _) (h3 _)) ?_
  refine ha X hX σ F H _ r.env fun v F1 H1 i1 g1 => ?_
  obtain ⟨q, kv, vs, e1, e2, e3, e4⟩ := (r.go g1).env.owd hi
  refine ⟨_, e1, hb X hX σ F1 H1 _ (r.go g1).env fun u F2 H2 i2 g2 => ?_⟩
  have r2 := (r.go g1).go g2
  obtain ⟨q', kv', vs', a1, ⟨ep, a2⟩, a3, ⟨a4, a5, a6⟩, a7, a8⟩ := r2.env.owd hi
  rw [e1] at a1; cases a1
  have D2 : DK j.c F2 ks kv' vs' xs := ⟨a4, a5, a6, a7, a8⟩
  have iv2 := Is.mono g2.ext d v i1
  have iu2 := (is_kd k u).mp i2
  exact ⟨F2, k, ks, xs, q, ep, kv', vs', d, g2.good.ext, hk, iu2, iv2, rfl, a2, D2, hz, fun ep' => ok.nx _ F2 _ _ hq (r2.wroteD hi e1 a2 (dk_set D2 hk.2 iu2 iv2))⟩
end
end Cal
set_option Elab.async false
set_option linter.all false
set_option maxRecDepth 100000
set_option maxHeartbeats 4000000
namespace Cal
open PySem PySem.Spec PyProof.Rows L2

/-! ### iterators that hand out one thing -/
def It1 (go : Nat → Hp → Prop) (pr : Nat → Hp → V → Prop) (stop : Nat → Hp → Prop) : It := ⟨go, fun i H v H' => H' = H ∧ pr i H v, stop⟩
theorem turn_one {P : Program} {w : World} {K : PySem.W.Frag} {tg : Expr} {go stop : Nat → Hp → Prop} {pr : Nat → Hp → V → Prop} {own : List Addr} {it : Addr} {tn : Nat → Heap → Prop}
    (mem : it ∈ own) (obj : ∀ i h, tn i h → ∀ b ∈ own, ∃ o, h.get? b = some o ∧ ∀ v, o.data ≠ .cell v) (keep : ∀ i h h', tn i h → (∀ b ∈ own, ∀ o, h.get? b = some o → h'.get? b = some o) → tn i h')
    (item : ∀ (X : Cx), X.prog = P → X.w = w → X.K = K → X.calm = true → ∀ (i : Nat) (pins : List (Addr × Obj)) (s : Shared) (σ : L2.St) (H : Hp), Inv X pins σ H s → tn i s.heap → go i H →
      ∃ (fp wr : List Addr) (n : Nat) (Y : Nat → Value → Heap → Prop) (St : Nat → Heap → Prop), Goes P w X.A tg it fp wr n Y St ∧ i < n ∧ St i s.heap ∧ (∀ b ∈ wr, b ∈ own) ∧ (∀ h', St (i + 1) h' → tn (i + 1) h') ∧ ∀ v h', Y i v h' → ∃ x, RelV x v ∧ pr i H x)
    (done : ∀ (X : Cx), X.prog = P → X.w = w → X.K = K → X.calm = true → ∀ (i : Nat) (pins : List (Addr × Obj)) (s : Shared) (σ : L2.St) (H : Hp), Inv X pins σ H s → tn i s.heap → stop i H →
      ∃ (fp wr : List Addr) (Y : Nat → Value → Heap → Prop) (St : Nat → Heap → Prop), Goes P w X.A tg it fp wr i Y St ∧ St i s.heap ∧ (∀ b ∈ wr, b ∈ own))
    (self : ∀ (A : Around) (i : Nat) (s : Shared) (Q : Value → Shared → Prop) (E : Value → Shared → Prop), tn i s.heap → Q (.ref it) s → wpAny (model P w) A (pyIter (.ref it)) Q E s) :
    Turn P w K tg (It1 go pr stop) own it tn where
  mem := mem
  obj := obj
  keep := keep
  item := by
    intro X hP hw hK hc i pins s σ H E I hf st hg
    obtain ⟨fp, wr, n, Y, St, W, hin, hst, hsub, hnx, hy⟩ := item X hP hw hK hc i pins s σ H I st hg
    subst hP hw hK
    refine thn (W.goes i s (fun v s2 => ∃ x H', Inv X pins σ H' s2 ∧ RelV x v ∧ (It1 go pr stop).yld i H x H' ∧ tn (i + 1) s2.heap ∧ ∀ b ∈ own, H' b = none) E hin hst fun v h' tk hY st' hk htk => ?_) fun r s1 ⟨v, e, q⟩ => ⟨v, e, q⟩
    obtain ⟨x, r, hp⟩ := hy v h' hY
    exact ⟨x, H, I.turnedL (t' := tk) (ch := own) (fun b o hb q => hk b o (fun z => hb (hsub b z)) q) hf, r, ⟨rfl, hp⟩, hnx h' st', fun b hb => (hf b hb).1⟩
  done := by
    intro X hP hw hK hc i pins s σ H E I hf st hg
    obtain ⟨fp, wr, Y, St, W, hst, hsub⟩ := done X hP hw hK hc i pins s σ H I st hg
    subst hP hw hK
    exact W.stops s (fun s1 => Inv X pins σ H s1) E hst fun h' tk hk htk => I.turnedL (t' := tk) (ch := own) (fun b o hb q => hk b o (fun z => hb (hsub b z)) q) hf
  self := self

/-! ### for k in d, for k, v in d.items() -/
section
variable {P : Program} {w : World} {K : PySem.W.Frag} {tg : Expr} {elts : List Expr} {kk : Nat} {tpos : Pos}
/-- the dict at d, with the entries zs from first to last -/
def ItDk (d : Addr) (ep : Nat) (zs : List (NestedKey × V × V)) (w : World) : It := It1 (fun i H => H d = some (DicO w d ep zs) ∧ i < zs.length) (fun i _ x => ∃ k v, zs[i]? = some (k, x, v)) (fun i H => H d = some (DicO w d ep zs) ∧ i = zs.length)
def ItDi (d : Addr) (ep : Nat) (zs : List (NestedKey × V × V)) (w : World) : It := ItP (fun i H => H d = some (DicO w d ep zs) ∧ i < zs.length) (fun i _ x y => ∃ k, zs[i]? = some (k, x, y)) (fun i H => H d = some (DicO w d ep zs) ∧ i = zs.length)
theorem dic_at {X : Cx} {pins : List (Addr × Obj)} {σ : L2.St} {H : Hp} {s : Shared} (I : Inv X pins σ H s) {d : Addr} {ep : Nat} {zs : List (NestedKey × V × V)} (h : H d = some (DicO X.w d ep zs)) : (d == sysModules) = false ∧ ∃ es : Array DictEntry, s.heap.DictRaw d es ep ∧ Paired (EntR X.w) zs es.toList ∧ es.size = zs.length ∧ zs.length ≤ sizeLine := by
  obtain ⟨hz, hm, es, raw, pr⟩ := (I.hok d _ h).1
  exact ⟨hm, es, raw, pr, by rw [Paired.length pr]; simp, hz⟩
theorem entry_of {w : World} {zs : List (NestedKey × V × V)} {es : Array DictEntry} (pr : Paired (EntR w) zs es.toList) {i : Nat} {en : DictEntry} (he : es[i]? = some en) : ∃ k x y, zs[i]? = some (k, x, y) ∧ RelV x en.key ∧ RelV y en.val := by
  have hl := Paired.length pr
  have hi : i < zs.length := by
    rcases Nat.lt_or_ge i es.size with z | z
    · rw [hl]; simpa using z
    · rw [Array.getElem?_eq_none z] at he; cases he
  obtain ⟨en', e1, e2, e3, e4⟩ := paired_at pr (List.getElem?_eq_getElem hi)
  rw [← Array.getElem?_toList, e1] at he
  cases he
  exact ⟨_, _, _, List.getElem?_eq_getElem hi, e3, e4⟩
theorem turn_dk (it d : Addr) (ep : Nat) (zs : List (NestedKey × V × V)) (hne : d ≠ it) : Turn P w K tg (ItDk d ep zs w) [it] it (fun i h => h.IsKeyIter it d i zs.length ep) := by
  refine turn_one (by simp) (fun i h st b hb => ?_) (fun i h h' st k => ?_) ?_ ?_ ?_
  · obtain ⟨o, ho, hc, hd⟩ := st
    rw [List.mem_singleton.mp hb]
    exact ⟨o, ho, fun v q => by rw [hd] at q; cases q⟩
  · obtain ⟨o, ho, r⟩ := st
    exact ⟨o, k it (by simp) o ho, r⟩
  · intro X hP hw hK hc i pins s σ H I st ⟨hd, hi⟩
    subst hP hw hK
    obtain ⟨hm, es, raw, pr, sz, _⟩ := dic_at I hd
    have W := Goes.rawKeys (prog := X.prog) (w := X.w) (A := X.A) (target := tg) (I.ok.hd hc) it d hne es ep
    refine ⟨_, _, _, _, _, W, by omega, ⟨by rw [sz]; exact st, raw⟩, fun b hb => hb, fun h' st' => by have := st'.1; rw [sz] at this; exact this, fun v h' ⟨hi', hv⟩ => ?_⟩
    obtain ⟨k, x, y, z1, z2, _⟩ := entry_of pr (Array.getElem?_eq_getElem hi')
    exact ⟨x, by rw [hv]; exact z2, k, y, z1⟩
  · intro X hP hw hK hc i pins s σ H I st ⟨hd, hi⟩
    subst hP hw hK
    obtain ⟨hm, es, raw, pr, sz, _⟩ := dic_at I hd
    have W := Goes.rawKeys (prog := X.prog) (w := X.w) (A := X.A) (target := tg) (I.ok.hd hc) it d hne es ep
    obtain rfl : i = es.size := by omega
    exact ⟨_, _, _, _, W, ⟨by have := st; rw [← hi] at this; exact this, raw⟩, fun b hb => hb⟩
  · intro A i s Q E st h
    exact wpAny_pyIter_keyiter st h
theorem turn_di (it d : Addr) (ep : Nat) (zs : List (NestedKey × V × V)) (hne : d ≠ it) : Turn P w K (.Tuple elts kk tpos) (ItDi d ep zs w) [it] it (fun i h => ∃ ok ov, IsItemIter h it d i zs.length ep ok ov) := by
  refine turn_pairs (by simp) (fun i h st b hb => ?_) (fun i h h' st k => ?_) ?_ ?_ ?_
  · obtain ⟨ok, ov, hh⟩ := st
    rw [List.mem_singleton.mp hb]
    exact ⟨_, hh, fun v q => nomatch q⟩
  · obtain ⟨ok, ov, hh⟩ := st
    exact ⟨ok, ov, k it (by simp) _ hh⟩
  · intro X hP hw hK hc i pins s σ H I st ⟨hd, hi⟩
    subst hP hw hK
    obtain ⟨hm, es, raw, pr, sz, _⟩ := dic_at I hd
    have W := GoesN.rawItems (prog := X.prog) (w := X.w) (A := X.A) (elts := elts) (x1 := kk) (pos := tpos) (I.ok.hd hc) it d hne es ep
    refine ⟨_, _, _, _, _, W, by omega, ⟨by rw [sz]; exact st, raw⟩, fun b hb => hb, fun h' st' => by have := st'.1; rw [sz] at this; exact this, fun v h' hY => ?_⟩
    obtain ⟨T, hi', ev, hT, hTup⟩ := hY
    obtain ⟨k, x, y, z1, z2, z3⟩ := entry_of pr (Array.getElem?_eq_getElem hi')
    exact ⟨T, _, _, x, y, ev, hT, hTup, z2, z3, k, z1⟩
  · intro X hP hw hK hc i pins s σ H I st ⟨hd, hi⟩
    subst hP hw hK
    obtain ⟨hm, es, raw, pr, sz, _⟩ := dic_at I hd
    have W := GoesN.rawItems (prog := X.prog) (w := X.w) (A := X.A) (elts := elts) (x1 := kk) (pos := tpos) (I.ok.hd hc) it d hne es ep
    obtain rfl : i = es.size := by omega
    exact ⟨_, _, _, _, W, ⟨by have := st; rw [← hi] at this; exact this, raw⟩, fun b hb => hb⟩
  · intro A i s Q E st h
    obtain ⟨ok, ov, hh⟩ := st
    exact wpAny_pyIter_itemiter hh h
theorem pi_dk {X : Cx} {e : Expr} {te : TE} (he : PE X e te) : PI X tg e (fun σ H R => te σ H fun x H1 => ∃ d ep zs, x = .ref d ∧ H1 d = some (DicO X.w d ep zs) ∧ R (ItDk d ep zs X.w) H1) := by
  refine ⟨fun pins s σ H R I h => ?_⟩
  refine thn (he.run pins s σ H _ I h) fun v s1 ⟨x, H1, I1, r1, d, ep, zs, ex, hd, q⟩ => ?_
  subst ex
  cases r1
  obtain ⟨hm, es, raw, pr, sz, hz⟩ := dic_at I1 hd
  refine wpAny_pyIter_dict_raw hm raw ?_
  have hdl : d < s1.heap.objs.size := raw.lt_size
  refine ⟨s1.heap.objs.size, [s1.heap.objs.size], _, _, H1, rfl, I1.kept (t' := s1.toks) fun b o e => Heap.get?_push_of_some _ e, turn_dk _ d ep zs (Nat.ne_of_lt hdl), ⟨_, Heap.get?_push_size _ rfl, rfl, by rw [sz]; rfl⟩, fun b hb => ?_, q⟩
  have e : b = s1.heap.objs.size := List.mem_singleton.mp hb
  subst e
  exact I1.fpOk (Nat.le_refl _) (I1.hok.fresh (Nat.le_refl _))
theorem pi_di {X : Cx} {e : Expr} {te : TE} {apos cpos : Pos} (he : PE X e te) (hbase : attributeBase e "items" X.env (eval e X.env) = eval e X.env) (hline : (apos.endLine == cpos.line) = true) :
    PI X (.Tuple elts kk tpos) (.Call (.Attribute e "items" apos) [] [] cpos) (fun σ H R => te σ H fun x H1 => ∃ d ep zs, x = .ref d ∧ H1 d = some (DicO X.w d ep zs) ∧ R (ItDi d ep zs X.w) H1) := by
  refine ⟨fun pins s σ H R I h => ?_⟩
  refine wpAny_Call_method (T := "dict") (id := "dict.items") hbase rfl hline F.plainAttrs_dict F.slot_dict_items F.type_dict_items (thn (he.run pins s σ H _ I h) fun u s1 ⟨x, H1, I1, r1, d, ep, zs, ex, hd, q⟩ => ?_)
  subst ex
  obtain rfl : u = Value.ref d := r1
  obtain ⟨hm, es, raw, pr, sz, hz⟩ := dic_at I1 hd
  have hdl : d < s1.heap.objs.size := raw.lt_size
  refine ⟨raw.typeIs, fun a ea => ?_, ?_⟩
  · cases ea
    obtain ⟨o, ho, hx, _⟩ := raw
    exact ⟨o, ho, hx.2.1⟩
  have vi : (s1.heap.push { cls := .type "dict_items", data := .fields #[.ref d] }).IsItemsView s1.heap.objs.size d := ⟨_, Heap.get?_push_size _ rfl, rfl, rfl⟩
  have fin : wpAny (model X.prog X.w) X.A (pyIter (.ref s1.heap.objs.size)) (PIE X pins σ (.Tuple elts kk tpos) R) X.xe { s1 with heap := s1.heap.push { cls := .type "dict_items", data := .fields #[.ref d] } } := by
    refine wpAny_pyIter_items_raw vi (raw.push _) ?_
    have hsz : (s1.heap.push { cls := .type "dict_items", data := .fields #[.ref d] }).objs.size = s1.heap.objs.size + 1 := Heap.size_push ..
    rw [hsz]
    have I2 : Inv X pins σ H1 { s1 with heap := s1.heap.push { cls := .type "dict_items", data := .fields #[.ref d] } } := I1.kept (t' := s1.toks) fun b o e => Heap.get?_push_of_some _ e
    refine ⟨s1.heap.objs.size + 1, [s1.heap.objs.size + 1], _, _, H1, rfl, I2.kept (t' := s1.toks) fun b o e => Heap.get?_push_of_some _ e, turn_di _ d ep zs (Nat.ne_of_lt (Nat.lt_succ_of_lt hdl)), ⟨.none, .none, ?_⟩, fun b hb => ?_, q⟩
    · have := Heap.get?_push_size (s1.heap.push { cls := .type "dict_items", data := .fields #[.ref d] }) (o := { cls := .type "dict_itemiterator", data := .fields #[.none, .bool false, .ref d, .int 0 0, .int es.size 0, .int ep 0, .none, .none] }) rfl
      rw [hsz, sz] at this
      rw [sz]
      exact this
    · have e : b = s1.heap.objs.size + 1 := List.mem_singleton.mp hb
      subst e
      exact I1.fpOk (Nat.le_succ _) (I1.hok.fresh (Nat.le_succ _))
  show wpAny _ _ (callWith cpos (.builtin "dict.items") [.ref d] [] []) _ X.xe s1
  exact method_meetsIn F.slot_dict_items F.entry_dict_items rfl (PySem.evalArgs_none ⟨rfl, raw.typeIs, F.args_dict_items_1 _, _, meets_dict_items_raw d hm, ⟨es, ep, raw⟩, fin⟩)
end

/-! ### as data -/
section
variable {j : J} {G : List Slot} {e a b tg : Expr} {es : List Expr} {pos p p1 tpos apos : Pos} {F H : Hp} {ks : List NestedKey} {xs : List Dat} {kk : Nat}
theorem is_dic {c : Cfg} {v : V} (h : Is c F (.dic ks xs) v) : ∃ p ep kv vs, v = .ref p ∧ F p = some (DicO c.w p ep (zip3 ks kv vs)) ∧ DK c F ks kv vs xs := by
  unfold Is at h
  obtain ⟨p, kv, vs, h1, ⟨ep, h2⟩, ⟨h4, h5, h6⟩, h7, h8⟩ := h
  exact ⟨p, ep, kv, vs, h1, h2, h4, h5, h6, h7, h8⟩
theorem zip3_at' {ks : List NestedKey} {kv vs : List V} (l1 : ks.length = kv.length) (l2 : ks.length = vs.length) {i : Nat} {k : NestedKey} {x y : V} (h : (zip3 ks kv vs)[i]? = some (k, x, y)) : ks[i]? = some k ∧ kv[i]? = some x ∧ vs[i]? = some y := by
  have hi : i < ks.length := by
    rcases Nat.lt_or_ge i (zip3 ks kv vs).length with z | z
    · rw [zip3_len l1 l2] at z; exact z
    · rw [List.getElem?_eq_none z] at h; cases h
  have q := zip3_at (List.getElem?_eq_getElem hi) (List.getElem?_eq_getElem (show i < kv.length by omega)) (List.getElem?_eq_getElem (show i < vs.length by omega))
  rw [q] at h
  cases h
  exact ⟨List.getElem?_eq_getElem _, List.getElem?_eq_getElem _, List.getElem?_eq_getElem _⟩
theorem it_dk (h : DE j G e (.dic ks xs)) : IT j G tg e (ks.map kd) := fun X hX σ F H R hE hq => wi_of (pi_dk we) (h X hX σ F H _ hE fun v F1 H1 i1 g1 => by
  obtain ⟨d, ep, kv, vs, rfl, h2, D⟩ := is_dic i1
  have l1 := D.keys.len
  have zl := zip3_len l1 D.len
  refine ⟨d, ep, zip3 ks kv vs, rfl, by rw [hX.w]; exact g1.good.ext _ _ h2, hq _ F1 H1 ?_ g1⟩
  rw [hX.w]
  refine ⟨fun i F2 H2 x g hi => ⟨g.ext _ _ (x _ _ h2), by rw [zl]; simpa using hi⟩, fun i F2 H2 v H3 x g y hi => ?_, fun i F2 H2 x g hi => ⟨g.ext _ _ (x _ _ h2), by rw [zl, hi]; simp⟩⟩
  obtain ⟨rfl, k, u, hz⟩ := y
  obtain ⟨z1, z2, z3⟩ := zip3_at' l1 D.len hz
  obtain ⟨v', w1, w2⟩ := D.keys.at_ z1
  rw [z2] at w1; cases w1
  exact ⟨kd k, F2, by rw [List.getElem?_map, z1]; rfl, (is_kd k v).mpr (KeyIs.mono x k v w2), Gr.refl g⟩)
def itemsD : List NestedKey → List Dat → List Dat
  | k :: ks, x :: xs => .tup [kd k, x] :: itemsD ks xs
  | _, _ => []
theorem itemsD_len : ∀ {ks : List NestedKey} {xs : List Dat}, ks.length = xs.length → (itemsD ks xs).length = ks.length
  | [], xs, _ => rfl
  | k :: ks, [], h => by simp at h
  | k :: ks, x :: xs, h => by
    show (itemsD ks xs).length + 1 = _
    rw [itemsD_len (by simpa using h)]; rfl
theorem itemsD_at : ∀ {ks : List NestedKey} {xs : List Dat} {i : Nat} {k : NestedKey} {x : Dat}, ks[i]? = some k → xs[i]? = some x → (itemsD ks xs)[i]? = some (.tup [kd k, x])
  | [], _, i, _, _, h, _ => by simp at h
  | _ :: _, [], i, _, _, _, h => by simp at h
  | k0 :: ks, x0 :: xs, 0, k, x, h1, h2 => by cases h1; cases h2; rfl
  | k0 :: ks, x0 :: xs, i + 1, k, x, h1, h2 => by
    show (itemsD ks xs)[i]? = _
    exact itemsD_at (by simpa using h1) (by simpa using h2)
theorem it_di (h : DE j G e (.dic ks xs)) (hbase : ∀ env : Env, attributeBase e "items" env (eval e env) = eval e env := by intro _; rfl) (hline : (apos.endLine == pos.line) = true := by rfl) :
    IT j G (.Tuple es kk tpos) (.Call (.Attribute e "items" apos) [] [] pos) (itemsD ks xs) := fun X hX σ F H R hE hq => wi_of (pi_di we (hbase _) hline) (h X hX σ F H _ hE fun v F1 H1 i1 g1 => by
  obtain ⟨d, ep, kv, vs, rfl, h2, D⟩ := is_dic i1
  have l1 := D.keys.len
  have zl := zip3_len l1 D.len
  have lx : ks.length = xs.length := by rw [D.len, D.vals.len]
  refine ⟨d, ep, zip3 ks kv vs, rfl, by rw [hX.w]; exact g1.good.ext _ _ h2, hq _ F1 H1 ?_ g1⟩
  rw [hX.w]
  refine ⟨fun i F2 H2 x g hi => ⟨g.ext _ _ (x _ _ h2), by rw [zl]; rw [itemsD_len lx] at hi; exact hi⟩, fun i F2 H2 v H3 x g y hi => ?_, fun i F2 H2 x g hi => ⟨g.ext _ _ (x _ _ h2), by rw [zl, hi, itemsD_len lx]⟩⟩
  obtain ⟨T, x1, y1, rfl, hT, rfl, k, hz⟩ := y
  obtain ⟨z1, z2, z3⟩ := zip3_at' l1 D.len hz
  obtain ⟨v', w1, w2⟩ := D.keys.at_ z1
  rw [z2] at w1; cases w1
  obtain ⟨dx, w3, w4⟩ := D.vals.at' z3
  obtain ⟨F3, q1, q2⟩ := laid_pair g hT ((is_kd k x1).mpr (KeyIs.mono x k x1 w2)) (Is.mono x _ _ w4)
  exact ⟨_, F3, itemsD_at z1 w3, q1, q2⟩)
theorem kds_map : ∀ ks : List NestedKey, ks.map kd = kds ks
  | [] => rfl
  | k :: ks => by unfold kds; rw [List.map_cons, kds_map ks]
/-- len(d) -/
theorem de_lenD (hm : j.c.mg "len" = none) (ha : RE j G a (.dic ks xs)) (hg : GlN j "len" := by rfl) (hs : Stars a := by intro _; rfl) : DE j G (.Call (.Name "len" p) [a] [] pos) (.int ks.length) := by
  intro X hX σ F H q hE hq
  have cr : CallR X (.builtin "len") (fun vs H Q => ∃ d ep zs, vs = [.ref d] ∧ H d = some (DicO X.w d ep zs) ∧ Q (.int zs.length) H) := by
    intro pins s σ H vs us Q I rv ⟨d, ep, zs, ev, hd, hQ⟩
    subst ev
    obtain rfl := Vals.ref1 rv
    obtain ⟨hm, es, raw, pr, sz, hz⟩ := dic_at I hd
    have h63 := line63
    refine call_len_slot (n := zs.length) raw.typeIs PySem.F.slot_dict_len (fun Q' hq' => call_len_raw hm raw (by rw [sz]; exact hq')) (by omega) (by omega) ?_
    exact ⟨.int zs.length, H, (I.tok _).tok _, ⟨_, rfl⟩, hQ⟩
  refine we_of (pe_callB cr (hX.gl hg) (by rw [hX.mg]; exact hm) boot_len (pa_cons we pa_nil (hs _)) (by decide) (by decide) (hs _)) (ha X hX σ F H _ hE fun v F1 H1 i1 g1 => ?_)
  obtain ⟨d, ep, kv, vs, rfl, h2, _, D⟩ := at0_dic i1
  exact ⟨d, ep, zip3 ks kv vs, rfl, by rw [hX.w]; exact h2, hq _ F1 H1 (is_int.mpr (by rw [zip3_len D.keys.len D.len])) g1⟩
/-- list(d) -/
theorem le_listD (hm : j.c.mg "list" = none) (ha : RE j G a (.dic ks xs)) (hg : GlN j "list" := by rfl) (hs : Stars a := by intro _; rfl) : LE j G (.Call (.Name "list" p) [a] [] pos) (ks.map kd) := by
  intro X hX σ F H q hE hq
  have cr : CallR X (.type "list") (fun vs H Q => ∃ d ep zs, vs = [.ref d] ∧ H d = some (DicO X.w d ep zs) ∧ ∀ t, H t = none → Q (.ref t) (upd H t (.lst (zs.map (·.2.1))))) := by
    intro pins s σ H vs us Q I rv ⟨d, ep, zs, ev, hd, hQ⟩
    subst ev
    obtain rfl := Vals.ref1 rv
    obtain ⟨hm, es, raw, pr, sz, hz⟩ := dic_at I hd
    refine PySem.W.kdl_call (KdlSrc.rawDict hm) (I.ok.hd hX.calm) raw (by rw [sz]; exact hz) fun h' tk acc' c' hkeep hS hacc => ?_
    refine ⟨.ref s.heap.objs.size, _, I.laid (o := .lst (zs.map (·.2.1))) hkeep (Nat.le_refl _) ⟨by rw [List.length_map]; exact hz, acc'.toList, c', ?_, by rw [Array.toArray_toList]; exact hS⟩, rfl, hQ _ (I.hok.fresh (Nat.le_refl _))⟩
    refine vals_of_at (by rw [List.length_map, show acc'.toList.length = acc'.size from by simp, hacc.1, sz]) fun i x w h1 h2 => ?_
    obtain ⟨hi', e1⟩ := hacc.2 i w (by rw [← Array.getElem?_toList]; exact h2)
    obtain ⟨k, x', y', z1, z2, z3⟩ := entry_of pr (Array.getElem?_eq_getElem hi')
    rw [List.getElem?_map, z1] at h1
    cases h1
    rw [e1]; exact z2
  refine we_of (pe_callTy cr (hX.gl hg) (by rw [hX.mg]; exact hm) boot_list (pa_cons we pa_nil (hs _)) (by decide) (by decide) (hs _)) (ha X hX σ F H _ hE fun v F1 H1 i1 g1 => ?_)
  obtain ⟨d, ep, kv, vs, rfl, h2, _, D⟩ := at0_dic i1
  refine ⟨d, ep, zip3 ks kv vs, rfl, by rw [hX.w]; exact h2, fun t ht => ?_⟩
  refine hq t ((zip3 ks kv vs).map (·.2.1)) F1 _ (g1.back ht) (g1.good.back ht) upd_same ?_ (g1.trans (Gr.made g1.good ht))
  have e : (zip3 ks kv vs).map (·.2.1) = kv := by
    apply List.ext_getElem?
    intro i
    rw [List.getElem?_map]
    by_cases hi : i < ks.length
    · rw [zip3_at (List.getElem?_eq_getElem hi) (List.getElem?_eq_getElem (show i < kv.length by have := D.keys.len; omega)) (List.getElem?_eq_getElem (show i < vs.length by have := D.len; omega)), List.getElem?_eq_getElem (show i < kv.length by have := D.keys.len; omega)]
      rfl
    · rw [List.getElem?_eq_none (by rw [zip3_len D.keys.len D.len]; omega), List.getElem?_eq_none (by have := D.keys.len; omega)]
      rfl
  rw [e]
  rw [kds_map]
  exact (isL_kds ks kv).mpr D.keys
end
end Cal
set_option Elab.async false
set_option linter.all false
set_option maxRecDepth 100000
set_option maxHeartbeats 4000000
namespace Cal
open PySem PySem.Spec PyProof.Rows L2

/-- sorted -/
def sortD (xs : List Dat) : List Dat := xs.mergeSort (PySem.W.dataLe false py)
/-- what may be sorted -/
structure SortOk (xs : List Dat) : Prop where
  plain : ∀ x ∈ xs, pl x = true
  alike : PySem.W.AllAlike (xs.map py)
  able : PySem.W.Sortable (xs.map py)
  dp : ∀ x ∈ xs, dep x ≤ 60
  few : xs.length ≤ 1000000
section
variable {c : Cfg} {F H : Hp} {X : Cx} {pins : List (Addr × Obj)} {σ : L2.St} {s : Shared}
theorem each_is (hK : X.K = c.K) (I : Inv X pins σ H s) (e : Ext F H) : ∀ {xs : List Dat} {vs : List V} {us : List Value}, IsL c F xs vs → Vals vs us → (∀ x ∈ xs, pl x = true) →
    PySem.W.EachIs (fun u d => ∃ v, RelV v u ∧ Is c F d v) us xs ∧ PySem.W.EachIs (fun u d => ∃ as, Reads s.heap u (py d) as) us xs
  | [], vs, us, h, r, _ => by
    rw [IsL.nil_iff.mp h] at r
    cases r
    exact ⟨.nil, .nil⟩
  | d :: xs, vs, us, h, r, hp => by
    obtain ⟨v, q, rfl, h2, h3⟩ := IsL.cons_iff.mp h
    cases r with
    | cons r1 r2 =>
      obtain ⟨a1, a2⟩ := each_is hK I e h3 r2 fun x hx => hp x (List.mem_cons_of_mem _ hx)
      have D := Is.dp e d v (hp d List.mem_cons_self) h2
      rw [← hK] at D
      exact ⟨.cons ⟨v, r1, h2⟩ a1, .cons (Dp.reads I _ v _ D r1) a2⟩
theorem each_back : ∀ {xs : List Dat} {us : List Value}, PySem.W.EachIs (fun u d => ∃ v, RelV v u ∧ Is c F d v) us xs → ∃ vs, Vals vs us ∧ IsL c F xs vs
  | _, _, .nil => ⟨[], .nil, IsL.nil⟩
  | _, _, .cons ⟨v, r, i⟩ t => by
    obtain ⟨vs, h1, h2⟩ := each_back t
    exact ⟨v :: vs, .cons r h1, IsL.cons i h2⟩
end
section
variable {j : J} {G : List Slot} {e a b tg : Expr} {es : List Expr} {pos p p1 tpos apos : Pos} {F H : Hp} {ks : List NestedKey} {xs : List Dat} {kk : Nat}
/-- sorted(l) -/
theorem le_sorted (hm : j.c.mg "sorted" = none) (ha : RE j G a (.lst xs)) (hS : SortOk xs) (hg : GlN j "sorted" := by rfl) (hs : Stars a := by intro _; rfl) : LE j G (.Call (.Name "sorted" p) [a] [] pos) (sortD xs) := by
  intro X hX σ F H q hE hq
  have cr : CallR X (.builtin "sorted") (fun vs H Q => ∃ t us F, vs = [.ref t] ∧ H t = some (.lst us) ∧ Ext F H ∧ IsL j.c F xs us ∧ ∀ r ws, H r = none → IsL j.c F (sortD xs) ws → Q (.ref r) (upd H r (.lst ws))) := by
    intro pins s σ H vs us Q I rv ⟨t, ts, F, ev, ht, ex, it, hQ⟩
    subst ev
    obtain rfl := Vals.ref1 rv
    obtain ⟨hz, its, n, r, hl, e⟩ := I.lstM ht
    obtain ⟨e1, e2⟩ := each_is hX.K I ex it r hS.plain
    have hL : xs.length ≤ sizeLine := Nat.le_trans hS.few (by decide)
    refine PySem.W.sorted_data (R := fun u d => ∃ v, RelV v u ∧ Is j.c F d v) (enc := py) ⟨_, e, rfl, n, rfl⟩ e1 e2 hS.alike hS.able hL (fun b hb => ?_) fun out hlo eo => ?_
    · have := hX.room.units
      have := hS.dp b hb
      unfold dep at this
      omega
    · obtain ⟨ws, w1, w2⟩ := each_back eo
      have hn : s.heap.objs.size ≤ s.heap.objs.size + 1 := Nat.le_succ _
      obtain ⟨ep, he'⟩ := PyProof.Rows.sortedAll_at s.heap its out.toArray
      refine ⟨.ref (s.heap.objs.size + 1), _, I.laid (t' := s.toks) (o := .lst ws) (fun _ _ => PyProof.Rows.sortedAll_old) hn ⟨?_, out, ep, w1, he'⟩, rfl, hQ _ ws (I.hok.fresh hn) w2⟩
      rw [w1.length, hlo]; exact hL
  refine we_of (pe_callB cr (hX.gl hg) (by rw [hX.mg]; exact hm) (by decide +kernel) (pa_cons we pa_nil (hs _)) (by decide) (by decide) (hs _)) (ha X hX σ F H _ hE fun v F1 H1 i1 g1 => ?_)
  obtain ⟨t, us, rfl, ⟨h2, _⟩, h3⟩ := at0_lst i1
  exact ⟨t, us, F1, rfl, h2, g1.good.ext, h3, fun r ws hr iw => hq r ws F1 _ (g1.back hr) (g1.good.back hr) upd_same iw (g1.trans (Gr.made g1.good hr))⟩
/-- sorted(d) -/
theorem le_sortedD (hm : j.c.mg "sorted" = none) (ha : RE j G a (.dic ks xs)) (hS : SortOk (ks.map kd)) (hg : GlN j "sorted" := by rfl) (hs : Stars a := by intro _; rfl) : LE j G (.Call (.Name "sorted" p) [a] [] pos) (sortD (ks.map kd)) := by
  intro X hX σ F H q hE hq
  have cr : CallR X (.builtin "sorted") (fun vs H Q => ∃ t ep kv us F xs, vs = [.ref t] ∧ H t = some (DicO j.c.w t ep (zip3 ks kv us)) ∧ Ext F H ∧ DK j.c F ks kv us xs ∧ ∀ r ws, H r = none → IsL j.c F (sortD (ks.map kd)) ws → Q (.ref r) (upd H r (.lst ws))) := by
    intro pins s σ H vs us Q I rv ⟨t, ep, kv, ts, F, xs', ev, ht, ex, D, hQ⟩
    subst ev
    obtain rfl := Vals.ref1 rv
    rw [← hX.w] at ht
    obtain ⟨hmm, es, raw, pr, sz, hz⟩ := dic_at I ht
    have hL : (ks.map kd).length ≤ sizeLine := Nat.le_trans hS.few (by decide)
    refine call_function_entry_kw kind_sorted plain_sorted entry_sorted (args_sorted1 _) ?_
    unfold Builtin.«sorted»
    refine wpAny_bind (m := checkCount "sorted" 1 1 _) (wpAny_pure ?_)
    refine wpAny_bind (PySem.W.kdu_collect (KdlSrc.rawDict hmm) (by exact I.ok.hd hX.calm) raw (by rw [sz]; exact hz) fun h' tk acc hk hacc => ?_)
    -- the keys, as a list
    have vk : Vals kv acc.toList := by
      refine vals_of_at ?_ fun i x w h1 h2 => ?_
      · rw [show acc.toList.length = acc.size from by simp, hacc.1, sz, zip3_len D.keys.len D.len, D.keys.len]
      · obtain ⟨hi', e1⟩ := hacc.2 i w (by rw [← Array.getElem?_toList]; exact h2)
        obtain ⟨k, x', y', z1, z2, z3⟩ := entry_of pr (Array.getElem?_eq_getElem hi')
        obtain ⟨q1, q2, q3⟩ := zip3_at' D.keys.len D.len z1
        rw [q2] at h1
        cases h1
        rw [e1]; exact z2
    have ik : IsL j.c F (ks.map kd) kv := by rw [kds_map]; exact (isL_kds ks kv).mpr D.keys
    have I1 : Inv X pins σ H { s with heap := h', toks := tk } := I.kept hk
    have hlk : acc.toList.length = (ks.map kd).length := by rw [← vk.length, ← ik.len]
    refine wpAny_bind (wpAny_newList ?_ (by rw [hlk]; exact hL))
    have I2 : Inv X pins σ H { s with heap := h'.push (seqObj "list" acc.toList.toArray 0), toks := tk } := I1.kept (t' := tk) fun b o e => Heap.get?_push_of_some _ e
    have hat : (h'.push (seqObj "list" acc.toList.toArray 0)).get? h'.objs.size = some (seqObj "list" acc.toList.toArray 0) := Heap.get?_push_size _ rfl
    obtain ⟨e1, e2⟩ := each_is hX.K I2 ex ik vk hS.plain
    have nl : ∀ {b : Addr} {o : Obj}, h'.get? b = some o → b ≠ h'.objs.size := fun {b o} e => Nat.ne_of_lt (Heap.lt_size e)
    have e3 : PySem.W.EachIs (fun u d => ∃ as, Reads (PySem.W.sortingHeap (h'.push (seqObj "list" acc.toList.toArray 0)) h'.objs.size acc.toList) u (py d) as) acc.toList (ks.map kd) := by
      obtain ⟨_, e4⟩ := each_is hX.K I1 ex ik vk hS.plain
      exact e4.mono fun u d ⟨as, r⟩ => ⟨as, PyProof.Rows.Reads.keeps (fun b o e => PySem.W.sortingHeap_old (nl e) (Heap.get?_push_of_some _ e)) r⟩
    refine wpAny_bind (wpAny_holding (wpAny_call_entry_kw slot_list_sort ⟨_, hat, rfl⟩ entry_list_sort ?body (args_list_sort _)))
    case body =>
      show wpAny (model X.prog X.w) X.A.in1.in1 (Builtin.«list.sort» ⟨[.ref h'.objs.size], []⟩) _ _ _
      refine PySem.W.list_sort_vals (s := { s with heap := h'.push (seqObj "list" acc.toList.toArray 0), toks := tk }) (κ := PySem.W.dataKind (PySem.W.sortingHeap (h'.push (seqObj "list" acc.toList.toArray 0)) h'.objs.size acc.toList) ((ks.map kd).map py)) hat (PySem.W.SortsAt.data (PySem.W.each_map (R := fun v d => ∃ as, Reads (PySem.W.sortingHeap (h'.push (seqObj "list" acc.toList.toArray 0)) h'.objs.size acc.toList) v d as) py e3) hS.alike hS.able fun d hd => ?_) (by rw [hlk]; exact hL) ?_
      · obtain ⟨x, hx, rfl⟩ := List.mem_map.mp hd
        have := hX.room.units
        have := hS.dp x hx
        unfold dep at this
        show X.A.units + 1 + 1 + _ < _
        omega
      · refine ⟨_, rfl, wpAny_pure ⟨_, rfl, ?_⟩⟩
        have out := PySem.W.sortVals_data (enc := py) false e1 e3 hS.alike
        obtain ⟨ws, w1, w2⟩ := each_back out
        have hlo : (PySem.W.sortVals (PySem.W.dataKind (PySem.W.sortingHeap (h'.push (seqObj "list" acc.toList.toArray 0)) h'.objs.size acc.toList) ((ks.map kd).map py)) false acc.toList acc.toList).length = acc.toList.length := PySem.W.sortVals_length false rfl
        obtain ⟨ep', he'⟩ := sortedHeap_at (out := (PySem.W.sortVals (PySem.W.dataKind (PySem.W.sortingHeap (h'.push (seqObj "list" acc.toList.toArray 0)) h'.objs.size acc.toList) ((ks.map kd).map py)) false acc.toList acc.toList).toArray) hat
        refine ⟨.ref h'.objs.size, _, I1.laid (t' := tk) (o := .lst ws) (fun b o e => ?_) (Nat.le_refl _) ⟨by rw [w1.length, hlo, hlk]; exact hL, _, ep', w1, he'⟩, rfl, hQ _ ws (I1.hok.fresh (Nat.le_refl _)) w2⟩
        rw [sortedHeap_old (nl e) (by rw [Heap.size_push]; exact Nat.lt_succ_of_lt (Heap.lt_size e))]
        exact Heap.get?_push_of_some _ e
  refine we_of (pe_callB cr (hX.gl hg) (by rw [hX.mg]; exact hm) (by decide +kernel) (pa_cons we pa_nil (hs _)) (by decide) (by decide) (hs _)) (ha X hX σ F H _ hE fun v F1 H1 i1 g1 => ?_)
  obtain ⟨d, ep, kv, vs, rfl, h2, _, D⟩ := at0_dic i1
  exact ⟨d, ep, kv, vs, F1, xs, rfl, h2, g1.good.ext, D, fun r ws hr iw => hq r ws F1 _ (g1.back hr) (g1.good.back hr) upd_same iw (g1.trans (Gr.made g1.good hr))⟩
end
end Cal
set_option Elab.async false
set_option linter.all false
set_option maxRecDepth 100000
set_option maxHeartbeats 4000000
namespace Cal
open PySem PySem.Spec PyProof.Rows L2

section
variable {prog : Program} {w : World} {A : Around} {E : Value → Shared → Prop} {s : Shared}
/-- dict(o): keys that are tuples, no two of one hash -/
theorem call_dictN {o : Addr} {more : List (NestedKey × Addr × Value)} {Q : Value → Shared → Prop} (hu : A.units + 16 < cLine) (hoS : (o == sysModules) = false) (ho : s.heap.DictOfH (nestedKind prog w) o more) (hty : ∀ x ∈ more, s.TypeIs (.ref x.2.1) "tuple") (hap : (more.map fun x => x.1.hash w).Nodup) (hsz : more.length ≤ sizeLine)
    (h : ∀ h', h'.DictOfH (nestedKind prog w) s.heap.objs.size (storedAllH [] more) → (∀ b ob, s.heap.get? b = some ob → h'.get? b = some ob) → Q (.ref s.heap.objs.size) { s with heap := h' }) :
    wpAny (model prog w) A (call (.type "dict") [.ref o]) Q E s := by
  refine callType_codes (Q₁ := fun obj s₁ => obj = .ref s.heap.objs.size ∧ s₁ = { s with heap := s.heap.push { cls := .type "dict", data := .dict #[] } }) PySem.F.kt_called_dict (PySem.F.kt_typeCall_dict_1 _) PySem.F.entry_dict_init (PySem.kt_code_dict_new _ ⟨rfl, rfl⟩) ?_
  rintro obj s₁ ⟨rfl, rfl⟩
  have fresh : (s.heap.push { cls := .type "dict", data := .dict #[] }).DictOfH (nestedKind prog w) s.heap.objs.size [] := Heap.DictOfH.new s.heap
  have up : ∀ b ob, s.heap.get? b = some ob → (s.heap.push { cls := .type "dict", data := .dict #[] }).get? b = some ob := fun b ob e => Heap.get?_push_of_some _ e
  have ho' : (s.heap.push { cls := .type "dict", data := .dict #[] }).DictOfH (nestedKind prog w) o more := by
    obtain ⟨od, es, ep, e1, e2, e3, e4, e5, e6⟩ := ho
    exact ⟨od, es, ep, up _ _ e1, e2, e3, e4, fun x hx => ⟨NestedIs.at (fun a ob vs n e _ => up a ob e) _ _ (e5 x hx).1, (e5 x hx).2⟩, e6⟩
  have apart : s.heap.objs.size ≠ o := by
    obtain ⟨_, _, _, e, _⟩ := ho
    exact Nat.ne_of_gt (Heap.lt_size e)
  refine ⟨fresh.typeIs, PySem.F.args_dict_init_2 _ _, ?_⟩
  unfold Builtin.«dict.__init__»
  refine wpAny_bind ?_
  unfold Builtin.Dict.selfAndRest
  refine wpAny_bind (wpAny_notOrdered_dict fresh.typeIs ?_)
  show wpAny _ _ (pure (s.heap.objs.size, [Value.ref o])) _ _ _
  refine wpAny_pure ?_
  show wpAny _ _ (Builtin.Dict.updateFrom "dict.__init__" s.heap.objs.size (.ref o) [] .none) _ _ _
  refine updateFrom_dictH (A := A.in1) (knd := nestedKind prog w) .none (by show A.units + 1 + 1 + 8 < cLine; omega) apart hoS fresh ho' (.inr ⟨fun x hx => ?_, hap⟩) (by simpa using hsz) fun h' h1 h2 h3 => ?_
  · obtain ⟨ob, e, c⟩ := hty x hx
    exact ⟨ob, up _ _ e, c⟩
  · exact ⟨rfl, h h' h1 fun b ob e => (h3.2 b (Nat.ne_of_lt (Heap.lt_size e))).trans (up b ob e)⟩
end
theorem storedAllH_nodup {more acc : List (NestedKey × Addr × Value)} (h : ((acc ++ more).map (·.1)).Nodup) : storedAllH acc more = acc ++ more := by
  induction more generalizing acc with
  | nil => rw [List.append_nil]; rfl
  | cons x more ih =>
    have e : storedAllH acc (x :: more) = storedAllH (storedH acc x.1 x.2.1 x.2.2) more := rfl
    have hx : atKey acc x.1 = none := atKey_none_of_get fun i p hp => by
      have hm : x.1 ∈ acc.map (·.1) := List.mem_map.mpr ⟨_, List.mem_of_getElem? hp, rfl⟩
      rw [List.map_append, List.nodup_append] at h
      exact h.2.2 _ hm _ (List.mem_cons_self ..) rfl
    rw [e, storedH_new hx]
    have := ih (acc := acc ++ [(x.1, x.2.1, x.2.2)]) (by simpa using h)
    rw [this]; simp

theorem mk_more {c : Cfg} {F : Hp} {P : Program} : ∀ {ks : List NestedKey} {kv vs : List V} {l : List DictEntry}, Paired (EntR c.w) (zip3 ks kv vs) l → KeyAll c F ks kv → ks.length = vs.length → (∀ k ∈ ks, ∃ a, k = .tup a) →
    ∃ more : List (NestedKey × Addr × Value), l = more.map (entryOfKey (nestedKind P c.w)) ∧ more.map (·.1) = ks ∧ Paired (fun v m => RelV v m.2.2) vs more ∧ kv = more.map fun m => V.ref m.2.1
  | [], kv, vs, l, p, hk, hl, _ => by
    rw [KeyAll.nil_iff.mp hk] at p ⊢
    have : vs = [] := List.eq_nil_of_length_eq_zero hl.symm
    subst this
    cases p
    exact ⟨[], rfl, rfl, .nil, rfl⟩
  | k :: ks, kv, vs, l, p, hk, hl, ht => by
    obtain ⟨v, r, rfl, h2, h3⟩ := KeyAll.cons_iff.mp hk
    cases vs with
    | nil => simp at hl
    | cons u vs =>
      cases p with
      | cons h t =>
        rename_i e l
        obtain ⟨more, m1, m2, m3, m4⟩ := mk_more t h3 (by simpa using hl) fun k hk => ht k (List.mem_cons_of_mem _ hk)
        obtain ⟨a, rfl⟩ := ht k List.mem_cons_self
        unfold KeyIs at h2
        obtain ⟨q, _, rfl, _⟩ := h2
        obtain ⟨e1, e2, e3⟩ := h
        have e2 : e.key = Value.ref q := e2
        refine ⟨(.tup a, q, e.val) :: more, ?_, by rw [List.map_cons, m2], .cons e3 m3, by rw [List.map_cons, m4]⟩
        rw [List.map_cons, m1]
        congr 1
        unfold entryOfKey
        cases e
        simp only at e1 e2
        rw [e1, e2]; rfl
theorem more_back {P : Program} {w : World} : ∀ {more : List (NestedKey × Addr × Value)} {vs : List V}, Paired (fun v m => RelV v m.2.2) vs more → Paired (EntR w) (zip3 (more.map (·.1)) (more.map fun m => V.ref m.2.1) vs) (more.map (entryOfKey (nestedKind P w)))
  | _, _, .nil => .nil
  | _, _, .cons r t => .cons ⟨rfl, rfl, r⟩ (more_back t)
/-- no two keys hash alike -/
def Apart (w : World) (ks : List NestedKey) : Prop := (ks.map (·.hash w)).Nodup
section
variable {j : J} {G : List Slot} {e a b tg : Expr} {es : List Expr} {pos p p1 tpos apos : Pos} {F H : Hp} {ks : List NestedKey} {xs : List Dat} {kk : Nat}
theorem led_of_more {X : Cx} (hX : At j X) {pins : List (Addr × Obj)} {σ : L2.St} {s : Shared} {Q : VK} {kv vs : List V} {more : List (NestedKey × Addr × Value)} (I : Inv X pins σ H s) (m2 : more.map (·.1) = ks) (m3 : Paired (fun v m => RelV v m.2.2) vs more) (m4 : kv = more.map fun m => V.ref m.2.1)
    (hz : ks.length ≤ sizeLine) (hb : sysModules < s.heap.objs.size) {h' : Heap} {tk : Nat} (D : h'.DictOfH (nestedKind X.prog X.w) s.heap.objs.size more) (hk : ∀ b ob, s.heap.get? b = some ob → h'.get? b = some ob)
    (q : ∀ ep, Q (.ref s.heap.objs.size) (upd H s.heap.objs.size (DicO j.c.w s.heap.objs.size ep (zip3 ks kv vs)))) : EP X pins σ Q (.ref s.heap.objs.size) { s with heap := h', toks := tk } := by
  obtain ⟨o, es, ep, e1, e2, e3, e4, e5, e6⟩ := D
  refine ⟨.ref s.heap.objs.size, _, I.laid (t' := tk) (o := DicO j.c.w s.heap.objs.size ep (zip3 ks kv vs)) hk (Nat.le_refl _) ?_, rfl, q ep⟩
  rw [← hX.w]
  have bk := more_back (P := X.prog) (w := X.w) m3
  rw [m2, ← m4] at bk
  rw [← e4] at bk
  refine dicO_ok ?_ (beq_eq_false_iff_ne.mpr (Ne.symm (Nat.ne_of_lt hb))) ⟨o, e1, e2, e3⟩ bk
  rw [zip3_len (by rw [m4, ← m2]; simp) (by rw [Paired.length m3, ← m2]; simp)]
  exact hz
/-- dict(d) -/
theorem led_copy (hm : j.c.mg "dict" = none) (ha : RE j G a (.dic ks xs)) (ht : ∀ k ∈ ks, ∃ a, k = .tup a) (hap : Apart j.c.w ks) (hz : ks.length ≤ 1000000) (hg : GlN j "dict" := by rfl) (hs : Stars a := by intro _; rfl) : LED j G (.Call (.Name "dict" p) [a] [] pos) ks xs := by
  intro X hX σ F H q hE hq
  have cr : CallR X (.type "dict") (fun us H Q => ∃ d ep F kv vs, us = [.ref d] ∧ Ext F H ∧ H d = some (DicO j.c.w d ep (zip3 ks kv vs)) ∧ DK j.c F ks kv vs xs ∧ ∀ t ep', H t = none → Q (.ref t) (upd H t (DicO j.c.w t ep' (zip3 ks kv vs)))) := by
    intro pins s σ H us ws Q I rv ⟨d, ep, F, kv, vs, ev, ex, hd, D, hQ⟩
    subst ev
    obtain rfl := Vals.ref1 rv
    obtain ⟨hz', hsm, es, raw, pr⟩ := dic_open I hX.w hd
    obtain ⟨more, m1, m2, m3, m4⟩ := mk_more (P := X.prog) pr D.keys D.len ht
    obtain ⟨o, e1, e2, e3⟩ := raw
    have nest : ∀ x ∈ more, NestedIs s.heap x.1 (.ref x.2.1) := fun x hx => by
      obtain ⟨i, hi, rfl⟩ := List.getElem_of_mem hx
      obtain ⟨v, w1, w2⟩ := D.keys.at_ (i := i) (k := more[i].1) (by rw [← m2, List.getElem?_map, List.getElem?_eq_getElem hi]; rfl)
      rw [m4, List.getElem?_map, List.getElem?_eq_getElem hi] at w1
      cases w1
      exact KeyIs.nested I hX.K ex _ _ _ w2 rfl
    have hl : more.length = ks.length := by rw [← m2, List.length_map]
    have DD : s.heap.DictOfH (nestedKind X.prog X.w) d more := ⟨o, es, ep, e1, e2, e3, by rw [hX.w]; exact m1, fun x hx => ⟨nest x hx, D.d8 _ (by rw [← m2]; exact List.mem_map.mpr ⟨x, hx, rfl⟩)⟩, by rw [m2]; exact D.nd⟩
    refine call_dictN (by have := hX.room.units; omega) hsm DD (fun x hx => ?_) ?_ (by rw [hl]; exact Nat.le_trans hz (by decide)) fun h' D' hk => ?_
    · have hn := nest x hx
      obtain ⟨a, ea⟩ := ht x.1 (by rw [← m2]; exact List.mem_map.mpr ⟨x, hx, rfl⟩)
      rw [ea] at hn
      cases hn with
      | tup z1 z2 _ _ => exact ⟨_, z1, z2⟩
    · have : (more.map fun x => x.1.hash X.w) = (more.map (·.1)).map (·.hash X.w) := by rw [List.map_map]; rfl
      rw [this, m2, hX.w]
      exact hap
    · rw [storedAllH_nodup (by rw [List.nil_append, m2]; exact D.nd), List.nil_append] at D'
      exact led_of_more hX I m2 m3 m4 (Nat.le_trans hz (by decide)) I.big D' hk fun ep' => hQ _ ep' (I.hok.fresh (Nat.le_refl _))
  refine we_of (pe_callTy cr (hX.gl hg) (by rw [hX.mg]; exact hm) (by decide +kernel) (pa_cons we pa_nil (hs _)) (by decide) (by decide) (hs _)) (ha X hX σ F H _ hE fun v F1 H1 i1 g1 => ?_)
  obtain ⟨d, ep, kv, vs, rfl, h2, _, D⟩ := at0_dic i1
  refine ⟨d, ep, F1, kv, vs, rfl, g1.good.ext, h2, D, fun t ep' ht' => hq t kv vs F1 _ (g1.back ht') (g1.good.back ht') ⟨ep', upd_same⟩ D (g1.trans (Gr.made g1.good ht'))⟩
/-- dict([(k, v), ..]) -/
theorem led_pairs (hm : j.c.mg "dict" = none) (ha : RE j G a (.lst (itemsD ks xs))) (ht : ∀ k ∈ ks, ∃ a, k = .tup a) (h8 : ∀ k ∈ ks, k.depth ≤ 8) (nd : ks.Nodup) (hlx : ks.length = xs.length) (hz : ks.length ≤ 1000000) (hg : GlN j "dict" := by rfl) (hs : Stars a := by intro _; rfl) : LED j G (.Call (.Name "dict" p) [a] [] pos) ks xs := by
  intro X hX σ F H q hE hq
  have cr : CallR X (.type "dict") (fun us H Q => ∃ d F ws, us = [.ref d] ∧ Ext F H ∧ H d = some (.lst ws) ∧ IsL j.c F (itemsD ks xs) ws ∧ ∀ t ep' kv vs, H t = none → DK j.c F ks kv vs xs → Q (.ref t) (upd H t (DicO j.c.w t ep' (zip3 ks kv vs)))) := by
    intro pins s σ H us ws0 Q I rv ⟨d, F, ws, ev, ex, hd, il, hQ⟩
    subst ev
    obtain rfl := Vals.ref1 rv
    obtain ⟨hz', its, n, r, hl, e⟩ := I.lstM hd
    -- the pairs, taken apart
    have apart : ∀ {ks : List NestedKey} {xs : List Dat} {ws : List V} {its : List Value}, ks.length = xs.length → (∀ k ∈ ks, ∃ a, k = .tup a) → IsL j.c F (itemsD ks xs) ws → Vals ws its →
        ∃ (kv vs : List V) (more : List (NestedKey × Addr × Value)) (ts : List Addr), KeyAll j.c F ks kv ∧ IsL j.c F xs vs ∧ more.map (·.1) = ks ∧ Paired (fun v m => RelV v m.2.2) vs more ∧ kv = more.map (fun m => V.ref m.2.1) ∧ its = ts.map Value.ref ∧ ts.length = more.length ∧
          ∀ (i : Nat) (m : NestedKey × Addr × Value) (t : Addr), more[i]? = some m → ts[i]? = some t → PairAt s.heap t (.ref m.2.1) m.2.2 := by
      intro ks
      induction ks with
      | nil =>
        intro xs ws its hlen _ il r
        have : xs = [] := List.eq_nil_of_length_eq_zero hlen.symm
        subst this
        have e0 : ws = [] := IsL.nil_iff.mp il
        subst e0
        cases r
        exact ⟨[], [], [], [], KeyAll.nil_iff.mpr rfl, IsL.nil, rfl, .nil, rfl, rfl, rfl, fun i m t h => by simp at h⟩
      | cons k ks ih =>
        intro xs ws its hlen ht il r
        cases xs with
        | nil => simp at hlen
        | cons x xs =>
          obtain ⟨v, r0, rfl, h2, h3⟩ := IsL.cons_iff.mp (show IsL j.c F (.tup [kd k, x] :: itemsD ks xs) ws from il)
          cases r with
          | cons ru rr =>
            obtain ⟨kv, vs, more, ts, a1, a2, a3, a4, a5, a6, a7, a8⟩ := ih (by simpa using hlen) (fun k hk => ht k (List.mem_cons_of_mem _ hk)) h3 rr
            obtain ⟨t, ps, rfl, b1, b2⟩ := is_tup.mp h2
            obtain ⟨y, ps', rfl, b3, b4⟩ := IsL.cons_iff.mp b2
            obtain ⟨z, ps'', rfl, b5, b6⟩ := IsL.cons_iff.mp b4
            have e9 := IsL.nil_iff.mp b6
            subst e9
            cases ru
            obtain ⟨a, rfl⟩ := ht k List.mem_cons_self
            have ik := (is_kd _ y).mp b3
            have ik' := ik
            unfold KeyIs at ik
            obtain ⟨q, _, rfl, _⟩ := ik
            obtain ⟨us, u1, u2, _⟩ := I.tuple (by rw [hX.K]; exact ex.t b1)
            obtain ⟨w1, w2, rfl, r1, r2⟩ := u1.two
            cases r1
            refine ⟨.ref q :: kv, z :: vs, (.tup a, q, w2) :: more, t :: ts, KeyAll.cons_iff.mpr ⟨_, _, rfl, ik', a1⟩, IsL.cons b5 a2, by rw [List.map_cons, a3], .cons r2 a4, by rw [List.map_cons, a5], by rw [List.map_cons, a6], by rw [List.length_cons, List.length_cons, a7], fun i m t' hm ht' => ?_⟩
            cases i with
            | zero => cases hm; cases ht'; exact .inl u2
            | succ i => exact a8 i m t' (by simpa using hm) (by simpa using ht')
    obtain ⟨kv, vs, more, ts, a1, a2, a3, a4, a5, a6, a7, a8⟩ := apart hlx ht il r
    have D : DK j.c F ks kv vs xs := ⟨by rw [hlx, a2.len], nd, h8, a1, a2⟩
    have hlm : more.length = ks.length := by rw [← a3, List.length_map]
    have nest : ∀ x ∈ more, NestedIs s.heap x.1 (.ref x.2.1) := fun x hx => by
      obtain ⟨i, hi, rfl⟩ := List.getElem_of_mem hx
      obtain ⟨v, w1, w2⟩ := a1.at_ (i := i) (k := more[i].1) (by rw [← a3, List.getElem?_map, List.getElem?_eq_getElem hi]; rfl)
      rw [a5, List.getElem?_map, List.getElem?_eq_getElem hi] at w1
      cases w1
      exact KeyIs.nested I hX.K ex _ _ _ w2 rfl
    let ps : List (Value × Value) := more.map fun m => (Value.ref m.2.1, m.2.2)
    have hps : ps.length = more.length := List.length_map ..
    have items : PairItems s.heap its.toArray (fun i => ts.getD i 0) ps := by
      refine ⟨by rw [a6, hps, ← a7]; simp, fun i k v hi => ?_⟩
      have hi' : i < more.length := by
        rcases Nat.lt_or_ge i ps.length with z | z
        · rw [← hps]; exact z
        · rw [List.getElem?_eq_none z] at hi; cases hi
      have ht' : ts[i]? = some (ts[i]'(by omega)) := List.getElem?_eq_getElem _
      rw [show ps[i]? = some (Value.ref more[i].2.1, more[i].2.2) from by show (more.map _)[i]? = _; rw [List.getElem?_map, List.getElem?_eq_getElem hi']; rfl] at hi
      cases hi
      have e1 : ts.getD i 0 = ts[i]'(by omega) := by rw [List.getD_eq_getElem?_getD, ht']; rfl
      refine ⟨?_, ?_⟩
      · rw [a6]
        show (ts.map Value.ref).toArray[i]? = some (Value.ref (ts.getD i 0))
        rw [e1]
        simp [ht']
      · show PairAt s.heap (ts.getD i 0) _ _
        rw [e1]
        exact a8 i _ _ (List.getElem?_eq_getElem hi') ht'
    have PA := PairArg.list (prog := X.prog) (w := X.w) d its.toArray (fun i => ts.getD i 0) ps
    refine call_dict_pairsH (knd := nestedKind X.prog X.w) (ps := more) PA (I.ok.hd hX.calm) (by show X.A.units + 1 + 1 + 8 < cLine; have := hX.room.units; omega) ⟨⟨_, n, e, rfl, rfl, rfl⟩, items⟩ ⟨hps.symm, fun i key v hr => ?_⟩ (fun h' hk x hx => ?_) (by rw [hps, hlm]; exact Nat.le_trans hz (by decide)) fun h' tk D' hk => ?_
    · have hr : ps[i]? = some (key, v) := hr
      have hi' : i < more.length := by
        rcases Nat.lt_or_ge i ps.length with z | z
        · rw [← hps]; exact z
        · rw [List.getElem?_eq_none z] at hr; cases hr
      rw [show ps[i]? = some (Value.ref more[i].2.1, more[i].2.2) from by show (more.map _)[i]? = _; rw [List.getElem?_map, List.getElem?_eq_getElem hi']; rfl] at hr
      cases hr
      exact ⟨more[i].1, more[i].2.1, List.getElem?_eq_getElem hi', rfl⟩
    · refine ⟨NestedIs.at (fun a ob vs m z _ => hk a ob (Nat.ne_of_lt (Heap.lt_size z)) (by simp) z) _ _ (nest x hx), h8 _ (by rw [← a3]; exact List.mem_map.mpr ⟨x, hx, rfl⟩)⟩
    · rw [storedAllH_nodup (by rw [List.nil_append, a3]; exact nd), List.nil_append] at D'
      exact led_of_more hX I a3 a4 a5 (Nat.le_trans hz (by decide)) I.big D' (fun b ob z => hk b ob (by simp) z) fun ep' => hQ _ ep' kv vs (I.hok.fresh (Nat.le_refl _)) D
  refine we_of (pe_callTy cr (hX.gl hg) (by rw [hX.mg]; exact hm) (by decide +kernel) (pa_cons we pa_nil (hs _)) (by decide) (by decide) (hs _)) (ha X hX σ F H _ hE fun v F1 H1 i1 g1 => ?_)
  obtain ⟨d, ws, rfl, ⟨h2, _⟩, h3⟩ := at0_lst i1
  refine ⟨d, F1, ws, rfl, g1.good.ext, h2, h3, fun t ep' kv vs ht' D => hq t kv vs F1 _ (g1.back ht') (g1.good.back ht') ⟨ep', upd_same⟩ D (g1.trans (Gr.made g1.good ht'))⟩
end
end Cal
set_option Elab.async false
set_option linter.all false
set_option maxRecDepth 100000
set_option maxHeartbeats 4000000
namespace Cal
open PySem PySem.Spec PyProof.Rows L2

/-! ### tuple(d), d a dict -/
section
variable {prog : Program} {w : World} {A : Around} {E : Value → Shared → Prop} {s : Shared}
theorem code_tuple_src {r d : Addr} {n : Nat} {P : Nat → Value → Prop} {OK : Heap → Prop} {Q₁ : Value → Shared → Prop} (K : PySem.W.KdlSrc prog w "dict" r d n P OK) (hh : A.handled = none) (hok : OK s.heap) (hn : n ≤ sizeLine)
    (h : ∀ (h' : Heap) (tk : Nat) (acc : Array Value), (∀ b o, s.heap.get? b = some o → h'.get? b = some o) → ItemsOf P acc n → Q₁ (.ref h'.objs.size) { s with heap := h'.push { cls := .type "tuple", data := .seq acc }, toks := tk }) :
    codeAny (model prog w) A (.call (.builtin "tuple.__new__") ⟨[.type "tuple", .ref r], []⟩) (wants Q₁ E) s := by
  refine codeAny_of_tree ?_
  show wpAny _ A.in1 (do checkBuiltinCall "tuple.__new__" ⟨[.type "tuple", .ref r], []⟩; again (.builtin "tuple.__new__" ⟨[.type "tuple", .ref r], []⟩)) _ _ s
  refine wpAny_bind (wpAny_of_eq (PySem.F.newCall_tuple_1 _) (wpAny_pure ⟨plainId_quiet PySem.F.plain_tuple_new _, codeAny_builtin PySem.F.entry_tuple_new ?_⟩))
  rw [Around.under_plainId PySem.F.plain_tuple_new _]
  have hsub := sub_tuple_self
  have hinit := init_tuple_lookup
  have hmh := madeHere_tuple
  have hTI : s.TypeIs (.ref r) "dict" := K.type _ hok
  have hh1 : A.in1.handled = none := hh
  have hcol : ∀ {R : List Value → Shared → Prop} {E' : Value → Shared → Prop}, (∀ (h' : Heap) (tk : Nat) (acc : Array Value), (∀ b o, s.heap.get? b = some o → h'.get? b = some o) → ItemsOf P acc n → R acc.toList { s with heap := h', toks := tk }) → wpAny (model prog w) A.in1 (collect (.ref r)) R E' s := fun q => PySem.W.kdu_collect K hh1 hok hn q
  wp_walk using wpAny_typeOf hTI, hcol
  intro h' tk acc hk hacc
  show wpAny _ _ (Builtin.Tuple.tupleExact acc.toList.toArray >>= fun v => ret v) _ _ _
  unfold Builtin.Tuple.tupleExact
  refine wpAny_bind (wpAny_newObj_type ?_ (by show acc.toList.toArray.size ≤ sizeLine; simp only [Array.toArray_toList]; rw [hacc.1]; exact hn))
  refine wpAny_pure ?_
  have e : acc.toList.toArray = acc := by simp
  rw [e]
  exact h h' tk acc hk hacc
theorem call_tuple_src {r d : Addr} {n : Nat} {P : Nat → Value → Prop} {OK : Heap → Prop} {Q : Value → Shared → Prop} (K : PySem.W.KdlSrc prog w "dict" r d n P OK) (hh : A.handled = none) (hok : OK s.heap) (hn : n ≤ sizeLine)
    (hQ : ∀ (h' : Heap) (tk : Nat) (acc : Array Value), (∀ b o, s.heap.get? b = some o → h'.get? b = some o) → ItemsOf P acc n → Q (.ref h'.objs.size) { s with heap := h'.push { cls := .type "tuple", data := .seq acc }, toks := tk }) :
    wpAny (model prog w) A (call (.type "tuple") [.ref r]) Q E s := by
  refine callType_codes (Q₁ := fun obj s₁ => s₁.TypeIs obj "tuple" ∧ Q obj s₁) PySem.F.called_tuple (PySem.F.typeCall_tuple_1 _) PySem.F.entry_object_init
    (code_tuple_src (A := A.in1) K hh hok hn fun h' tk acc hk hacc => ⟨⟨_, Heap.get?_push_size _ rfl, rfl⟩, hQ h' tk acc hk hacc⟩) fun obj s₁ h₁ => ?_
  exact ⟨h₁.1, PySem.F.args_object_init_2 obj _, object_init_meets PySem.F.called_tuple.init.lookup PySem.F.called_tuple.made (by decide) prog w A.in1 _ s₁ ⟨h₁.1, rfl, h₁.2⟩⟩
end
section
variable {j : J} {G : List Slot} {e a b o : Expr} {es : List Expr} {pos p p1 p2 apos : Pos} {F H : Hp} {x : Str} {d : Dat} {xs ys ds : List Dat} {kk : Nat} {D : Addr}
/-- the text of a key -/
def keyS : Value → Option Str
  | .str x _ => some x
  | _ => none
theorem keyS_some {v : Value} {x : Str} (h : keyS v = some x) : ∃ t, v = .str x t := by
  cases v with
  | str y t =>
    cases h
    exact ⟨t, rfl⟩
  | _ => cases h
theorem isL_strs {c : Cfg} : ∀ zs : List Str, IsL c F (zs.map Dat.str) (zs.map V.str)
  | [] => IsL.nil
  | z :: zs => IsL.cons (is_str.mpr rfl) (isL_strs zs)
theorem de_tupKD {ens : Array DictEntry} {n : Nat} {zs : List Str} (hm : j.c.mg "tuple" = none) (hx : j.c.mg x = some (.ref D)) (hl : j.c.K.lookup D = some ⟨.type "dict", none, .dict ens n, #[]⟩) (hsm : (D == sysModules) = false) (hz : ens.size ≤ sizeLine) (hk : ens.toList.map (fun e => keyS e.key) = zs.map some)
    (hgx : GlN j x := by rfl) (hg : GlN j "tuple" := by rfl) (hdb : (x == ("__debug__" : Str)) = false := by decide) (hs : ∀ env : Env, starEach [.Name x p1] env = (false, eval (.Name x p1) env) :: starEach [] env := by intro _; rfl) : DE j G (.Call (.Name "tuple" p) [.Name x p1] [] pos) (.tup (zs.map Dat.str)) := by
  intro X hX σ F H q hE hq
  have cr : CallR X (.type "tuple") (fun vs H Q => vs = [.ref D] ∧ ∀ t, H t = none → Q (.ref t) (upd H t (.tup (zs.map V.str)))) := by
    intro pins s σ H vs us Q I rv ⟨ev, hQ⟩
    subst ev
    obtain rfl := Vals.ref1 rv
    have ho := I.kIn D _ (by rw [hX.K]; exact hl)
    have raw : s.heap.DictRaw D ens n := ⟨_, ho, ⟨rfl, rfl, rfl⟩, rfl⟩
    refine call_tuple_src (KdlSrc.rawDict (ep := n) hsm) (I.ok.hd hX.calm) raw hz fun h' tk acc hk' hacc => ?_
    have I1 : Inv X pins σ H { s with heap := h', toks := tk } := I.kept hk'
    have lz : zs.length = ens.size := by
      have := congrArg List.length hk
      simpa using this.symm
    refine ⟨.ref h'.objs.size, _, I1.laid (t' := tk) (o := .tup (zs.map V.str)) (fun b o z => Heap.get?_push_of_some _ z) (Nat.le_refl _) ⟨?_, acc.toList, ?_, ⟨_, Heap.get?_push_size _ rfl, rfl, 0, by rw [Array.toArray_toList]⟩⟩, rfl, hQ _ (I1.hok.fresh (Nat.le_refl _))⟩
    · rw [List.length_map, lz]; exact hz
    · refine vals_of_at (by rw [List.length_map, show acc.toList.length = acc.size from by simp, hacc.1, lz]) fun i v u h1 h2 => ?_
      obtain ⟨hi, e1⟩ := hacc.2 i u (by rw [← Array.getElem?_toList]; exact h2)
      have e2 : (ens.toList.map (fun e => keyS e.key))[i]? = some (keyS ens[i].key) := by simp [hi]
      rw [hk, List.getElem?_map] at e2
      rw [List.getElem?_map] at h1
      cases hz : zs[i]? with
      | none => rw [hz] at h1; cases h1
      | some z =>
        rw [hz] at h1 e2
        cases h1
        obtain ⟨t, e3⟩ := keyS_some (Option.some.inj e2).symm
        exact ⟨t, by rw [e1, e3]⟩
  refine we_of (pe_callTy cr (hX.gl hg) (by rw [hX.mg]; exact hm) boot_tuple (pa_cons (pe_glob (v := .ref D) (hX.gl hgx) (by rw [hX.mg]; exact hx) rfl hdb) pa_nil (hs _)) (by decide) (by decide) (hs _)) ⟨rfl, fun t ht => ?_⟩
  have g4 := Gr.laid (E := j.E) hE.good (o := .tup (zs.map V.str)) ht
  refine hq _ _ _ (is_tup.mpr ⟨t, _, rfl, SqT.of upd_same, ?_⟩) g4
  exact isL_strs zs
/-- d[k], d a dict of the module -/
theorem de_ixKD {z : Str} {v : V} (hx : j.c.mg x = some (.ref D)) (hk : KDct j.c.K j.c.w D z v) (hi : ∀ F, Is j.c F d v) (hb : DE j G b (.str z)) (hgx : GlN j x := by rfl) (hdb : (x == ("__debug__" : Str)) = false := by decide) (hs : PlainIx b := by exact fun _ _ => rfl) : DE j G (.Subscript (.Name x p1) b pos) d := by
  intro X hX σ F H q hE hq
  refine we_of (pe_ix ix_kdict (pe_glob (v := .ref D) (hX.gl hgx) (by rw [hX.mg]; exact hx) rfl hdb) we hs) ?_
  refine hb X hX σ F H _ hE fun u F1 H1 i1 g1 => ?_
  exact ⟨D, z, v, rfl, is_str.mp i1, by rw [hX.K, hX.w]; exact hk, hq v F1 H1 (hi F1) g1⟩

/-! ### known tuples: +, count -/
theorem op_catF {X : Cx} : OpR X (binaryOp .Add) (rCatF X.K) := by
  intro pins s σ H x y v u Q I rx ry h
  obtain ⟨a, b, xs, ys, rfl, rfl, ha, hb, hz, hy, q0, q2⟩ := h
  cases rx
  cases ry
  obtain ⟨its, r1, p1, _⟩ := I.tuple ha
  obtain ⟨its2, r2, p2, _⟩ := I.tuple hb
  by_cases hx : xs = []
  · subst hx
    cases r1
    exact cat_tup0 p1 p2 ⟨.ref b, H, I, rfl, q0 rfl⟩
  · refine HT.cat_tup p1 p2 (fun z => hx (r1.nil_iff.mp z)) (fun z => absurd (r2.nil_iff.mp z) hy) (fun z => ?_) (by rw [← r1.length, ← r2.length]; exact hz)
    have e := Heap.get?_push_size s.heap (o := { cls := .type "tuple", data := .seq (its ++ its2).toArray }) rfl
    refine ⟨.ref s.heap.objs.size, _, I.laid (t' := s.toks) (o := .frz _ (.tup (xs ++ ys))) (fun b ob q => Heap.get?_push_of_some _ q) (Nat.le_refl _) ⟨e, by rw [List.length_append]; exact hz, _, r1.append r2, _, e, rfl, _, rfl⟩, rfl, q2 hx _ _ (I.hok.fresh (Nat.le_refl _)) rfl⟩
theorem is_tuf {c : Cfg} {v : V} (h : Is c F (.tuf xs) v) : ∃ p o vs, v = .ref p ∧ F p = some (.frz o (.tup vs)) ∧ o.dict = none ∧ IsL c F xs vs := by
  unfold Is at h
  obtain ⟨p, o, vs, h1, ⟨h2, h3⟩, h4⟩ := h
  exact ⟨p, o, vs, h1, h2, h3, h4⟩
theorem de_catF (ha : DE j G a (.tuf xs)) (hb : DE j G b (.tuf ys)) (hy : ys ≠ []) (hl : xs.length + ys.length ≤ 100000) : DE j G (.BinOp a .Add b pos) (.tuf (xs ++ ys)) := by
  intro X hX σ F H q hE hq
  refine we_of (pe_op op_catF we we) (ha X hX σ F H _ hE fun v F1 H1 i1 g1 => hb X hX σ F1 H1 _ (hE.gr g1) fun u F2 H2 i2 g2 => ?_)
  obtain ⟨t, o, vs, rfl, h2, h2', h3⟩ := is_tuf (Is.mono g2.ext _ _ i1)
  have i2' := i2
  obtain ⟨r, o2, us, rfl, h4, h4', h5⟩ := is_tuf i2
  have k2 := h3.len
  have k3 := h5.len
  refine ⟨t, r, vs, us, rfl, rfl, .inl (.inr ⟨o, g2.good.ext _ _ h2⟩), .inl (.inr ⟨o2, g2.good.ext _ _ h4⟩), by rw [← k2, ← k3]; exact Nat.le_trans hl (by decide), fun e => hy (List.eq_nil_of_length_eq_zero (by rw [k3, e]; rfl)), fun e => ?_, fun e w ob hw hob => ?_⟩
  · have e3 : xs = [] := List.eq_nil_of_length_eq_zero (by rw [k2, e]; rfl)
    subst e3
    exact hq _ F2 H2 i2' (g1.trans g2)
  · have g4 := Gr.laid (E := j.E) g2.good (o := .frz ob (.tup (vs ++ us))) hw
    exact hq _ _ _ (by unfold Is; exact ⟨w, ob, _, rfl, ⟨upd_same, hob⟩, IsL.mono g4.ext _ _ (h3.app h5)⟩) ((g1.trans g2).trans g4)
end
end Cal
set_option Elab.async false
set_option linter.all false
set_option maxRecDepth 100000
set_option maxHeartbeats 4000000
namespace Cal
open PySem PySem.Spec PyProof.Rows L2
section
variable {j : J} {G G' : List Slot} {D D' : DEnds} {e a b tg iter elt : Expr} {ifs es : List Expr} {pos p p1 p2 spos : Pos} {d x y : Dat} {xs ys : List Dat} {A : Type} {n m : Int} {k : Bool} {f : Str}
/-! ### short words -/
theorem dv (i : Nat) {x : Str} (hG : G[i]? = some (.dat d)) (hN : j.N[i]? = some x := by rfl) (hv : Vis j.sc x := by first | exact .inl rfl | exact .inr (.inl rfl) | exact .inr (.inr rfl)) (h1 : (x == ("__debug__" : Str)) = false := by decide) (h2 : (x == ("__classdict__" : Str)) = false := by decide) : DE j G (.Name x pos) d := de_var i hG hN hv h1 h2
theorem rv (i : Nat) {x : Str} (hG : G[i]? = some (.dat d)) (hN : j.N[i]? = some x := by rfl) (hv : Vis j.sc x := by first | exact .inl rfl | exact .inr (.inl rfl) | exact .inr (.inr rfl)) (h1 : (x == ("__debug__" : Str)) = false := by decide) (h2 : (x == ("__classdict__" : Str)) = false := by decide) : RE j G (.Name x pos) d := (de_var i hG hN hv h1 h2).re
theorem ro (i : Nat) {x : Str} (hG : G[i]? = some (.own xs)) (hN : j.N[i]? = some x := by rfl) (hv : Vis j.sc x := by first | exact .inl rfl | exact .inr (.inl rfl) | exact .inr (.inr rfl)) (h1 : (x == ("__debug__" : Str)) = false := by decide) (h2 : (x == ("__classdict__" : Str)) = false := by decide) : RE j G (.Name x pos) (.lst xs) := re_own i hG hN hv h1 h2
theorem rd (i : Nat) {x : Str} {ks : List NestedKey} (hG : G[i]? = some (.owd ks xs)) (hN : j.N[i]? = some x := by rfl) (hv : Vis j.sc x := by first | exact .inl rfl | exact .inr (.inl rfl) | exact .inr (.inr rfl)) (h1 : (x == ("__debug__" : Str)) = false := by decide) (h2 : (x == ("__classdict__" : Str)) = false := by decide) : RE j G (.Name x pos) (.dic ks xs) := re_owd i hG hN hv h1 h2
theorem dgI {x : Str} {i : Int} (h : ∃ t, j.c.mg x = some (.int i t)) (hg : j.sc.names.lookup x = some .globalImplicit := by rfl) (h1 : (x == ("__debug__" : Str)) = false := by decide) : DE j G (.Name x pos) (.int i) := by
  obtain ⟨t, h⟩ := h
  exact de_glob (v := .int i) h ⟨t, rfl⟩ (fun F => is_int.mpr rfl) hg h1
theorem dgT {x : Str} (h : ∃ a, j.c.mg x = some (.ref a) ∧ ∀ F, Is j.c F d (.ref a)) (hg : j.sc.names.lookup x = some .globalImplicit := by rfl) (h1 : (x == ("__debug__" : Str)) = false := by decide) : DE j G (.Name x pos) d := by
  obtain ⟨t, h, hi⟩ := h
  exact de_glob (v := .ref t) h rfl hi hg h1
section
variable {q0 : Pos}
theorem isT (hm : j.c.mg "isinstance" = none) (hm2 : j.c.mg "tuple" = none) (ha : RE j G a (.tup xs)) (hg : GlN j "isinstance" := by rfl) (hg2 : GlN j "tuple" := by rfl) (hs : ∀ env : Env, starEach [a, .Name "tuple" q0] env = (false, eval a env) :: starEach [.Name "tuple" q0] env := by intro _; rfl) : DE j G (.Call (.Name "isinstance" p) [a, .Name "tuple" q0] [] pos) (.bl true) :=
  de_isi hm hm2 rfl ha trivial rfl (by decide) (by decide) hg hg2 hs
theorem isS {x : Str} (hm : j.c.mg "isinstance" = none) (hm2 : j.c.mg "str" = none) (ha : RE j G a (.str x)) (hg : GlN j "isinstance" := by rfl) (hg2 : GlN j "str" := by rfl) (hs : ∀ env : Env, starEach [a, .Name "str" q0] env = (false, eval a env) :: starEach [.Name "str" q0] env := by intro _; rfl) : DE j G (.Call (.Name "isinstance" p) [a, .Name "str" q0] [] pos) (.bl true) :=
  de_isi hm hm2 rfl ha trivial rfl (by decide) (by decide) hg hg2 hs
theorem isI (hm : j.c.mg "isinstance" = none) (hm2 : j.c.mg "int" = none) (ha : RE j G a (.int n)) (hg : GlN j "isinstance" := by rfl) (hg2 : GlN j "int" := by rfl) (hs : ∀ env : Env, starEach [a, .Name "int" q0] env = (false, eval a env) :: starEach [.Name "int" q0] env := by intro _; rfl) : DE j G (.Call (.Name "isinstance" p) [a, .Name "int" q0] [] pos) (.bl true) :=
  de_isi hm hm2 rfl ha trivial rfl (by decide) (by decide) hg hg2 hs
theorem isIB (hm : j.c.mg "isinstance" = none) (hm2 : j.c.mg "bool" = none) (ha : RE j G a (.int n)) (hg : GlN j "isinstance" := by rfl) (hg2 : GlN j "bool" := by rfl) (hs : ∀ env : Env, starEach [a, .Name "bool" q0] env = (false, eval a env) :: starEach [.Name "bool" q0] env := by intro _; rfl) : DE j G (.Call (.Name "isinstance" p) [a, .Name "bool" q0] [] pos) (.bl false) :=
  de_isi hm hm2 rfl ha trivial rfl (by decide) (by decide) hg hg2 hs
end
/-! ### comprehensions with one name, with two -/
theorem le_map1 {scope : Scope} (i : Nat) {x : Str} (enc : A → Dat) (as : List A) (f : A → Dat) (hi : IT j G (.Name x p1) iter (as.map enc)) (hz : as.length ≤ 1000000) (ht : ∀ a ∈ as, DE (jB j scope) (setG (wipeG G [i]) [(i, enc a)]) elt (f a))
    (ok : blkC j.N j.sc scope [(x, i)] = true := by rfl) (hf : ∀ (env : Env) x, foldedSetIterable iter env x = pure x := by intro _ _; rfl) (hN : j.N[i]? = some x := by rfl) (hl : (jB j scope).sc.names.lookup x = some .local := by rfl) : LE j G (.ListComp elt [⟨.Name x p1, iter, [], 0⟩] scope pos) (as.map f) :=
  le_map [(x, i)] enc as f hi hz (fun a ha => ⟨_, dg_name i hN (.inr hl), fun k hk => hk, ht a ha⟩) ok hf
theorem le_comp1 {scope : Scope} (i : Nat) {x : Str} (enc : A → Dat) (as : List A) (pp : A → Bool) (f : A → Dat) (hi : IT j G (.Name x p1) iter (as.map enc)) (hz : as.length ≤ 1000000) (hc : ∀ a ∈ as, DT (jB j scope) (setG (wipeG G [i]) [(i, enc a)]) e (pp a)) (ht : ∀ a ∈ as, pp a = true → DE (jB j scope) (setG (wipeG G [i]) [(i, enc a)]) elt (f a))
    (ok : blkC j.N j.sc scope [(x, i)] = true := by rfl) (hf : ∀ (env : Env) x, foldedSetIterable iter env x = pure x := by intro _ _; rfl) (hN : j.N[i]? = some x := by rfl) (hl : (jB j scope).sc.names.lookup x = some .local := by rfl) : LE j G (.ListComp elt [⟨.Name x p1, iter, [e], 0⟩] scope pos) ((as.filter pp).map f) :=
  le_comp [(x, i)] enc as pp f hi hz (fun a ha => ⟨_, dg_name i hN (.inr hl), fun k hk => hk, dix_one ((hc a ha).toX rfl), ht a ha⟩) ok hf
theorem d1_map1 {scope : Scope} (l i : Nat) {x y : Str} {py : Pos} (enc : A → Dat) (as : List A) (f : A → Dat) (hi : IT j G (.Name x p1) iter (as.map enc)) (hz : as.length ≤ 1000000) (ht : ∀ a ∈ as, DE (jB j scope) (setG (wipeG G [i]) [(i, enc a)]) elt (f a)) (hq : D.nx (G.set l (.own (as.map f))))
    (hsw : ∀ env : Env, env.scope = j.sc → swapsWith (.ListComp elt [⟨.Name x p1, iter, [], 0⟩] scope pos) (some (.Name y py)) spos.line env = pure true := by intro env h; exact sw_true (by rw [h]; rfl) (by rw [h]; rfl) rfl rfl)
    (ok : blkC j.N j.sc scope [(x, i)] = true := by rfl) (hf : ∀ (env : Env) x, foldedSetIterable iter env x = pure x := by intro _ _; rfl) (hN : j.N[i]? = some x := by rfl) (hl : (jB j scope).sc.names.lookup x = some .local := by rfl) (hM : j.N[l]? = some y := by rfl) (hL : j.sc.names.lookup y = some .local := by rfl) : D1 j G (.Assign [.Name y py] (.ListComp elt [⟨.Name x p1, iter, [], 0⟩] scope pos) spos) D :=
  d1_mapT l [(x, i)] enc as f hi hz (fun a ha => ⟨_, dg_name i hN (.inr hl), fun k hk => hk, ht a ha⟩) hM hL hq hsw ok hf
theorem d1_comp1 {scope : Scope} (l i : Nat) {x y : Str} {py : Pos} (enc : A → Dat) (as : List A) (pp : A → Bool) (f : A → Dat) (hi : IT j G (.Name x p1) iter (as.map enc)) (hz : as.length ≤ 1000000) (hc : ∀ a ∈ as, DT (jB j scope) (setG (wipeG G [i]) [(i, enc a)]) e (pp a)) (ht : ∀ a ∈ as, pp a = true → DE (jB j scope) (setG (wipeG G [i]) [(i, enc a)]) elt (f a)) (hq : D.nx (G.set l (.own ((as.filter pp).map f))))
    (hsw : ∀ env : Env, env.scope = j.sc → swapsWith (.ListComp elt [⟨.Name x p1, iter, [e], 0⟩] scope pos) (some (.Name y py)) spos.line env = pure true := by intro env h; exact sw_true (by rw [h]; rfl) (by rw [h]; rfl) rfl rfl)
    (ok : blkC j.N j.sc scope [(x, i)] = true := by rfl) (hf : ∀ (env : Env) x, foldedSetIterable iter env x = pure x := by intro _ _; rfl) (hN : j.N[i]? = some x := by rfl) (hl : (jB j scope).sc.names.lookup x = some .local := by rfl) (hM : j.N[l]? = some y := by rfl) (hL : j.sc.names.lookup y = some .local := by rfl) : D1 j G (.Assign [.Name y py] (.ListComp elt [⟨.Name x p1, iter, [e], 0⟩] scope pos) spos) D :=
  d1_compT l [(x, i)] enc as pp f hi hz (fun a ha => ⟨_, dg_name i hN (.inr hl), fun k hk => hk, dix_one ((hc a ha).toX rfl), ht a ha⟩) hM hL hq hsw ok hf
theorem all_map {as : List A} {f : A → Bool} : (as.map f).all (fun x => x) = as.all f := by
  induction as with
  | nil => rfl
  | cons a as ih => rw [List.map_cons, List.all_cons, List.all_cons, ih]
theorem any_map {as : List A} {f : A → Bool} : (as.map f).any (fun x => x) = as.any f := by
  induction as with
  | nil => rfl
  | cons a as ih => rw [List.map_cons, List.any_cons, List.any_cons, ih]
theorem all1 {scope : Scope} (i : Nat) {x : Str} (enc : A → Dat) (as : List A) (f : A → Bool) (hm : j.c.mg "all" = none) (hi : IT j G (.Name x p1) iter (as.map enc)) (hz : as.length ≤ 1000000) (ht : ∀ a ∈ as, DE (jB j scope) (setG (wipeG G [i]) [(i, enc a)]) elt (.bl (f a)))
    (ok : blkC j.N j.sc scope [(x, i)] = true := by rfl) (hf : ∀ (env : Env) x, foldedSetIterable iter env x = pure x := by intro _ _; rfl) (hN : j.N[i]? = some x := by rfl) (hl : (jB j scope).sc.names.lookup x = some .local := by rfl) (hg : GlN j "all" := by rfl) : DE j G (.Call (.Name "all" p) [.ListComp elt [⟨.Name x p1, iter, [], 0⟩] scope p2] [] pos) (.bl (as.all f)) := by
  have := de_all (pos := pos) (p := p) (bs := as.map f) hm ((le_map1 (pos := p2) i enc as (fun a => .bl (f a)) hi hz ht ok hf hN hl).re.is (by rw [List.map_map]; rfl)) hg (by intro _; rfl)
  rwa [all_map] at this
theorem any1 {scope : Scope} (i : Nat) {x : Str} (enc : A → Dat) (as : List A) (f : A → Bool) (hm : j.c.mg "any" = none) (hi : IT j G (.Name x p1) iter (as.map enc)) (hz : as.length ≤ 1000000) (ht : ∀ a ∈ as, DE (jB j scope) (setG (wipeG G [i]) [(i, enc a)]) elt (.bl (f a)))
    (ok : blkC j.N j.sc scope [(x, i)] = true := by rfl) (hf : ∀ (env : Env) x, foldedSetIterable iter env x = pure x := by intro _ _; rfl) (hN : j.N[i]? = some x := by rfl) (hl : (jB j scope).sc.names.lookup x = some .local := by rfl) (hg : GlN j "any" := by rfl) : DE j G (.Call (.Name "any" p) [.ListComp elt [⟨.Name x p1, iter, [], 0⟩] scope p2] [] pos) (.bl (as.any f)) := by
  have := de_any (pos := pos) (p := p) (bs := as.map f) hm ((le_map1 (pos := p2) i enc as (fun a => .bl (f a)) hi hz ht ok hf hN hl).re.is (by rw [List.map_map]; rfl)) hg (by intro _; rfl)
  rwa [any_map] at this
theorem dg2 {i l : Nat} {x y : Str} {px py : Pos} {kt : Nat} {d1 d2 : Dat} (hN : j.N[i]? = some x) (hM : j.N[l]? = some y) (hx : j.sc.names.lookup x = some .local) (hy : j.sc.names.lookup y = some .local) : DG j (.Tuple [.Name x px, .Name y py] kt pos) (.tup [d1, d2]) [(i, d1), (l, d2)] :=
  dg_tup (u := [(i, d1), (l, d2)]) (dgs_cons (u := [(i, d1)]) (dg_name i hN (.inr hx)) (dgs_cons (u := [(l, d2)]) (u' := []) (dg_name l hM (.inr hy)) dgs_nil))
theorem le_map2 {scope : Scope} (i l : Nat) {x y : Str} {px py : Pos} {kt : Nat} (e1 e2 : A → Dat) (as : List A) (f : A → Dat) (hi : IT j G (.Tuple [.Name x px, .Name y py] kt p1) iter (as.map fun a => .tup [e1 a, e2 a])) (hz : as.length ≤ 1000000) (ht : ∀ a ∈ as, DE (jB j scope) (setG (wipeG G [i, l]) [(i, e1 a), (l, e2 a)]) elt (f a))
    (ok : blkC j.N j.sc scope [(x, i), (y, l)] = true := by rfl) (hf : ∀ (env : Env) x, foldedSetIterable iter env x = pure x := by intro _ _; rfl) (hN : j.N[i]? = some x := by rfl) (hM : j.N[l]? = some y := by rfl) (hx : (jB j scope).sc.names.lookup x = some .local := by rfl) (hy : (jB j scope).sc.names.lookup y = some .local := by rfl) : LE j G (.ListComp elt [⟨.Tuple [.Name x px, .Name y py] kt p1, iter, [], 0⟩] scope pos) (as.map f) :=
  le_map [(x, i), (y, l)] _ as f hi hz (fun a ha => ⟨_, dg2 hN hM hx hy, fun k hk => hk, ht a ha⟩) ok hf
theorem all2 {scope : Scope} (i l : Nat) {x y : Str} {px py : Pos} {kt : Nat} (e1 e2 : A → Dat) (as : List A) (f : A → Bool) (hm : j.c.mg "all" = none) (hi : IT j G (.Tuple [.Name x px, .Name y py] kt p1) iter (as.map fun a => .tup [e1 a, e2 a])) (hz : as.length ≤ 1000000) (ht : ∀ a ∈ as, DE (jB j scope) (setG (wipeG G [i, l]) [(i, e1 a), (l, e2 a)]) elt (.bl (f a)))
    (ok : blkC j.N j.sc scope [(x, i), (y, l)] = true := by rfl) (hf : ∀ (env : Env) x, foldedSetIterable iter env x = pure x := by intro _ _; rfl) (hN : j.N[i]? = some x := by rfl) (hM : j.N[l]? = some y := by rfl) (hx : (jB j scope).sc.names.lookup x = some .local := by rfl) (hy : (jB j scope).sc.names.lookup y = some .local := by rfl) (hg : GlN j "all" := by rfl) : DE j G (.Call (.Name "all" p) [.ListComp elt [⟨.Tuple [.Name x px, .Name y py] kt p1, iter, [], 0⟩] scope p2] [] pos) (.bl (as.all f)) := by
  have := de_all (pos := pos) (p := p) (bs := as.map f) hm ((le_map2 (pos := p2) i l e1 e2 as (fun a => .bl (f a)) hi hz ht ok hf hN hM hx hy).re.is (by rw [List.map_map]; rfl)) hg (by intro _; rfl)
  rwa [all_map] at this
end
end Cal
set_option Elab.async false
set_option linter.all false
set_option maxRecDepth 100000
set_option maxHeartbeats 4000000
namespace Cal
open PySem PySem.Spec PyProof.Rows L2
/-! ### data of a type -/
structure Inj {A : Type} (k : Nat) (enc : A → Dat) : Prop where
  pl : ∀ a, pl (enc a) = true
  dep : ∀ a, dep (enc a) ≤ k
  eq : ∀ a b, deq (enc a) (enc b) = true ↔ a = b
section
variable {A B C : Type} {k l : Nat} {enc : A → Dat} {eb : B → Dat}
theorem Inj.deq (h : Inj k enc) (a b : A) [Decidable (a = b)] : deq (enc a) (enc b) = decide (a = b) := by
  by_cases z : a = b
  · rw [decide_eq_true z]; exact (h.eq a b).mpr z
  · rw [decide_eq_false z]
    cases q : Cal.deq (enc a) (enc b) with
    | false => rfl
    | true => exact absurd ((h.eq a b).mp q) z
theorem Inj.din (h : Inj k enc) (a : A) (as : List A) [Decidable (a ∈ as)] : din (enc a) (as.map enc) = decide (a ∈ as) := by
  have e : Cal.din (enc a) (as.map enc) = true ↔ a ∈ as := by
    unfold Cal.din
    rw [List.any_map, List.any_eq_true]
    constructor
    · rintro ⟨b, hb, hd⟩
      rw [← (h.eq b a).mp hd]; exact hb
    · intro hb
      exact ⟨a, hb, (h.eq a a).mpr rfl⟩
  by_cases z : a ∈ as
  · rw [decide_eq_true z]; exact e.mpr z
  · rw [decide_eq_false z]
    cases q : Cal.din (enc a) (as.map enc) with
    | false => rfl
    | true => exact absurd (e.mp q) z
theorem Inj.all (h : Inj k enc) (as : List A) : (as.map enc).all Cal.pl = true := by
  rw [List.all_map, List.all_eq_true]
  intro a _
  exact h.pl a
theorem Inj.up (h : Inj k enc) (e : k ≤ l) : Inj l enc := ⟨h.pl, fun a => Nat.le_trans (h.dep a) e, h.eq⟩
theorem eqv_tup (xs ys : List PyData) : PyData.eqv (.tuple xs) (.tuple ys) = PyData.eqvAll xs ys := by rw [PyData.eqv]
theorem eqv_cons (x y : PyData) (xs ys : List PyData) : PyData.eqvAll (x :: xs) (y :: ys) = (PyData.eqv x y && PyData.eqvAll xs ys) := by rw [PyData.eqvAll]
theorem inj_int : Inj 0 Dat.int := ⟨fun _ => rfl, fun _ => Nat.le_refl _, fun a b => by
  show PyData.eqv (.int a) (.int b) = true ↔ _
  rw [PyData.eqv]; exact beq_iff_eq⟩
theorem inj_str : Inj 0 Dat.str := ⟨fun _ => rfl, fun _ => Nat.le_refl _, fun a b => by
  show PyData.eqv (.str a) (.str b) = true ↔ _
  rw [PyData.eqv]; exact beq_iff_eq⟩
def eN (n : Nat) : Dat := .int n
theorem inj_nat : Inj 0 eN := ⟨fun _ => rfl, fun _ => Nat.le_refl _, fun a b => (inj_int.eq a b).trans Int.ofNat_inj⟩
theorem inj_tup2 (ha : Inj k enc) (hb : Inj k eb) : Inj (k + 1) (fun p : A × B => .tup [enc p.1, eb p.2]) := by
  refine ⟨fun p => ?_, fun p => ?_, fun p q => ?_⟩
  · show (Cal.pl (enc p.1) && (Cal.pl (eb p.2) && true)) = true
    rw [ha.pl, hb.pl]; rfl
  · show max (dep (enc p.1)) (max (dep (eb p.2)) 0) + 1 ≤ k + 1
    have := ha.dep p.1
    have := hb.dep p.2
    omega
  · show PyData.eqv (.tuple _) (.tuple _) = true ↔ _
    rw [eqv_tup]
    show PyData.eqvAll [py (enc p.1), py (eb p.2)] [py (enc q.1), py (eb q.2)] = true ↔ _
    rw [eqv_cons, eqv_cons, Bool.and_eq_true, Bool.and_eq_true]
    have h1 := ha.eq p.1 q.1
    have h2 := hb.eq p.2 q.2
    unfold Cal.deq at h1 h2
    rw [h1, h2, PyData.eqvAll, Prod.ext_iff]
    simp
theorem inj_tup3 {ec : C → Dat} (ha : Inj k enc) (hb : Inj k eb) (hc : Inj k ec) : Inj (k + 1) (fun p : A × B × C => .tup [enc p.1, eb p.2.1, ec p.2.2]) := by
  refine ⟨fun p => ?_, fun p => ?_, fun p q => ?_⟩
  · show (Cal.pl (enc p.1) && (Cal.pl (eb p.2.1) && (Cal.pl (ec p.2.2) && true))) = true
    rw [ha.pl, hb.pl, hc.pl]; rfl
  · show max (dep (enc p.1)) (max (dep (eb p.2.1)) (max (dep (ec p.2.2)) 0)) + 1 ≤ k + 1
    have := ha.dep p.1
    have := hb.dep p.2.1
    have := hc.dep p.2.2
    omega
  · show PyData.eqv (.tuple _) (.tuple _) = true ↔ _
    rw [eqv_tup]
    show PyData.eqvAll [py (enc p.1), py (eb p.2.1), py (ec p.2.2)] [py (enc q.1), py (eb q.2.1), py (ec q.2.2)] = true ↔ _
    rw [eqv_cons, eqv_cons, eqv_cons, Bool.and_eq_true, Bool.and_eq_true, Bool.and_eq_true]
    have h1 := ha.eq p.1 q.1
    have h2 := hb.eq p.2.1 q.2.1
    have h3 := hc.eq p.2.2 q.2.2
    unfold Cal.deq at h1 h2 h3
    rw [h1, h2, h3, PyData.eqvAll, Prod.ext_iff, Prod.ext_iff]
    simp
theorem eqvAll_map (ha : Inj k enc) : ∀ as bs : List A, PyData.eqvAll (pys (as.map enc)) (pys (bs.map enc)) = true ↔ as = bs
  | [], [] => by simp [pys, PyData.eqvAll]
  | [], b :: bs => by simp [pys, PyData.eqvAll]
  | a :: as, [] => by simp [pys, PyData.eqvAll]
  | a :: as, b :: bs => by
    show PyData.eqvAll (py (enc a) :: pys (as.map enc)) (py (enc b) :: pys (bs.map enc)) = true ↔ _
    rw [eqv_cons, Bool.and_eq_true, eqvAll_map ha as bs]
    have h1 := ha.eq a b
    unfold Cal.deq at h1
    rw [h1]
    simp
theorem depthAll_map (ha : Inj k enc) : ∀ as : List A, PyData.depthAll (pys (as.map enc)) ≤ k
  | [] => Nat.zero_le _
  | a :: as => by
    show max (py (enc a)).depth (PyData.depthAll (pys (as.map enc))) ≤ k
    have := ha.dep a
    have := depthAll_map ha as
    unfold Cal.dep at *
    omega
theorem inj_list (ha : Inj k enc) : Inj (k + 1) (fun as : List A => .tup (as.map enc)) := by
  refine ⟨fun p => ?_, fun p => ?_, fun p q => ?_⟩
  · show pls _ = true
    rw [pls_all]; exact ha.all p
  · show PyData.depthAll (pys (p.map enc)) + 1 ≤ k + 1
    exact Nat.succ_le_succ (depthAll_map ha p)
  · show PyData.eqv (.tuple _) (.tuple _) = true ↔ _
    rw [eqv_tup]; exact eqvAll_map ha p q
/-- None, or such -/
def eO (enc : A → Dat) : Option A → Dat
  | none => .non
  | some a => enc a
theorem inj_opt (ha : Inj k enc) (h0 : ∀ a, Cal.deq (enc a) .non = false ∧ Cal.deq .non (enc a) = false) : Inj k (eO enc) := by
  refine ⟨fun p => ?_, fun p => ?_, fun p q => ?_⟩
  · cases p with
    | none => rfl
    | some a => exact ha.pl a
  · cases p with
    | none => exact Nat.zero_le _
    | some a => exact ha.dep a
  · cases p with
    | none => cases q with
      | none => exact ⟨fun _ => rfl, fun _ => rfl⟩
      | some b => exact ⟨fun h => (by rw [show Cal.deq (eO enc none) (eO enc (some b)) = _ from (h0 b).2] at h; cases h), fun h => by cases h⟩
    | some a => cases q with
      | none => exact ⟨fun h => (by rw [show Cal.deq (eO enc (some a)) (eO enc none) = _ from (h0 a).1] at h; cases h), fun h => by cases h⟩
      | some b => exact (ha.eq a b).trans ⟨fun h => by rw [h], fun h => by cases h; rfl⟩
end
/-! ### the types -/
abbrev Use := Str × Nat
abbrev Row := Nat × Str × List Use
abbrev Mods := List (List Row)
abbrev Plan := List Str × Mods
abbrev Cut := Str × Nat × Nat
abbrev Lot := List Nat
abbrev Bld := Plan × List Cut
abbrev U3 := Option Nat × Str × Nat
abbrev Pr := Nat × Nat × Nat
abbrev Fork := Option Int × Option Int
abbrev Way := List Nat × Use
def eUse (u : Use) : Dat := .tup [.str u.1, eN u.2]
def eRow (r : Row) : Dat := .tup [eN r.1, .str r.2.1, .tup (r.2.2.map eUse)]
def eMod (m : List Row) : Dat := .tup (m.map eRow)
def eMods (m : Mods) : Dat := .tup (m.map eMod)
def eSorts (s : List Str) : Dat := .tup (s.map Dat.str)
def ePlan (p : Plan) : Dat := .tup [eSorts p.1, eMods p.2]
def eCut (c : Cut) : Dat := .tup [.str c.1, eN c.2.1, eN c.2.2]
def eCh (c : List Cut) : Dat := .tup (c.map eCut)
def eLot (l : Lot) : Dat := .tup (l.map eN)
def eBuild (b : Bld) : Dat := .tup [ePlan b.1, eCh b.2]
def eU3 (u : U3) : Dat := .tup [eO eN u.1, .str u.2.1, eN u.2.2]
def ePlc (p : Option Int) : Dat := eO Dat.int p
def ePr (p : Pr) : Dat := .tup [eN p.1, eN p.2.1, eN p.2.2]
def ePO (p : Option Pr) : Dat := eO ePr p
def eFork (f : Fork) : Dat := .tup [ePlc f.1, ePlc f.2]
def eWay (w : Way) : Dat := .tup [.tup (w.1.map eN), eUse w.2]
def eProg (CP : Addr) (p : Plan) : Dat := .ins CP ["pair"] [ePlan p]
def eBld (CP : Addr) (b : Bld) : Dat := .tup [eProg CP b.1, eCh b.2]
def eHeld (CP CH : Addr) (h : Bld × Bld × Lot) : Dat := .slo CH [.tup [eBld CP h.1, eBld CP h.2.1], eLot h.2.2]
theorem inj_use : Inj 1 eUse := inj_tup2 inj_str inj_nat
theorem inj_uses : Inj 2 (fun us : List Use => .tup (us.map eUse)) := inj_list inj_use
theorem inj_row : Inj 3 eRow := inj_tup3 (inj_nat.up (by decide)) (inj_str.up (by decide)) inj_uses
theorem inj_mod : Inj 4 eMod := inj_list inj_row
theorem inj_mods : Inj 5 eMods := inj_list inj_mod
theorem inj_sorts : Inj 1 eSorts := inj_list inj_str
theorem inj_plan : Inj 6 ePlan := inj_tup2 (inj_sorts.up (by decide)) inj_mods
theorem inj_cut : Inj 1 eCut := inj_tup3 inj_str inj_nat inj_nat
theorem inj_ch : Inj 2 eCh := inj_list inj_cut
theorem inj_lot : Inj 1 eLot := inj_list inj_nat
theorem deq_non_tup (xs : List Dat) : deq (.tup xs) .non = false ∧ deq .non (.tup xs) = false := ⟨by show PyData.eqv (.tuple _) .none = false; rw [PyData.eqv], by show PyData.eqv .none (.tuple _) = false; rw [PyData.eqv]⟩
theorem deq_non_int (i : Int) : deq (.int i) .non = false ∧ deq .non (.int i) = false := ⟨by show PyData.eqv (.int _) .none = false; rw [PyData.eqv], by show PyData.eqv .none (.int _) = false; rw [PyData.eqv]⟩
theorem inj_plc : Inj 0 ePlc := inj_opt inj_int deq_non_int
theorem inj_mo : Inj 0 (eO eN) := inj_opt inj_nat fun n => deq_non_int n
theorem inj_u3 : Inj 1 eU3 := inj_tup3 inj_mo inj_str inj_nat
theorem inj_pr : Inj 1 ePr := inj_tup3 inj_nat inj_nat inj_nat
theorem inj_po : Inj 1 ePO := inj_opt inj_pr fun p => deq_non_tup _
theorem inj_fork : Inj 1 eFork := inj_tup2 inj_plc inj_plc
/-! keys -/
def kUse (u : Use) : NestedKey := .tup [.text u.1, .num u.2]
def kPr (p : Pr) : NestedKey := .tup [.num p.1, .num p.2.1, .num p.2.2]
def kPO : Option Pr → NestedKey
  | none => .none
  | some p => kPr p
def kNum (n : Nat) : NestedKey := .num n
def kLot (l : Lot) : NestedKey := .tup (l.map kNum)
theorem kd_use (u : Use) : kd (kUse u) = eUse u := rfl
theorem kd_pr (u : Pr) : kd (kPr u) = ePr u := rfl
theorem kd_po : ∀ u : Option Pr, kd (kPO u) = ePO u
  | none => rfl
  | some _ => rfl
theorem kd_lot (l : Lot) : kd (kLot l) = eLot l := by
  show Dat.tup (kds _) = .tup _
  rw [← kds_map, List.map_map]; rfl
end Cal
set_option Elab.async false
set_option linter.all false
set_option maxRecDepth 100000
set_option maxHeartbeats 4000000
namespace Cal
open PySem PySem.Spec PyProof.Rows L2
/-! ### __init__ -/
/-- within an __init__: the new object o at q, its dict's od at dx -/
structure IR (j : J) (F0 H0 : Hp) (q dx : Addr) (o od : HO) (F H : Hp) (σ : L2.St) (G : List Slot) : Prop where
  env : EnvR j.c no F H σ G
  gr : Gr j.c no F0 H0 F H
  s0 : σ[0]? = some (some (.ref q))
  ne : dx ≠ q
  hq : H q = some o
  hd : H dx = some od
  q0 : H0 q = none
  d0 : H0 dx = none
  fq : F q = none
  fd : F dx = none
  oq : (∀ ps, o ≠ .tbl ps) ∧ ∀ z, o ≠ LamX.CodeO q z
  od : (∀ ps, od ≠ .tbl ps) ∧ ∀ z, od ≠ LamX.CodeO dx z
theorem insO {q C dx : Addr} {fs : List (Str × V)} : (∀ ps, HO.ins C dx fs ≠ .tbl ps) ∧ ∀ z, HO.ins C dx fs ≠ LamX.CodeO q z := ⟨fun _ h => (by cases h), fun z h => by unfold LamX.CodeO at h; cases h⟩
theorem slO_code {a C dx : Addr} {vs : List (Option V)} (q : Str) : SlX.SlO a C dx vs ≠ LamX.CodeO a q := fun e => by
  unfold SlX.SlO LamX.CodeO at e
  have e2 := HO.ext.inj e
  let h0 : Heap := { objs := Array.replicate a default }
  let h1 : Heap := h0.push { cls := .none, data := .fields #[.none, .str q 0] }
  have g : h1.get? a = some { cls := .none, data := .fields #[.none, .str q 0] } := by
    have z : h0.objs.size = a := by simp [h0]
    have q := Heap.get?_push_size (h := h0) (o := { cls := .none, data := .fields #[.none, .str q 0] }) rfl
    rw [z] at q
    exact q
  have y : (∃ (oc : Obj) (vs : Array Value) (t : Tok), h1.get? a = some oc ∧ oc.data = .fields vs ∧ vs[1]? = some (.str q t)) := ⟨_, _, 0, g, rfl, rfl⟩
  rw [← congrFun e2 h1] at y
  obtain ⟨sl, hs, _⟩ := y
  rw [g] at hs
  cases hs
theorem slOO {q C dx : Addr} {vs : List (Option V)} : (∀ ps, SlX.SlO q C dx vs ≠ .tbl ps) ∧ ∀ z, SlX.SlO q C dx vs ≠ LamX.CodeO q z := ⟨fun _ h => (by unfold SlX.SlO at h; cases h), slO_code⟩
theorem xdO {q : Addr} : (∀ ps, HO.xd [] ≠ .tbl ps) ∧ ∀ z, HO.xd [] ≠ LamX.CodeO q z := ⟨fun _ h => (by cases h), fun z h => by unfold LamX.CodeO at h; cases h⟩
theorem ownO {q a : Addr} : (∀ ps, HO.own a ≠ .tbl ps) ∧ ∀ z, HO.own a ≠ LamX.CodeO q z := ⟨fun _ h => (by cases h), fun z h => by unfold LamX.CodeO at h; cases h⟩
section
variable {j : J} {F0 H0 F H F' H' : Hp} {q dx C : Addr} {o od : HO} {σ : L2.St} {G : List Slot} {X : Cx} {De : Ends} {rest body : List Stmt} {c0 e : Expr} {pos pos' p1 : Pos} {d : Dat} {f x : Str}
theorem IR.go (r : IR j F0 H0 q dx o od F H σ G) (hE : j.E = no) (g : Gr j.c j.E F H F' H') : IR j F0 H0 q dx o od F' H' σ G := by
  rw [hE] at g
  exact ⟨r.env.gr g, r.gr.trans g, r.s0, r.ne, g.stays r.env.good r.hq r.oq.1 (fun z => z), g.stays r.env.good r.hd r.od.1 (fun z => z), r.q0, r.d0, g.fresh r.fq r.hq, g.fresh r.fd r.hd, r.oq, r.od⟩
theorem ir_start {N : List Str} {ds : List Dat} {us : List V} (hE : j.E = no) (g : Good j.c no F H) (h1 : H q = none) (h2 : H dx = none) (ne : dx ≠ q) (i : IsL j.c F ds us) (hN : N.length ≠ 0) : IR j F H q dx (.ins C dx []) (.own q) F (upd (upd H dx (.own q)) q (.ins C dx [])) (L2.start N (.ref q :: us)) (.no :: startG (N.drop 1) ds) := by
  have g1 : Gr j.c no F H F (upd H dx (.own q)) := Gr.made g h2
  have g2 := g1.trans (Gr.made g1.good (p := q) (o := .ins C dx []) (by rw [upd_ne (Ne.symm ne)]; exact h1))
  have st : L2.start N (.ref q :: us) = some (.ref q) :: L2.start (N.drop 1) us := by
    unfold L2.start
    rw [List.map_cons, List.cons_append, List.length_cons, List.length_drop]
    congr 3
    omega
  have E0 := start_env (N := N.drop 1) g2.good i
  have fn : ∀ {p : Addr}, H p = none → F p = none := fun {p} h => by
    cases z : F p with
    | none => rfl
    | some u => rw [g.ext p u z] at h; cases h
  refine ⟨?_, g2, by rw [st]; rfl, ne, upd_same, by rw [upd_ne ne, upd_same], h1, h2, fn h1, fn h2, insO, ownO⟩
  rw [st]
  refine ⟨g2.good, by rw [List.length_cons, List.length_cons, E0.len], fun i s hs => ?_, fun i k s t p hik hs ht os ot x y => ?_⟩
  · cases i with
    | zero => cases hs; trivial
    | succ i => exact E0.at_ i s hs
  · cases i with
    | zero => cases hs; cases os
    | succ i => exact (startG_own (by simpa using hs) os).elim
theorem ir_if (hX : At j X) (hE : j.E = no) (r : IR j F0 H0 q dx o od F H σ G) (hc : DT j G c0 false) (k : ∀ F' H', IR j F0 H0 q dx o od F' H' σ G → WSs X rest De σ H') : WSs X (.If c0 body [] pos :: rest) De σ H := by
  refine wss_of (pss_cons (ps_if wt wss pss_nil) wss) (hc X hX σ F H _ (by rw [hE]; exact r.env) fun F1 H1 g1 => ?_)
  exact k F1 H1 (r.go hE g1)
theorem ir_fld {ns : List Str} {vs : List V} (hX : At j X) (hE : j.E = no) (r : IR j F0 H0 q dx (.ins C dx (ns.zip vs)) od F H σ G) (he : DE j G e d) (hk : Cls j.c.K C) (hn : NoAttr j.c.K C f) (hp : ∀ y, putF f y (ns.zip vs) = (ns ++ [f]).zip (vs ++ [y])) (hl : ns.length < 1000)
    (k : ∀ v F' H', Is j.c F' d v → Ext F F' → IR j F0 H0 q dx (.ins C dx ((ns ++ [f]).zip (vs ++ [v]))) od F' H' σ G → WSs X rest De σ H')
    (hN : j.N[0]? = some x := by rfl) (hv : Vis j.sc x := by first | exact .inl rfl | exact .inr (.inl rfl)) (hs : ∀ env : Env, swapsWith e (some (.Attribute (.Name x p1) f pos')) pos.line env = pure false := by intro _; rfl) (h1 : (x == ("__debug__" : Str)) = false := by decide) (h2 : (x == ("__classdict__" : Str)) = false := by decide) : WSs X (.Assign [.Attribute (.Name x p1) f pos'] e pos :: rest) De σ H := by
  refine wss_of (pss_cons (ps_fld (pe_var (i := 0) (by rw [hX.N]; exact hN) (by rw [hX.sc]; exact hv) h1 h2) we (hs _)) wss) ?_
  refine he X hX σ F H _ (by rw [hE]; exact r.env) fun v F1 H1 i1 g1 => ?_
  have r1 := r.go hE g1
  refine ⟨_, r1.s0, q, C, dx, ns.zip vs, rfl, r1.hq, by rw [hX.K]; exact hk, by rw [hX.K]; exact hn, by rw [List.length_zip]; exact Nat.lt_of_le_of_lt (Nat.min_le_left _ _) hl, ?_⟩
  rw [hp]
  have g2 := r1.gr.wrote (u := .ins C dx ((ns ++ [f]).zip (vs ++ [v]))) r1.q0 r1.hq r1.fq r1.oq.1 r1.oq.2 (fun z => z)
  have g3 : Gr j.c no F1 H1 F1 H1 := Gr.refl r1.env.good
  refine k v F1 _ i1 g1.ext ⟨⟨g2.good, r1.env.len, fun i s hs => ?_, r1.env.sep⟩, g2, r1.s0, r1.ne, upd_same, by rw [upd_ne r1.ne]; exact r1.hd, r1.q0, r1.d0, r1.fq, r1.fd, insO, r1.od⟩
  have h := r1.env.at_ i s hs
  cases s with
  | no => trivial
  | dat d => exact h
  | own xs =>
    obtain ⟨p, us, a1, a2, a3, a4⟩ := h
    refine ⟨p, us, a1, ?_, a3, a4⟩
    rw [upd_ne (fun z => by rw [z, r1.hq] at a2; cases a2)]
    exact a2
  | owd ks xs =>
    obtain ⟨p, kv, us, a1, ⟨ep, a2⟩, a3, a4⟩ := h
    refine ⟨p, kv, us, a1, ⟨ep, ?_⟩, a3, a4⟩
    rw [upd_ne (fun z => by rw [z, r1.hq] at a2; unfold DicO at a2; cases a2)]
    exact a2
  | dr => exact h
theorem ir_end {ns : List Str} {vs : List V} {ds : List Dat} (r : IR j F0 H0 q dx (.ins C dx (ns.zip vs)) od F H σ G) (hl : ns.length = vs.length) (i : IsL j.c F ds vs) : ∃ F', Is j.c F' (.ins C ns ds) (.ref q) ∧ Gr j.c no F0 H0 F' H := by
  refine ⟨upd F q (.ins C dx (ns.zip vs)), ?_, r.gr.froze r.q0 ⟨r.fq, fun z => z⟩ r.hq r.oq.1⟩
  unfold Is
  exact ⟨q, dx, vs, rfl, upd_same, hl, IsL.mono (ext_upd r.fq) ds vs i⟩
theorem ir_sl {vs : List (Option V)} {p : Addr} {i : Nat} (hX : At j X) (hE : j.E = no) (r : IR j F0 H0 q dx o od F H σ G) (hS : (o = .ins C dx [] ∧ vs = []) ∨ (o = SlX.SlO q C dx vs ∧ od = .xd [])) (hG : ∀ (i : Nat) s, G[i]? = some s → s.isOwn = false) (he : DE j G e d) (hk : SlX.SCls j.c.K C) (hn : SlX.Slot1 j.c.K C f p i)
    (k : ∀ v F' H', Is j.c F' d v → Ext F F' → IR j F0 H0 q dx (SlX.SlO q C dx (SlX.putS i v vs)) (.xd []) F' H' σ G → WSs X rest De σ H')
    (hN : j.N[0]? = some x := by rfl) (hv : Vis j.sc x := by first | exact .inl rfl | exact .inr (.inl rfl)) (hs : ∀ env : Env, swapsWith e (some (.Attribute (.Name x p1) f pos')) pos.line env = pure false := by intro _; rfl) (h1 : (x == ("__debug__" : Str)) = false := by decide) (h2 : (x == ("__classdict__" : Str)) = false := by decide) : WSs X (.Assign [.Attribute (.Name x p1) f pos'] e pos :: rest) De σ H := by
  refine wss_of (pss_cons (SlX.ps_sl (pe_var (i := 0) (by rw [hX.N]; exact hN) (by rw [hX.sc]; exact hv) h1 h2) we (hs _)) wss) ?_
  refine he X hX σ F H _ (by rw [hE]; exact r.env) fun v F1 H1 i1 g1 => ?_
  have r1 := r.go hE g1
  refine ⟨_, r1.s0, q, C, dx, p, vs, i, rfl, ?_, by rw [hX.K]; exact hk, by rw [hX.K]; exact hn, ?_⟩
  · rcases hS with ⟨e1, e2⟩ | ⟨e1, e2⟩
    · exact .inl ⟨by rw [r1.hq, e1], e2⟩
    · exact .inr ⟨by rw [r1.hq, e1], by rw [r1.hd, e2]⟩
  have g2 := r1.gr.wrote (u := .xd []) r1.d0 r1.hd r1.fd r1.od.1 r1.od.2 (fun z => z)
  have g3 := g2.wrote (p := q) (u := SlX.SlO q C dx (SlX.putS i v vs)) r1.q0 (by rw [upd_ne (Ne.symm r1.ne)]; exact r1.hq) r1.fq r1.oq.1 r1.oq.2 (fun z => z)
  refine k v F1 _ i1 g1.ext ⟨⟨g3.good, r1.env.len, fun i s hs => ?_, r1.env.sep⟩, g3, r1.s0, r1.ne, upd_same, by unfold SlX.slH; rw [upd_ne r1.ne, upd_same], r1.q0, r1.d0, r1.fq, r1.fd, slOO, xdO⟩
  have h := r1.env.at_ i s hs
  cases s with
  | no => trivial
  | dat d => exact h
  | own xs => have := hG i _ hs; cases this
  | owd ks xs => have := hG i _ hs; cases this
  | dr => exact h
theorem ir_endS {vs : List V} {ds : List Dat} (r : IR j F0 H0 q dx (SlX.SlO q C dx (vs.map some)) (.xd []) F H σ G) (i : IsL j.c F ds vs) : ∃ F', Is j.c F' (.slo C ds) (.ref q) ∧ Gr j.c no F0 H0 F' H := by
  have g1 := r.gr.froze r.d0 ⟨r.fd, fun z => z⟩ r.hd r.od.1
  have g2 := g1.froze r.q0 ⟨by rw [upd_ne (Ne.symm r.ne)]; exact r.fq, fun z => z⟩ r.hq r.oq.1
  refine ⟨_, ?_, g2⟩
  unfold Is
  exact ⟨q, dx, vs, rfl, ⟨upd_same, by rw [upd_ne r.ne, upd_same]⟩, IsL.mono ((ext_upd r.fd).trans (ext_upd (by rw [upd_ne (Ne.symm r.ne)]; exact r.fq))) ds vs i⟩
end
end Cal
set_option Elab.async false
set_option linter.all false
set_option maxRecDepth 100000
set_option maxHeartbeats 4000000
namespace Cal
open PySem PySem.Spec PyProof.Rows L2
theorem ll {a b : Nat} (h : Nat.ble a b = true) : a ≤ b := Nat.le_of_ble_eq_true h
section
variable {A B : Type} {j : J} {G G' : List Slot} {k : Nat} {enc : A → Dat} {e a b o : Expr} {pos p p1 : Pos} {xs ys : List Dat} {d x y : Dat} {s : Slot}
theorem c_eqE (h : Inj k enc) (hk : k ≤ 60) (a b : A) [Decidable (a = b)] : CmpIs j .Eq (enc a) (enc b) (decide (a = b)) := h.deq a b ▸ c_eq (h.pl a) (h.pl b) (Nat.le_trans (Nat.min_le_left _ _) (Nat.le_trans (h.dep a) hk))
theorem c_neE (h : Inj k enc) (hk : k ≤ 60) (a b : A) [Decidable (a = b)] : CmpIs j .NotEq (enc a) (enc b) (!decide (a = b)) := h.deq a b ▸ c_ne (h.pl a) (h.pl b) (Nat.le_trans (Nat.min_le_left _ _) (Nat.le_trans (h.dep a) hk))
theorem c_inE (h : Inj k enc) (hk : k ≤ 60) (a : A) (as : List A) [Decidable (a ∈ as)] : CmpIs j .In (enc a) (.tup (as.map enc)) (decide (a ∈ as)) := h.din a as ▸ c_inT (h.pl a) (h.all as) (Nat.le_trans (h.dep a) hk)
theorem c_inLE (h : Inj k enc) (hk : k ≤ 60) (a : A) (as : List A) [Decidable (a ∈ as)] : CmpIs j .In (enc a) (.lst (as.map enc)) (decide (a ∈ as)) := h.din a as ▸ c_inL (h.pl a) (h.all as) (Nat.le_trans (h.dep a) hk)
theorem c_notinE (h : Inj k enc) (hk : k ≤ 60) (a : A) (as : List A) [Decidable (a ∈ as)] : CmpIs j .NotIn (enc a) (.tup (as.map enc)) (!decide (a ∈ as)) := h.din a as ▸ c_notinT (h.pl a) (h.all as) (Nat.le_trans (h.dep a) hk)
theorem c_notinLE (h : Inj k enc) (hk : k ≤ 60) (a : A) (as : List A) [Decidable (a ∈ as)] : CmpIs j .NotIn (enc a) (.lst (as.map enc)) (!decide (a ∈ as)) := h.din a as ▸ c_notinL (h.pl a) (h.all as) (Nat.le_trans (h.dep a) hk)
theorem CmpIs.is {op : CmpOp} {p q : Bool} (h : CmpIs j op x y p) (z : p = q) : CmpIs j op x y q := z ▸ h
theorem eqv_lst (xs ys : List PyData) : PyData.eqv (.list xs) (.list ys) = PyData.eqvAll xs ys := by rw [PyData.eqv]
theorem deq_nil (xs : List Dat) : deq (.lst xs) (.lst []) = xs.isEmpty := by
  show PyData.eqv (.list (pys xs)) (.list []) = _
  rw [eqv_lst]
  cases xs with
  | nil => rfl
  | cons x xs => show PyData.eqvAll (py x :: pys xs) [] = false; rw [PyData.eqvAll]
theorem c_eqNil (h : xs.all pl = true) : CmpIs j .Eq (.lst xs) (.lst []) xs.isEmpty := deq_nil xs ▸ c_eq (by show pls xs = true; rw [pls_all]; exact h) rfl (Nat.le_trans (Nat.min_le_right _ _) (ll rfl))
theorem c_neNil (h : xs.all pl = true) : CmpIs j .NotEq (.lst xs) (.lst []) (!xs.isEmpty) := deq_nil xs ▸ c_ne (by show pls xs = true; rw [pls_all]; exact h) rfl (Nat.le_trans (Nat.min_le_right _ _) (ll rfl))
/-! less known -/
theorem wk_nil : Wk [] [] := ⟨rfl, fun i s h => by simp at h⟩
theorem wk_eq (h : Wk G G') : Wk (s :: G) (s :: G') := ⟨by rw [List.length_cons, List.length_cons, h.1], fun i t ht => by
  cases i with
  | zero => exact .inr ht
  | succ i => exact h.2 i t (by simpa using ht)⟩
theorem wk_no (h : Wk G G') : Wk (s :: G) (.no :: G') := ⟨by rw [List.length_cons, List.length_cons, h.1], fun i t ht => by
  cases i with
  | zero => cases ht; exact .inl rfl
  | succ i => exact h.2 i t (by simpa using ht)⟩
/-! fields -/
theorem de_fld1 {C : Addr} {f : Str} (ho : DE j G o (.ins C [f] [d])) (hc : Cls j.c.K C) (hn : NoAttr j.c.K C f) (hb : AB o f := by intro _; rfl) : DE j G (.Attribute o f pos) d :=
  de_fld ho hc hn 0 (fun vs h => by
    cases vs with
    | nil => cases h
    | cons v vs => show List.lookup f ((f, v) :: _) = _; rw [List.lookup_cons]; simp) rfl hb
theorem de_fld2 {C : Addr} {f f2 : Str} {d2 : Dat} (ho : DE j G o (.ins C [f, f2] [d, d2])) (hc : Cls j.c.K C) (hn : NoAttr j.c.K C f) (hb : AB o f := by intro _; rfl) : DE j G (.Attribute o f pos) d :=
  de_fld ho hc hn 0 (fun vs h => by
    cases vs with
    | nil => cases h
    | cons v vs => cases vs with
      | nil => cases h
      | cons u vs => show List.lookup f ((f, v) :: _) = _; rw [List.lookup_cons]; simp) rfl hb
theorem de_fld2b {C : Addr} {f f2 : Str} {d2 : Dat} (ho : DE j G o (.ins C [f, f2] [d, d2])) (hne : (f2 == f) = false) (hc : Cls j.c.K C) (hn : NoAttr j.c.K C f2) (hb : AB o f2 := by intro _; rfl) : DE j G (.Attribute o f2 pos) d2 :=
  de_fld ho hc hn 1 (fun vs h => by
    cases vs with
    | nil => cases h
    | cons v vs => cases vs with
      | nil => cases h
      | cons u vs => show List.lookup f2 ((f, v) :: (f2, u) :: _) = _; rw [List.lookup_cons, hne, List.lookup_cons]; simp) rfl hb
/-! targets -/
theorem dn (i : Nat) {x : Str} (hN : j.N[i]? = some x := by rfl) (hs : (j.blk = false ∧ Loc j.sc x) ∨ j.sc.names.lookup x = some .local := by first | exact .inr rfl | exact .inl ⟨rfl, .inr rfl⟩) : DG j (.Name x pos) d [(i, d)] := dg_name i hN hs
theorem dn2 {i l : Nat} {x y : Str} {px py : Pos} {kt : Nat} {d1 d2 : Dat} (h1 : DG j (.Name x px) d1 [(i, d1)]) (h2 : DG j (.Name y py) d2 [(l, d2)]) : DG j (.Tuple [.Name x px, .Name y py] kt pos) (.tup [d1, d2]) [(i, d1), (l, d2)] :=
  dg_tup (u := [(i, d1), (l, d2)]) (dgs_cons (u := [(i, d1)]) h1 (dgs_cons (u := [(l, d2)]) (u' := []) h2 dgs_nil))
theorem dn3 {i l m : Nat} {x y z : Str} {px py pz : Pos} {kt : Nat} {d1 d2 d3 : Dat} (h1 : DG j (.Name x px) d1 [(i, d1)]) (h2 : DG j (.Name y py) d2 [(l, d2)]) (h3 : DG j (.Name z pz) d3 [(m, d3)]) : DG j (.Tuple [.Name x px, .Name y py, .Name z pz] kt pos) (.tup [d1, d2, d3]) [(i, d1), (l, d2), (m, d3)] :=
  dg_tup (u := [(i, d1), (l, d2), (m, d3)]) (dgs_cons (u := [(i, d1)]) h1 (dgs_cons (u := [(l, d2)]) h2 (dgs_cons (u := [(m, d3)]) (u' := []) h3 dgs_nil)))
/-! zip, enumerate -/
theorem zipD_map {B : Type} {ea : A → Dat} {eb : B → Dat} : ∀ (as : List A) (bs : List B), zipD (as.map ea) (bs.map eb) = (as.zip bs).map fun p => .tup [ea p.1, eb p.2]
  | [], _ => rfl
  | _ :: _, [] => rfl
  | a :: as, b :: bs => congrArg (_ :: ·) (zipD_map as bs)
theorem cut1 (xs : List Dat) : cutD xs (some 1) none = xs.drop 1 := by
  unfold cutD
  cases xs with
  | nil => simp
  | cons x xs =>
    have e1 : HT.sIx (x :: xs).length 0 (some 1) = 1 := by
      unfold HT.sIx
      simp
      try omega
    have e2 : HT.sIx (x :: xs).length (x :: xs).length none = (x :: xs).length := rfl
    rw [e1, e2]
    exact List.take_of_length_le (by simp)
theorem IT.is {tg iter : Expr} {ds ds' : List Dat} (h : IT j G tg iter ds) (z : ds = ds') : IT j G tg iter ds' := z ▸ h
/-- zip(t, t[1:]) -/
theorem it_zipTail {es : List Expr} {kk : Nat} {tpos ps p2 p3 : Pos} {as : List A} {e1 e2 : Expr} {k1 : Nat} (h : DE j G e1 (.tup (as.map enc))) (h2 : DE j G e2 (.tup (as.map enc))) (hm : j.c.mg "zip" = none) (hg : GlN j "zip" := by rfl)
    (hs : ∀ env : Env, starEach [e1, .Subscript e2 (.Slice (some (.Constant (.int 1) k1 ps)) none none p2) p3] env = (false, eval e1 env) :: starEach [.Subscript e2 (.Slice (some (.Constant (.int 1) k1 ps)) none none p2) p3] env := by intro _; rfl) (hs2 : Stars (.Subscript e2 (.Slice (some (.Constant (.int 1) k1 ps)) none none p2) p3) := by intro _; rfl) :
    IT j G (.Tuple es kk tpos) (.Call (.Name "zip" p1) [e1, .Subscript e2 (.Slice (some (.Constant (.int 1) k1 ps)) none none p2) p3] [] pos) ((as.zip (as.drop 1)).map fun q => .tup [enc q.1, enc q.2]) :=
  (it_zipT h (de_slT h2 (dp_some de_int) dp_none) hm hg hs hs2 (by intro _; rfl)).is (by rw [cut1, ← List.map_drop, zipD_map])
def enumL (n : Nat) : List A → List (Nat × A)
  | [] => []
  | a :: as => (n, a) :: enumL (n + 1) as
theorem enumD_map (enc : A → Dat) : ∀ (n : Nat) (as : List A), enumD n (as.map enc) = (enumL n as).map fun p => .tup [eN p.1, enc p.2]
  | n, [] => rfl
  | n, a :: as => congrArg (_ :: ·) (enumD_map enc (n + 1) as)
theorem atI_nat {xs : List Dat} {n : Nat} : atI xs (n : Int) = xs[n]? := by
  unfold atI
  by_cases h : n < xs.length
  · have : ixN xs.length (n : Int) = some n := by unfold ixN; rw [if_pos (by omega), if_pos (by omega)]; rfl
    rw [this]; rfl
  · have : ixN xs.length (n : Int) = none := by unfold ixN; rw [if_pos (by omega), if_neg (by omega)]
    rw [this, List.getElem?_eq_none (by omega)]; rfl
theorem atI_map {as : List A} {n : Nat} {a : A} (h : as[n]? = some a) : atI (as.map enc) (n : Int) = some (enc a) := by
  rw [atI_nat, List.getElem?_map, h]; rfl
end
/-! ### a def with one default, None -/
structure DefN (c : Cfg) (f : Str) (st : Stmt) (N ps : List Str) : Prop where
  ex : ∃ (x qual : Str) (t : Addr) (fd : FuncData) (ds : List Value), FunD c.K x qual (defArgs st) (defBody st) (defScope st) [.non] [] t fd ∧ c.mg f = some (.ref t) ∧ Vals [.non] ds ∧ Binds c.K fd ps ds
  sc : FnScope N ps (defScope st)
theorem has_ofN {A : Type} {c : Cfg} {st : Stmt} {enc : A → List Dat} {dom : A → Prop} {g : A → Dat} {k : Nat} {f : Str} {N ps : List Str} (d : DefN c f st N ps) (hl : ∀ a, (enc a).length + 1 = ps.length)
    (hb : ∀ a, dom a → DS (jF c N st k) (startG N (enc a ++ [.non])) (defBody st) { nx := fun _ => g a = .non, rt := fun r => r = g a }) : Has c (k + 1) f (spP c enc dom g) := by
  obtain ⟨x, qual, t, fd, ds, hF, hm, hv, hB⟩ := d.ex
  refine ⟨t, hm, hF.kp, ?_⟩
  have ok : FnOk c.P c.w c.K c.mg c.base CX0 (k + 1) t fd ps (spP c (fun a => enc a ++ [.non]) dom g) := hF.ok d.sc (fun vs H Q E ⟨a, F, _, _, h3, _⟩ => by rw [← h3.len, List.length_append]; exact hl a) fun cdv A outer s H vs Q E hr ⟨a, F, h1, h2, h3, h4⟩ => by
    refine ⟨_, (wss (X := (cxOf CX0 c.P c.w c.K c.mg c.base N qual (defScope st) t cdv A outer s H E).nox)).nox, hb a h1 _ (at_body (c := c) d.sc k no hr) (L2.start N vs) F H F F H _ ⟨start_env h2 h3, Gr.refl h2, fun i s p hs os => (startG_own hs os).elim, Ext.refl _⟩ ⟨fun σ F' H' G hn r => ?_, fun v d F' H' e i g => ?_, fun p vs xs F' H' z => z.elim⟩⟩
    · exact h4 .non F' H' (by rw [hn]; unfold Is; rfl) r.gr
    · subst e
      exact h4 v F' H' i g
  have := ok.raw hB hv
  exact this.imp fun vs H Q E ⟨a, F, h1, h2, h3, h4⟩ => ⟨a, F, h1, h2, h3.app (IsL.cons (by unfold Is; rfl) IsL.nil), h4⟩
end Cal
set_option Elab.async false
set_option linter.all false
set_option maxRecDepth 100000
set_option maxHeartbeats 4000000
namespace Cal
open PySem PySem.Spec PyProof.Rows L2
/-! ### sorted, by type -/
structure Srt {A : Type} (k : Nat) (enc : A → Dat) : Prop extends Inj k enc where
  al : ∀ a b, PySem.W.alike (py (enc a)) (py (enc b)) = true
  tu : ∀ a, ∃ x r, py (enc a) = .tuple (x :: r)
def leE {A : Type} (enc : A → Dat) (a b : A) : Bool := PySem.W.dataLe false py (enc a) (enc b)
def srt {A : Type} (enc : A → Dat) (as : List A) : List A := as.mergeSort (leE enc)
section
variable {A : Type} {k : Nat} {enc : A → Dat}
theorem sortD_map (as : List A) : sortD (as.map enc) = (srt enc as).map enc := by
  unfold sortD srt
  exact (List.map_mergeSort (r := leE enc) (s := PySem.W.dataLe false py) (f := enc) fun a _ b _ => rfl).symm
theorem Srt.ok (h : Srt k enc) (hk : k ≤ 60) (as : List A) (hl : as.length ≤ 1000000) : SortOk (as.map enc) := by
  refine ⟨fun x hx => ?_, fun d hd d' hd' => ?_, .inl fun d hd => ?_, fun x hx => ?_, by rw [List.length_map]; exact hl⟩
  · obtain ⟨a, _, rfl⟩ := List.mem_map.mp hx
    exact h.pl a
  · rw [List.map_map] at hd hd'
    obtain ⟨a, _, rfl⟩ := List.mem_map.mp hd
    obtain ⟨b, _, rfl⟩ := List.mem_map.mp hd'
    exact h.al a b
  · rw [List.map_map] at hd
    obtain ⟨a, _, rfl⟩ := List.mem_map.mp hd
    exact h.tu a
  · obtain ⟨a, _, rfl⟩ := List.mem_map.mp hx
    exact Nat.le_trans (h.dep a) hk
theorem srt_perm (as : List A) : (srt enc as).Perm as := List.mergeSort_perm ..
theorem srt_len (as : List A) : (srt enc as).length = as.length := (srt_perm as).length_eq
theorem srt_mem {as : List A} {a : A} : a ∈ srt enc as ↔ a ∈ as := (srt_perm as).mem_iff
end
theorem srt_use : Srt 1 eUse := { inj_use with
  al := fun a b => by simp [eUse, eN, py, pys, PySem.W.alike, PySem.W.alikeAll]
  tu := fun a => ⟨_, _, rfl⟩ }
theorem srt_cut : Srt 1 eCut := { inj_cut with
  al := fun a b => by simp [eCut, eN, py, pys, PySem.W.alike, PySem.W.alikeAll]
  tu := fun a => ⟨_, _, rfl⟩ }
theorem srt_pr : Srt 1 ePr := { inj_pr with
  al := fun a b => by simp [ePr, eN, py, pys, PySem.W.alike, PySem.W.alikeAll]
  tu := fun a => ⟨_, _, rfl⟩ }
/-- every one once, in the order of the first -/
def dd {A : Type} [DecidableEq A] (as : List A) : List A := as.foldl (fun acc a => if a ∈ acc then acc else acc ++ [a]) []
theorem kNum_inj {a b : Nat} : NestedKey.num (a : Int) = NestedKey.num (b : Int) ↔ a = b := by
  constructor
  · intro h
    have := NestedKey.num.inj h
    omega
  · intro h; rw [h]
theorem kUse_inj {a b : Use} : kUse a = kUse b ↔ a = b := by
  unfold kUse
  constructor
  · intro h
    have h1 := NestedKey.tup.inj h
    simp only [List.cons.injEq, NestedKey.text.injEq, and_true] at h1
    exact Prod.ext h1.1 (kNum_inj.mp h1.2)
  · intro h; rw [h]
theorem kPr_inj {a b : Pr} : kPr a = kPr b ↔ a = b := by
  unfold kPr
  constructor
  · intro h
    have h1 := NestedKey.tup.inj h
    simp only [List.cons.injEq, and_true] at h1
    exact Prod.ext (kNum_inj.mp h1.1) (Prod.ext (kNum_inj.mp h1.2.1) (kNum_inj.mp h1.2.2))
  · intro h; rw [h]
theorem kPO_inj {a b : Option Pr} : kPO a = kPO b ↔ a = b := by
  cases a with
  | none => cases b with
    | none => exact ⟨fun _ => rfl, fun _ => rfl⟩
    | some b => exact ⟨fun h => (by unfold kPO kPr at h; cases h), fun h => by cases h⟩
  | some a => cases b with
    | none => exact ⟨fun h => (by unfold kPO kPr at h; cases h), fun h => by cases h⟩
    | some b => exact kPr_inj.trans ⟨fun h => by rw [h], fun h => by cases h; rfl⟩
theorem kLot_inj {a b : Lot} : kLot a = kLot b ↔ a = b := by
  unfold kLot
  constructor
  · intro h
    have h1 := NestedKey.tup.inj h
    exact List.map_inj_right (fun x y e => kNum_inj.mp e) |>.mp h1
  · intro h; rw [h]
theorem map_mem {A : Type} {f : A → NestedKey} (hf : ∀ {a b}, f a = f b ↔ a = b) {a : A} {as : List A} : f a ∈ as.map f ↔ a ∈ as := by
  rw [List.mem_map]
  constructor
  · rintro ⟨b, hb, e⟩; rw [← hf.mp e]; exact hb
  · intro h; exact ⟨a, h, rfl⟩
theorem dsK_map {A : Type} [DecidableEq A] {f : A → NestedKey} (hf : ∀ {a b}, f a = f b ↔ a = b) (as : List A) (a : A) : dsK (as.map f) (f a) = (if a ∈ as then as else as ++ [a]).map f := by
  unfold dsK
  by_cases h : a ∈ as
  · rw [if_pos ((map_mem hf).mpr h), if_pos h]
  · rw [if_neg (fun z => h ((map_mem hf).mp z)), if_neg h, List.map_append]; rfl
theorem dsAll_map {A : Type} [DecidableEq A] {f : A → NestedKey} {val : A → Dat} (hf : ∀ {a b}, f a = f b ↔ a = b) (as : List A) : (dsAll f val as).1 = (dd as).map f := by
  unfold dsAll dd
  suffices h : ∀ (as acc : List A) (xs : List Dat), (as.foldl (fun r a => (dsK r.1 (f a), dsX r.1 r.2 (f a) (val a))) (acc.map f, xs)).1 = (as.foldl (fun acc a => if a ∈ acc then acc else acc ++ [a]) acc).map f from h as [] []
  intro as
  induction as with
  | nil => intro acc xs; rfl
  | cons a as ih =>
    intro acc xs
    rw [List.foldl_cons, List.foldl_cons]
    show (List.foldl _ (dsK (acc.map f) (f a), _) as).1 = _
    rw [dsK_map hf]
    exact ih _ _
theorem dd_len {A : Type} [DecidableEq A] (as : List A) : (dd as).length ≤ as.length := by
  unfold dd
  suffices h : ∀ (as acc : List A), (as.foldl (fun acc a => if a ∈ acc then acc else acc ++ [a]) acc).length ≤ acc.length + as.length from by simpa using h as []
  intro as
  induction as with
  | nil => intro acc; simp
  | cons a as ih =>
    intro acc
    rw [List.foldl_cons]
    refine Nat.le_trans (ih _) ?_
    split
    · rw [List.length_cons]; omega
    · rw [List.length_append, List.length_cons, List.length_cons, List.length_nil]; omega
theorem dd_mem {A : Type} [DecidableEq A] {as : List A} {b : A} : b ∈ dd as ↔ b ∈ as := by
  unfold dd
  suffices h : ∀ (as acc : List A), b ∈ as.foldl (fun acc a => if a ∈ acc then acc else acc ++ [a]) acc ↔ b ∈ acc ∨ b ∈ as from by simpa using h as []
  intro as
  induction as with
  | nil => intro acc; simp
  | cons a as ih =>
    intro acc
    rw [List.foldl_cons, ih]
    split
    · rename_i h
      simp only [List.mem_cons]
      constructor
      · rintro (z | z)
        · exact .inl z
        · exact .inr (.inr z)
      · rintro (z | z | z)
        · exact .inl z
        · exact .inl (z ▸ h)
        · exact .inr z
    · simp only [List.mem_append, List.mem_cons, List.not_mem_nil, or_false, or_assoc]
end Cal
set_option Elab.async false
set_option linter.all false
set_option maxRecDepth 100000
set_option maxHeartbeats 4000000
namespace Cal
open PySem PySem.Spec PyProof.Rows L2
theorem lex_more {O : KeyOrd} : ∀ (xs : List O.α) (t : O.α), lexLt O xs (xs ++ [t]) = true
  | [], t => rfl
  | x :: xs, t => by
    show lexLt O (x :: xs) (x :: (xs ++ [t])) = true
    rw [lex_cons, lex_more xs t, O.irrefl]
    simp
theorem data_tri {x y : PyData} (ha : PySem.W.alike x y = true) (h1 : PySem.W.dataLt x y = false) (h2 : PySem.W.dataLt y x = false) : PyData.eqv x y = true := by
  cases q : PyData.eqv x y with
  | true => rfl
  | false =>
    exfalso
    have e : PySem.W.keyToks x = PySem.W.keyToks y := lex_total _ _ h1 h2
    have z := (PySem.W.toks_eqv x y ha).2 q [] [Sum.inl 0]
    rw [List.append_nil, e, lex_more, lex_irrefl] at z
    cases z
section
variable {A : Type} {k : Nat} {enc : A → Dat}
theorem Srt.tri (h : Srt k enc) {a b : A} (h1 : dlt (enc a) (enc b) = false) (h2 : dlt (enc b) (enc a) = false) : a = b := (h.eq a b).mp (data_tri (h.al a b) h1 h2)
theorem leE_iff {a b : A} : leE enc a b = true ↔ dlt (enc b) (enc a) = false := by
  unfold leE dlt
  rw [PySem.W.dataLe_eq]
  show (!_) = true ↔ _
  rw [Bool.not_eq_true']
theorem srt_pair (as : List A) : (srt enc as).Pairwise (fun a b => leE enc a b = true) := by
  unfold srt leE
  exact PySem.W.sort_pairwise (PySem.W.sortLe_total _ _ _) as
theorem srt_asc (h : Srt k enc) {as : List A} (nd : as.Nodup) : (srt enc as).Pairwise (fun a b => dlt (enc a) (enc b) = true) := by
  have n2 : (srt enc as).Nodup := (srt_perm as).nodup_iff.mpr nd
  refine (List.Pairwise.and (srt_pair as) n2).imp fun {a b} ⟨h1, h2⟩ => ?_
  cases q : dlt (enc a) (enc b) with
  | true => rfl
  | false => exact absurd (h.tri q (leE_iff.mp h1)) h2
theorem dlt_trans {x y z : Dat} (h1 : dlt x y = true) (h2 : dlt y z = true) : dlt x z = true := lex_trans _ _ _ h1 h2
end
end Cal
set_option Elab.async false
set_option linter.all false
set_option maxRecDepth 100000
set_option maxHeartbeats 4000000
namespace Cal
open PySem PySem.Spec PyProof.Rows L2
/-! ### the program's defs -/
def top (i : Nat) : Stmt := PySem.Challenge.pw_laidahead_k03_whole_alike.main.body.getD i (.Pass ⟨0, 0, 0, 0⟩)
abbrev N_is_number : List Str := ["thing", "low", "high"]
abbrev ps_is_number : List Str := ["thing", "low", "high"]
abbrev st_is_number : Stmt := top 14
abbrev N_is_word : List Str := ["thing", "words"]
abbrev ps_is_word : List Str := ["thing", "words"]
abbrev st_is_word : Stmt := top 15
abbrev N_are_sorts : List Str := ["thing", "one"]
abbrev ps_are_sorts : List Str := ["thing"]
abbrev st_are_sorts : Stmt := top 16
abbrev N_can_use : List Str := ["sorts", "word", "name"]
abbrev ps_can_use : List Str := ["sorts", "word", "name"]
abbrev st_can_use : Stmt := top 17
abbrev N_is_definition : List Str := ["sorts", "thing", "one"]
abbrev ps_is_definition : List Str := ["sorts", "thing"]
abbrev st_is_definition : Stmt := top 18
abbrev N_is_module : List Str := ["sorts", "thing", "one", "other"]
abbrev ps_is_module : List Str := ["sorts", "thing"]
abbrev st_is_module : Stmt := top 19
abbrev N_are_modules_programs : List Str := ["sorts", "thing", "module"]
abbrev ps_are_modules_programs : List Str := ["sorts", "thing"]
abbrev st_are_modules_programs : Stmt := top 20
abbrev N_Program_init : List Str := ["self", "sorts", "modules"]
abbrev ps_Program_init : List Str := ["self", "sorts", "modules"]
abbrev st_Program_init : Stmt := inClass (top 22) 0
abbrev N_Program_sorts : List Str := ["self"]
abbrev ps_Program_sorts : List Str := ["self"]
abbrev st_Program_sorts : Stmt := inClass (top 22) 1
abbrev N_Program_modules : List Str := ["self"]
abbrev ps_Program_modules : List Str := ["self"]
abbrev st_Program_modules : Stmt := inClass (top 22) 2
abbrev N_Program_len : List Str := ["self"]
abbrev ps_Program_len : List Str := ["self"]
abbrev st_Program_len : Stmt := inClass (top 22) 3
abbrev N_Program_found : List Str := ["self", "module", "name", "rows", "row"]
abbrev ps_Program_found : List Str := ["self", "module", "name"]
abbrev st_Program_found : Stmt := inClass (top 22) 7
abbrev N_Program_show_of : List Str := ["self", "module", "name", "row"]
abbrev ps_Program_show_of : List Str := ["self", "module", "name"]
abbrev st_Program_show_of : Stmt := inClass (top 22) 8
abbrev N_outer_uses : List Str := ["program", "found", "name", "sort"]
abbrev ps_outer_uses : List Str := ["program"]
abbrev st_outer_uses : Stmt := top 23
abbrev N_can_shorten : List Str := ["program", "thing", "word", "module", "name", "shows", "is_there", "at", "show"]
abbrev ps_can_shorten : List Str := ["program", "thing"]
abbrev st_can_shorten : Stmt := top 27
abbrev N_is_choice : List Str := ["program", "thing", "one", "other"]
abbrev ps_is_choice : List Str := ["program", "thing"]
abbrev st_is_choice : Stmt := top 28
abbrev N_is_lot : List Str := ["program", "thing", "one"]
abbrev ps_is_lot : List Str := ["program", "thing"]
abbrev st_is_lot : Stmt := top 29
abbrev N_lots_of : List Str := ["program", "found", "name", "lot", "item"]
abbrev ps_lots_of : List Str := ["program"]
abbrev st_lots_of : Stmt := top 30
abbrev N_met : List Str := ["program", "choice", "lot", "use", "there", "module", "word", "name", "modules", "at", "weak"]
abbrev ps_met : List Str := ["program", "choice", "lot", "use", "there"]
abbrev st_met : Stmt := top 31
abbrev N_is_build : List Str := ["thing"]
abbrev ps_is_build : List Str := ["thing"]
abbrev st_is_build : Stmt := top 34
abbrev N_check_two : List Str := ["one", "other"]
abbrev ps_check_two : List Str := ["one", "other"]
abbrev st_check_two : Stmt := top 35
abbrev N_uses_of : List Str := ["build", "name", "module", "use"]
abbrev ps_uses_of : List Str := ["build", "name", "module"]
abbrev st_uses_of : Stmt := top 36
abbrev N_Held_init : List Str := ["self", "one", "other", "lot"]
abbrev ps_Held_init : List Str := ["self", "one", "other", "lot"]
abbrev st_Held_init : Stmt := inClass (top 37) 1
abbrev N_Held_fork : List Str := ["self", "modules", "use", "build", "module"]
abbrev ps_Held_fork : List Str := ["self", "modules", "use"]
abbrev st_Held_fork : Stmt := inClass (top 37) 2
abbrev N_Held_uses_at : List Str := ["self", "pair", "uses", "use", "build", "module"]
abbrev ps_Held_uses_at : List Str := ["self", "pair"]
abbrev st_Held_uses_at : Stmt := inClass (top 37) 3
abbrev N_Held_modules_of : List Str := ["self", "pair"]
abbrev ps_Held_modules_of : List Str := ["self", "pair"]
abbrev st_Held_modules_of : Stmt := inClass (top 37) 4
abbrev N_Held_nexts : List Str := ["self", "pair", "one", "other", "found", "use", "fork"]
abbrev ps_Held_nexts : List Str := ["self", "pair"]
abbrev st_Held_nexts : Stmt := inClass (top 37) 5
abbrev N_Held_reach : List Str := ["self", "found", "waiting", "pair", "late"]
abbrev ps_Held_reach : List Str := ["self"]
abbrev st_Held_reach : Stmt := inClass (top 37) 6
abbrev N_Held_apart_by : List Str := ["self", "rows", "forks", "pair", "row", "one", "other", "use", "fork", "elder", "some", "place"]
abbrev ps_Held_apart_by : List Str := ["self", "rows"]
abbrev st_Held_apart_by : Stmt := inClass (top 37) 7
abbrev N_are_modules_alike : List Str := ["fork", "place"]
abbrev ps_are_modules_alike : List Str := ["fork"]
abbrev st_are_modules_alike : Stmt := top 38
abbrev N_is_even : List Str := ["fork"]
abbrev ps_is_even : List Str := ["fork"]
abbrev st_is_even : Stmt := top 40
abbrev N_are_crossed : List Str := ["one", "other"]
abbrev ps_are_crossed : List Str := ["one", "other"]
abbrev st_are_crossed : Stmt := top 41
abbrev N_is_pair : List Str := ["held", "thing", "one", "other"]
abbrev ps_is_pair : List Str := ["held", "thing"]
abbrev st_is_pair : Stmt := top 42
abbrev N_are_right : List Str := ["held", "pairs", "rows", "pair", "one", "other", "late"]
abbrev ps_are_right : List Str := ["held", "pairs"]
abbrev st_are_right : Stmt := top 43
abbrev N_end_of : List Str := ["held", "row", "pair", "name", "late", "one"]
abbrev ps_end_of : List Str := ["held", "row"]
abbrev st_end_of : Stmt := top 44
abbrev N_fork_of : List Str := ["held", "way", "row", "use", "pair", "one", "other"]
abbrev ps_fork_of : List Str := ["held", "way"]
abbrev st_fork_of : Stmt := top 45
abbrev N_are_ways : List Str := ["held", "ways", "some", "way", "many", "fork"]
abbrev ps_are_ways : List Str := ["held", "ways"]
abbrev st_are_ways : Stmt := top 46
abbrev N_Alike_init : List Str := ["self", "pairs"]
abbrev ps_Alike_init : List Str := ["self", "pairs"]
abbrev st_Alike_init : Stmt := inClass (top 47) 0
abbrev N_Alike_shows : List Str := ["self", "one", "other", "every", "lot"]
abbrev ps_Alike_shows : List Str := ["self", "one", "other"]
abbrev st_Alike_shows : Stmt := inClass (top 47) 2
abbrev N_Parted_init : List Str := ["self", "ahead", "ways"]
abbrev ps_Parted_init : List Str := ["self", "ahead", "ways"]
abbrev st_Parted_init : Stmt := inClass (top 48) 0
abbrev N_Parted_shows : List Str := ["self", "one", "other"]
abbrev ps_Parted_shows : List Str := ["self", "one", "other"]
abbrev st_Parted_shows : Stmt := inClass (top 48) 2
abbrev N_compare : List Str := ["one", "other", "pairs", "lot", "held", "rows", "ways", "pair"]
abbrev ps_compare : List Str := ["one", "other"]
abbrev st_compare : Stmt := top 49
abbrev N_are_alike : List Str := ["one", "other"]
abbrev ps_are_alike : List Str := ["one", "other"]
abbrev st_are_alike : Stmt := top 50
abbrev N_first_parting : List Str := ["one", "other", "found"]
abbrev ps_first_parting : List Str := ["one", "other"]
abbrev st_first_parting : Stmt := top 51
abbrev N_law_draw : List Str := ["_law_cell", "_law_k", "_law_many", "_law_primes"]
abbrev ps_law_draw : List Str := ["_law_cell", "_law_k", "_law_many"]
abbrev st_law_draw : Stmt := top 53
abbrev N_law_cell_at : List Str := ["_law_script", "_law_k"]
abbrev ps_law_cell_at : List Str := ["_law_script", "_law_k"]
abbrev st_law_cell_at : Stmt := top 54
abbrev N_law_digits : List Str := ["_law_script", "_law_at", "_law_many", "_law_base", "_law_cell", "_law_found", "_law_remaining", "_law_turn", "_law_blend", "_law_more"]
abbrev ps_law_digits : List Str := ["_law_script", "_law_at", "_law_many", "_law_base"]
abbrev st_law_digits : Stmt := top 55
abbrev N_law_take : List Str := ["_law_draws", "_law_many"]
abbrev ps_law_take : List Str := ["_law_draws", "_law_many"]
abbrev st_law_take : Stmt := top 56
abbrev N_law_pool : List Str := ["_law_script", "_law_bases", "_law_found", "_law_at", "_law_base"]
abbrev ps_law_pool : List Str := ["_law_script", "_law_bases"]
abbrev st_law_pool : Stmt := top 57
abbrev N_law_pick : List Str := ["_law_draws", "_law_things"]
abbrev ps_law_pick : List Str := ["_law_draws", "_law_things"]
abbrev st_law_pick : Stmt := top 58
abbrev N_law_uses : List Str := ["_law_draws", "_law_sorts", "_law_name", "_law_found", "_law_turn", "_law_other", "_law_word"]
abbrev ps_law_uses : List Str := ["_law_draws", "_law_sorts", "_law_name"]
abbrev st_law_uses : Stmt := top 59
abbrev N_law_parts : List Str := ["_law_draws", "_law_high", "_law_sorts", "_law_modules", "_law_module", "_law_rows", "_law_name", "_law_show"]
abbrev ps_law_parts : List Str := ["_law_draws", "_law_high"]
abbrev st_law_parts : Stmt := top 60
abbrev N_law_row : List Str := ["_law_plan", "_law_module", "_law_name", "_law_rows", "_law_row_here"]
abbrev ps_law_row : List Str := ["_law_plan", "_law_module", "_law_name"]
abbrev st_law_row : Stmt := top 61
abbrev N_law_how : List Str := ["_law_plan", "_law_module", "_law_name", "_law_row_here"]
abbrev ps_law_how : List Str := ["_law_plan", "_law_module", "_law_name"]
abbrev st_law_how : Stmt := top 62
abbrev N_law_makeable : List Str := ["_law_plan", "_law_found", "_law_name", "_law_sort", "_law_others", "_law_at"]
abbrev ps_law_makeable : List Str := ["_law_plan"]
abbrev st_law_makeable : Stmt := top 63
abbrev N_law_choice : List Str := ["_law_draws", "_law_plan", "_law_one"]
abbrev ps_law_choice : List Str := ["_law_draws", "_law_plan"]
abbrev st_law_choice : Stmt := top 64
abbrev N_law_lots : List Str := ["_law_many", "_law_found", "_law_name", "_law_lot"]
abbrev ps_law_lots : List Str := ["_law_many"]
abbrev st_law_lots : Stmt := top 65
abbrev N_law_met : List Str := ["_law_plan", "_law_choice_here", "_law_lot", "_law_use", "_law_module", "_law_word", "_law_name", "_law_firm", "_law_weak", "_law_at", "_law_how_here", "_law_line"]
abbrev ps_law_met : List Str := ["_law_plan", "_law_choice_here", "_law_lot", "_law_use"]
abbrev st_law_met : Stmt := top 66
abbrev N_law_outer : List Str := ["_law_plan", "_law_found", "_law_name", "_law_sort"]
abbrev ps_law_outer : List Str := ["_law_plan"]
abbrev st_law_outer : Stmt := top 67
abbrev N_law_inner : List Str := ["_law_plan", "_law_body", "_law_word", "_law_name"]
abbrev ps_law_inner : List Str := ["_law_plan", "_law_body"]
abbrev st_law_inner : Stmt := top 68
abbrev N_law_two : List Str := ["_law_builds", "_law_lot", "_law_pair", "_law_use", "_law_modules", "_law_plan", "_law_choice_here", "_law_module"]
abbrev ps_law_two : List Str := ["_law_builds", "_law_lot", "_law_pair", "_law_use"]
abbrev st_law_two : Stmt := top 73
abbrev N_law_words : List Str := ["_law_builds", "_law_pair", "_law_rows", "_law_plan", "_law_choice_here", "_law_use", "_law_module"]
abbrev ps_law_words : List Str := ["_law_builds", "_law_pair"]
abbrev st_law_words : Stmt := top 74
abbrev N_law_are_modules : List Str := ["_law_fork"]
abbrev ps_law_are_modules : List Str := ["_law_fork"]
abbrev st_law_are_modules : Stmt := top 75
abbrev N_law_nexts : List Str := ["_law_builds", "_law_lot", "_law_pair", "_law_one", "_law_other", "_law_found", "_law_use", "_law_fork"]
abbrev ps_law_nexts : List Str := ["_law_builds", "_law_lot", "_law_pair"]
abbrev st_law_nexts : Stmt := top 76
abbrev N_law_through : List Str := ["_law_builds", "_law_lot", "_law_found", "_law_line", "_law_late"]
abbrev ps_law_through : List Str := ["_law_builds", "_law_lot"]
abbrev st_law_through : Stmt := top 77
abbrev N_law_are_apart : List Str := ["_law_builds", "_law_lot", "_law_some", "_law_seen", "_law_pair", "_law_one", "_law_other", "_law_use", "_law_fork", "_law_late"]
abbrev ps_law_are_apart : List Str := ["_law_builds", "_law_lot", "_law_some"]
abbrev st_law_are_apart : Stmt := top 78
abbrev N_law_end : List Str := ["_law_builds", "_law_lot", "_law_row_here", "_law_pair", "_law_name", "_law_late", "_law_one"]
abbrev ps_law_end : List Str := ["_law_builds", "_law_lot", "_law_row_here"]
abbrev st_law_end : Stmt := top 79
abbrev N_law_ways_right : List Str := ["_law_builds", "_law_lot", "_law_ways", "_law_rows", "_law_row_here", "_law_use", "_law_end_here", "_law_one", "_law_other", "_law_is_both", "_law_fork"]
abbrev ps_law_ways_right : List Str := ["_law_builds", "_law_lot", "_law_ways"]
abbrev st_law_ways_right : Stmt := top 80
abbrev N_law_near : List Str := ["_law_draws", "_law_plan", "_law_choice_here", "_law_modules", "_law_sort", "_law_at", "_law_row_here", "_law_late", "_law_other", "_law_one"]
abbrev ps_law_near : List Str := ["_law_draws", "_law_plan", "_law_choice_here"]
abbrev st_law_near : Stmt := top 81
abbrev N_law_alike_right : List Str := ["_law_draws", "_law_builds", "_law_two_here", "_law_told", "_law_every", "_law_lot", "_law_some", "_law_at", "_law_late", "_law_pair", "_law_one"]
abbrev ps_law_alike_right : List Str := ["_law_draws", "_law_builds", "_law_two_here", "_law_told", "_law_every"]
abbrev st_law_alike_right : Stmt := top 82
abbrev N_law : List Str := ["_law_script", "_law_draws", "_law_turn", "_law_plan", "_law_choice_here", "_law_builds", "_law_two_here", "_law_every", "_law_apart", "_law_told", "_law_due", "_law_ways", "_law_lot", "_law_one", "_law_some"]
abbrev ps_law : List Str := ["_law_script"]
abbrev st_law : Stmt := top 83
structure Glb (c : Cfg) (CP CH CA CD : Addr) : Prop where
  is_number : Def c "is_number" st_is_number N_is_number ps_is_number
  is_word : Def c "is_word" st_is_word N_is_word ps_is_word
  are_sorts : Def c "are_sorts" st_are_sorts N_are_sorts ps_are_sorts
  can_use : Def c "can_use" st_can_use N_can_use ps_can_use
  is_definition : Def c "is_definition" st_is_definition N_is_definition ps_is_definition
  is_module : Def c "is_module" st_is_module N_is_module ps_is_module
  are_modules_programs : Def c "are_modules_programs" st_are_modules_programs N_are_modules_programs ps_are_modules_programs
  Program_init : DefI c "Program" CP st_Program_init N_Program_init ps_Program_init
  Program_sorts : DefP c CP "sorts" st_Program_sorts N_Program_sorts
  Program_modules : DefP c CP "modules" st_Program_modules N_Program_modules
  Program_len : DefM c CP "__len__" st_Program_len N_Program_len ps_Program_len
  Program_found : DefM c CP "found" st_Program_found N_Program_found ps_Program_found
  Program_show_of : DefM c CP "show_of" st_Program_show_of N_Program_show_of ps_Program_show_of
  outer_uses : Def c "outer_uses" st_outer_uses N_outer_uses ps_outer_uses
  can_shorten : Def c "can_shorten" st_can_shorten N_can_shorten ps_can_shorten
  is_choice : Def c "is_choice" st_is_choice N_is_choice ps_is_choice
  is_lot : Def c "is_lot" st_is_lot N_is_lot ps_is_lot
  is_build : Def c "is_build" st_is_build N_is_build ps_is_build
  check_two : Def c "check_two" st_check_two N_check_two ps_check_two
  uses_of : Def c "uses_of" st_uses_of N_uses_of ps_uses_of
  Held_init : DefI c "Held" CH st_Held_init N_Held_init ps_Held_init
  Held_fork : DefM c CH "fork" st_Held_fork N_Held_fork ps_Held_fork
  Held_uses_at : DefM c CH "uses_at" st_Held_uses_at N_Held_uses_at ps_Held_uses_at
  Held_modules_of : DefM c CH "modules_of" st_Held_modules_of N_Held_modules_of ps_Held_modules_of
  Held_nexts : DefM c CH "nexts" st_Held_nexts N_Held_nexts ps_Held_nexts
  Held_reach : DefM c CH "reach" st_Held_reach N_Held_reach ps_Held_reach
  Held_apart_by : DefM c CH "apart_by" st_Held_apart_by N_Held_apart_by ps_Held_apart_by
  are_modules_alike : Def c "are_modules_alike" st_are_modules_alike N_are_modules_alike ps_are_modules_alike
  is_even : Def c "is_even" st_is_even N_is_even ps_is_even
  are_crossed : Def c "are_crossed" st_are_crossed N_are_crossed ps_are_crossed
  is_pair : Def c "is_pair" st_is_pair N_is_pair ps_is_pair
  are_right : Def c "are_right" st_are_right N_are_right ps_are_right
  end_of : Def c "end_of" st_end_of N_end_of ps_end_of
  fork_of : Def c "fork_of" st_fork_of N_fork_of ps_fork_of
  are_ways : Def c "are_ways" st_are_ways N_are_ways ps_are_ways
  Alike_init : DefI c "Alike" CA st_Alike_init N_Alike_init ps_Alike_init
  Alike_shows : DefM c CA "shows" st_Alike_shows N_Alike_shows ps_Alike_shows
  Parted_init : DefI c "Parted" CD st_Parted_init N_Parted_init ps_Parted_init
  Parted_shows : DefM c CD "shows" st_Parted_shows N_Parted_shows ps_Parted_shows
  compare : Def c "compare" st_compare N_compare ps_compare
  are_alike : Def c "are_alike" st_are_alike N_are_alike ps_are_alike
  first_parting : Def c "first_parting" st_first_parting N_first_parting ps_first_parting
  law_draw : Def c "_law_draw" st_law_draw N_law_draw ps_law_draw
  law_cell_at : Def c "_law_cell_at" st_law_cell_at N_law_cell_at ps_law_cell_at
  law_digits : Def c "_law_digits" st_law_digits N_law_digits ps_law_digits
  law_take : Def c "_law_take" st_law_take N_law_take ps_law_take
  law_pool : Def c "_law_pool" st_law_pool N_law_pool ps_law_pool
  law_pick : Def c "_law_pick" st_law_pick N_law_pick ps_law_pick
  law_uses : Def c "_law_uses" st_law_uses N_law_uses ps_law_uses
  law_parts : Def c "_law_parts" st_law_parts N_law_parts ps_law_parts
  law_row : Def c "_law_row" st_law_row N_law_row ps_law_row
  law_how : Def c "_law_how" st_law_how N_law_how ps_law_how
  law_makeable : Def c "_law_makeable" st_law_makeable N_law_makeable ps_law_makeable
  law_choice : Def c "_law_choice" st_law_choice N_law_choice ps_law_choice
  law_met : Def c "_law_met" st_law_met N_law_met ps_law_met
  law_outer : Def c "_law_outer" st_law_outer N_law_outer ps_law_outer
  law_inner : Def c "_law_inner" st_law_inner N_law_inner ps_law_inner
  law_two : Def c "_law_two" st_law_two N_law_two ps_law_two
  law_words : Def c "_law_words" st_law_words N_law_words ps_law_words
  law_are_modules : Def c "_law_are_modules" st_law_are_modules N_law_are_modules ps_law_are_modules
  law_nexts : Def c "_law_nexts" st_law_nexts N_law_nexts ps_law_nexts
  law_through : Def c "_law_through" st_law_through N_law_through ps_law_through
  law_are_apart : Def c "_law_are_apart" st_law_are_apart N_law_are_apart ps_law_are_apart
  law_end : Def c "_law_end" st_law_end N_law_end ps_law_end
  law_ways_right : Def c "_law_ways_right" st_law_ways_right N_law_ways_right ps_law_ways_right
  law_near : Def c "_law_near" st_law_near N_law_near ps_law_near
  law_alike_right : Def c "_law_alike_right" st_law_alike_right N_law_alike_right ps_law_alike_right
  law : Def c "law" st_law N_law ps_law
  met : DefN c "met" st_met N_met ps_met
  b_isinstance : c.mg "isinstance" = none
  b_int : c.mg "int" = none
  b_bool : c.mg "bool" = none
  b_str : c.mg "str" = none
  b_tuple : c.mg "tuple" = none
  b_len : c.mg "len" = none
  b_all : c.mg "all" = none
  b_any : c.mg "any" = none
  b_range : c.mg "range" = none
  b_list : c.mg "list" = none
  b_sorted : c.mg "sorted" = none
  b_zip : c.mg "zip" = none
  b_enumerate : c.mg "enumerate" = none
  b_abs : c.mg "abs" = none
  b_sum : c.mg "sum" = none
  b_dict : c.mg "dict" = none
  g_Program : c.mg "Program" = some (.ref CP)
  g_Held : c.mg "Held" = some (.ref CH)
  g_Alike : c.mg "Alike" = some (.ref CA)
  g_Parted : c.mg "Parted" = some (.ref CD)
  g_AHEAD : ∃ t, c.mg "AHEAD" = some (.int (-1) t)
  g_MOST_NAMES : ∃ t, c.mg "MOST_NAMES" = some (.int (4) t)
  g_MOST_MODULES : ∃ t, c.mg "MOST_MODULES" = some (.int (3) t)
  g_MOST_USES : ∃ t, c.mg "MOST_USES" = some (.int (3) t)
  g_SORTS : ∃ a, c.mg "SORTS" = some (.ref a) ∧ ∀ F, Is c F (.tup [.str "call", .str "cell"]) (.ref a)
  g_SHOWS : ∃ a, c.mg "SHOWS" = some (.ref a) ∧ ∀ F, Is c F (.tup [.str "shown", .str "weak", .str "protected", .str "hidden"]) (.ref a)
  g_KEPT : ∃ a, c.mg "KEPT" = some (.ref a) ∧ ∀ F, Is c F (.tup [.str "protected", .str "hidden"]) (.ref a)
  g_TOLD : ∃ a, c.mg "TOLD" = some (.ref a) ∧ ∀ F, Is c F (.tup [.str "read", .str "take"]) (.ref a)
  g_SORT_OF : ∃ D ens n, c.mg "SORT_OF" = some (.ref D) ∧ c.K.lookup D = some ⟨.type "dict", none, .dict ens n, #[]⟩ ∧ (D == sysModules) = false ∧ ens.size ≤ sizeLine ∧ ens.toList.map (fun e => keyS e.key) = (["call", "read", "take"] : List Str).map some ∧
    (∃ v, KDct c.K c.w D "call" v ∧ ∀ F, Is c F (.tup [.str "call"]) v) ∧ (∃ v, KDct c.K c.w D "read" v ∧ ∀ F, Is c F (.tup [.str "cell"]) v) ∧ ∃ v, KDct c.K c.w D "take" v ∧ ∀ F, Is c F (.tup [.str "call", .str "cell"]) v
  k_Program : Cls c.K CP
  k_Alike : Cls c.K CA
  k_Parted : Cls c.K CD
  k_Held : SlX.SCls c.K CH
  s_builds : ∃ q, SlX.Slot1 c.K CH "builds" q 0
  s_lot : ∃ q, SlX.Slot1 c.K CH "lot" q 1
  i_Program : ICls c.K CP
  i_Alike : ICls c.K CA
  i_Parted : ICls c.K CD
  q_DA : PySem.W.kitOne c.K (.ref CD) (.ref CA) = some false
  q_AD : PySem.W.kitOne c.K (.ref CA) (.ref CD) = some false
  n_pair : NoAttr c.K CP "pair"
  n_pairs : NoAttr c.K CA "pairs"
  n_ahead : NoAttr c.K CD "ahead"
  n_ways : NoAttr c.K CD "ways"
end Cal
set_option Elab.async false
set_option linter.all false
set_option maxRecDepth 100000
set_option maxHeartbeats 4000000
namespace Cal
open PySem PySem.Spec PyProof.Rows L2
/-! ### what is valid -/
def sortOf (w : Str) : List Str := if w = "call" then ["call"] else if w = "read" then ["cell"] else ["call", "cell"]
def words3 : List Str := ["call", "read", "take"]
def OkUse (ss : List Str) (u : Use) : Prop := u.1 ∈ words3 ∧ ∃ s, ss[u.2]? = some s ∧ s ∈ sortOf u.1
def shows4 : List Str := ["shown", "weak", "protected", "hidden"]
def OkRow (ss : List Str) (r : Row) : Prop := r.1 < ss.length ∧ r.2.1 ∈ shows4 ∧ r.2.2.length ≤ 3 ∧ (ss[r.1]? = some ("cell" : Str) → r.2.2 = []) ∧ ∀ u ∈ r.2.2, OkUse ss u
def OkMod (ss : List Str) (m : List Row) : Prop := (∀ r ∈ m, OkRow ss r) ∧ m.Pairwise (fun a b => a.1 < b.1)
def sorts2 : List Str := ["call", "cell"]
def OkSorts (ss : List Str) : Prop := 1 ≤ ss.length ∧ ss.length ≤ 4 ∧ ∀ s ∈ ss, s ∈ sorts2
def OkPlan (p : Plan) : Prop := OkSorts p.1 ∧ (1 ≤ p.2.length ∧ p.2.length ≤ 3) ∧ ∀ m ∈ p.2, OkMod p.1 m
theorem incr_len {n : Nat} : ∀ (l : List Nat) (lo : Nat), l.Pairwise (· < ·) → (∀ x ∈ l, lo ≤ x ∧ x < n) → l.length ≤ n - lo
  | [], _, _, _ => Nat.zero_le _
  | x :: l, lo, h, hb => by
    obtain ⟨h1, h2⟩ := List.pairwise_cons.mp h
    have a := hb x List.mem_cons_self
    have b := incr_len l (x + 1) h2 fun y hy => ⟨h1 y hy, (hb y (List.mem_cons_of_mem _ hy)).2⟩
    rw [List.length_cons]
    omega
theorem OkMod.len {ss : List Str} {m : List Row} (h : OkMod ss m) : m.length ≤ ss.length := by
  obtain ⟨h1, h2⟩ := h
  have := incr_len (n := ss.length) (m.map (·.1)) 0 (List.pairwise_map.mpr h2) fun x hx => by
    obtain ⟨r, hr, rfl⟩ := List.mem_map.mp hx
    exact ⟨Nat.zero_le _, (h1 r hr).1⟩
  rwa [List.length_map] at this
theorem pairs_of {A : Type} {R : A → A → Prop} : ∀ {l : List A}, l.Pairwise R → ∀ p ∈ l.zip (l.drop 1), R p.1 p.2
  | [], _, p, hp => by simp at hp
  | [a], _, p, hp => by simp at hp
  | a :: b :: l, h, p, hp => by
    rw [List.drop_succ_cons, List.drop_zero, List.zip_cons_cons] at hp
    rcases List.mem_cons.mp hp with rfl | hp
    · exact (List.pairwise_cons.mp h).1 b List.mem_cons_self
    · exact pairs_of (List.pairwise_cons.mp h).2 p (by simpa using hp)
section
variable {c : Cfg} {CP CH CA CD : Addr}
theorem dgSO {j : J} {G : List Slot} {p p1 pos : Pos} (B : Glb j.c CP CH CA CD) (hgx : GlN j "SORT_OF" := by rfl) (hg : GlN j "tuple" := by rfl) : DE j G (.Call (.Name "tuple" p) [.Name "SORT_OF" p1] [] pos) (.tup (words3.map Dat.str)) := by
  obtain ⟨D, ens, n, h1, h2, h3, h4, h5, _⟩ := B.g_SORT_OF
  exact de_tupKD B.b_tuple h1 h2 h3 h4 h5 hgx hg
theorem dgSI {j : J} {G : List Slot} {p1 pos : Pos} {b : Expr} {w : Str} (B : Glb j.c CP CH CA CD) (hb : DE j G b (.str w)) (hw : w ∈ words3) (hgx : GlN j "SORT_OF" := by rfl) (hs : PlainIx b := by exact fun _ _ => rfl) : DE j G (.Subscript (.Name "SORT_OF" p1) b pos) (.tup ((sortOf w).map Dat.str)) := by
  obtain ⟨D, ens, n, h1, h2, h3, h4, h5, ⟨v1, a1, b1⟩, ⟨v2, a2, b2⟩, ⟨v3, a3, b3⟩⟩ := B.g_SORT_OF
  unfold words3 at hw
  simp only [List.mem_cons, List.not_mem_nil, or_false] at hw
  rcases hw with rfl | rfl | rfl
  · exact de_ixKD h1 a1 b1 hb hgx (by decide) hs
  · exact de_ixKD h1 a2 b2 hb hgx (by decide) hs
  · exact de_ixKD h1 a3 b3 hb hgx (by decide) hs
def isNum (t l h : Int) : Bool := decide (l ≤ t) && decide (t ≤ h)
variable (B : Glb c CP CH CA CD)
include B
theorem ok_is_number : Has c 1 "is_number" (spP c (fun a : Int × Int × Int => [.int a.1, .int a.2.1, .int a.2.2]) (fun _ => True) fun a => .bl (isNum a.1 a.2.1 a.2.2)) :=
  has_of B.is_number (fun _ => rfl) fun ⟨t, l, h⟩ _ =>
    ds_cons (d1_ret (d := .bl (true && (!false && (isNum t l h)))) (de_and (isI B.b_isinstance B.b_int (rv 0 rfl)) fun _ => de_and (de_not (isIB B.b_isinstance B.b_bool (rv 0 rfl))) fun _ => de_one (de_chain c_le c_le (rv 1 rfl) (rv 0 rfl) (rv 2 rfl))) rfl)
theorem ok_is_word : Has c 1 "is_word" (spP c (fun a : Str × List Str => [.str a.1, .tup (a.2.map .str)]) (fun _ => True) fun a => .bl (decide (a.1 ∈ a.2))) :=
  has_of B.is_word (fun _ => rfl) fun ⟨t, ws⟩ _ =>
    ds_cons (d1_ret (de_and (isS B.b_isinstance B.b_str (rv 0 rfl)) fun _ => de_one (de_cmp (c_inT rfl (inj_str.all ws) (Nat.zero_le _)) (rv 0 rfl) (rv 1 rfl))) (by show Dat.bl _ = .bl _; rw [inj_str.din]; rfl))
theorem ok_are_sorts : Has c 2 "are_sorts" (spP c (fun a : List Str => [eSorts a]) OkSorts fun _ => .bl true) :=
  has_of B.are_sorts (fun _ => rfl) fun ss ⟨h1, h2, h3⟩ => by
    refine ds_cons (d1_if (dt_w (dw_or (dt_not (dt_val (isT B.b_isinstance B.b_tuple (rv 0 rfl)))) fun _ => dw_or1 (dt_not (dt_chain c_le c_le de_int.re (de_lenT B.b_len (rv 0 rfl)).re (dgI B.g_MOST_NAMES).re)))) (fun h => ?_) fun _ => ds_nil ?_)
    · exfalso; simp at h; omega
    · refine ds_cons (d1_ret (all1 1 Dat.str ss (fun _ => true) B.b_all (it_tup (dv 0 rfl)) (by omega) fun s hs => ?_) (by simp))
      exact (de_call (ok_is_word B) (s, sorts2) trivial (ll rfl) (da_cons (dv 1 rfl) (da_cons (dgT B.g_SORTS) da_nil))).is (by simp [h3 s hs])
theorem ok_can_use : Has c 2 "can_use" (spP c (fun a : List Str × Use => [eSorts a.1, .str a.2.1, eN a.2.2]) (fun a => OkUse a.1 a.2) fun _ => .bl true) :=
  has_of B.can_use (fun _ => rfl) fun ⟨ss, w, m⟩ ⟨h1, s, h2, h3⟩ => by
    have hm : m < ss.length := by
      rcases Nat.lt_or_ge m ss.length with z | z
      · exact z
      · rw [List.getElem?_eq_none z] at h2; cases h2
    refine ds_cons (d1_ret (de_and (de_call (ok_is_word B) (w, words3) trivial (ll rfl) (da_cons (dv 1 rfl) (da_cons (dgSO B) da_nil))) fun _ => de_and (de_call (ok_is_number B) (m, 0, (ss.length : Int) - 1) trivial (ll rfl) (da_cons (dv 2 rfl) (da_cons de_int (da_cons (de_sub ((de_lenT B.b_len (rv 0 rfl)).is (by rw [List.length_map])) de_int) da_nil)))) fun _ => de_one (de_cmp (c_inT rfl (inj_str.all (sortOf w)) (Nat.zero_le _)) (de_ixT (dv 0 rfl) (dv 2 rfl) (atI_map h2)).re (dgSI B (dv 1 rfl) h1).re)) ?_)
    show Dat.bl _ = .bl true
    rw [inj_str.din]
    simp [h1, h3, isNum]
    omega
end
end Cal
set_option Elab.async false
set_option linter.all false
set_option maxRecDepth 100000
set_option maxHeartbeats 4000000
namespace Cal
open PySem PySem.Spec PyProof.Rows L2
/-! ### mirrors -/
def foundR (ms : Mods) (m n : Nat) : Option Row := ((ms.getD m []).filter fun r => decide (r.1 = n)).head?
def showOf (ms : Mods) (m n : Nat) : Option Str := (foundR ms m n).map (·.2.1)
def outU (p : Nat × Str) : List U3 := [(none, if p.2 = "call" then "call" else "read", p.1), (none, "take", p.1)]
def outer (ss : List Str) : List U3 := (enumL 0 ss).flatMap outU
section
variable {c : Cfg} {CP CH CA CD : Addr} (B : Glb c CP CH CA CD)
include B
theorem ok_is_definition : Has c 3 "is_definition" (spP c (fun a : List Str × Row => [eSorts a.1, eRow a.2]) (fun a => OkRow a.1 a.2) fun _ => .bl true) :=
  has_of B.is_definition (fun _ => rfl) fun ⟨ss, r⟩ ⟨h1, h2, h3, h4, h5⟩ => by
    have h1 : r.1 < ss.length := h1
    refine ds_cons (d1_if (dt_w (dw_or (dt_not (dt_val (isT B.b_isinstance B.b_tuple (rv 1 rfl)))) fun _ => dw_or (dt_cmp (c_neE inj_int (ll rfl) _ _) (de_lenT B.b_len (rv 1 rfl)).re de_int.re) fun _ => dw_or1 (dt_not (dt_val (de_call (ok_is_number B) (r.1, 0, (ss.length : Int) - 1) trivial (ll rfl) (da_cons (de_ixT (dv 1 rfl) de_int rfl) (da_cons de_int (da_cons (de_sub ((de_lenT B.b_len (rv 0 rfl)).is (by rw [List.length_map])) de_int) da_nil)))))))) (fun h => ?_) fun _ => ds_nil ?_)
    · exfalso; simp [isNum] at h; omega
    · refine ds_cons (d1_if (dt_w (dw_or (dt_not (dt_val (de_call (ok_is_word B) (r.2.1, shows4) trivial (ll rfl) (da_cons (de_ixT (dv 1 rfl) de_int rfl) (da_cons (dgT B.g_SHOWS) da_nil))))) fun _ => dw_or (dt_not (dt_val (isT B.b_isinstance B.b_tuple (de_ixT (dv 1 rfl) de_int rfl).re))) fun _ => dw_or1 (dt_cmp c_gt (de_lenT B.b_len (de_ixT (dv 1 rfl) de_int rfl).re).re (dgI B.g_MOST_USES).re))) (fun h => ?_) fun _ => ds_nil ?_)
      · exfalso; simp [h2] at h; have h3 : r.2.2.length ≤ 3 := h3; omega
      · refine ds_cons (d1_if (dt_w (dw_and (dt_cmp (c_eqE inj_str (ll rfl) _ _) (de_ixT (dv 0 rfl) (de_ixT (dv 1 rfl) de_int rfl) (atI_map (List.getElem?_eq_getElem h1))).re de_str.re) fun _ => dw_and1 (dt_cmp (c_neE inj_uses (ll rfl) _ []) (de_ixT (dv 1 rfl) de_int rfl).re (de_tup da_nil (ll rfl)).re))) (fun h => ?_) fun _ => ds_nil ?_)
        · exfalso
          rw [Bool.and_eq_true, decide_eq_true_eq] at h
          have z : r.2.2 = [] := h4 (by rw [List.getElem?_eq_getElem h1, h.1])
          have y : (!decide (r.2.2 = [])) = true := h.2
          rw [decide_eq_true z] at y; cases y
        · refine ds_cons (d1_ret (all1 2 eUse r.2.2 (fun _ => true) B.b_all (it_tup (de_ixT (dv 1 rfl) de_int rfl)) (Nat.le_trans h3 (ll rfl)) fun u hu => ?_) (by simp))
          exact (de_and (isT B.b_isinstance B.b_tuple (rv 2 rfl)) fun _ => de_and (de_cmp (c_eqE inj_int (ll rfl) _ _) (de_lenT B.b_len (rv 2 rfl)).re de_int.re) fun _ => de_one (de_call (ok_can_use B) (ss, u) (h5 u hu) (ll rfl) (da_cons (dv 0 rfl) (da_cons (de_ixT (dv 2 rfl) de_int rfl) (da_cons (de_ixT (dv 2 rfl) de_int rfl) da_nil))))).is rfl
theorem ok_is_module : Has c 4 "is_module" (spP c (fun a : List Str × List Row => [eSorts a.1, eMod a.2]) (fun a => OkMod a.1 a.2 ∧ a.1.length ≤ 4) fun _ => .bl true) :=
  has_of B.is_module (fun _ => rfl) fun ⟨ss, m⟩ ⟨h1, h2⟩ => by
    have hz : m.length ≤ 1000000 := Nat.le_trans h1.len (Nat.le_trans h2 (ll rfl))
    refine ds_cons (d1_if (dt_w (dw_or (dt_not (dt_val (isT B.b_isinstance B.b_tuple (rv 1 rfl)))) fun _ => dw_or1 (dt_not (dt_val (all1 2 eRow m (fun _ => true) B.b_all (it_tup (dv 1 rfl)) hz fun r hr => de_call (ok_is_definition B) (ss, r) (h1.1 r hr) (ll rfl) (da_cons (dv 0 rfl) (da_cons (dv 2 rfl) da_nil))))))) (fun h => ?_) fun _ => ds_nil ?_)
    · simp at h
    · refine ds_cons (d1_ret (all2 2 3 (fun p => eRow p.1) (fun p => eRow p.2) (m.zip (m.drop 1)) (fun _ => true) B.b_all (it_zipTail (dv 1 rfl) (dv 1 rfl) B.b_zip) (by rw [List.length_zip]; omega) fun p hp => ?_) (by simp))
      refine (de_cmp c_lt (de_ixT (dv 2 rfl) de_int rfl).re (de_ixT (dv 3 rfl) de_int rfl).re).is ?_
      have := pairs_of h1.2 p hp
      rw [decide_eq_true (by omega)]
theorem ok_are_modules : Has c 5 "are_modules_programs" (spP c (fun a : Plan => [eSorts a.1, eMods a.2]) OkPlan fun _ => .bl true) :=
  has_of B.are_modules_programs (fun _ => rfl) fun ⟨ss, ms⟩ ⟨h1, ⟨h2, h2'⟩, h3⟩ => by
    have h2' : ms.length ≤ 3 := h2'
    have h2 : 1 ≤ ms.length := h2
    refine ds_cons (d1_if (dt_w (dw_or (dt_not (dt_val (isT B.b_isinstance B.b_tuple (rv 1 rfl)))) fun _ => dw_or1 (dt_not (dt_chain c_le c_le de_int.re (de_lenT B.b_len (rv 1 rfl)).re (dgI B.g_MOST_MODULES).re)))) (fun h => ?_) fun _ => ds_nil ?_)
    · exfalso; simp at h; omega
    · refine ds_cons (d1_ret (all1 2 eMod ms (fun _ => true) B.b_all (it_tup (dv 1 rfl)) (Nat.le_trans h2' (ll rfl)) fun m hm => ?_) (by simp))
      exact de_call (ok_is_module B) (ss, m) ⟨h3 m hm, h1.2.1⟩ (ll rfl) (da_cons (dv 0 rfl) (da_cons (dv 2 rfl) da_nil))
theorem ok_Program : HasI c 6 "Program" CP (spI c CP (fun a : Plan => [eSorts a.1, eMods a.2]) OkPlan fun a => eProg CP a) :=
  hasI_of B.Program_init (fun _ => rfl) fun a ha X hX F H q dx us De g h1 h2 ne i k => by
    have r0 := ir_start (j := jF c N_Program_init st_Program_init 5) (C := CP) (N := N_Program_init) rfl g h1 h2 ne i (by decide)
    refine ir_if hX rfl r0 (dt_not (dt_val (de_call (ok_are_sorts B) a.1 ha.1 (ll rfl) (da_cons (dv 1 rfl) da_nil)))) fun F1 H1 r1 => ?_
    refine ir_if hX rfl r1 (dt_not (dt_val (de_call (ok_are_modules B) a ha (ll rfl) (da_cons (dv 1 rfl) (da_cons (dv 2 rfl) da_nil))))) fun F2 H2 r2 => ?_
    refine ir_fld (ns := []) (vs := []) hX rfl r2 (de_tup (da_cons (dv 1 rfl) (da_cons (dv 2 rfl) da_nil)) (ll rfl)) B.k_Program B.n_pair (fun _ => rfl) (by decide) fun v F3 H3 i3 x3 r3 => ?_
    obtain ⟨F4, i4, g4⟩ := ir_end r3 rfl (IsL.cons i3 IsL.nil)
    exact wss_of pss_nil (k F4 _ _ i4 g4)
theorem ok_sorts : HasP c 1 CP "sorts" (spP c (fun a : Plan => [eProg CP a]) (fun _ => True) fun a => eSorts a.1) :=
  hasP_of B.Program_sorts (fun _ => rfl) fun a _ => ds_cons (d1_ret (de_ixT (de_fld1 (dv 0 rfl) B.k_Program B.n_pair) de_int rfl) rfl)
theorem ok_modules : HasP c 1 CP "modules" (spP c (fun a : Plan => [eProg CP a]) (fun _ => True) fun a => eMods a.2) :=
  hasP_of B.Program_modules (fun _ => rfl) fun a _ => ds_cons (d1_ret (de_ixT (de_fld1 (dv 0 rfl) B.k_Program B.n_pair) de_int rfl) rfl)
theorem ok_len : HasM c 1 CP "__len__" (spP c (fun a : Plan => [eProg CP a]) (fun _ => True) fun a => .int a.1.length) :=
  hasM_of B.Program_len (fun _ => rfl) fun a _ => ds_cons (d1_ret ((de_lenT B.b_len (de_ixT (de_fld1 (dv 0 rfl) B.k_Program B.n_pair) de_int rfl).re)) (by show Dat.int _ = .int _; rw [List.length_map]))
end
end Cal
set_option Elab.async false
set_option linter.all false
set_option maxRecDepth 100000
set_option maxHeartbeats 4000000
namespace Cal
open PySem PySem.Spec PyProof.Rows L2
theorem isEmpty_map {A B : Type} {f : A → B} {as : List A} : (as.map f).isEmpty = as.isEmpty := by cases as <;> rfl
theorem enumL_len {A : Type} : ∀ (n : Nat) (as : List A), (enumL n as).length = as.length
  | _, [] => rfl
  | n, a :: as => congrArg (· + 1) (enumL_len (n + 1) as)
theorem outU_len : ∀ l : List (Nat × Str), (l.flatMap outU).length = 2 * l.length
  | [] => rfl
  | a :: l => by
    rw [List.flatMap_cons, List.length_append, outU_len l, List.length_cons]
    show 2 + _ = _
    omega
section
variable {c : Cfg} {CP CH CA CD : Addr} (B : Glb c CP CH CA CD)
include B
theorem ok_found : HasM c 2 CP "found" (spP c (fun a : Plan × Nat × Nat => [eProg CP a.1, eN a.2.1, eN a.2.2]) (fun a => OkPlan a.1 ∧ a.2.1 < a.1.2.length) fun a => eO eRow (foundR a.1.2 a.2.1 a.2.2)) :=
  hasM_of B.Program_found (fun _ => rfl) fun ⟨p, m, n⟩ ⟨h0, h1⟩ => by
    have h0 : OkPlan p := h0
    have h1 : m < p.2.length := h1
    have hm : p.2[m]? = some (p.2.getD m []) := by rw [List.getD_eq_getElem?_getD, List.getElem?_eq_getElem h1]; rfl
    have hz : (p.2.getD m []).length ≤ 1000000 := by
      have h2 := (h0.2.2 (p.2.getD m []) (List.mem_of_getElem? hm)).len
      have h3 : p.1.length ≤ 4 := h0.1.2.1
      omega
    refine ds_cons (d1_comp1 3 4 eRow (p.2.getD m []) (fun r => decide (r.1 = n)) eRow (it_tup (de_ixT (de_ixT (de_fld1 (dv 0 rfl) B.k_Program B.n_pair) de_int rfl) (dv 1 rfl) (atI_map hm))) hz (fun r hr => dt_cmp (c_eqE inj_nat (ll rfl) r.1 n) (de_ixT (dv 4 rfl) de_int rfl).re (rv 2 rfl)) (fun r hr _ => dv 4 rfl) ?_)
    refine ds_cons (d1_retX (R := fun d => d = eO eRow (foundR p.2 m n)) (DE.toX (de_if (d1 := eO eRow (foundR p.2 m n)) (d2 := .non) (dt_cmp (c_neNil (inj_row.all _)) (ro 3 rfl) (le_lst da_nil (ll rfl)).re) (fun h => ?_) (fun _ => de_non)) ?_) fun d z => z)
    · refine de_ixL (ro 3 rfl) de_int ?_
      unfold foundR
      cases q : ((p.2.getD m []).filter fun r => decide (r.1 = n)) with
      | nil => rw [q] at h; cases h
      | cons a as => exact atI_map (n := 0) rfl
    · unfold foundR
      cases q : ((p.2.getD m []).filter fun r => decide (r.1 = n)) with
      | nil => rfl
      | cons a as => rfl
theorem ok_show_of : HasM c 3 CP "show_of" (spP c (fun a : Plan × Nat × Nat => [eProg CP a.1, eN a.2.1, eN a.2.2]) (fun a => OkPlan a.1 ∧ a.2.1 < a.1.2.length ∧ a.2.2 < a.1.1.length) fun a => eO Dat.str (showOf a.1.2 a.2.1 a.2.2)) :=
  hasM_of B.Program_show_of (fun _ => rfl) fun ⟨p, m, n⟩ ⟨h0, h1, h2⟩ => by
    have h0 : OkPlan p := h0
    have h1 : m < p.2.length := h1
    have h2 : n < p.1.length := h2
    refine ds_cons (d1_if (dt_w (dw_or (dt_not (dt_val (de_call (ok_is_number B) (m, 0, (p.2.length : Int) - 1) trivial (ll rfl) (da_cons (dv 1 rfl) (da_cons de_int (da_cons (de_sub ((de_lenT B.b_len (de_ixT (de_fld1 (dv 0 rfl) B.k_Program B.n_pair) de_int rfl).re).is (by rw [List.length_map])) de_int) da_nil)))))) fun _ => dw_or1 (dt_not (dt_val (de_call (ok_is_number B) (n, 0, (p.1.length : Int) - 1) trivial (ll rfl) (da_cons (dv 2 rfl) (da_cons de_int (da_cons (de_sub ((de_lenT B.b_len (de_ixT (de_fld1 (dv 0 rfl) B.k_Program B.n_pair) de_int rfl).re).is (by rw [List.length_map])) de_int) da_nil)))))))) (fun h => ?_) fun _ => ds_nil ?_)
    · exfalso; simp [isNum] at h; omega
    · refine ds_cons (d1_asg 3 (de_meth (ok_found B) B.k_Program (dv 0 rfl) (da_cons (dv 1 rfl) (da_cons (dv 2 rfl) da_nil)) (p, m, n) rfl ⟨h0, h1⟩ (ll rfl) (fun vs => by cases vs <;> rfl)) rfl ?_)
      refine ds_cons (d1_ret (de_if (d1 := .non) (d2 := eO Dat.str (showOf p.2 m n)) (dt_cmp c_isN (rv 3 rfl) de_non.re) (fun _ => de_non) (fun h => ?_)) ?_)
      · show DE _ _ _ (eO Dat.str ((foundR p.2 m n).map _))
        cases q : foundR p.2 m n with
        | none =>
          exfalso
          have h' : isNon (eO eRow (foundR p.2 m n)) = false := h
          rw [q] at h'; cases h'
        | some r => exact de_ixT ((dv 3 rfl).is (y := eRow r) rfl) de_int rfl
      · show cond (isNon (eO eRow (foundR p.2 m n))) _ (eO Dat.str ((foundR p.2 m n).map _)) = eO Dat.str ((foundR p.2 m n).map _)
        cases q : foundR p.2 m n with
        | none => rfl
        | some r => rfl
theorem ok_outer_uses : Has c 3 "outer_uses" (spP c (fun a : Plan => [eProg CP a]) (fun a => a.1.length ≤ 4) fun a => .lst ((outer a.1).map eU3)) :=
  has_of B.outer_uses (fun _ => rfl) fun p hp => by
    refine ds_cons (d1_own 1 (le_lst da_nil (ll rfl)) rfl ?_)
    refine ds_cons (d1_for (as := enumL 0 p.1) (enc := fun q => .tup [eN q.1, .str q.2]) (fun rem G => ∃ done, enumL 0 p.1 = done ++ rem ∧ G = [.dat (eProg CP p), .own ((done.flatMap outU).map eU3), .no, .no]) ((it_enumT (de_prop (ok_sorts B) B.k_Program (dv 0 rfl) p rfl trivial (ll rfl)) B.b_enumerate).is (enumD_map Dat.str 0 p.1)) ⟨[], rfl, rfl⟩ (fun a rem G ⟨done, h1, h2⟩ => ?_) (fun G ⟨done, h1, h2⟩ => ?_))
    · subst h2
      refine ⟨_, dg2 (i := 2) (l := 3) rfl rfl rfl rfl, ?_⟩
      refine ds_cons (d1_extend 1 rfl rfl (.inl rfl) (LE.re (xs := (outU a).map eU3) ((le_lst (da_cons (de_tup (da_cons de_non (da_cons (de_if (dt_cmp (c_eqE inj_str (ll rfl) a.2 "call") (rv 3 rfl) de_str.re) (fun _ => de_str) fun _ => de_str) (da_cons (dv 2 rfl) da_nil))) (ll rfl)) (da_cons (de_tup (da_cons de_non (da_cons de_str (da_cons (dv 2 rfl) da_nil))) (ll rfl)) da_nil)) (ll rfl)).is ?_)) ?_ (ds_nil ?_))
      · unfold outU eU3
        by_cases z : a.2 = "call" <;> simp [z, eO]
      · have e1 := congrArg List.length h1
        rw [enumL_len, List.length_append] at e1
        have e2 : ((done.flatMap outU).map eU3).length = 2 * done.length := by rw [List.length_map, outU_len]
        have e3 : ((outU a).map eU3).length = 2 := rfl
        rw [e2, e3]
        have : p.1.length ≤ 4 := hp
        omega
      · refine ⟨_, ?_, done ++ [a], by rw [h1, List.append_assoc]; rfl, rfl⟩
        rw [List.flatMap_append, List.map_append]
        exact wk_eq (wk_eq (wk_no (wk_no wk_nil)))
    · subst h2
      rw [List.append_nil] at h1
      rw [← h1]
      exact ds_cons (d1_retF 1 rfl rfl (.inl rfl) rfl)
end
end Cal
set_option Elab.async false
set_option linter.all false
set_option maxRecDepth 100000
set_option maxHeartbeats 4000000
namespace Cal
open PySem PySem.Spec PyProof.Rows L2
theorem d1_tgE {j : J} {G : List Slot} {D : DEnds} {tg e : Expr} {spos : Pos} {d : Dat} {u : List (Nat × Dat)} (h : DE j G e d) (hg : DG j tg d u) (hq : D.nx (setG G u)) (hs : ∀ env : Env, swapsWithSole [tg] e spos.line env = pure false := by intro _; rfl) (hw : ∀ env : Env, swappedStores [tg] e env = pure none := by intro _; rfl)
    (h1 : ∀ env : Env, (assignEach [tg] env).map (·.2) = [assign tg env] := by intro _; rfl) : D1 j G (.Assign [tg] e spos) D := d1_tg (u := u) (h.toX (R := fun d => ∃ u, DG j tg d u ∧ D.nx (setG G u)) ⟨u, hg, hq⟩) hs hw h1
def rgN (m n : Nat) : List Nat := (List.range (n - m)).map (m + ·)
theorem rgD_nat (m n : Nat) : rgD (m : Int) (n : Int) = (rgN m n).map eN := by
  unfold rgD rgN
  rw [List.map_map, show ((n : Int) - (m : Int)).toNat = n - m from by omega]
  apply List.map_congr_left
  intro i _
  show Dat.int _ = Dat.int _
  congr 1
theorem rgN_mem {m n i : Nat} : i ∈ rgN m n ↔ m ≤ i ∧ i < n := by
  unfold rgN
  rw [List.mem_map]
  constructor
  · rintro ⟨k, hk, rfl⟩
    have := List.mem_range.mp hk
    omega
  · intro h
    exact ⟨i - m, List.mem_range.mpr (by omega), by omega⟩
theorem rgN_len (m n : Nat) : (rgN m n).length = n - m := by unfold rgN; rw [List.length_map, List.length_range]
/-! ### choices -/
def kinds3 : List Str := ["copy", "direct", "place"]
def there (ms : Mods) (n : Nat) : Bool := ((rgN 1 ms.length).map fun at_ => showOf ms at_ n).any fun s => !decide (s = none) && !decide (s = some ("hidden" : Str))
structure OkCut (p : Plan) (k : Cut) : Prop where
  kind : k.1 ∈ kinds3
  m : k.2.1 < p.2.length
  n : k.2.2 < p.1.length
  copy : k.1 = "copy" → k.2.1 = 0 ∧ p.1[k.2.2]? = some ("cell" : Str) ∧ showOf p.2 0 k.2.2 = none ∧ there p.2 k.2.2 = true
  rest : k.1 ≠ "copy" → showOf p.2 k.2.1 k.2.2 ≠ none ∧ (k.1 = "direct" ∨ p.1[k.2.2]? = some ("call" : Str))
structure OkCh (p : Plan) (ch : List Cut) : Prop where
  cut : ∀ k ∈ ch, OkCut p k
  asc : ch.Pairwise fun a b => dlt (eCut a) (eCut b) = true
  len : ch.length ≤ 1000
structure OkBld (b : Bld) : Prop where
  plan : OkPlan b.1
  ch : OkCh b.1 b.2
def OkLot (p : Plan) (l : Lot) : Prop := l.length = p.1.length ∧ ∀ i ∈ l, i ≤ 2
/-! ### where a use ends -/
def first? {A : Type} (f : A → Bool) : List A → Option A
  | [] => none
  | a :: as => if f a then some a else first? f as
def firmAt (ms : Mods) (ch : List Cut) (n at_ : Nat) : Bool := decide (showOf ms at_ n ∈ [some ("shown" : Str), some "protected"]) || decide ((("copy", at_, n) : Cut) ∈ ch)
def weakAt (ms : Mods) (n at_ : Nat) : Bool := decide (showOf ms at_ n = some ("weak" : Str))
def met2 (ms : Mods) (ch : List Cut) (l n : Nat) : Option Int :=
  if l = 2 then some (-1) else match first? (firmAt ms ch n) (rgN 0 ms.length) with
  | some at_ => some at_
  | none => if l = 1 then some (-1) else ((rgN 0 ms.length).filter (weakAt ms n)).head?.map fun i => (i : Int)
def met1 (ms : Mods) (ch : List Cut) (m : Nat) (w : Str) (n : Nat) : Bool :=
  (decide ((("direct", m, n) : Cut) ∈ ch) || (decide (w = "call") && decide ((("place", m, n) : Cut) ∈ ch))) || decide (showOf ms m n ∈ [some ("protected" : Str), some "hidden"])
def met (ms : Mods) (ch : List Cut) (lot : Lot) (u : U3) : Option Int := match u.1 with
  | some m => if met1 ms ch m u.2.1 u.2.2 then some m else met2 ms ch (lot.getD u.2.2 0) u.2.2
  | none => met2 ms ch (lot.getD u.2.2 0) u.2.2
theorem inj_ms : Inj 0 (eO Dat.str) := inj_opt inj_str fun x => ⟨by show PyData.eqv (.str _) .none = false; rw [PyData.eqv], by show PyData.eqv .none (.str _) = false; rw [PyData.eqv]⟩
theorem cut_alike (a b : Cut) : dalike (eCut a) (eCut b) = true := by simp [dalike, eCut, eN, py, pys, PySem.W.alike, PySem.W.alikeAll]
section
variable {c : Cfg} {CP CH CA CD : Addr}
/-- len(program), program.sorts, program.modules -/
theorem de_plen {j : J} {G : List Slot} {o : Expr} {p pos : Pos} {a : Plan} (B : Glb j.c CP CH CA CD) (ho : DE j G o (eProg CP a)) (ha : a.1.length ≤ 4) (hk : 2 ≤ j.k) (hg : GlN j "len" := by rfl) (hs : Stars o := by intro _; rfl) : DE j G (.Call (.Name "len" p) [o] [] pos) (.int a.1.length) :=
  de_lenO B.b_len (ok_len B) ho a rfl trivial ⟨_, rfl, by omega, by omega⟩ hk hg hs
theorem de_psorts {j : J} {G : List Slot} {o : Expr} {pos : Pos} {a : Plan} (B : Glb j.c CP CH CA CD) (ho : DE j G o (eProg CP a)) (hk : 2 ≤ j.k) (hb : AB o "sorts" := by intro _; rfl) : DE j G (.Attribute o "sorts" pos) (eSorts a.1) :=
  de_prop (ok_sorts B) B.k_Program ho a rfl trivial hk hb
theorem de_pmods {j : J} {G : List Slot} {o : Expr} {pos : Pos} {a : Plan} (B : Glb j.c CP CH CA CD) (ho : DE j G o (eProg CP a)) (hk : 2 ≤ j.k) (hb : AB o "modules" := by intro _; rfl) : DE j G (.Attribute o "modules" pos) (eMods a.2) :=
  de_prop (ok_modules B) B.k_Program ho a rfl trivial hk hb
variable (B : Glb c CP CH CA CD)
include B
theorem ok_can_shorten : Has c 4 "can_shorten" (spP c (fun a : Plan × Cut => [eProg CP a.1, eCut a.2]) (fun a => OkPlan a.1 ∧ OkCut a.1 a.2) fun _ => .bl true) :=
  has_of B.can_shorten (fun _ => rfl) fun ⟨p, w, m, n⟩ ⟨h0, hk⟩ => by
    have h0 : OkPlan p := h0
    have hk : OkCut p (w, m, n) := hk
    have hm : m < p.2.length := hk.m
    have hn : n < p.1.length := hk.n
    have hl : p.1.length ≤ 4 := h0.1.2.1
    have hml : p.2.length ≤ 3 := h0.2.1.2
    have hkind : w ∈ kinds3 := hk.kind
    refine ds_cons (d1_if (dt_w (dw_or (dt_not (dt_val (isT B.b_isinstance B.b_tuple (rv 1 rfl)))) fun _ => dw_or (dt_cmp (c_neE inj_int (ll rfl) _ _) (de_lenT B.b_len (rv 1 rfl)).re de_int.re) fun _ => dw_or1 (dt_cmp (c_notinE inj_str (ll rfl) w kinds3) (de_ixT (dv 1 rfl) de_int rfl).re (de_tup (da_cons de_str (da_cons de_str (da_cons de_str da_nil))) (ll rfl)).re))) (fun h => ?_) fun _ => ds_nil ?_)
    · exfalso
      rw [decide_eq_true hkind] at h
      simp at h
    refine ds_cons (d1_if (dt_w (dw_or (dt_not (dt_val (de_call (ok_is_number B) (m, 0, (p.2.length : Int) - 1) trivial (ll rfl) (da_cons (de_ixT (dv 1 rfl) de_int rfl) (da_cons de_int (da_cons (de_sub ((de_lenT B.b_len (de_pmods B (dv 0 rfl) (ll rfl)).re).is (by rw [List.length_map])) de_int) da_nil)))))) fun _ => dw_or1 (dt_not (dt_val (de_call (ok_is_number B) (n, 0, (p.1.length : Int) - 1) trivial (ll rfl) (da_cons (de_ixT (dv 1 rfl) de_int rfl) (da_cons de_int (da_cons (de_sub (de_plen B (dv 0 rfl) hl (ll rfl)) de_int) da_nil)))))))) (fun h => ?_) fun _ => ds_nil ?_)
    · exfalso; simp [isNum] at h; omega
    refine ds_cons (d1_tgE (dv 1 rfl) (dn3 (dn 2) (dn 3) (dn 4)) ?_)
    refine ds_cons (d1_if (dt_cmp (c_eqE inj_str (ll rfl) w "copy") (rv 2 rfl) de_str.re) (fun h => ?_) fun h => ds_nil ?_)
    · obtain ⟨c1, c2, c3, c4⟩ := hk.copy (of_decide_eq_true h)
      have c1 : m = 0 := c1
      refine ds_cons (d1_map1 5 7 eN (rgN 1 p.2.length) (fun at_ => eO Dat.str (showOf p.2 at_ n)) ((it_rng2 de_int ((de_lenT B.b_len (de_pmods B (dv 0 rfl) (ll rfl)).re).is (by rw [List.length_map])) B.b_range (by omega)).is (rgD_nat 1 _)) (by rw [rgN_len]; omega) (fun at_ hat => de_meth (ok_show_of B) B.k_Program (dv 0 rfl) (da_cons (dv 7 rfl) (da_cons (dv 4 rfl) da_nil)) (p, at_, n) rfl ⟨h0, (rgN_mem.mp hat).2, hn⟩ (ll rfl) (fun vs => by cases vs <;> rfl)) ?_)
      refine ds_freeze 5 rfl ?_
      refine ds_cons (d1_asg 6 (d := .bl true) ((any1 8 (eO Dat.str) ((rgN 1 p.2.length).map fun at_ => showOf p.2 at_ n) (fun s => !decide (s = none) && !decide (s = some ("hidden" : Str))) B.b_any ((it_list (dv 5 rfl)).is (by rw [List.map_map]; rfl)) (by rw [List.length_map, rgN_len]; omega) (fun s hs => ?_)).is (by show Dat.bl (there p.2 n) = _; rw [show there p.2 n = true from c4])) rfl ?_)
      · refine (de_and (de_cmp c_notN (rv 8 rfl) de_non.re) fun _ => de_one (de_cmp (c_neE inj_ms (ll rfl) s (some "hidden")) (rv 8 rfl) de_str.re)).is ?_
        cases s <;> rfl
      · refine ds_cons (d1_ret (de_and (de_cmp (c_eqE inj_nat (ll rfl) m 0) (rv 3 rfl) de_int.re) fun _ => de_and (de_cmp (c_eqE inj_str (ll rfl) _ "cell") (de_ixT (de_psorts B (dv 0 rfl) (ll rfl)) (dv 4 rfl) (atI_map c2)).re de_str.re) fun _ => de_and (de_cmp c_isN (de_meth (ok_show_of B) B.k_Program (dv 0 rfl) (da_cons de_int (da_cons (dv 4 rfl) da_nil)) (p, 0, n) rfl ⟨h0, by show 0 < p.2.length; omega, hn⟩ (ll rfl) (fun vs => by cases vs <;> rfl)).re de_non.re) fun _ => de_one (dv 6 rfl)) ?_)
        show Dat.bl _ = Dat.bl true
        rw [show showOf (p, 0, n).1.2 (p, 0, n).2.1 (p, 0, n).2.2 = none from c3, c1]
        simp [eO, isNon]
    · obtain ⟨c1, c2⟩ := hk.rest (of_decide_eq_false h)
      have hs : p.1[n]? = some (p.1[n]) := List.getElem?_eq_getElem hn
      refine ds_cons (d1_ret (de_and (de_cmp c_notN (de_meth (ok_show_of B) B.k_Program (dv 0 rfl) (da_cons (dv 3 rfl) (da_cons (dv 4 rfl) da_nil)) (p, m, n) rfl ⟨h0, hm, hn⟩ (ll rfl) (fun vs => by cases vs <;> rfl)).re de_non.re) fun _ => de_one (de_or (de_cmp (c_eqE inj_str (ll rfl) w "direct") (rv 2 rfl) de_str.re) fun _ => de_one (de_cmp (c_eqE inj_str (ll rfl) _ "call") (de_ixT (de_psorts B (dv 0 rfl) (ll rfl)) (dv 4 rfl) (atI_map hs)).re de_str.re))) ?_)
      show Dat.bl _ = Dat.bl true
      have z1 : isNon (eO Dat.str (showOf p.2 m n)) = false := by
        cases q : showOf p.2 m n with
        | none => exact absurd q c1
        | some x => rfl
      have z2 : (decide (w = "direct") || decide (p.1[n] = ("call" : Str))) = true := by
        rcases c2 with c2 | c2
        · have c2 : w = "direct" := c2
          rw [decide_eq_true c2]; rfl
        · rw [hs] at c2
          rw [decide_eq_true (Option.some.inj c2), Bool.or_true]
      show Dat.bl (!isNon (eO Dat.str (showOf p.2 m n)) && (decide (w = "direct") || decide (p.1[n] = ("call" : Str)))) = _
      rw [z1, z2]; rfl
end
end Cal
set_option Elab.async false
set_option linter.all false
set_option maxRecDepth 100000
set_option maxHeartbeats 4000000
namespace Cal
open PySem PySem.Spec PyProof.Rows L2
section
variable {j : J} {G G' : List Slot} {D D' : DEnds} {st : Stmt} {sts body els : List Stmt} {e a b c0 tg iter elt : Expr} {es ifs : List Expr} {pos spos p : Pos} {F0 H0 Fs F H F' H' : Hp} {σ : L2.St} {d x y : Dat} {ds xs ys : List Dat} {i l : Nat} {m n : Int} {k : Bool}
/-- for tg in an own list: if test: return e -/
theorem d1_first {A : Type} {enc : A → Dat} {as : List A} (i : Nat) {x : Str} {p1 p2 p3 : Pos} (hi : G[i]? = some (.own (as.map enc))) (hN : j.N[i]? = some x) (hv : Vis j.sc x) (vs : List Nat) (hiv : i ∉ vs) (T : A → Bool)
    (hs : ∀ a ∈ as, ∃ u, DG j tg (enc a) u ∧ (∀ k ∈ u.map (·.1), k ∈ vs) ∧ DT j (setG (wipeG G vs) u) c0 (T a) ∧ (T a = true → (∃ n, as[n]? = some a ∧ ∀ b ∈ as.take n, T b = false) → ∃ d, DE j (setG (wipeG G vs) u) e d ∧ D.rt d)) (hd : (∀ a ∈ as, T a = false) → D.nx (wipeG G vs))
    (h1 : (x == ("__debug__" : Str)) = false := by decide) (h2 : (x == ("__classdict__" : Str)) = false := by decide) : D1 j G (.For tg (.Name x p1) [.If c0 [.Return (some e) p2] [] p3] [] spos) D := by
  intro X hX σ F0 H0 Fs F H De r ok
  have hp : PassesOwn (model X.prog X.w) X.A X.env X.xe := by rw [hX.xe]; exact PassesOwn.never
  obtain ⟨q, us, e1, e2, e3, e4⟩ := r.own hi
  refine ws_of (ps_for hp hX.calm (pi_list (pe_var (i := i) (by rw [hX.N]; exact hN) (by rw [hX.sc]; exact hv) h1 h2)) wg (pss_one (ps_if wt (pss_one (ps_ret we)) pss_nil))) ?_
  refine ⟨_, e1, q, rfl, ⟨us, SqL.of e2⟩, ?_⟩
  refine ⟨fun n m σ' H' => ∃ F', EnvR j.c j.E F' H' σ' (wipeG G vs) ∧ Gr j.c j.E F0 H0 F' H' ∧ Ext F F' ∧ H' q = some (.lst us) ∧ F' q = none ∧ σ'.length = σ.length ∧ (∀ k, k ∉ vs → σ'[k]? = σ[k]?) ∧ n ≤ as.length ∧ m = as.length - n ∧ ∀ a ∈ as.take n, T a = false, ⟨_, F, r.env.wk (wipeG_len G vs) rfl fun k s h => (wipeG_at G vs h).imp id fun z => ⟨z.1, rfl⟩, r.gr, Ext.refl _, e2, e3.1, rfl, fun _ _ => rfl, Nat.zero_le _, rfl, fun a ha => by simp at ha⟩, ?_⟩
  rintro n m σ1 H1 ⟨F1, E1, g1, x1, hq1, fq1, l1, k1, hn, rfl, hT⟩
  have hlen : us.length = as.length := by rw [← e4.len, List.length_map]
  by_cases hlt : n < as.length
  · refine .inr ⟨⟨us, us[n]'(by omega), SqL.of hq1, List.getElem?_eq_getElem (by omega)⟩, fun σ' H' => ∃ F', EnvR j.c j.E F' H' σ' (wipeG G vs) ∧ Gr j.c j.E F0 H0 F' H' ∧ Ext F F' ∧ H' q = some (.lst us) ∧ F' q = none ∧ σ'.length = σ.length ∧ (∀ k, k ∉ vs → σ'[k]? = σ[k]?) ∧ ∀ a ∈ as.take (n + 1), T a = false, fun σ' H' ⟨F', b1, b2, b3, b4, b5, b6, b7, b8⟩ => ⟨as.length - (n + 1), by omega, F', b1, b2, b3, b4, b5, b6, b7, hlt, rfl, b8⟩, fun v H2 y => ?_⟩
    obtain ⟨rfl, y⟩ := y
    obtain ⟨dd, z1, z2⟩ := e4.at' (y us (SqL.of hq1))
    have z3 : dd = enc as[n] := by
      rw [List.getElem?_map, List.getElem?_eq_getElem hlt] at z1
      exact (Option.some.inj z1).symm
    subst z3
    obtain ⟨u, hu, huv, hc, hr⟩ := hs as[n] (List.getElem_mem hlt)
    refine hu X hX v σ1 F1 H2 _ E1.good (Is.mono x1 _ _ z2) fun ws iw => ?_
    have E2 := E1.setAll iw
    refine hc X hX _ F1 H2 _ E2 fun F3 H3 g3 => ?_
    cases hb : T as[n] with
    | true =>
      rw [if_pos rfl]
      obtain ⟨d, hd1, hd2⟩ := hr hb ⟨n, List.getElem?_eq_getElem hlt, hT⟩
      exact hd1 X hX _ F3 H3 _ (E2.gr g3) fun w F4 H4 i4 g4 => ok.rt w d F4 H4 hd2 i4 ((g1.trans g3).trans g4)
    | false =>
      rw [if_neg Bool.false_ne_true]
      have E3 := E2.gr g3
      have uk : ∀ k, k ∉ vs → (setS σ1 u ws)[k]? = σ1[k]? := fun k hk => setS_out u ws σ1 fun z => hk (huv k z)
      have E1' := E1.gr g3
      refine ⟨F3, ?_, g1.trans g3, x1.trans g3.ext, g3.stays E1.good hq1 (fun _ z => by cases z) e3.2, g3.fresh fq1 hq1, by rw [setS_len]; exact l1, fun k hk => (uk k hk).trans (k1 k hk), fun a ha => ?_⟩
      · refine E1'.wk rfl (setS_len u ws σ1) fun k s h => ?_
        by_cases hk : k ∈ vs
        · rcases wipeG_at G vs h with z | ⟨z, z'⟩
          · exact .inl z
          · exact absurd hk z'
        · exact .inr ⟨h, uk k hk⟩
      · rw [List.take_succ_eq_append_getElem hlt] at ha
        rcases List.mem_append.mp ha with z | z
        · exact hT a z
        · rw [List.mem_singleton.mp z]; exact hb
  · have e : n = as.length := by omega
    subst e
    refine .inl ⟨⟨us, SqL.of hq1, by omega⟩, ok.nx σ1 F1 H1 _ (hd fun a ha => hT a (by rw [List.take_length]; exact ha)) ⟨E1, g1, fun k s t hk os ht => ?_, r.base.trans x1⟩⟩
    rcases wipeG_at G vs hk with z | ⟨z, z'⟩
    · subst z; cases os
    · exact r.young k s t z os (by rw [← k1 k z']; exact ht)
end
end Cal
set_option Elab.async false
set_option linter.all false
set_option maxRecDepth 100000
set_option maxHeartbeats 4000000
namespace Cal
open PySem PySem.Spec PyProof.Rows L2
theorem bne_self (C : Addr) {K : PySem.W.Frag} : PySem.W.kitOne K (.ref C) (.ref C) = some true := by
  unfold PySem.W.kitOne
  rw [if_pos (by simp)]
theorem first_at {A : Type} {f : A → Bool} : ∀ {as : List A} {i : Nat} {a : A}, as[i]? = some a → (∀ b ∈ as.take i, f b = false) → f a = true → first? f as = some a
  | [], i, a, h, _, _ => by simp at h
  | b :: as, 0, a, h, _, ha => by
    cases h
    unfold first?
    rw [if_pos ha]
  | b :: as, i + 1, a, h, hb, ha => by
    unfold first?
    rw [if_neg (by rw [hb b (by rw [List.take_succ_cons]; exact List.mem_cons_self)]; exact Bool.false_ne_true)]
    exact first_at (i := i) (by simpa using h) (fun x hx => hb x (by rw [List.take_succ_cons]; exact List.mem_cons_of_mem _ hx)) ha
theorem first_none {A : Type} {f : A → Bool} : ∀ {as : List A}, (∀ a ∈ as, f a = false) → first? f as = none
  | [], _ => rfl
  | a :: as, h => by
    unfold first?
    rw [if_neg (by rw [h a List.mem_cons_self]; exact Bool.false_ne_true)]
    exact first_none fun b hb => h b (List.mem_cons_of_mem _ hb)
section
variable {c : Cfg} {CP CH CA CD : Addr} (B : Glb c CP CH CA CD)
include B
theorem ok_is_choice : Has c 5 "is_choice" (spP c (fun a : Bld => [eProg CP a.1, eCh a.2]) OkBld fun _ => .bl true) :=
  has_of B.is_choice (fun _ => rfl) fun ⟨p, ch⟩ hb => by
    have h0 : OkPlan p := hb.plan
    have hc : OkCh p ch := hb.ch
    have hz : ch.length ≤ 1000000 := Nat.le_trans hc.len (ll rfl)
    refine ds_cons (d1_if (dt_w (dw_or (dt_not (dt_val (isT B.b_isinstance B.b_tuple (rv 1 rfl)))) fun _ => dw_or1 (dt_not (dt_val (all1 2 eCut ch (fun _ => true) B.b_all (it_tup (dv 1 rfl)) hz fun k hk => de_call (ok_can_shorten B) (p, k) ⟨h0, hc.cut k hk⟩ (ll rfl) (da_cons (dv 0 rfl) (da_cons (dv 2 rfl) da_nil))))))) (fun h => ?_) fun _ => ds_nil ?_)
    · simp at h
    · refine ds_cons (d1_ret (all2 2 3 (fun q => eCut q.1) (fun q => eCut q.2) (ch.zip (ch.drop 1)) (fun _ => true) B.b_all (it_zipTail (dv 1 rfl) (dv 1 rfl) B.b_zip) (by rw [List.length_zip]; omega) fun q hq => ?_) (by simp))
      refine (de_cmp (c_ltd (inj_cut.pl q.1) (inj_cut.pl q.2) (cut_alike _ _) (fun z => by cases z) (Nat.le_trans (Nat.min_le_left _ _) (Nat.le_trans (inj_cut.dep q.1) (ll rfl)))) (rv 2 rfl) (rv 3 rfl)).is ?_
      rw [pairs_of hc.asc q hq]
theorem ok_is_lot : Has c 3 "is_lot" (spP c (fun a : Plan × Lot => [eProg CP a.1, eLot a.2]) (fun a => OkPlan a.1 ∧ OkLot a.1 a.2) fun _ => .bl true) :=
  has_of B.is_lot (fun _ => rfl) fun ⟨p, l⟩ ⟨h0, h1, h2⟩ => by
    have hl : p.1.length ≤ 4 := h0.1.2.1
    have h1 : l.length = p.1.length := h1
    refine ds_cons (d1_ret (de_and (isT B.b_isinstance B.b_tuple (rv 1 rfl)) fun _ => de_and (de_cmp (c_eqE inj_int (ll rfl) _ _) (de_lenT B.b_len (rv 1 rfl)).re (de_plen B (dv 0 rfl) hl (ll rfl)).re) fun _ => de_one (all1 2 eN l (fun _ => true) B.b_all (it_tup (dv 1 rfl)) (by omega) fun i hi => (de_call (ok_is_number B) (i, 0, 2) trivial (ll rfl) (da_cons (dv 2 rfl) (da_cons de_int (da_cons de_int da_nil)))).is ?_)) ?_)
    · have := h2 i hi
      show Dat.bl (isNum i 0 2) = _
      unfold isNum
      rw [decide_eq_true (by omega), decide_eq_true (by omega)]; rfl
    · show Dat.bl _ = Dat.bl true
      rw [List.length_map, h1]; simp
theorem ok_is_build : Has c 6 "is_build" (spP c (fun a : Bld => [eBld CP a]) OkBld fun _ => .bl true) :=
  has_of B.is_build (fun _ => rfl) fun b hb => by
    refine ds_cons (d1_if (dt_w (dw_or (dt_not (dt_val (isT B.b_isinstance B.b_tuple (rv 0 rfl)))) fun _ => dw_or (dt_cmp (c_neE inj_int (ll rfl) _ _) (de_lenT B.b_len (rv 0 rfl)).re de_int.re) fun _ => dw_or1 (dt_not (dt_val (de_isiC B.b_isinstance B.g_Program (de_ixT (d := eProg CP b.1) (dv 0 rfl) de_int rfl).re B.i_Program (bne_self CP)))))) (fun h => ?_) fun _ => ds_nil ?_)
    · simp at h
    · exact ds_cons (d1_ret (de_call (ok_is_choice B) b hb (ll rfl) (da_cons (de_ixT (dv 0 rfl) de_int rfl) (da_cons (de_ixT (dv 0 rfl) de_int rfl) da_nil))) rfl)
/-- two builds -/
structure Ok2 (a : Bld × Bld) : Prop where
  one : OkBld a.1
  two : OkBld a.2
  same : a.1.1.1 = a.2.1.1
theorem ok_check_two : Has c 7 "check_two" (spP c (fun a : Bld × Bld => [eBld CP a.1, eBld CP a.2]) Ok2 fun _ => .non) :=
  has_of B.check_two (fun _ => rfl) fun ⟨b1, b2⟩ ⟨h1, h2, h3⟩ => by
    refine ds_cons (d1_if (dt_w (dw_or (dt_not (dt_val (de_call (ok_is_build B) b1 h1 (ll rfl) (da_cons (dv 0 rfl) da_nil)))) fun _ => dw_or1 (dt_not (dt_val (de_call (ok_is_build B) b2 h2 (ll rfl) (da_cons (dv 1 rfl) da_nil)))))) (fun h => ?_) fun _ => ds_nil ?_)
    · simp at h
    · refine ds_cons (d1_if (dt_cmp (c_neE inj_sorts (ll rfl) b1.1.1 b2.1.1) (de_psorts B (de_ixT (d := eProg CP b1.1) (dv 0 rfl) de_int rfl) (ll rfl)).re (de_psorts B (de_ixT (d := eProg CP b2.1) (dv 1 rfl) de_int rfl) (ll rfl)).re) (fun h => ?_) fun _ => ds_nil (ds_nil rfl))
      have h3 : b1.1.1 = b2.1.1 := h3
      rw [decide_eq_true h3] at h; cases h
theorem ok_met : Has c 4 "met" (spP c (fun a : Plan × List Cut × Lot × U3 => [eProg CP a.1, eCh a.2.1, eLot a.2.2.1, eU3 a.2.2.2]) (fun a => OkPlan a.1 ∧ OkLot a.1 a.2.2.1 ∧ a.2.2.2.2.2 < a.1.1.length ∧ ∀ m, a.2.2.2.1 = some m → m < a.1.2.length) fun a => ePlc (met a.1.2 a.2.1 a.2.2.1 a.2.2.2)) :=
  has_ofN B.met (fun _ => rfl) fun ⟨p, ch, lot, m, w, n⟩ ⟨h0, ⟨hl1, hl2⟩, hn, hm⟩ => by
    have h0 : OkPlan p := h0
    have hn : n < p.1.length := hn
    have hm : ∀ m', m = some m' → m' < p.2.length := hm
    have hl1 : lot.length = p.1.length := hl1
    have hml : p.2.length ≤ 3 := h0.2.1.2
    have hlot : lot[n]? = some (lot.getD n 0) := by rw [List.getD_eq_getElem?_getD, List.getElem?_eq_getElem (by omega)]; rfl
    have rest : ∀ G5, DS (jF c N_met st_met 3) [.dat (eProg CP p), .dat (eCh ch), .dat (eLot lot), .dat (eU3 (m, w, n)), .dat .non, G5, .dat (.str w), .dat (eN n), .no, .no, .no] ((defBody st_met).drop 2) { nx := fun _ => ePlc (met2 p.2 ch (lot.getD n 0) n) = .non, rt := fun r => r = ePlc (met2 p.2 ch (lot.getD n 0) n) } := fun G5 => by
      refine ds_cons (d1_if (dt_cmp (c_eqE inj_nat (ll rfl) _ 2) (de_ixT (dv 2 rfl) (dv 7 rfl) (atI_map hlot)).re de_int.re) (fun h => ds_cons (d1_ret (dgI B.g_AHEAD) ?_)) fun h2 => ds_nil ?_)
      · show Dat.int (-1) = ePlc (met2 _ _ _ _)
        unfold met2
        rw [if_pos (of_decide_eq_true h)]; rfl
      refine ds_cons (d1_own 8 (xs := (rgN 0 p.2.length).map eN) ((le_if (k := true) (ys := []) ((dt_cmp c_isN (rv 4 rfl) de_non.re)) (fun _ => (le_listRg1 B.b_list B.b_range ((de_lenT B.b_len (de_pmods B (dv 0 rfl) (ll rfl)).re).is (by rw [List.length_map])) (by omega)).is (rgD_nat 0 _)) (fun h => by cases h)).is rfl) rfl ?_)
      refine ds_cons (d1_first (as := rgN 0 p.2.length) (enc := eN) 8 rfl rfl (.inl rfl) [9] (by decide) (firmAt p.2 ch n) (fun at_ hat => ⟨[(9, eN at_)], dn 9, fun k hk => hk, (dt_w (dw_or (dt_cmp (c_inE inj_ms (ll rfl) (showOf p.2 at_ n) [some "shown", some "protected"]) (de_meth (ok_show_of B) B.k_Program (dv 0 rfl) (da_cons (dv 9 rfl) (da_cons (dv 7 rfl) da_nil)) (p, at_, n) rfl ⟨h0, (rgN_mem.mp hat).2, hn⟩ (ll rfl) (fun vs => by cases vs <;> rfl)).re (de_tup (da_cons de_str (da_cons de_str da_nil)) (ll rfl)).re) fun _ => dw_or1 (dt_cmp (c_inE inj_cut (ll rfl) ("copy", at_, n) ch) (de_tup (da_cons de_str (da_cons (dv 9 rfl) (da_cons (dv 7 rfl) da_nil))) (ll rfl)).re (rv 1 rfl)))), fun ht ⟨i, hi1, hi2⟩ => ⟨eN at_, dv 9 rfl, ?_⟩⟩) (fun hno => ?_))
      · show eN at_ = ePlc (met2 _ _ _ _)
        unfold met2
        rw [if_neg (of_decide_eq_false h2), first_at hi1 hi2 ht]; rfl
      have e0 : first? (firmAt p.2 ch n) (rgN 0 p.2.length) = none := first_none hno
      refine ds_cons (d1_if (dt_cmp (c_eqE inj_nat (ll rfl) _ 1) (de_ixT (dv 2 rfl) (dv 7 rfl) (atI_map hlot)).re de_int.re) (fun h => ds_cons (d1_ret (dgI B.g_AHEAD) ?_)) fun h1 => ds_nil ?_)
      · show Dat.int (-1) = ePlc (met2 _ _ _ _)
        unfold met2
        rw [if_neg (of_decide_eq_false h2), e0]
        show _ = ePlc (if _ then _ else _)
        rw [if_pos (of_decide_eq_true h)]; rfl
      have e1 : met2 p.2 ch (lot.getD n 0) n = ((rgN 0 p.2.length).filter (weakAt p.2 n)).head?.map fun i => (i : Int) := by
        unfold met2
        rw [if_neg (of_decide_eq_false h2), e0]
        show (if _ then _ else _) = _
        rw [if_neg (of_decide_eq_false h1)]
      refine ds_freeze 8 rfl ?_
      refine ds_cons (d1_comp1 10 9 eN (rgN 0 p.2.length) (weakAt p.2 n) eN (it_list (dv 8 rfl)) (by rw [rgN_len]; omega) (fun at_ hat => dt_cmp (c_eqE inj_ms (ll rfl) (showOf p.2 at_ n) (some "weak")) (de_meth (ok_show_of B) B.k_Program (dv 0 rfl) (da_cons (dv 9 rfl) (da_cons (dv 7 rfl) da_nil)) (p, at_, n) rfl ⟨h0, (rgN_mem.mp hat).2, hn⟩ (ll rfl) (fun vs => by cases vs <;> rfl)).re de_str.re) (fun at_ hat _ => dv 9 rfl) ?_)
      rw [e1]
      refine ds_cons (d1_ret (de_if (d1 := ePlc (((rgN 0 p.2.length).filter (weakAt p.2 n)).head?.map fun i => (i : Int))) (d2 := .non) (dt_cmp (c_neNil (inj_nat.all _)) (ro 10 rfl) (le_lst da_nil (ll rfl)).re) (fun h => ?_) fun _ => de_non) ?_)
      · refine de_ixL (ro 10 rfl) de_int ?_
        cases q : (rgN 0 p.2.length).filter (weakAt p.2 n) with
        | nil => rw [q] at h; cases h
        | cons a as => exact atI_map (n := 0) rfl
      · cases q : (rgN 0 p.2.length).filter (weakAt p.2 n) with
        | nil => rfl
        | cons a as => rfl
    refine ds_cons (d1_tgE (dv 3 rfl) (dn3 (dn 5) (dn 6) (dn 7)) ?_)
    cases m with
    | none =>
      refine ds_cons (d1_if (k := false) (dt_cmp c_notN (rv 5 rfl) de_non.re) (fun h => by cases h) fun _ => ds_nil (rest _))
    | some m =>
      have hm' : m < p.2.length := hm m rfl
      refine ds_cons (d1_if (k := true) (dt_cmp c_notN (rv 5 rfl) de_non.re) (fun _ => ?_) fun h => by cases h)
      have key : ∀ b : Bool, b = met1 p.2 ch m w n → (b = true → ePlc (met p.2 ch lot (some m, w, n)) = eN m) ∧ (b = false → ePlc (met p.2 ch lot (some m, w, n)) = ePlc (met2 p.2 ch (lot.getD n 0) n)) := fun b hb => by
        subst hb
        refine ⟨fun h => ?_, fun h => ?_⟩
        · show ePlc (if _ then _ else _) = _
          rw [if_pos h]; rfl
        · show ePlc (if _ then _ else _) = _
          rw [if_neg (by rw [show met1 p.2 ch m w n = false from h]; exact Bool.false_ne_true)]
      refine ds_cons (d1_if (dt_w (dw_or (dt_cmp (c_inE inj_cut (ll rfl) ("direct", m, n) ch) (de_tup (da_cons de_str (da_cons (dv 5 rfl) (da_cons (dv 7 rfl) da_nil))) (ll rfl)).re (rv 1 rfl)) fun _ => dw_or1 (dt_w (dw_and (dt_cmp (c_eqE inj_str (ll rfl) w "call") (rv 6 rfl) de_str.re) fun _ => dw_and1 (dt_cmp (c_inE inj_cut (ll rfl) ("place", m, n) ch) (de_tup (da_cons de_str (da_cons (dv 5 rfl) (da_cons (dv 7 rfl) da_nil))) (ll rfl)).re (rv 1 rfl)))))) (fun h => ds_cons (d1_ret (dv 5 rfl) ?_)) fun h => ds_nil ?_)
      · exact ((key true (by unfold met1; rw [show _ = true from h]; rfl)).1 rfl).symm
      refine ds_cons (d1_if (dt_cmp (c_inE inj_ms (ll rfl) (showOf p.2 m n) [some "protected", some "hidden"]) (de_meth (ok_show_of B) B.k_Program (dv 0 rfl) (da_cons (dv 5 rfl) (da_cons (dv 7 rfl) da_nil)) (p, m, n) rfl ⟨h0, hm', hn⟩ (ll rfl) (fun vs => by cases vs <;> rfl)).re (dgT B.g_KEPT).re) (fun h' => ds_cons (d1_ret (dv 5 rfl) ?_)) fun h' => ds_nil ?_)
      · exact ((key true (by unfold met1; rw [show _ = false from h, show _ = true from h']; rfl)).1 rfl).symm
      refine ds_nil ?_
      have e2 := (key false (by unfold met1; rw [show _ = false from h, show _ = false from h']; rfl)).2 rfl
      show DS _ _ _ { nx := fun _ => ePlc (met p.2 ch lot (some m, w, n)) = .non, rt := fun r => r = ePlc (met p.2 ch lot (some m, w, n)) }
      rw [e2]
      exact rest _
end
end Cal
set_option Elab.async false
set_option linter.all false
set_option maxRecDepth 100000
set_option maxHeartbeats 4000000
namespace Cal
open PySem PySem.Spec PyProof.Rows L2
/-! ### two builds and a lot -/
abbrev H3 := Bld × Bld × Lot
structure OkH (h : H3) : Prop where
  two : Ok2 (h.1, h.2.1)
  lot : OkLot h.1.1 h.2.2
def usesOf (p : Plan) (n m : Nat) : List Use := match foundR p.2 m n with
  | some r => srt eUse (dd r.2.2)
  | none => []
def outUses (ss : List Str) : List Use := srt eUse ((outer ss).map (·.2))
def usesAt (h : H3) : Option Pr → List Use × List Use
  | none => (outUses h.1.1.1, outUses h.1.1.1)
  | some q => (usesOf h.1.1 q.1 q.2.1, usesOf h.2.1.1 q.1 q.2.2)
def forkM (h : H3) (ms : Option Nat × Option Nat) (u : Use) : Fork := (met h.1.1.2 h.1.2 h.2.2 (ms.1, u), met h.2.1.1.2 h.2.1.2 h.2.2 (ms.2, u))
def modsOf : Option Pr → Option Nat × Option Nat
  | none => (none, none)
  | some q => (some q.2.1, some q.2.2)
def isAt (p : Option Int) : Bool := !decide (p = none) && !decide (p = some (-1))
def areMods (f : Fork) : Bool := isAt f.1 && isAt f.2
def isEven (f : Fork) : Bool := decide (f.1 = f.2) || areMods f
def crossed (f g : Fork) : Bool := !(decide (f.1 = g.1) == decide (f.2 = g.2))
/-- a pair that stands -/
def OkPair (h : H3) (q : Pr) : Prop := q.1 < h.1.1.1.length ∧ (q.2.1 < h.1.1.2.length ∧ foundR h.1.1.2 q.2.1 q.1 ≠ none) ∧ q.2.2 < h.2.1.1.2.length ∧ foundR h.2.1.1.2 q.2.2 q.1 ≠ none
def OkPO (h : H3) (q : Option Pr) : Prop := ∀ r, q = some r → OkPair h r
def eMs (ms : Option Nat × Option Nat) : Dat := .tup [eO eN ms.1, eO eN ms.2]
theorem foundR_mem {ms : Mods} {m n : Nat} {r : Row} (h : foundR ms m n = some r) : r ∈ ms.getD m [] ∧ r.1 = n := by
  unfold foundR at h
  have := List.mem_of_mem_head? h
  rw [List.mem_filter] at this
  exact ⟨this.1, of_decide_eq_true this.2⟩
theorem OkPlan.row {p : Plan} (h : OkPlan p) {m n : Nat} {r : Row} (hm : m < p.2.length) (e : foundR p.2 m n = some r) : OkRow p.1 r := by
  have hm' : p.2[m]? = some (p.2.getD m []) := by rw [List.getD_eq_getElem?_getD, List.getElem?_eq_getElem hm]; rfl
  exact (h.2.2 _ (List.mem_of_getElem? hm')).1 r (foundR_mem e).1
section
variable {c : Cfg} {CP CH CA CD : Addr}
theorem de_builds {j : J} {G : List Slot} {o : Expr} {pos : Pos} {h : H3} (B : Glb j.c CP CH CA CD) (ho : DE j G o (eHeld CP CH h)) (hb : AB o "builds" := by intro _; rfl) : DE j G (.Attribute o "builds" pos) (.tup [eBld CP h.1, eBld CP h.2.1]) := by
  obtain ⟨q, hq⟩ := B.s_builds
  exact de_sl ho B.k_Held 0 hq rfl hb
theorem de_lot {j : J} {G : List Slot} {o : Expr} {pos : Pos} {h : H3} (B : Glb j.c CP CH CA CD) (ho : DE j G o (eHeld CP CH h)) (hb : AB o "lot" := by intro _; rfl) : DE j G (.Attribute o "lot" pos) (eLot h.2.2) := by
  obtain ⟨q, hq⟩ := B.s_lot
  exact de_sl ho B.k_Held 1 hq rfl hb
variable (B : Glb c CP CH CA CD)
include B
theorem ok_uses_of : Has c 3 "uses_of" (spP c (fun a : Bld × Nat × Nat => [eBld CP a.1, eN a.2.1, eN a.2.2]) (fun a => OkPlan a.1.1 ∧ a.2.2 < a.1.1.2.length ∧ foundR a.1.1.2 a.2.2 a.2.1 ≠ none) fun a => .lst ((usesOf a.1.1 a.2.1 a.2.2).map eUse)) :=
  has_of B.uses_of (fun _ => rfl) fun ⟨b, n, m⟩ ⟨h0, h1, h2⟩ => by
    have h0 : OkPlan b.1 := h0
    cases q : foundR b.1.2 m n with
    | none => exact absurd q h2
    | some r =>
      have hr := h0.row h1 q
      have hz : r.2.2.length ≤ 3 := hr.2.2.1
      refine ds_cons (d1_ret (d := .lst ((usesOf b.1 n m).map eUse)) ((le_sorted B.b_sorted ((le_listD (ks := (dd r.2.2).map kUse) B.b_list (((led_comp [("use", 3)] eUse r.2.2 kUse (fun _ => .bl true) (it_tup (de_ixT ((de_meth (ok_found B) B.k_Program (de_ixT (d := eProg CP b.1) (dv 0 rfl) de_int rfl) (da_cons (dv 2 rfl) (da_cons (dv 1 rfl) da_nil)) (b.1, m, n) rfl ⟨h0, h1⟩ (ll rfl) (fun vs => by cases vs <;> rfl)).is (y := eRow r) (by show eO eRow (foundR b.1.2 m n) = _; rw [q]; rfl)) de_int rfl)) (Nat.le_trans hz (ll rfl)) (fun u hu => ⟨[(3, eUse u)], dn 3, fun k hk => hk, dv 3 rfl, de_bl, .inr ⟨_, rfl⟩, (ll rfl)⟩) rfl).is (dsAll_map kUse_inj _) rfl).re)).re.is (y := .lst ((dd r.2.2).map eUse)) (by rw [List.map_map]; rfl)) (srt_use.ok (ll rfl) _ (Nat.le_trans (dd_len _) (Nat.le_trans hz (ll rfl))))).de.is ?_) rfl)
      rw [sortD_map]
      unfold usesOf
      rw [q]
theorem ok_Held : HasI c 2 "Held" CH (spI c CH (fun a : H3 => [eBld CP a.1, eBld CP a.2.1, eLot a.2.2]) (fun _ => True) fun a => eHeld CP CH a) :=
  hasI_of B.Held_init (fun _ => rfl) fun a ha X hX F H q dx us De g h1 h2 ne i k => by
    have r0 := ir_start (j := jF c N_Held_init st_Held_init 1) (C := CH) (N := N_Held_init) rfl g h1 h2 ne i (by decide)
    obtain ⟨q1, s1⟩ := B.s_builds
    obtain ⟨q2, s2⟩ := B.s_lot
    have hG : ∀ (i : Nat) s, (.no :: startG (N_Held_init.drop 1) [eBld CP a.1, eBld CP a.2.1, eLot a.2.2])[i]? = some s → s.isOwn = false := fun i s hs => by
      cases z : s.isOwn with
      | false => rfl
      | true => cases i with
        | zero => cases hs; cases z
        | succ i => exact (startG_own (by simpa using hs) z).elim
    refine ir_sl (vs := []) hX rfl r0 (.inl ⟨rfl, rfl⟩) hG (de_tup (da_cons (dv 1 rfl) (da_cons (dv 2 rfl) da_nil)) (ll rfl)) B.k_Held s1 fun v1 F1 H1 i1 x1 r1 => ?_
    refine ir_sl (vs := SlX.putS 0 v1 []) hX rfl r1 (.inr ⟨rfl, rfl⟩) hG (dv 3 rfl) B.k_Held s2 fun v2 F2 H2 i2 x2 r2 => ?_
    obtain ⟨F4, i4, g4⟩ := ir_endS (vs := [v1, v2]) r2 (IsL.cons (Is.mono x2 _ _ i1) (IsL.cons i2 IsL.nil))
    exact wss_of pss_nil (k F4 _ _ i4 g4)
theorem ok_fork : HasM c 5 CH "fork" (spP c (fun a : H3 × (Option Nat × Option Nat) × Use => [eHeld CP CH a.1, eMs a.2.1, eUse a.2.2]) (fun a => OkH a.1 ∧ a.2.2.2 < a.1.1.1.1.length ∧ (∀ m, a.2.1.1 = some m → m < a.1.1.1.2.length) ∧ ∀ m, a.2.1.2 = some m → m < a.1.2.1.1.2.length) fun a => eFork (forkM a.1 a.2.1 a.2.2)) :=
  hasM_of B.Held_fork (fun _ => rfl) fun ⟨⟨b1, b2, lot⟩, ⟨m1, m2⟩, u⟩ ⟨h0, hn, hm1, hm2⟩ => by
    have hs : b1.1.1 = b2.1.1 := h0.two.same
    have hn : u.2 < b1.1.1.length := hn
    have okm : ∀ q ∈ [(b1, m1), (b2, m2)], OkPlan q.1.1 ∧ OkLot q.1.1 lot ∧ u.2 < q.1.1.1.length ∧ ∀ m, q.2 = some m → m < q.1.1.2.length := fun q hq => by
      rcases List.mem_cons.mp hq with rfl | hq
      · exact ⟨h0.two.one.plan, h0.lot, hn, hm1⟩
      · rcases List.mem_cons.mp hq with rfl | hq
        · exact ⟨h0.two.two.plan, ⟨h0.lot.1.trans (congrArg List.length hs), h0.lot.2⟩, hs ▸ hn, hm2⟩
        · simp at hq
    refine ds_cons (d1_ret (d := .tup ([(b1, m1), (b2, m2)].map fun q => ePlc (met q.1.1.2 q.1.2 lot (q.2, u)))) (de_tupL B.b_tuple (le_map2 3 4 (fun q => eBld CP q.1) (fun q => eO eN q.2) [(b1, m1), (b2, m2)] (fun q => ePlc (met q.1.1.2 q.1.2 lot (q.2, u))) ((it_zipT (de_builds (h := (b1, b2, lot)) B (dv 0 rfl)) (dv 1 rfl) B.b_zip).is rfl) (ll rfl) fun q hq => ?_).re) rfl)
    exact de_call (ok_met B) (q.1.1, q.1.2, lot, (q.2, u)) (okm q hq) (ll rfl) (da_cons (de_ixT (d := eProg CP q.1.1) (dv 3 rfl) de_int rfl) (da_cons (de_ixT (dv 3 rfl) de_int rfl) (da_cons (de_lot (h := (b1, b2, lot)) B (dv 0 rfl)) (da_cons (de_tup (da_cons (dv 4 rfl) (star_tup (xs := [.str u.1, eN u.2]) (ds := []) (dv 2 rfl) da_nil)) (ll rfl)) da_nil))))
end
end Cal
set_option Elab.async false
set_option linter.all false
set_option maxRecDepth 100000
set_option maxHeartbeats 4000000
namespace Cal
open PySem PySem.Spec PyProof.Rows L2
theorem first_some {A : Type} {f : A → Bool} : ∀ {as : List A} {a : A}, first? f as = some a → a ∈ as ∧ f a = true
  | [], a, h => by unfold first? at h; cases h
  | b :: as, a, h => by
    unfold first? at h
    split at h
    · rename_i hb
      cases h; exact ⟨List.mem_cons_self, hb⟩
    · obtain ⟨h1, h2⟩ := first_some h
      exact ⟨List.mem_cons_of_mem _ h1, h2⟩
/-- why a place is one -/
def Why (ms : Mods) (ch : List Cut) (n m : Nat) : Prop := showOf ms m n ≠ none ∨ (("copy", m, n) : Cut) ∈ ch ∨ (("direct", m, n) : Cut) ∈ ch ∨ (("place", m, n) : Cut) ∈ ch
theorem met2_at {ms : Mods} {ch : List Cut} {l n : Nat} {i : Int} (h : met2 ms ch l n = some i) : i = -1 ∨ ∃ m : Nat, i = m ∧ m < ms.length ∧ Why ms ch n m := by
  unfold met2 at h
  split at h
  · cases h; exact .inl rfl
  · split at h
    · rename_i m hm
      cases h
      obtain ⟨h1, h2⟩ := first_some hm
      refine .inr ⟨m, rfl, (rgN_mem.mp h1).2, ?_⟩
      unfold firmAt at h2
      rw [Bool.or_eq_true, decide_eq_true_eq, decide_eq_true_eq] at h2
      rcases h2 with h2 | h2
      · refine .inl fun z => ?_
        rw [z] at h2
        simp at h2
      · exact .inr (.inl h2)
    · split at h
      · cases h; exact .inl rfl
      · cases q : (((rgN 0 ms.length).filter (weakAt ms n)).head?) with
        | none => rw [q] at h; cases h
        | some m =>
          rw [q] at h
          cases h
          have := List.mem_of_mem_head? q
          rw [List.mem_filter] at this
          refine .inr ⟨m, rfl, (rgN_mem.mp this.1).2, .inl fun z => ?_⟩
          have h2 := of_decide_eq_true this.2
          rw [z] at h2; cases h2
theorem met_at {ms : Mods} {ch : List Cut} {lot : Lot} {u : U3} {i : Int} (hm : ∀ m, u.1 = some m → m < ms.length) (h : met ms ch lot u = some i) : i = -1 ∨ ∃ m : Nat, i = m ∧ m < ms.length ∧ Why ms ch u.2.2 m := by
  obtain ⟨m, w, n⟩ := u
  unfold met at h
  cases m with
  | none => exact met2_at h
  | some m =>
    simp only at h
    split at h
    · rename_i hb
      cases h
      refine .inr ⟨m, rfl, hm m rfl, ?_⟩
      unfold met1 at hb
      rw [Bool.or_eq_true, Bool.or_eq_true, Bool.and_eq_true, decide_eq_true_eq, decide_eq_true_eq, decide_eq_true_eq, decide_eq_true_eq] at hb
      rcases hb with (hb | hb) | hb
      · exact .inr (.inr (.inl hb))
      · exact .inr (.inr (.inr hb.2))
      · refine .inl fun z => ?_
        rw [z] at hb
        simp at hb
    · exact met2_at h
def plcN (p : Option Int) : Nat := (p.getD 0).toNat
theorem isAt_met {ms : Mods} {ch : List Cut} {lot : Lot} {u : U3} (hm : ∀ m, u.1 = some m → m < ms.length) (h : isAt (met ms ch lot u) = true) : met ms ch lot u = some (plcN (met ms ch lot u) : Int) ∧ plcN (met ms ch lot u) < ms.length ∧ Why ms ch u.2.2 (plcN (met ms ch lot u)) := by
  cases q : met ms ch lot u with
  | none => rw [q] at h; cases h
  | some i =>
    rcases met_at hm q with rfl | ⟨m, rfl, h1, h2⟩
    · rw [q] at h; cases h
    · exact ⟨rfl, h1, h2⟩
theorem show_found {ms : Mods} {m n : Nat} : showOf ms m n ≠ none ↔ foundR ms m n ≠ none := by
  unfold showOf
  cases foundR ms m n with
  | none => simp
  | some r => simp
theorem why_call {p : Plan} {ch : List Cut} {n m : Nat} (hc : OkCh p ch) (hs : p.1[n]? = some ("call" : Str)) (h : Why p.2 ch n m) : foundR p.2 m n ≠ none := by
  rcases h with h | h | h | h
  · exact show_found.mp h
  · have := ((hc.cut _ h).copy rfl).2.1
    rw [show p.1[((("copy" : Str), m, n) : Cut).2.2]? = p.1[n]? from rfl, hs] at this
    exact absurd (Option.some.inj this) (by decide)
  · exact show_found.mp ((hc.cut _ h).rest (by decide : ("direct" : Str) ≠ "copy")).1
  · exact show_found.mp ((hc.cut _ h).rest (by decide : ("place" : Str) ≠ "copy")).1
def nextOf (h : H3) (q : Option Pr) (u : Use) : Option Pr := let f := forkM h (modsOf q) u; if areMods f then some (u.2, plcN f.1, plcN f.2) else none
def nextsM (h : H3) (q : Option Pr) : List Pr := (((usesAt h q).1.filter fun u => decide (u.1 = ("call" : Str)) && decide (u ∈ (usesAt h q).2))).filterMap (nextOf h q)
def eUU (p : List Use × List Use) : Dat := .tup [.lst (p.1.map eUse), .lst (p.2.map eUse)]
theorem outer_len (ss : List Str) : (outer ss).length = 2 * ss.length := by
  unfold outer
  rw [outU_len, enumL_len]
theorem OkH.same {h : H3} (k : OkH h) : h.1.1.1 = h.2.1.1.1 := k.two.same
theorem OkPlan.uses {p : Plan} (h : OkPlan p) {n m : Nat} (hm : m < p.2.length) {u : Use} (hu : u ∈ usesOf p n m) : OkUse p.1 u := by
  unfold usesOf at hu
  cases q : foundR p.2 m n with
  | none => rw [q] at hu; simp at hu
  | some r =>
    rw [q] at hu
    exact (h.row hm q).2.2.2.2 u (dd_mem.mp (srt_mem.mp hu))
theorem usesOf_len {p : Plan} (h : OkPlan p) {n m : Nat} (hm : m < p.2.length) : (usesOf p n m).length ≤ 3 := by
  unfold usesOf
  cases q : foundR p.2 m n with
  | none => exact Nat.zero_le _
  | some r =>
    show (srt eUse (dd r.2.2)).length ≤ 3
    rw [srt_len]
    exact Nat.le_trans (dd_len _) (h.row hm q).2.2.1
theorem enumL_mem {A : Type} {as : List A} {n : Nat} {p : Nat × A} (h : p ∈ enumL n as) : n ≤ p.1 ∧ as[p.1 - n]? = some p.2 := by
  induction as generalizing n with
  | nil => simp [enumL] at h
  | cons a as ih =>
    unfold enumL at h
    rcases List.mem_cons.mp h with rfl | h
    · simp
    · obtain ⟨h1, h2⟩ := ih h
      refine ⟨by omega, ?_⟩
      rw [show p.1 - n = (p.1 - (n + 1)) + 1 from by omega, List.getElem?_cons_succ]
      exact h2
theorem outer_ok {ss : List Str} (hs : ∀ s ∈ ss, s ∈ sorts2) {u : U3} (h : u ∈ outer ss) : OkUse ss u.2 := by
  unfold outer at h
  obtain ⟨p, hp, hu⟩ := List.mem_flatMap.mp h
  obtain ⟨_, h2⟩ := enumL_mem hp
  rw [Nat.sub_zero] at h2
  have h3 := hs _ (List.mem_of_getElem? h2)
  unfold sorts2 at h3
  simp only [List.mem_cons, List.not_mem_nil, or_false] at h3
  unfold outU at hu
  simp only [List.mem_cons, List.not_mem_nil, or_false] at hu
  rcases hu with rfl | rfl
  · rcases h3 with h3 | h3
    · rw [if_pos h3]
      exact ⟨(by decide : ("call" : Str) ∈ words3), _, h2, by rw [h3]; exact (by decide : ("call" : Str) ∈ sortOf "call")⟩
    · rw [if_neg (by rw [h3]; decide)]
      exact ⟨(by decide : ("read" : Str) ∈ words3), _, h2, by rw [h3]; exact (by decide : ("cell" : Str) ∈ sortOf "read")⟩
  · refine ⟨(by decide : ("take" : Str) ∈ words3), _, h2, ?_⟩
    rcases h3 with h3 | h3
    · rw [h3]; exact (by decide : ("call" : Str) ∈ sortOf "take")
    · rw [h3]; exact (by decide : ("cell" : Str) ∈ sortOf "take")
theorem usesAt_ok {h : H3} (k : OkH h) {q : Option Pr} (hq : OkPO h q) {u : Use} (hu : u ∈ (usesAt h q).1 ∨ u ∈ (usesAt h q).2) : OkUse h.1.1.1 u := by
  cases q with
  | none =>
    have hu : u ∈ outUses h.1.1.1 := by rcases hu with hu | hu <;> exact hu
    unfold outUses at hu
    obtain ⟨v, hv, rfl⟩ := List.mem_map.mp (srt_mem.mp hu)
    exact outer_ok k.two.one.plan.1.2.2 hv
  | some q =>
    have := hq q rfl
    rcases hu with hu | hu
    · exact k.two.one.plan.uses this.2.1.1 hu
    · rw [k.same]; exact k.two.two.plan.uses this.2.2.1 hu
theorem usesAt_len {h : H3} (k : OkH h) {q : Option Pr} (hq : OkPO h q) : (usesAt h q).1.length ≤ 8 ∧ (usesAt h q).2.length ≤ 8 := by
  cases q with
  | none =>
    have : (outUses h.1.1.1).length ≤ 8 := by
      unfold outUses
      rw [srt_len, List.length_map, outer_len]
      have := k.two.one.plan.1.2.1
      show 2 * h.1.1.1.length ≤ 8
      have : h.1.1.1.length ≤ 4 := this
      omega
    exact ⟨this, this⟩
  | some q =>
    have := hq q rfl
    exact ⟨Nat.le_trans (usesOf_len k.two.one.plan this.2.1.1) (ll rfl), Nat.le_trans (usesOf_len k.two.two.plan this.2.2.1) (ll rfl)⟩
theorem OkUse.lt {ss : List Str} {u : Use} (h : OkUse ss u) : u.2 < ss.length := by
  obtain ⟨_, s, h2, _⟩ := h
  rcases Nat.lt_or_ge u.2 ss.length with z | z
  · exact z
  · rw [List.getElem?_eq_none z] at h2; cases h2
theorem modsOf_lt {h : H3} {q : Option Pr} (hq : OkPO h q) : (∀ m, (modsOf q).1 = some m → m < h.1.1.2.length) ∧ ∀ m, (modsOf q).2 = some m → m < h.2.1.1.2.length := by
  cases q with
  | none => exact ⟨fun m e => (by cases e), fun m e => by cases e⟩
  | some q =>
    have := hq q rfl
    exact ⟨fun m e => (by cases e; exact this.2.1.1), fun m e => by cases e; exact this.2.2.1⟩
theorem nextOf_ok {h : H3} (k : OkH h) {q : Option Pr} (hq : OkPO h q) {u : Use} (hu : OkUse h.1.1.1 u) (hc : u.1 = "call") {r : Pr} (e : nextOf h q u = some r) : OkPair h r := by
  unfold nextOf at e
  simp only at e
  split at e
  · rename_i hm
    cases e
    unfold areMods at hm
    rw [Bool.and_eq_true] at hm
    obtain ⟨a1, a2, a3⟩ := isAt_met (u := ((modsOf q).1, u)) (modsOf_lt hq).1 hm.1
    obtain ⟨b1, b2, b3⟩ := isAt_met (u := ((modsOf q).2, u)) (modsOf_lt hq).2 hm.2
    obtain ⟨_, s, h2, h3⟩ := hu
    have hs : s = "call" := by rw [hc] at h3; simpa [sortOf] using h3
    rw [hs] at h2
    exact ⟨OkUse.lt ⟨by assumption, s, by rw [hs]; exact h2, h3⟩, ⟨a2, why_call k.two.one.ch h2 a3⟩, b2, why_call k.two.two.ch (by rw [← k.same]; exact h2) b3⟩
  · cases e
end Cal
set_option Elab.async false
set_option linter.all false
set_option maxRecDepth 100000
set_option maxHeartbeats 4000000
namespace Cal
open PySem PySem.Spec PyProof.Rows L2
theorem ePlc_nat {ms : Mods} {ch : List Cut} {lot : Lot} {u : U3} (hm : ∀ m, u.1 = some m → m < ms.length) (h : isAt (met ms ch lot u) = true) : ePlc (met ms ch lot u) = eN (plcN (met ms ch lot u)) := by
  have := (isAt_met hm h).1
  rw [this]; rfl
section
variable {c : Cfg} {CP CH CA CD : Addr} (B : Glb c CP CH CA CD)
include B
theorem ok_uses_at : HasM c 4 CH "uses_at" (spP c (fun a : H3 × Option Pr => [eHeld CP CH a.1, ePO a.2]) (fun a => OkH a.1 ∧ OkPO a.1 a.2) fun a => eUU (usesAt a.1 a.2)) :=
  hasM_of B.Held_uses_at (fun _ => rfl) fun ⟨⟨b1, b2, lot⟩, q⟩ ⟨h0, hq⟩ => by
    have hl : b1.1.1.length ≤ 4 := h0.two.one.plan.1.2.1
    cases q with
    | none =>
      refine ds_cons (d1_if (k := true) (dt_cmp c_isN (rv 1 rfl) de_non.re) (fun _ => ?_) fun h => by cases h)
      refine ds_cons (d1_own 2 (xs := (outUses b1.1.1).map eUse) ((le_sorted B.b_sorted ((le_map1 3 eU3 (outer b1.1.1) (fun u => eUse u.2) (it_list (de_call (ok_outer_uses B) b1.1 hl (ll rfl) (da_cons (de_ixT (d := eProg CP b1.1) (de_ixT (d := eBld CP b1) (de_builds (h := (b1, b2, lot)) B (dv 0 rfl)) de_int rfl) de_int rfl) da_nil))) (by rw [outer_len]; omega) (fun u hu => (de_slT (dv 3 rfl) (dp_some de_int) dp_none).is (by rw [cut1]; rfl))).re.is (y := .lst (((outer b1.1.1).map (·.2)).map eUse)) (by rw [List.map_map]; rfl)) (srt_use.ok (ll rfl) _ (by rw [List.length_map, outer_len]; omega))).is (sortD_map _)) rfl ?_)
      refine ds_freeze 2 rfl ?_
      exact ds_cons (d1_ret (de_tup (da_cons (dv 2 rfl) (da_cons (dv 2 rfl) da_nil)) (ll rfl)) rfl)
    | some q =>
      obtain ⟨n, m1, m2⟩ := q
      have hq : OkPair (b1, b2, lot) (n, m1, m2) := hq _ rfl
      refine ds_cons (d1_if (k := false) (dt_cmp c_isN (rv 1 rfl) de_non.re) (fun h => by cases h) fun _ => ds_nil ?_)
      refine ds_cons (d1_ret (d := .tup ([(b1, m1), (b2, m2)].map fun q => .lst ((usesOf q.1.1 n q.2).map eUse))) (de_tupL B.b_tuple (le_map2 4 5 (fun q => eBld CP q.1) (fun q => eN q.2) [(b1, m1), (b2, m2)] (fun q => .lst ((usesOf q.1.1 n q.2).map eUse)) ((it_zipT (de_builds (h := (b1, b2, lot)) B (dv 0 rfl)) ((de_slT (dv 1 rfl) (dp_some de_int) dp_none).is (y := .tup [eN m1, eN m2]) (by rw [cut1]; rfl)) B.b_zip).is rfl) (ll rfl) fun q hq' => ?_).re) rfl)
      refine de_call (ok_uses_of B) (q.1, n, q.2) ?_ (ll rfl) (da_cons (dv 4 rfl) (da_cons (de_ixT (dv 1 rfl) de_int rfl) (da_cons (dv 5 rfl) da_nil)))
      rcases List.mem_cons.mp hq' with rfl | hq'
      · exact ⟨h0.two.one.plan, hq.2.1.1, hq.2.1.2⟩
      · rcases List.mem_cons.mp hq' with rfl | hq'
        · exact ⟨h0.two.two.plan, hq.2.2.1, hq.2.2.2⟩
        · simp at hq'
theorem ok_modules_of : HasM c 1 CH "modules_of" (spP c (fun a : H3 × Option Pr => [eHeld CP CH a.1, ePO a.2]) (fun _ => True) fun a => eMs (modsOf a.2)) :=
  hasM_of B.Held_modules_of (fun _ => rfl) fun ⟨h, q⟩ _ => by
    cases q with
    | none => exact ds_cons (d1_ret (de_if (k := true) (d1 := eMs (none, none)) (d2 := .non) (dt_cmp c_isN (rv 1 rfl) de_non.re) (fun _ => de_tup (da_cons de_non (da_cons de_non da_nil)) (ll rfl)) fun h => by cases h) rfl)
    | some q => exact ds_cons (d1_ret (de_if (k := false) (d1 := .non) (d2 := eMs (some q.2.1, some q.2.2)) (dt_cmp c_isN (rv 1 rfl) de_non.re) (fun h => by cases h) fun _ => (de_slT (dv 1 rfl) (dp_some de_int) dp_none).is (by rw [cut1]; rfl)) rfl)
theorem ok_are_mods : Has c 1 "are_modules_alike" (spP c (fun a : Fork => [eFork a]) (fun _ => True) fun a => .bl (areMods a)) :=
  has_of B.are_modules_alike (fun _ => rfl) fun ⟨f, g⟩ _ => by
    refine ds_cons (d1_ret (all1 1 ePlc [f, g] isAt B.b_all (it_tup (dv 0 rfl)) (ll rfl) fun p hp => ?_) (by show Dat.bl _ = Dat.bl (isAt f && isAt g); rw [List.all_cons, List.all_cons, List.all_nil, Bool.and_true]))
    refine (de_and (de_cmp c_notN (rv 1 rfl) de_non.re) fun _ => de_one (de_cmp (c_neE inj_plc (ll rfl) p (some (-1))) (rv 1 rfl) (dgI B.g_AHEAD).re)).is ?_
    cases p with
    | none => rfl
    | some p => rfl
theorem ok_is_even : Has c 2 "is_even" (spP c (fun a : Fork => [eFork a]) (fun _ => True) fun a => .bl (isEven a)) :=
  has_of B.is_even (fun _ => rfl) fun ⟨f, g⟩ _ =>
    ds_cons (d1_ret (de_or (de_cmp (c_eqE inj_plc (ll rfl) f g) (de_ixT (dv 0 rfl) de_int rfl).re (de_ixT (dv 0 rfl) de_int rfl).re) fun _ => de_one (de_call (ok_are_mods B) (f, g) trivial (ll rfl) (da_cons (dv 0 rfl) da_nil))) rfl)
theorem ok_are_crossed : Has c 1 "are_crossed" (spP c (fun a : Fork × Fork => [eFork a.1, eFork a.2]) (fun _ => True) fun a => .bl (crossed a.1 a.2)) :=
  has_of B.are_crossed (fun _ => rfl) fun ⟨⟨f1, f2⟩, ⟨g1, g2⟩⟩ _ =>
    ds_cons (d1_ret (de_cmp (c_ne (x := .bl (decide (f1 = g1))) (y := .bl (decide (f2 = g2))) rfl rfl (ll rfl)) (de_cmp (c_eqE inj_plc (ll rfl) f1 g1) (de_ixT (dv 0 rfl) de_int rfl).re (de_ixT (dv 1 rfl) de_int rfl).re).re (de_cmp (c_eqE inj_plc (ll rfl) f2 g2) (de_ixT (dv 0 rfl) de_int rfl).re (de_ixT (dv 1 rfl) de_int rfl).re).re) (by
      show Dat.bl (!PyData.eqv (.bool _) (.bool _)) = Dat.bl (crossed _ _)
      rw [PyData.eqv]; rfl))
theorem ok_nexts : HasM c 6 CH "nexts" (spP c (fun a : H3 × Option Pr => [eHeld CP CH a.1, ePO a.2]) (fun a => OkH a.1 ∧ OkPO a.1 a.2) fun a => .lst ((nextsM a.1 a.2).map ePr)) :=
  hasM_of B.Held_nexts (fun _ => rfl) fun ⟨h, q⟩ ⟨h0, hq⟩ => by
    have h0 : OkH h := h0
    have hq : OkPO h q := hq
    have hlen := (usesAt_len h0 hq).1
    refine ds_cons (d1_tgE (de_methS (ok_uses_at B) B.k_Held (dv 0 rfl) (da_cons (dv 1 rfl) da_nil) (h, q) rfl ⟨h0, hq⟩ (ll rfl)) (dn2 (dn 2) (dn 3)) ?_)
    refine ds_cons (d1_own 4 (le_lst da_nil (ll rfl)) rfl ?_)
    refine ds_cons (d1_for (as := (usesAt h q).1.filter fun u => decide (u.1 = ("call" : Str)) && decide (u ∈ (usesAt h q).2)) (enc := eUse) (fun rem G => ∃ done, ((usesAt h q).1.filter fun u => decide (u.1 = ("call" : Str)) && decide (u ∈ (usesAt h q).2)) = done ++ rem ∧ G = [.dat (eHeld CP CH h), .dat (ePO q), .dat (.lst ((usesAt h q).1.map eUse)), .dat (.lst ((usesAt h q).2.map eUse)), .own ((done.filterMap (nextOf h q)).map ePr), .no, .no])
      (it_list (le_comp1 5 eUse (usesAt h q).1 (fun u => decide (u.1 = ("call" : Str)) && decide (u ∈ (usesAt h q).2)) eUse (it_list (dv 2 rfl)) (Nat.le_trans hlen (ll rfl)) (fun u hu => dt_w (dw_and (dt_cmp (c_eqE inj_str (ll rfl) u.1 "call") (de_ixT (dv 5 rfl) de_int rfl).re de_str.re) fun _ => dw_and1 (dt_cmp (c_inLE inj_use (ll rfl) u (usesAt h q).2) (rv 5 rfl) (rv 3 rfl)))) (fun u hu _ => dv 5 rfl)).de) ⟨[], rfl, rfl⟩ (fun u rem G ⟨done, e1, e2⟩ => ?_) (fun G ⟨done, e1, e2⟩ => ?_))
    · subst e2
      refine ⟨_, dn 5, ?_⟩
      have hu0 : u ∈ ((usesAt h q).1.filter fun u => decide (u.1 = ("call" : Str)) && decide (u ∈ (usesAt h q).2)) := by rw [e1]; simp
      have hu : u ∈ (usesAt h q).1 := (List.mem_filter.mp hu0).1
      have hd : done.length ≤ 8 := by
        have := congrArg List.length e1
        rw [List.length_append] at this
        have := List.length_filter_le (fun u => decide (u.1 = ("call" : Str)) && decide (u ∈ (usesAt h q).2)) (usesAt h q).1
        omega
      have hok := usesAt_ok h0 hq (.inl hu)
      refine ds_cons (d1_asg 6 (de_methS (ok_fork B) B.k_Held (dv 0 rfl) (da_cons (de_methS (ok_modules_of B) B.k_Held (dv 0 rfl) (da_cons (dv 1 rfl) da_nil) (h, q) rfl trivial (ll rfl)) (da_cons (dv 5 rfl) da_nil)) (h, modsOf q, u) rfl ⟨h0, hok.lt, modsOf_lt hq⟩ (ll rfl)) rfl ?_)
      have nx : nextOf h q u = if areMods (forkM h (modsOf q) u) then some (u.2, plcN (forkM h (modsOf q) u).1, plcN (forkM h (modsOf q) u).2) else none := rfl
      refine ds_cons (d1_if (dt_val (de_call (ok_are_mods B) (forkM h (modsOf q) u) trivial (ll rfl) (da_cons (dv 6 rfl) da_nil))) (fun hm => ?_) fun hm => ds_nil (ds_nil ?_))
      · have hm : areMods (forkM h (modsOf q) u) = true := hm
        have hm' := hm
        unfold areMods at hm'
        rw [Bool.and_eq_true] at hm'
        have p1 := ePlc_nat (u := ((modsOf q).1, u)) (modsOf_lt hq).1 hm'.1
        have p2 := ePlc_nat (u := ((modsOf q).2, u)) (modsOf_lt hq).2 hm'.2
        refine ds_cons (d1_append (d := ePr (u.2, plcN (forkM h (modsOf q) u).1, plcN (forkM h (modsOf q) u).2)) 4 rfl rfl (.inl rfl) ((de_tup (da_cons (de_ixT (dv 5 rfl) de_int rfl) (star_tup (xs := [ePlc (forkM h (modsOf q) u).1, ePlc (forkM h (modsOf q) u).2]) (ds := []) (dv 6 rfl) da_nil)) (ll rfl)).is ?_) ?_ (ds_nil (ds_nil ?_)))
        · show Dat.tup [eN u.2, ePlc (forkM h (modsOf q) u).1, ePlc (forkM h (modsOf q) u).2] = _
          rw [show ePlc (forkM h (modsOf q) u).1 = _ from p1, show ePlc (forkM h (modsOf q) u).2 = _ from p2]; rfl
        · rw [List.length_map]
          exact Nat.le_trans (List.length_filterMap_le _ _) (Nat.le_trans hd (ll rfl))
        · refine ⟨_, ?_, done ++ [u], by rw [e1, List.append_assoc]; rfl, rfl⟩
          rw [List.filterMap_append, List.map_append, show [u].filterMap (nextOf h q) = [(u.2, plcN (forkM h (modsOf q) u).1, plcN (forkM h (modsOf q) u).2)] from by rw [List.filterMap_cons, nx, if_pos hm]; rfl]
          exact wk_eq (wk_eq (wk_eq (wk_eq (wk_eq (wk_no (wk_no wk_nil))))))
      · have hm : areMods (forkM h (modsOf q) u) = false := hm
        refine ⟨_, ?_, done ++ [u], by rw [e1, List.append_assoc]; rfl, rfl⟩
        rw [List.filterMap_append, List.map_append, show [u].filterMap (nextOf h q) = [] from by rw [List.filterMap_cons, nx, if_neg (by rw [hm]; exact Bool.false_ne_true)]; rfl, List.map_nil, List.append_nil]
        exact wk_eq (wk_eq (wk_eq (wk_eq (wk_eq (wk_no (wk_no wk_nil))))))
    · subst e2
      rw [List.append_nil] at e1
      refine ds_cons (d1_retF 4 rfl rfl (.inl rfl) ?_)
      rw [← e1]; rfl
end
end Cal
set_option Elab.async false
set_option linter.all false
set_option maxRecDepth 100000
set_option maxHeartbeats 4000000
namespace Cal
open PySem PySem.Spec PyProof.Rows L2
section
variable {j : J} {G G' : List Slot} {D D' : DEnds} {st : Stmt} {sts body els : List Stmt} {e a b c0 tg : Expr} {es : List Expr} {pos spos : Pos} {F0 H0 Fs F H F' H' : Hp} {σ : L2.St} {d : Dat} {xs ys : List Dat} {i l : Nat} {s t : Slot} {De : Ends} {k : Bool}
theorem ds_freezeD {ks : List NestedKey} (i : Nat) (hi : G[i]? = some (.owd ks xs)) (h : DS j (G.set i (.dat (.dic ks xs))) sts D) : DS j G sts D := by
  intro X hX σ F0 H0 Fs F H De r ok
  obtain ⟨p, kv, vs, e1, ⟨ep, e2⟩, e3, e5, e6, e4⟩ := r.env.owd hi
  have g : Gr j.c j.E F0 H0 (upd F p (DicO j.c.w p ep (zip3 ks kv vs))) H := r.gr.froze (r.young i _ p hi rfl e1) e3 e2 fun _ z => by unfold DicO at z; cases z
  have x : Ext F (upd F p (DicO j.c.w p ep (zip3 ks kv vs))) := ext_upd e3.1
  refine h X hX σ F0 H0 Fs _ H De ⟨⟨g.good, by rw [List.length_set]; exact r.env.len, fun k s hk => ?_, fun k l s t q hkl hk hl os ot => ?_⟩, g, fun k s q hk os => ?_, r.base.trans x⟩ ok
  · by_cases z : k = i
    · subst z
      have hl : k < G.length := by
        rcases Nat.lt_or_ge k G.length with z | z
        · exact z
        · rw [List.getElem?_eq_none z] at hi; cases hi
      rw [List.getElem?_set_self hl] at hk
      cases hk
      exact ⟨.ref p, by rw [e1]; rfl, by unfold Is; exact ⟨p, kv, vs, rfl, ⟨ep, upd_same⟩, e5, KeyAll.mono x ks kv e6, IsL.mono x xs vs e4⟩⟩
    · rw [List.getElem?_set_ne (Ne.symm z)] at hk
      have w := r.env.at_ k s hk
      cases s with
      | no => trivial
      | dat d =>
        obtain ⟨v, h1, h2⟩ := w
        exact ⟨v, h1, Is.mono x d v h2⟩
      | own ys =>
        obtain ⟨p', us, h1, h2, ⟨h3, h5⟩, h4⟩ := w
        refine ⟨p', us, h1, h2, ⟨?_, h5⟩, IsL.mono x ys us h4⟩
        rw [upd_ne fun y => ?_]; exact h3
        subst y
        exact r.env.sep k i _ _ p' z hk hi rfl rfl (join_some h1) e1
      | owd ks ys =>
        obtain ⟨p', kv, us, h1, h2, ⟨h3, h5⟩, h4, h6, h7⟩ := w
        refine ⟨p', kv, us, h1, h2, ⟨?_, h5⟩, h4, KeyAll.mono x ks kv h6, IsL.mono x ys us h7⟩
        rw [upd_ne fun y => ?_]; exact h3
        subst y
        exact r.env.sep k i _ _ p' z hk hi rfl rfl (join_some h1) e1
      | dr => exact w
  · have f : ∀ {m : Nat} {u : Slot}, (G.set i (.dat (.dic ks xs)))[m]? = some u → u.isOwn = true → G[m]? = some u := fun {m u} hm ou => by
      by_cases z : m = i
      · subst z
        by_cases hl : m < G.length
        · rw [List.getElem?_set_self hl] at hm; cases hm; cases ou
        · rw [List.getElem?_eq_none (by rw [List.length_set]; omega)] at hm; cases hm
      · rw [List.getElem?_set_ne (Ne.symm z)] at hm; exact hm
    exact r.env.sep k l s t q hkl (f hk os) (f hl ot) os ot
  · by_cases z : k = i
    · subst z
      by_cases hl : k < G.length
      · rw [List.getElem?_set_self hl] at hk; cases hk; cases os
      · rw [List.getElem?_eq_none (by rw [List.length_set]; omega)] at hk; cases hk
    · rw [List.getElem?_set_ne (Ne.symm z)] at hk
      exact r.young k s q hk os

/-! ### assignments -/
end
end Cal
set_option Elab.async false
set_option linter.all false
set_option maxRecDepth 100000
set_option maxHeartbeats 4000000
namespace Cal
open PySem PySem.Spec PyProof.Rows L2
/-! ### the pairs that are reached -/
abbrev Rows := List (Option Pr × List Nat)
abbrev RS := Rows × List (Option Pr)
def keysR (r : Rows) : List (Option Pr) := r.map (·.1)
def pathOf (r : Rows) (q : Option Pr) : List Nat := (r.lookup q).getD []
def addLate (q : Option Pr) (s : RS) (late : Pr) : RS := if some late ∈ keysR s.1 then s else (s.1 ++ [(some late, pathOf s.1 q ++ [late.1])], s.2 ++ [some late])
def reachF (h : H3) : Nat → RS → RS
  | 0, s => s
  | k + 1, s => match s.2 with
    | [] => s
    | q :: w => reachF h k ((nextsM h q).foldl (addLate q) (s.1, w))
def reachM (h : H3) : Rows := (reachF h 100 ([(none, [])], [none])).1
theorem reachF_nil (h : H3) (k : Nat) (r : Rows) : reachF h k (r, []) = (r, []) := by cases k <;> rfl
/-! pigeons -/
theorem nodup_len : ∀ (n : Nat) (l : List Nat), l.Nodup → (∀ x ∈ l, x < n) → l.length ≤ n
  | 0, l, _, h => by
    cases l with
    | nil => exact Nat.le_refl _
    | cons a l => exact absurd (h a List.mem_cons_self) (Nat.not_lt_zero _)
  | n + 1, l, hd, h => by
    have ih := nodup_len n (l.erase n) (hd.erase n) fun x hx => by
      have h1 := h x (List.mem_of_mem_erase hx)
      have h2 : x ≠ n := fun z => by
        subst z
        exact (List.Nodup.mem_erase_iff hd).mp hx |>.1 rfl
      omega
    by_cases hn : n ∈ l
    · rw [List.length_erase_of_mem hn] at ih
      have : 0 < l.length := List.length_pos_of_mem hn
      omega
    · rw [List.erase_of_not_mem hn] at ih
      omega
def codePO : Option Pr → Nat
  | none => 0
  | some q => 1 + q.1 * 9 + q.2.1 * 3 + q.2.2
theorem keys_len {h : H3} (k : OkH h) {l : List (Option Pr)} (hd : l.Nodup) (ho : ∀ q ∈ l, OkPO h q) : l.length ≤ 37 := by
  have b1 := k.two.one.plan.1.2.1
  have b2 := k.two.one.plan.2.1.2
  have b3 := k.two.two.plan.2.1.2
  have b1 : h.1.1.1.length ≤ 4 := b1
  have b2 : h.1.1.2.length ≤ 3 := b2
  have b3 : h.2.1.1.2.length ≤ 3 := b3
  have bd : ∀ q ∈ l, (q = none ∧ codePO q = 0) ∨ ∃ a b c : Nat, q = some (a, b, c) ∧ a < 4 ∧ b < 3 ∧ c < 3 ∧ codePO q = 1 + a * 9 + b * 3 + c := fun q hq => by
    cases q with
    | none => exact .inl ⟨rfl, rfl⟩
    | some q =>
      obtain ⟨a, b, c⟩ := q
      have := ho _ hq _ rfl
      refine .inr ⟨a, b, c, rfl, ?_, ?_, ?_, rfl⟩
      · have : a < h.1.1.1.length := this.1
        omega
      · have : b < h.1.1.2.length := this.2.1.1
        omega
      · have : c < h.2.1.1.2.length := this.2.2.1
        omega
  have e : (l.map codePO).Nodup := by
    refine List.pairwise_map.mpr (List.Pairwise.imp_of_mem ?_ hd)
    intro p q hp hq hne he
    apply hne
    rcases bd p hp with ⟨rfl, e1⟩ | ⟨a, b, c, rfl, a1, a2, a3, e1⟩ <;> rcases bd q hq with ⟨rfl, e2⟩ | ⟨a', b', c', rfl, a1', a2', a3', e2⟩
    · rfl
    · omega
    · omega
    · have : a = a' := by omega
      have : b = b' := by omega
      have : c = c' := by omega
      subst_vars
      rfl
  have := nodup_len 37 _ e fun x hx => by
    obtain ⟨q, hq, rfl⟩ := List.mem_map.mp hx
    rcases bd q hq with ⟨rfl, e1⟩ | ⟨a, b, c, rfl, a1, a2, a3, e1⟩ <;> omega
  rwa [List.length_map] at this
/-- what holds on the way -/
structure RInv (h : H3) (s : RS) : Prop where
  nd : (keysR s.1).Nodup
  ok : ∀ q ∈ keysR s.1, OkPO h q
  wt : ∀ q ∈ s.2, q ∈ keysR s.1
  pl : ∀ r ∈ s.1, r.2.length + 1 ≤ s.1.length
theorem lookup_mem {r : Rows} {q : Option Pr} (h : q ∈ keysR r) : ∃ p, r.lookup q = some p ∧ (q, p) ∈ r := by
  unfold keysR at h
  induction r with
  | nil => simp at h
  | cons a r ih =>
    obtain ⟨a1, a2⟩ := a
    rw [List.lookup_cons]
    by_cases z : q = a1
    · subst z
      exact ⟨a2, by simp, List.mem_cons_self⟩
    · rw [show (q == a1) = false from beq_false_of_ne z]
      have h' : q ∈ r.map (·.1) := by
        rcases List.mem_cons.mp h with e | e
        · exact absurd e z
        · exact e
      obtain ⟨p, h1, h2⟩ := ih h'
      exact ⟨p, h1, List.mem_cons_of_mem _ h2⟩
theorem RInv.add {h : H3} {s : RS} {q : Option Pr} (r : RInv h s) (hq : q ∈ keysR s.1) {late : Pr} (hl : OkPair h late) : RInv h (addLate q s late) ∧ q ∈ keysR (addLate q s late).1 := by
  unfold addLate
  by_cases z : some late ∈ keysR s.1
  · rw [if_pos z]; exact ⟨r, hq⟩
  · rw [if_neg z]
    have e : keysR (s.1 ++ [(some late, pathOf s.1 q ++ [late.1])]) = keysR s.1 ++ [some late] := by unfold keysR; rw [List.map_append]; rfl
    refine ⟨⟨?_, ?_, ?_, ?_⟩, ?_⟩
    · rw [e]
      refine List.nodup_append.mpr ⟨r.nd, by simp, fun a ha b hb => ?_⟩
      rw [List.mem_singleton] at hb
      subst hb
      exact fun y => z (y ▸ ha)
    · intro p hp
      rw [e] at hp
      rcases List.mem_append.mp hp with hp | hp
      · exact r.ok p hp
      · rw [List.mem_singleton] at hp
        subst hp
        intro w hw; cases hw; exact hl
    · intro p hp
      rw [e]
      rcases List.mem_append.mp hp with hp | hp
      · exact List.mem_append_left _ (r.wt p hp)
      · exact List.mem_append_right _ hp
    · intro p hp
      rw [List.length_append]
      rcases List.mem_append.mp hp with hp | hp
      · have := r.pl p hp
        omega
      · rw [List.mem_singleton] at hp
        subst hp
        obtain ⟨w, w1, w2⟩ := lookup_mem hq
        have := r.pl _ w2
        unfold pathOf
        rw [w1, List.length_append]
        show w.length + 1 + 1 ≤ _
        have : w.length + 1 ≤ s.1.length := this
        show w.length + 1 + 1 ≤ s.1.length + 1
        omega
    · rw [e]; exact List.mem_append_left _ hq
theorem addLate_grow (q : Option Pr) (s : RS) (late : Pr) : ∃ d, (addLate q s late).1.length = s.1.length + d ∧ (addLate q s late).2.length = s.2.length + d := by
  unfold addLate
  by_cases z : some late ∈ keysR s.1
  · rw [if_pos z]; exact ⟨0, rfl, rfl⟩
  · rw [if_neg z]; exact ⟨1, by rw [List.length_append]; rfl, by rw [List.length_append]; rfl⟩
theorem fold_grow (q : Option Pr) : ∀ (ls : List Pr) (s : RS), ∃ d, (ls.foldl (addLate q) s).1.length = s.1.length + d ∧ (ls.foldl (addLate q) s).2.length = s.2.length + d
  | [], s => ⟨0, rfl, rfl⟩
  | l :: ls, s => by
    obtain ⟨d1, a1, a2⟩ := addLate_grow q s l
    obtain ⟨d2, b1, b2⟩ := fold_grow q ls (addLate q s l)
    exact ⟨d1 + d2, by rw [List.foldl_cons, b1, a1]; omega, by rw [List.foldl_cons, b2, a2]; omega⟩
theorem nextsM_ok {h : H3} (k : OkH h) {q : Option Pr} (hq : OkPO h q) {late : Pr} (hl : late ∈ nextsM h q) : OkPair h late := by
  unfold nextsM at hl
  obtain ⟨u, hu, e⟩ := List.mem_filterMap.mp hl
  rw [List.mem_filter, Bool.and_eq_true, decide_eq_true_eq] at hu
  exact nextOf_ok k hq (usesAt_ok k hq (.inl hu.1)) hu.2.1 e
theorem nextsM_len {h : H3} (k : OkH h) {q : Option Pr} (hq : OkPO h q) : (nextsM h q).length ≤ 8 := by
  unfold nextsM
  exact Nat.le_trans (List.length_filterMap_le _ _) (Nat.le_trans (List.length_filter_le _ _) (usesAt_len k hq).1)
theorem fold_inv {h : H3} {q : Option Pr} : ∀ (ls : List Pr) (s : RS), RInv h s → q ∈ keysR s.1 → (∀ l ∈ ls, OkPair h l) → RInv h (ls.foldl (addLate q) s)
  | [], s, r, _, _ => r
  | l :: ls, s, r, hq, ho => by
    obtain ⟨r1, q1⟩ := r.add hq (ho l List.mem_cons_self)
    exact fold_inv ls _ r1 q1 fun x hx => ho x (List.mem_cons_of_mem _ hx)
/-- the state as data -/
def ksR (r : Rows) : List NestedKey := r.map fun x => kPO x.1
def xsR (r : Rows) : List Dat := r.map fun x => .tup (x.2.map eN)
theorem ksR_mem {r : Rows} {q : Option Pr} : kPO q ∈ ksR r ↔ q ∈ keysR r := by
  unfold ksR keysR
  rw [show (r.map fun x => kPO x.1) = (r.map (·.1)).map kPO from by rw [List.map_map]; rfl]
  exact map_mem kPO_inj
theorem ask_po (q : Option Pr) : AskK (kPO q) := by
  cases q with
  | none => exact ⟨.inl rfl, ll rfl⟩
  | some q => exact ⟨.inr ⟨_, rfl⟩, ll rfl⟩
theorem lookup_at {r : Rows} {q : Option Pr} (h : q ∈ keysR r) : ∃ i : Nat, (ksR r)[i]? = some (kPO q) ∧ (xsR r)[i]? = some (.tup ((pathOf r q).map eN)) := by
  unfold keysR at h
  unfold ksR xsR pathOf
  induction r with
  | nil => simp at h
  | cons a r ih =>
    obtain ⟨a1, a2⟩ := a
    rw [List.lookup_cons]
    by_cases z : q = a1
    · subst z
      exact ⟨0, rfl, by simp⟩
    · rw [show (q == a1) = false from beq_false_of_ne z]
      have h' : q ∈ r.map (·.1) := by
        rcases List.mem_cons.mp h with e | e
        · exact absurd e z
        · exact e
      obtain ⟨i, h1, h2⟩ := ih h'
      exact ⟨i + 1, by simpa using h1, by simpa using h2⟩
end Cal
set_option Elab.async false
set_option linter.all false
set_option maxRecDepth 100000
set_option maxHeartbeats 4000000
namespace Cal
open PySem PySem.Spec PyProof.Rows L2
theorem dsK_new {ks : List NestedKey} {k : NestedKey} (h : k ∉ ks) : dsK ks k = ks ++ [k] := by unfold dsK; rw [if_neg h]
theorem dsX_new {ks : List NestedKey} {xs : List Dat} {k : NestedKey} {d : Dat} (h : k ∉ ks) : dsX ks xs k d = xs ++ [d] := by unfold dsX; rw [if_neg h]
theorem emptyPO {w : List (Option Pr)} : (w.map ePO).isEmpty = w.isEmpty := isEmpty_map
section
variable {c : Cfg} {CP CH CA CD : Addr} (B : Glb c CP CH CA CD)
include B
theorem ok_reach : HasM c 7 CH "reach" (spP c (fun a : H3 => [eHeld CP CH a]) OkH fun a => .dic (ksR (reachM a)) (xsR (reachM a))) :=
  hasM_of B.Held_reach (fun _ => rfl) fun h h0 => by
    have h0 : OkH h := h0
    refine ds_cons (d1_par 1 2 (led_disp1 (k := .none) de_non (de_tup da_nil (ll rfl)) (ask_po none)).sx (le_lst (da_cons de_non da_nil) (ll rfl)).sx rfl rfl (by decide) (fun s t e1 e2 => ?_) rfl rfl (fun env he => by cases env; cases he; rfl))
    subst e1 e2
    refine ds_cons (d1_while (m0 := 73) (fun m G => ∃ (s : RS) (k : Nat) (G3 : Slot), RInv h s ∧ m = s.2.length + 2 * (37 - s.1.length) ∧ (m ≤ k ∧ k ≤ 100) ∧ reachF h k s = reachF h 100 ([(none, [])], [none]) ∧ G = [.dat (eHeld CP CH h), .owd (ksR s.1) (xsR s.1), .own (s.2.map ePO), .no, .no]) ⟨([(none, [])], [none]), 100, .no, ⟨by simp [keysR], fun q hq => ?_, fun q hq => hq, fun r hr => ?_⟩, rfl, ⟨by decide, by decide⟩, rfl, rfl⟩ (fun m G ⟨s, k, G3, r, em, ⟨hk, hk2⟩, hF, eG⟩ => ?_))
    · unfold keysR at hq; rw [List.map_singleton, List.mem_singleton] at hq; subst hq
      intro r hr; cases hr
    · rw [List.mem_singleton] at hr; subst hr; exact Nat.le_refl 1
    · subst eG
      obtain ⟨rows, w⟩ := s
      refine ⟨_, dt_cmp (c_neNil (inj_po.all _)) (ro 2 rfl) (le_lst da_nil (ll rfl)).re, fun hb => ?_, fun hb => ?_⟩
      · cases w with
        | nil => cases hb
        | cons q w =>
          have hqk : q ∈ keysR rows := r.wt q List.mem_cons_self
          have hqo : OkPO h q := r.ok q hqk
          have hlen : rows.length ≤ 37 := by
            have := keys_len h0 r.nd r.ok
            unfold keysR at this
            rwa [List.length_map] at this
          refine ds_cons (d1_setM 3 (dm_pop0 2 rfl rfl (.inl rfl)) rfl fun d G' ⟨z1, z2⟩ => ?_)
          subst z1 z2
          refine ds_cons (d1_for (as := nextsM h q) (enc := ePr) (fun rem G => ∃ done, nextsM h q = done ++ rem ∧ RInv h (done.foldl (addLate q) (rows, w)) ∧ q ∈ keysR (done.foldl (addLate q) (rows, w)).1 ∧ G = [.dat (eHeld CP CH h), .owd (ksR (done.foldl (addLate q) (rows, w)).1) (xsR (done.foldl (addLate q) (rows, w)).1), .own ((done.foldl (addLate q) (rows, w)).2.map ePO), .dat (ePO q), .no])
            (it_list (de_methS (ok_nexts B) B.k_Held (dv 0 rfl) (da_cons (dv 3 rfl) da_nil) (h, q) rfl ⟨h0, hqo⟩ (ll rfl))) ⟨[], rfl, ⟨r.nd, r.ok, fun p hp => r.wt p (List.mem_cons_of_mem _ hp), r.pl⟩, hqk, rfl⟩ (fun late rem G ⟨done, e1, r1, q1, e2⟩ => ?_) (fun G ⟨done, e1, r1, q1, e2⟩ => ?_))
          · subst e2
            refine ⟨_, dn 4, ?_⟩
            have hl : late ∈ nextsM h q := by rw [e1]; simp
            have hlo := nextsM_ok h0 hqo hl
            have st : (done ++ [late]).foldl (addLate q) (rows, w) = addLate q (done.foldl (addLate q) (rows, w)) late := by rw [List.foldl_append]; rfl
            have r2 := r1.add q1 hlo
            generalize hs : done.foldl (addLate q) (rows, w) = s at *
            obtain ⟨f, wt⟩ := s
            have hfl : f.length ≤ 37 := by
              have := keys_len h0 r1.nd r1.ok
              unfold keysR at this
              rwa [List.length_map] at this
            refine ds_cons (d1_if (dt_cmp (c_notinD (k := kPO (some late)) (ask_po _)) (dv 4 rfl).re (rd 1 rfl)) (fun hn => ?_) fun hn => ds_nil (ds_nil ?_))
            · have hn' : some late ∉ keysR f := fun z => by
                rw [decide_eq_true (ksR_mem.mpr z)] at hn; cases hn
              have hnk : kPO (some late) ∉ ksR f := fun z => hn' (ksR_mem.mp z)
              obtain ⟨i, i1, i2⟩ := lookup_at q1
              have hpl : (pathOf f q).length ≤ 37 := by
                obtain ⟨p, p1, p2⟩ := lookup_mem q1
                have := r1.pl _ p2
                unfold pathOf
                rw [p1]
                have : p.length + 1 ≤ f.length := this
                show p.length ≤ 37
                omega
              refine ds_cons (d1_setD (k := kPO (some late)) (d := .tup ((pathOf f q ++ [late.1]).map eN)) 1 rfl rfl (.inl rfl) ((de_tup (star_tup (de_getD (k := kPO q) (rd 1 rfl) ((dv 3 rfl).is (kd_po q).symm) (ask_po q) i1 i2) (da_cons (de_ixT (dv 4 rfl) de_int rfl) da_nil)) ?_).is ?_) (dv 4 rfl) (ask_po _) ?_ ?_)
              · rw [List.length_append, List.length_map]
                have : (pathOf (f, wt).1 q).length ≤ 37 := hpl
                show _ + 1 ≤ _
                omega
              · rw [List.map_append]; rfl
              · unfold ksR; rw [List.length_map]; exact Nat.le_trans hfl (ll rfl)
              · refine ds_cons (d1_append (d := ePO (some late)) 2 rfl rfl (.inl rfl) (dv 4 rfl) ?_ (ds_nil (ds_nil ?_)))
                · rw [List.length_map]
                  obtain ⟨d, d1, d2⟩ := fold_grow q done (rows, w)
                  rw [hs] at d1 d2
                  have d1 : f.length = rows.length + d := d1
                  have d2 : wt.length = w.length + d := d2
                  have em : m = (w.length + 1) + 2 * (37 - rows.length) := em
                  show wt.length ≤ 1000000
                  omega
                · have e3 : addLate q (f, wt) late = (f ++ [(some late, pathOf f q ++ [late.1])], wt ++ [some late]) := by unfold addLate; rw [if_neg hn']
                  refine ⟨_, ?_, done ++ [late], by rw [e1, List.append_assoc]; rfl, by rw [st]; exact r2.1, by rw [st]; exact r2.2, rfl⟩
                  rw [st, e3, dsK_new hnk, dsX_new hnk]
                  show Wk _ [_, .owd (ksR (f ++ _)) (xsR (f ++ _)), .own ((wt ++ [some late]).map ePO), _, _]
                  have k1 : ksR (f ++ [(some late, pathOf f q ++ [late.1])]) = ksR f ++ [kPO (some late)] := by unfold ksR; rw [List.map_append]; rfl
                  have k2 : xsR (f ++ [(some late, pathOf f q ++ [late.1])]) = xsR f ++ [.tup ((pathOf f q ++ [late.1]).map eN)] := by unfold xsR; rw [List.map_append]; rfl
                  have k3 : (wt ++ [some late]).map ePO = wt.map ePO ++ [ePO (some late)] := by rw [List.map_append]; rfl
                  rw [k1, k2, k3]
                  exact wk_eq (wk_eq (wk_eq (wk_eq (wk_no wk_nil))))
            · have hn' : some late ∈ keysR f := by
                by_cases z : some late ∈ keysR f
                · exact z
                · rw [decide_eq_false (fun y => z (ksR_mem.mp y))] at hn; cases hn
              have e3 : addLate q (f, wt) late = (f, wt) := by unfold addLate; rw [if_pos hn']
              refine ⟨_, ?_, done ++ [late], by rw [e1, List.append_assoc]; rfl, by rw [st]; exact r2.1, by rw [st]; exact r2.2, rfl⟩
              rw [st, e3]
              exact wk_eq (wk_eq (wk_eq (wk_eq (wk_no wk_nil))))
          · subst e2
            rw [List.append_nil] at e1
            rw [← e1] at r1
            obtain ⟨d, d1, d2⟩ := fold_grow q (nextsM h q) (rows, w)
            have d1 : ((nextsM h q).foldl (addLate q) (rows, w)).1.length = rows.length + d := d1
            have d2 : ((nextsM h q).foldl (addLate q) (rows, w)).2.length = w.length + d := d2
            have em : m = (w.length + 1) + 2 * (37 - rows.length) := em
            have h37 : ((nextsM h q).foldl (addLate q) (rows, w)).1.length ≤ 37 := by
              have := keys_len h0 r1.nd r1.ok
              unfold keysR at this
              rwa [List.length_map] at this
            have lt : ((nextsM h q).foldl (addLate q) (rows, w)).2.length + 2 * (37 - ((nextsM h q).foldl (addLate q) (rows, w)).1.length) < m := by omega
            refine ds_nil ⟨_, ((nextsM h q).foldl (addLate q) (rows, w)).2.length + 2 * (37 - ((nextsM h q).foldl (addLate q) (rows, w)).1.length), ?_, lt, (nextsM h q).foldl (addLate q) (rows, w), k - 1, .no, r1, rfl, ⟨by omega, by omega⟩, ?_, rfl⟩
            · rw [← e1]
              exact wk_eq (wk_eq (wk_eq (wk_no (wk_no wk_nil))))
            · rw [← hF]
              obtain ⟨k', rfl⟩ : ∃ k', k = k' + 1 := ⟨k - 1, by omega⟩
              rfl
      · cases w with
        | cons q w => cases hb
        | nil =>
          rw [reachF_nil] at hF
          have e : reachM h = rows := by unfold reachM; rw [← hF]
          refine ds_freezeD 1 rfl ?_
          rw [e]
          exact ds_cons (d1_ret (dv 1 rfl) rfl)
end
end Cal
set_option Elab.async false
set_option linter.all false
set_option maxRecDepth 100000
set_option maxHeartbeats 4000000
namespace Cal
open PySem PySem.Spec PyProof.Rows L2
/-! ### parted -/
abbrev Fk := Use × Fork × List Nat
def eFk (x : Fk) : Dat := .tup [eUse x.1, eFork x.2.1, .tup (x.2.2.map eN)]
def eWays (w : List Way) : Dat := .tup (w.map eWay)
def told2 : List Str := ["read", "take"]
def useStep (h : H3) (q : Option Pr) (row : List Nat) (s : List Fk) (u : Use) : Except (List Way) (List Fk) :=
  if (!decide (u ∈ (usesAt h q).1) || (!decide (u ∈ (usesAt h q).2) || !isEven (forkM h (modsOf q) u))) = true then .error [(row, u)]
  else if (decide (u.1 ∈ told2) && areMods (forkM h (modsOf q) u)) = true then
    match first? (fun e : Fk => decide (e.1 = u) && crossed (forkM h (modsOf q) u) e.2.1) s with
    | some e => .error [(e.2.2, e.1), (row, u)]
    | none => .ok (s ++ [(u, forkM h (modsOf q) u, row)])
  else .ok s
def runU (h : H3) (q : Option Pr) (row : List Nat) : List Use → List Fk → Except (List Way) (List Fk)
  | [], s => .ok s
  | u :: us, s => match useStep h q row s u with
    | .error e => .error e
    | .ok s' => runU h q row us s'
def allUses (h : H3) (q : Option Pr) : List Use := srt eUse (dd ((usesAt h q).1 ++ (usesAt h q).2))
def runR (h : H3) : Rows → List Fk → Except (List Way) (List Fk)
  | [], s => .ok s
  | x :: rs, s => match runU h x.1 x.2 (allUses h x.1) s with
    | .error e => .error e
    | .ok s' => runR h rs s'
def apartM (h : H3) (rows : Rows) : Option (List Way) := match runR h rows [] with
  | .error w => some w
  | .ok _ => none
theorem items_rows : ∀ rows : Rows, itemsD (ksR rows) (xsR rows) = rows.map fun x => .tup [ePO x.1, .tup (x.2.map eN)]
  | [] => rfl
  | x :: r => by
    show Dat.tup [kd (kPO x.1), _] :: itemsD (ksR r) (xsR r) = _
    rw [items_rows r, kd_po]; rfl
theorem allUses_len {h : H3} (k : OkH h) {q : Option Pr} (hq : OkPO h q) : (allUses h q).length ≤ 16 := by
  unfold allUses
  rw [srt_len]
  have := usesAt_len k hq
  have h2 := dd_len ((usesAt h q).1 ++ (usesAt h q).2)
  rw [List.length_append] at h2
  omega
section
variable {c : Cfg} {CP CH CA CD : Addr} (B : Glb c CP CH CA CD)
include B
theorem ok_apart_by : HasM c 6 CH "apart_by" (spP c (fun a : H3 × Rows => [eHeld CP CH a.1, .dic (ksR a.2) (xsR a.2)]) (fun a => OkH a.1 ∧ a.2.length ≤ 37 ∧ ∀ q ∈ keysR a.2, OkPO a.1 q) fun a => eO eWays (apartM a.1 a.2)) :=
  hasM_of B.Held_apart_by (fun _ => rfl) fun ⟨h, rows⟩ ⟨h0, hl, hk⟩ => by
    have h0 : OkH h := h0
    have hl : rows.length ≤ 37 := hl
    have hk : ∀ q ∈ keysR rows, OkPO h q := hk
    refine ds_cons (d1_own 2 (le_lst da_nil (ll rfl)) rfl ?_)
    refine ds_cons (d1_for (as := rows) (enc := fun x => .tup [ePO x.1, .tup (x.2.map eN)]) (fun rem G => ∃ (s : List Fk) (done : Rows), rows = done ++ rem ∧ s.length + 16 * rem.length ≤ 592 ∧ runR h rem s = runR h rows [] ∧ G = [.dat (eHeld CP CH h), .dat (.dic (ksR rows) (xsR rows)), .own (s.map eFk), .no, .no, .no, .no, .no, .no, .no, .no, .no])
      ((it_di (dv 1 rfl)).is (items_rows rows)) ⟨[], [], rfl, by show 0 + 16 * rows.length ≤ 592; omega, rfl, rfl⟩ (fun x rem G ⟨s, done, e1, e2, e3, e4⟩ => ?_) (fun G ⟨s, done, e1, e2, e3, e4⟩ => ?_))
    · subst e4
      obtain ⟨q, row⟩ := x
      have hq : OkPO h q := hk q (by rw [e1]; unfold keysR; rw [List.map_append]; simp)
      refine ⟨_, dn2 (dn 3) (dn 4), ?_⟩
      refine ds_cons (d1_tgE (de_methS (ok_uses_at B) B.k_Held (dv 0 rfl) (da_cons (dv 3 rfl) da_nil) (h, q) rfl ⟨h0, hq⟩ (ll rfl)) (dn2 (dn 5) (dn 6)) ?_)
      have hul := usesAt_len h0 hq
      refine ds_cons (d1_for (as := allUses h q) (enc := eUse) (fun us G => ∃ (s : List Fk) (dn : List Use), allUses h q = dn ++ us ∧ s.length + us.length + 16 * rem.length ≤ 592 ∧ (match runU h q row us s with | .error e => .error e | .ok s' => runR h rem s') = runR h rows [] ∧ G = [.dat (eHeld CP CH h), .dat (.dic (ksR rows) (xsR rows)), .own (s.map eFk), .dat (ePO q), .dat (.tup (row.map eN)), .dat (.lst ((usesAt h q).1.map eUse)), .dat (.lst ((usesAt h q).2.map eUse)), .no, .no, .no, .no, .no])
        (it_list (((le_sortedD (ks := (dd ((usesAt h q).1 ++ (usesAt h q).2)).map kUse) B.b_sorted ((led_comp [("use", 7)] eUse ((usesAt h q).1 ++ (usesAt h q).2) kUse (fun _ => .bl true) (it_list ((le_lst (star_lst (dv 5 rfl).re (star_lst (dv 6 rfl).re da_nil)) (by rw [List.length_append, List.length_append, List.length_map, List.length_map]; show (usesAt h q).1.length + ((usesAt h q).2.length + 0) ≤ 100000; omega)).de.is (by rw [List.append_nil, List.map_append]))) (by rw [List.length_append]; omega) (fun u hu => ⟨[(7, eUse u)], dn 7, fun k hk => hk, dv 7 rfl, de_bl, .inr ⟨_, rfl⟩, (ll rfl)⟩) rfl).is (dsAll_map kUse_inj _) rfl).re (by
          rw [List.map_map]
          exact srt_use.ok (ll rfl) _ (Nat.le_trans (dd_len _) (by rw [List.length_append]; omega)))).is (by rw [List.map_map]; exact sortD_map _)).de)) ⟨s, [], rfl, ?_, e3, rfl⟩ (fun u us G ⟨s, dn', e1', e2', e3', e4'⟩ => ?_) (fun G ⟨s, dn', e1', e2', e3', e4'⟩ => ?_))
      · have := allUses_len h0 hq
        rw [List.length_cons] at e2
        omega
      · subst e4'
        refine ⟨_, dn 7, ?_⟩
        have hu : u ∈ (usesAt h q).1 ∨ u ∈ (usesAt h q).2 := by
          have : u ∈ allUses h q := by rw [e1']; simp
          exact List.mem_append.mp (dd_mem.mp (srt_mem.mp this))
        have hok := usesAt_ok h0 hq hu
        have st : runU h q row (u :: us) s = match useStep h q row s u with | .error e => .error e | .ok s' => runU h q row us s' := rfl
        rw [st] at e3'
        refine ds_cons (d1_asg 8 (de_methS (ok_fork B) B.k_Held (dv 0 rfl) (da_cons (de_methS (ok_modules_of B) B.k_Held (dv 0 rfl) (da_cons (dv 3 rfl) da_nil) (h, q) rfl trivial (ll rfl)) (da_cons (dv 7 rfl) da_nil)) (h, modsOf q, u) rfl ⟨h0, hok.lt, modsOf_lt hq⟩ (ll rfl)) rfl ?_)
        refine ds_cons (d1_if (dt_w (dw_or (dt_cmp (c_notinLE inj_use (ll rfl) u (usesAt h q).1) (rv 7 rfl) (rv 5 rfl)) fun _ => dw_or (dt_cmp (c_notinLE inj_use (ll rfl) u (usesAt h q).2) (rv 7 rfl) (rv 6 rfl)) fun _ => dw_or1 (dt_not (dt_val (de_call (ok_is_even B) (forkM h (modsOf q) u) trivial (ll rfl) (da_cons (dv 8 rfl) da_nil)))))) (fun hb => ?_) fun hb => ds_nil ?_)
        · have es : useStep h q row s u = .error [(row, u)] := by unfold useStep; rw [if_pos hb]
          rw [es] at e3'
          have er : apartM h rows = some [(row, u)] := by unfold apartM; rw [← e3']
          exact ds_cons (d1_ret (de_tup (da_cons (de_tup (da_cons (dv 4 rfl) (da_cons (dv 7 rfl) da_nil)) (ll rfl)) da_nil) (ll rfl)) (by show _ = eO eWays (apartM h rows); rw [er]; rfl))
        · refine ds_cons (d1_if (dt_w (dw_and (dt_cmp (c_inE inj_str (ll rfl) u.1 told2) (de_ixT (dv 7 rfl) de_int rfl).re (dgT B.g_TOLD).re) fun _ => dw_and1 (dt_val (de_call (ok_are_mods B) (forkM h (modsOf q) u) trivial (ll rfl) (da_cons (dv 8 rfl) da_nil))))) (fun hc => ?_) fun hc => ds_nil ?_)
          · refine ds_cons (d1_first (as := s) (enc := eFk) 2 rfl rfl (.inl rfl) [9, 10, 11] (by decide) (fun e : Fk => decide (e.1 = u) && crossed (forkM h (modsOf q) u) e.2.1) (fun e he => ⟨[(9, eUse e.1), (10, eFork e.2.1), (11, .tup (e.2.2.map eN))], dn3 (dn 9) (dn 10) (dn 11), fun k hk => hk, (dt_w (dw_and (dt_cmp (c_eqE inj_use (ll rfl) e.1 u) (rv 9 rfl) (rv 7 rfl)) fun _ => dw_and1 (dt_val (de_call (ok_are_crossed B) (forkM h (modsOf q) u, e.2.1) trivial (ll rfl) (da_cons (dv 8 rfl) (da_cons (dv 10 rfl) da_nil)))))), fun ht ⟨i, hi1, hi2⟩ => ⟨_, de_tup (da_cons (de_tup (da_cons (dv 11 rfl) (da_cons (dv 9 rfl) da_nil)) (ll rfl)) (da_cons (de_tup (da_cons (dv 4 rfl) (da_cons (dv 7 rfl) da_nil)) (ll rfl)) da_nil)) (ll rfl), ?_⟩⟩) (fun hno => ?_))
            · have es : useStep h q row s u = .error [(e.2.2, e.1), (row, u)] := by unfold useStep; rw [if_neg (by rw [show _ = false from hb]; exact Bool.false_ne_true), if_pos hc, first_at hi1 hi2 ht]
              rw [es] at e3'
              have er : apartM h rows = some [(e.2.2, e.1), (row, u)] := by unfold apartM; rw [← e3']
              show _ = eO eWays (apartM h rows)
              rw [er]; rfl
            · have es : useStep h q row s u = .ok (s ++ [(u, forkM h (modsOf q) u, row)]) := by unfold useStep; rw [if_neg (by rw [show _ = false from hb]; exact Bool.false_ne_true), if_pos hc, first_none hno]
              rw [es] at e3'
              rw [List.length_cons] at e2'
              refine ds_cons (d1_append (d := eFk (u, forkM h (modsOf q) u, row)) 2 rfl rfl (.inl rfl) (de_tup (da_cons (dv 7 rfl) (da_cons (dv 8 rfl) (da_cons (dv 4 rfl) da_nil))) (ll rfl)) (by rw [List.length_map]; omega) (ds_nil (ds_nil ⟨_, ?_, s ++ [(u, forkM h (modsOf q) u, row)], dn' ++ [u], by rw [e1', List.append_assoc]; rfl, by rw [List.length_append]; show s.length + 1 + _ + _ ≤ _; omega, e3', rfl⟩)))
              rw [show (s ++ [(u, forkM h (modsOf q) u, row)]).map eFk = s.map eFk ++ [eFk (u, forkM h (modsOf q) u, row)] from by rw [List.map_append]; rfl]
              exact wk_eq (wk_eq (wk_eq (wk_eq (wk_eq (wk_eq (wk_eq (wk_no (wk_no (wk_no (wk_no (wk_no wk_nil)))))))))))
          · have es : useStep h q row s u = .ok s := by unfold useStep; rw [if_neg (by rw [show _ = false from hb]; exact Bool.false_ne_true), if_neg (by rw [show _ = false from hc]; exact Bool.false_ne_true)]
            rw [es] at e3'
            rw [List.length_cons] at e2'
            exact ds_nil ⟨_, wk_eq (wk_eq (wk_eq (wk_eq (wk_eq (wk_eq (wk_eq (wk_no (wk_no (wk_no (wk_no (wk_no wk_nil))))))))))), s, dn' ++ [u], by rw [e1', List.append_assoc]; rfl, by omega, e3', rfl⟩
      · subst e4'
        refine ds_nil ⟨_, wk_eq (wk_eq (wk_eq (wk_no (wk_no (wk_no (wk_no (wk_no (wk_no (wk_no (wk_no (wk_no wk_nil))))))))))), s, done ++ [(q, row)], by rw [e1, List.append_assoc]; rfl, by rw [List.length_nil] at e2'; omega, e3', rfl⟩
    · subst e4
      have er : apartM h rows = none := by unfold apartM; rw [← e3]; rfl
      exact ds_cons (d1_ret de_non (by show _ = eO eWays (apartM h rows); rw [er]; rfl))
end
end Cal
set_option Elab.async false
set_option linter.all false
set_option maxRecDepth 100000
set_option maxHeartbeats 4000000
namespace Cal
open PySem PySem.Spec PyProof.Rows L2
/-! ### pairs that are told, ways -/
def OkPairC (h : H3) (q : Pr) : Prop := OkPair h q ∧ h.1.1.1[q.1]? = some ("call" : Str)
theorem nextOf_call {h : H3} {q : Option Pr} {u : Use} (hu : OkUse h.1.1.1 u) (hc : u.1 = "call") {r : Pr} (e : nextOf h q u = some r) : h.1.1.1[r.1]? = some ("call" : Str) := by
  unfold nextOf at e
  simp only at e
  split at e
  · cases e
    obtain ⟨_, s, h2, h3⟩ := hu
    have hs : s = "call" := by rw [hc] at h3; simpa [sortOf] using h3
    rw [hs] at h2
    exact h2
  · cases e
theorem nextsM_okC {h : H3} (k : OkH h) {q : Option Pr} (hq : OkPO h q) {late : Pr} (hl : late ∈ nextsM h q) : OkPairC h late := by
  refine ⟨nextsM_ok k hq hl, ?_⟩
  unfold nextsM at hl
  obtain ⟨u, hu, e⟩ := List.mem_filterMap.mp hl
  rw [List.mem_filter, Bool.and_eq_true, decide_eq_true_eq] at hu
  exact nextOf_call (usesAt_ok k hq (.inl hu.1)) hu.2.1 e
/-- where a row of names ends -/
def endF (h : H3) (q : Option Pr) : List Nat → Option (Option Pr)
  | [] => some q
  | n :: r => match (nextsM h q).filter fun l => decide (l.1 = n) with
    | [] => none
    | l :: _ => endF h (some l) r
def eEnd : Option (Option Pr) → Dat
  | none => .bl false
  | some q => ePO q
def forkOf (h : H3) (w : Way) : Nat × Option Fork := match endF h none w.1 with
  | none => (0, none)
  | some q => ((if w.2 ∈ (usesAt h q).1 then 1 else 0) + (if w.2 ∈ (usesAt h q).2 then 1 else 0), some (forkM h (modsOf q) w.2))
def eFO (x : Nat × Option Fork) : Dat := .tup [eN x.1, eO eFork x.2]
theorem endF_ok {h : H3} (k : OkH h) : ∀ (r : List Nat) {q e : Option Pr}, OkPO h q → endF h q r = some e → OkPO h e
  | [], q, e, hq, he => by unfold endF at he; cases he; exact hq
  | n :: r, q, e, hq, he => by
    unfold endF at he
    split at he
    · cases he
    · rename_i l ls z
      have hl : l ∈ nextsM h q := (List.mem_filter.mp (by rw [z]; exact List.mem_cons_self)).1
      exact endF_ok k r (fun r hr => by cases hr; exact nextsM_ok k hq hl) he
theorem okNone (h : H3) : OkPO h none := fun r hr => by cases hr
section
variable {c : Cfg} {CP CH CA CD : Addr} (B : Glb c CP CH CA CD)
include B
theorem ok_is_pair : Has c 4 "is_pair" (spP c (fun a : H3 × Pr => [eHeld CP CH a.1, ePr a.2]) (fun a => OkH a.1 ∧ OkPairC a.1 a.2) fun _ => .bl true) :=
  has_of B.is_pair (fun _ => rfl) fun ⟨h, q⟩ ⟨h0, hq, hc⟩ => by
    have h0 : OkH h := h0
    have hq : OkPair h q := hq
    have hc : h.1.1.1[q.1]? = some ("call" : Str) := hc
    obtain ⟨q1, ⟨q2, q2'⟩, q3, q3'⟩ := hq
    have hl : h.1.1.1.length ≤ 4 := h0.two.one.plan.1.2.1
    refine ds_cons (d1_par 2 3 (DE.sx (d := eProg CP h.1.1) (de_ixT (de_ixT (d := eBld CP h.1) (de_builds B (dv 0 rfl)) de_int rfl) de_int rfl)) (DE.sx (d := eProg CP h.2.1.1) (de_ixT (de_ixT (d := eBld CP h.2.1) (de_builds B (dv 0 rfl)) de_int rfl) de_int rfl)) rfl rfl (by decide) (fun s t e1 e2 => ?_) rfl rfl (fun env he => by cases env; cases he; rfl))
    subst e1 e2
    refine ds_cons (d1_if (dt_w (dw_or (dt_not (dt_val (de_call (ok_is_number B) (q.1, 0, (h.1.1.1.length : Int) - 1) trivial (ll rfl) (da_cons (de_ixT (dv 1 rfl) de_int rfl) (da_cons de_int (da_cons (de_sub (de_plen B (dv 2 rfl) hl (ll rfl)) de_int) da_nil)))))) fun _ => dw_or1 (dt_cmp (c_neE inj_str (ll rfl) _ "call") (de_ixT (de_psorts B (dv 2 rfl) (ll rfl)) (de_ixT (dv 1 rfl) de_int rfl) (atI_map hc)).re de_str.re))) (fun hb => ?_) fun _ => ds_nil ?_)
    · exfalso; simp [isNum] at hb; omega
    refine ds_cons (d1_if (dt_w (dw_or (dt_not (dt_val (de_call (ok_is_number B) (q.2.1, 0, (h.1.1.2.length : Int) - 1) trivial (ll rfl) (da_cons (de_ixT (dv 1 rfl) de_int rfl) (da_cons de_int (da_cons (de_sub ((de_lenT B.b_len (de_pmods B (dv 2 rfl) (ll rfl)).re).is (by rw [List.length_map])) de_int) da_nil)))))) fun _ => dw_or1 (dt_not (dt_val (de_call (ok_is_number B) (q.2.2, 0, (h.2.1.1.2.length : Int) - 1) trivial (ll rfl) (da_cons (de_ixT (dv 1 rfl) de_int rfl) (da_cons de_int (da_cons (de_sub ((de_lenT B.b_len (de_pmods B (dv 3 rfl) (ll rfl)).re).is (by rw [List.length_map])) de_int) da_nil)))))))) (fun hb => ?_) fun _ => ds_nil ?_)
    · exfalso; simp [isNum] at hb; omega
    refine ds_cons (d1_ret (de_and (de_cmp c_notN (de_meth (ok_found B) B.k_Program (dv 2 rfl) (da_cons (de_ixT (dv 1 rfl) de_int rfl) (da_cons (de_ixT (dv 1 rfl) de_int rfl) da_nil)) (h.1.1, q.2.1, q.1) rfl ⟨h0.two.one.plan, q2⟩ (ll rfl) (fun vs => by cases vs <;> rfl)).re de_non.re) fun _ => de_one (de_cmp c_notN (de_meth (ok_found B) B.k_Program (dv 3 rfl) (da_cons (de_ixT (dv 1 rfl) de_int rfl) (da_cons (de_ixT (dv 1 rfl) de_int rfl) da_nil)) (h.2.1.1, q.2.2, q.1) rfl ⟨h0.two.two.plan, q3⟩ (ll rfl) (fun vs => by cases vs <;> rfl)).re de_non.re)) ?_)
    show Dat.bl (!isNon (eO eRow (foundR h.1.1.2 q.2.1 q.1)) && !isNon (eO eRow (foundR h.2.1.1.2 q.2.2 q.1))) = Dat.bl true
    cases z1 : foundR h.1.1.2 q.2.1 q.1 with
    | none => exact absurd z1 q2'
    | some r1 => cases z2 : foundR h.2.1.1.2 q.2.2 q.1 with
      | none => exact absurd z2 q3'
      | some r2 => rfl
theorem ok_end_of : Has c 7 "end_of" (spP c (fun a : H3 × List Nat => [eHeld CP CH a.1, .tup (a.2.map eN)]) (fun a => OkH a.1) fun a => eEnd (endF a.1 none a.2)) :=
  has_of B.end_of (fun _ => rfl) fun ⟨h, row⟩ h0 => by
    have h0 : OkH h := h0
    refine ds_cons (d1_asg 2 de_non rfl ?_)
    refine ds_cons (d1_for (as := row) (enc := eN) (fun rem G => ∃ q, OkPO h q ∧ endF h q rem = endF h none row ∧ G = [.dat (eHeld CP CH h), .dat (.tup (row.map eN)), .dat (ePO q), .no, .no, .no]) (it_tup (dv 1 rfl)) ⟨none, okNone h, rfl, rfl⟩ (fun n rem G ⟨q, hq, e1, e2⟩ => ?_) (fun G ⟨q, hq, e1, e2⟩ => ?_))
    · subst e2
      refine ⟨_, dn 3, ?_⟩
      have st : endF h q (n :: rem) = match (nextsM h q).filter fun l => decide (l.1 = n) with | [] => none | l :: _ => endF h (some l) rem := rfl
      rw [st] at e1
      refine ds_cons (d1_comp1 4 5 ePr (nextsM h q) (fun l => decide (l.1 = n)) ePr (it_list (de_methS (ok_nexts B) B.k_Held (dv 0 rfl) (da_cons (dv 2 rfl) da_nil) (h, q) rfl ⟨h0, hq⟩ (ll rfl))) (Nat.le_trans (nextsM_len h0 hq) (ll rfl)) (fun l hl => dt_cmp (c_eqE inj_nat (ll rfl) l.1 n) (de_ixT (dv 5 rfl) de_int rfl).re (rv 3 rfl)) (fun l hl _ => dv 5 rfl) ?_)
      refine ds_cons (d1_if (dt_cmp (c_eqNil (inj_pr.all _)) (ro 4 rfl) (le_lst da_nil (ll rfl)).re) (fun hb => ?_) fun hb => ds_nil ?_)
      · rw [isEmpty_map, List.isEmpty_iff] at hb
        rw [hb] at e1
        refine ds_cons (d1_ret de_bl ?_)
        show _ = eEnd (endF h none row)
        rw [← e1]; rfl
      · cases z : (nextsM h q).filter fun l => decide (l.1 = n) with
        | nil => rw [z] at hb; cases hb
        | cons l ls =>
          rw [z] at e1
          have hl : l ∈ nextsM h q := (List.mem_filter.mp (by rw [z]; exact List.mem_cons_self)).1
          refine ds_cons (d1_asg 2 (d := ePO (some l)) (de_ixL (ro 4 rfl) de_int (atI_map (n := 0) rfl)) rfl (ds_nil ⟨_, ?_, some l, fun r hr => by cases hr; exact nextsM_ok h0 hq hl, e1, rfl⟩))
          exact wk_eq (wk_eq (wk_eq (wk_no (wk_no (wk_no wk_nil)))))
    · subst e2
      refine ds_cons (d1_ret (dv 2 rfl) ?_)
      show _ = eEnd (endF h none row)
      rw [← e1]; rfl
end
end Cal
set_option Elab.async false
set_option linter.all false
set_option maxRecDepth 100000
set_option maxHeartbeats 4000000
namespace Cal
open PySem PySem.Spec PyProof.Rows L2
def oneOrBoth (x : Nat × Option Fork) : Bool := decide (x.1 = 1) || (decide (x.1 = 2) && match x.2 with | some f => !isEven f | none => false)
def both (x : Nat × Option Fork) : Bool := decide (x.1 = 2) && match x.2 with | some f => areMods f | none => false
/-- the answer of are_ways -/
def areWays (h : H3) : List Way → Bool
  | [w] => oneOrBoth (forkOf h w)
  | [w, v] => (decide (w.2 = v.2) && decide (w.2.1 ∈ told2)) && ((both (forkOf h w) && both (forkOf h v)) && match (forkOf h w).2, (forkOf h v).2 with | some f, some g => crossed f g | _, _ => false)
  | _ => false
theorem inj_way : Inj 2 eWay := inj_tup2 (inj_list inj_nat |>.up (by decide)) (inj_use)
theorem fork_two {h : H3} {w : Way} (e : (forkOf h w).1 = 2 ∨ (forkOf h w).1 = 1) : ∃ f, (forkOf h w).2 = some f := by
  unfold forkOf at e ⊢
  split at e
  · rcases e with e | e <;> cases e
  · exact ⟨_, rfl⟩
theorem isBl_po (q : Option Pr) : isBl false (ePO q) = false := by cases q <;> rfl
theorem isObj_end (e : Option (Option Pr)) : isObjD (eEnd e) = true := by
  cases e with
  | none => rfl
  | some q => cases q <;> rfl
section
variable {c : Cfg} {CP CH CA CD : Addr} (B : Glb c CP CH CA CD)
include B
theorem ok_fork_of : Has c 8 "fork_of" (spP c (fun a : H3 × Way => [eHeld CP CH a.1, eWay a.2]) (fun a => OkH a.1 ∧ OkUse a.1.1.1.1 a.2.2) fun a => eFO (forkOf a.1 a.2)) :=
  has_of B.fork_of (fun _ => rfl) fun ⟨h, w⟩ ⟨h0, hu⟩ => by
    have h0 : OkH h := h0
    have hu : OkUse h.1.1.1 w.2 := hu
    refine ds_cons (d1_tgE (dv 1 rfl) (dn2 (dn 2) (dn 3)) ?_)
    refine ds_cons (d1_asg 4 (de_call (ok_end_of B) (h, w.1) h0 (ll rfl) (da_cons (dv 0 rfl) (da_cons (dv 2 rfl) da_nil))) rfl ?_)
    refine ds_cons (d1_if (dt_w (dw_or (dt_cmp (c_isB (isObj_end _)) (rv 4 rfl) de_bl.re) fun _ => dw_or1 (dt_not (dt_val (de_call (ok_can_use B) (h.1.1.1, w.2) hu (ll rfl) (da_cons (de_psorts B (de_ixT (d := eProg CP h.1.1) (de_ixT (d := eBld CP h.1) (de_builds B (dv 0 rfl)) de_int rfl) de_int rfl) (ll rfl)) (da_cons (de_ixT (dv 3 rfl) de_int rfl) (da_cons (de_ixT (dv 3 rfl) de_int rfl) da_nil)))))))) (fun hb => ?_) fun hb => ds_nil ?_)
    · cases z : endF h none w.1 with
      | none =>
        refine ds_cons (d1_ret (de_tup (da_cons de_int (da_cons de_non da_nil)) (ll rfl)) ?_)
        show _ = eFO (forkOf h w)
        unfold forkOf
        rw [z]; rfl
      | some q =>
        exfalso
        have hb : (isBl false (eEnd (endF h none w.1)) || !true) = true := hb
        rw [z, show eEnd (some q) = ePO q from rfl, isBl_po] at hb
        cases hb
    · cases z : endF h none w.1 with
      | none =>
        exfalso
        have hb : (isBl false (eEnd (endF h none w.1)) || !true) = false := hb
        rw [z] at hb; cases hb
      | some q =>
        have hq : OkPO h q := endF_ok h0 w.1 (okNone h) z
        have e4 : eEnd (some q) = ePO q := rfl
        refine ds_cons (d1_tgE (de_methS (ok_uses_at B) B.k_Held (dv 0 rfl) (da_cons (dv 4 rfl) da_nil) (h, q) rfl ⟨h0, hq⟩ (ll rfl)) (dn2 (dn 5) (dn 6)) ?_)
        refine ds_cons (d1_ret (de_tup (da_cons (de_add (de_intB B.b_int (de_cmp (c_inLE inj_use (ll rfl) w.2 (usesAt h q).1) (rv 3 rfl) (rv 5 rfl)).re) (de_intB B.b_int (de_cmp (c_inLE inj_use (ll rfl) w.2 (usesAt h q).2) (rv 3 rfl) (rv 6 rfl)).re)) (da_cons (de_methS (ok_fork B) B.k_Held (dv 0 rfl) (da_cons (de_methS (ok_modules_of B) B.k_Held (dv 0 rfl) (da_cons (dv 4 rfl) da_nil) (h, q) rfl trivial (ll rfl)) (da_cons (dv 3 rfl) da_nil)) (h, modsOf q, w.2) rfl ⟨h0, hu.lt, modsOf_lt hq⟩ (ll rfl)) da_nil)) (ll rfl)) ?_)
        show _ = eFO (forkOf h w)
        unfold forkOf
        rw [z]
        show _ = Dat.tup [eN _, eFork _]
        by_cases a1 : w.2 ∈ (usesAt h q).1 <;> by_cases a2 : w.2 ∈ (usesAt h q).2 <;> simp [a1, a2, eN]
theorem ok_are_ways : Has c 9 "are_ways" (spP c (fun a : H3 × List Way => [eHeld CP CH a.1, eWays a.2]) (fun a => OkH a.1 ∧ a.2.length ≤ 4 ∧ ∀ w ∈ a.2, OkUse a.1.1.1.1 w.2) fun a => .bl (areWays a.1 a.2)) :=
  has_of B.are_ways (fun _ => rfl) fun ⟨h, ws⟩ ⟨h0, hl, hu⟩ => by
    have h0 : OkH h := h0
    have hl : ws.length ≤ 4 := hl
    have hu : ∀ w ∈ ws, OkUse h.1.1.1 w.2 := hu
    refine ds_cons (d1_map1 2 3 eWay ws (fun w => eFO (forkOf h w)) (it_tup (dv 1 rfl)) (by omega) (fun w hw => de_call (ok_fork_of B) (h, w) ⟨h0, hu w hw⟩ (ll rfl) (da_cons (dv 0 rfl) (da_cons (dv 3 rfl) da_nil))) ?_)
    refine ds_cons (d1_if (dt_cmp (c_eqE inj_nat (ll rfl) ws.length 1) ((de_lenT B.b_len (rv 1 rfl)).is (y := eN ws.length) (by rw [List.length_map]; rfl)).re de_int.re) (fun hb => ?_) fun hb => ds_nil ?_)
    · have hb := of_decide_eq_true hb
      match ws, hb with
      | [w], _ =>
        cases z : (forkOf h w).2 with
        | none =>
          have n1 : (forkOf h w).1 ≠ 1 := fun e => by obtain ⟨f, hf⟩ := fork_two (.inr e); rw [hf] at z; cases z
          have n2 : (forkOf h w).1 ≠ 2 := fun e => by obtain ⟨f, hf⟩ := fork_two (.inl e); rw [hf] at z; cases z
          refine ds_cons (d1_ret (de_or (de_cmp (c_eqE inj_nat (ll rfl) (forkOf h w).1 1) (de_ixT (de_ixL (d := eFO (forkOf h w)) (ro 2 rfl) de_int rfl) de_int rfl).re de_int.re) fun _ => de_one (de_and (k' := false) (de_cmp (c_eqE inj_nat (ll rfl) (forkOf h w).1 2) (de_ixT (de_ixL (d := eFO (forkOf h w)) (ro 2 rfl) de_int rfl) de_int rfl).re de_int.re) fun e => absurd (of_decide_eq_true e) n2)) ?_)
          show _ = Dat.bl (oneOrBoth (forkOf h w))
          unfold oneOrBoth
          rw [z]
        | some f =>
          refine ds_cons (d1_ret (de_or (de_cmp (c_eqE inj_nat (ll rfl) (forkOf h w).1 1) (de_ixT (de_ixL (d := eFO (forkOf h w)) (ro 2 rfl) de_int rfl) de_int rfl).re de_int.re) fun _ => de_one (de_and (de_cmp (c_eqE inj_nat (ll rfl) (forkOf h w).1 2) (de_ixT (de_ixL (d := eFO (forkOf h w)) (ro 2 rfl) de_int rfl) de_int rfl).re de_int.re) fun e => de_one (de_not (de_call (ok_is_even B) f trivial (ll rfl) (da_cons ((de_ixT (de_ixL (d := eFO (forkOf h w)) (ro 2 rfl) de_int rfl) de_int rfl).is (by rw [z]; rfl)) da_nil))))) ?_)
          show _ = Dat.bl (oneOrBoth (forkOf h w))
          unfold oneOrBoth
          rw [z]
    · have hb := of_decide_eq_false hb
      match ws, hb, hl, hu with
      | [], _, _, _ =>
        exact ds_cons (d1_if (k := true) (dt_w (dw_or (k := true) (k' := false) (dt_cmp (c_neE inj_int (ll rfl) _ _) (de_lenT B.b_len (rv 1 rfl)).re de_int.re) fun e => by cases e)) (fun _ => ds_cons (d1_ret de_bl rfl)) fun e => by cases e)
      | [w], hb, _, _ => exact absurd rfl hb
      | w :: v :: x :: r, _, _, _ =>
        have e : decide (((List.map eWay (w :: v :: x :: r)).length : Int) = 2) = false := decide_eq_false (by rw [List.length_map, List.length_cons, List.length_cons, List.length_cons]; omega)
        exact ds_cons (d1_if (k := true) (dt_w (dw_or (k := true) (k' := false) (dt_cmp ((c_neE inj_int (ll rfl) _ _).is (by rw [e]; rfl)) (de_lenT B.b_len (rv 1 rfl)).re de_int.re) fun e => by cases e)) (fun _ => ds_cons (d1_ret de_bl rfl)) fun e => by cases e)
      | [w, v], _, _, hu =>
        refine ds_cons (d1_if (dt_w (dw_or (dt_cmp (c_neE inj_int (ll rfl) _ _) (de_lenT B.b_len (rv 1 rfl)).re de_int.re) fun _ => dw_or (dt_cmp (c_neE inj_use (ll rfl) w.2 v.2) (de_ixT (de_ixT (d := eWay w) (dv 1 rfl) de_int rfl) de_int rfl).re (de_ixT (de_ixT (d := eWay v) (dv 1 rfl) de_int rfl) de_int rfl).re) fun _ => dw_or1 (dt_cmp (c_notinE inj_str (ll rfl) w.2.1 told2) (de_ixT (de_ixT (d := eUse w.2) (de_ixT (d := eWay w) (dv 1 rfl) de_int rfl) de_int rfl) de_int rfl).re (dgT B.g_TOLD).re))) (fun hc => ?_) fun hc => ds_nil ?_)
        · refine ds_cons (d1_ret de_bl ?_)
          have hc : (!decide (w.2 = v.2) || !decide (w.2.1 ∈ told2)) = true := hc
          show Dat.bl false = Dat.bl ((decide (w.2 = v.2) && decide (w.2.1 ∈ told2)) && _)
          rw [show (decide (w.2 = v.2) && decide (w.2.1 ∈ told2)) = false from by
            rw [← Bool.not_and, Bool.not_eq_true'] at hc; exact hc]
          rfl
        · have hc : (!decide (w.2 = v.2) || !decide (w.2.1 ∈ told2)) = false := hc
          have hc' : (decide (w.2 = v.2) && decide (w.2.1 ∈ told2)) = true := by
            rw [← Bool.not_and, Bool.not_eq_false'] at hc; exact hc
          refine ds_freeze 2 rfl ?_
          refine ds_cons (d1_if (dt_not (dt_val (all2 4 5 (fun x => eN (forkOf h x).1) (fun x => eO eFork (forkOf h x).2) [w, v] (fun x => both (forkOf h x)) B.b_all (it_list (dv 2 rfl)) (ll rfl) fun x hx => ?_))) (fun hd => ?_) fun hd => ds_nil ?_)
          · unfold both
            cases z : (forkOf h x).2 with
            | none =>
              have n2 : (forkOf h x).1 ≠ 2 := fun e => by obtain ⟨f, hf⟩ := fork_two (.inl e); rw [hf] at z; cases z
              exact de_and (k' := false) (de_cmp (c_eqE inj_nat (ll rfl) (forkOf h x).1 2) (rv 4 rfl) de_int.re) fun e => absurd (of_decide_eq_true e) n2
            | some f => exact de_and (de_cmp (c_eqE inj_nat (ll rfl) (forkOf h x).1 2) (rv 4 rfl) de_int.re) fun _ => de_one (de_call (ok_are_mods B) f trivial (ll rfl) (da_cons (dv 5 rfl) da_nil))
          · refine ds_cons (d1_ret de_bl ?_)
            have hd : (!(both (forkOf h w) && (both (forkOf h v) && true))) = true := hd
            rw [Bool.and_true, Bool.not_eq_true'] at hd
            show Dat.bl false = Dat.bl ((decide (w.2 = v.2) && decide (w.2.1 ∈ told2)) && ((both (forkOf h w) && both (forkOf h v)) && _))
            rw [hd, Bool.false_and, Bool.and_false]
          · have hd : (!(both (forkOf h w) && (both (forkOf h v) && true))) = false := hd
            rw [Bool.and_true, Bool.not_eq_false'] at hd
            obtain ⟨d1, d2⟩ := (Bool.and_eq_true _ _ ▸ hd : both (forkOf h w) = true ∧ both (forkOf h v) = true)
            have b2 : ∀ x, both (forkOf h x) = true → ∃ f, (forkOf h x).2 = some f := fun x hx => by
              unfold both at hx
              rw [Bool.and_eq_true, decide_eq_true_eq] at hx
              exact fork_two (.inl hx.1)
            obtain ⟨f, hf⟩ := b2 w d1
            obtain ⟨g, hg⟩ := b2 v d2
            refine ds_cons (d1_ret (de_call (ok_are_crossed B) (f, g) trivial (ll rfl) (da_cons ((de_ixT (de_ixL (d := eFO (forkOf h w)) (rv 2 rfl) de_int rfl) de_int rfl).is (by rw [hf]; rfl)) (da_cons ((de_ixT (de_ixL (d := eFO (forkOf h v)) (rv 2 rfl) de_int rfl) de_int rfl).is (by rw [hg]; rfl)) da_nil))) ?_)
            show Dat.bl (crossed f g) = Dat.bl ((decide (w.2 = v.2) && decide (w.2.1 ∈ told2)) && ((both (forkOf h w) && both (forkOf h v)) && match (forkOf h w).2, (forkOf h v).2 with | some f, some g => crossed f g | _, _ => false))
            rw [hf, hg, d1, d2, hc']; rfl
end
end Cal
set_option Elab.async false
set_option linter.all false
set_option maxRecDepth 100000
set_option maxHeartbeats 4000000
namespace Cal
open PySem PySem.Spec PyProof.Rows L2
/-- name = such, the reading of the scope given -/
theorem d1_setE {j : J} {G : List Slot} {D : DEnds} {e : Expr} {spos : Pos} (i : Nat) {x : Str} {S : Slot → Prop} {p : Pos} (h : SX j G e S) (hN : j.N[i]? = some x) (hq : ∀ s, S s → D.nx (G.set i s)) (hw : ∀ env : Env, env.scope = j.sc → swapsWith e (some (.Name x p)) spos.line env = pure false)
    (hs : (j.blk = false ∧ Loc j.sc x) ∨ j.sc.names.lookup x = some .local := by first | exact .inr rfl | exact .inl ⟨rfl, .inr rfl⟩) : D1 j G (.Assign [.Name x p] e spos) D := by
  intro X hX σ F0 H0 Fs F H De r ok
  obtain ⟨h1, h2⟩ := hX.stores hs
  refine ws_of (ps_set hX.nodup (by rw [hX.N]; exact hN) h1 we (hw _ hX.sc) h2) ?_
  exact h X hX σ F H _ r.env fun v s F' H' hS hv ho g => ok.nx _ F' H' _ (hq s hS) (r.put g hv ho)
theorem dsAll_nodup {A : Type} {key : A → NestedKey} {val : A → Dat} (as : List A) (h : (as.map key).Nodup) : dsAll key val as = (as.map key, as.map val) := by
  unfold dsAll
  suffices g : ∀ (as : List A) (ks : List NestedKey) (xs : List Dat), (ks ++ as.map key).Nodup → as.foldl (fun r a => (dsK r.1 (key a), dsX r.1 r.2 (key a) (val a))) (ks, xs) = (ks ++ as.map key, xs ++ as.map val) from by simpa using g as [] [] (by simpa using h)
  intro as
  induction as with
  | nil => intro ks xs _; simp
  | cons a as ih =>
    intro ks xs hn
    have hk : key a ∉ ks := fun z => by
      rw [List.map_cons, List.nodup_append] at hn
      exact hn.2.2 _ z _ List.mem_cons_self rfl
    rw [List.foldl_cons]
    show List.foldl _ (dsK ks (key a), dsX ks xs (key a) (val a)) as = _
    rw [dsK_new hk, dsX_new hk, ih _ _ (by rw [List.append_assoc]; exact hn), List.append_assoc, List.append_assoc]; rfl
def rows0 (ps : List Pr) : Rows := (none :: ps.map some).map fun q => (q, [])
theorem keys_rows0 (ps : List Pr) : keysR (rows0 ps) = none :: ps.map some := by
  unfold rows0 keysR
  rw [List.map_map]
  exact List.map_id _
def closed (h : H3) (ps : List Pr) : Bool := (none :: ps.map some).all fun q => (nextsM h q).all fun l => decide (l ∈ ps)
def rightM (h : H3) (ps : List Pr) : Bool := closed h ps && decide (apartM h (rows0 ps) = none)
structure OkPs (h : H3) (ps : List Pr) : Prop where
  ok : ∀ q ∈ ps, OkPairC h q
  asc : ps.Pairwise fun a b => dlt (ePr a) (ePr b) = true
theorem pr_alike (a b : Pr) : dalike (ePr a) (ePr b) = true := srt_pr.al a b
theorem dlt_irrefl (x : Dat) : dlt x x = false := by unfold dlt; exact PySem.W.dataLt_self _
theorem OkPs.nd {h : H3} {ps : List Pr} (o : OkPs h ps) : ps.Nodup := o.asc.imp fun {a b} hab e => by
  subst e
  rw [dlt_irrefl] at hab; cases hab
theorem OkPs.keys {h : H3} {ps : List Pr} (o : OkPs h ps) : (keysR (rows0 ps)).Nodup ∧ ∀ q ∈ keysR (rows0 ps), OkPO h q := by
  rw [keys_rows0]
  refine ⟨List.nodup_cons.mpr ⟨fun z => (by obtain ⟨a, _, e⟩ := List.mem_map.mp z; cases e), List.pairwise_map.mpr (o.nd.imp fun hne e => hne (Option.some.inj e))⟩, fun q hq => ?_⟩
  rcases List.mem_cons.mp hq with rfl | hq
  · exact okNone h
  · obtain ⟨a, ha, rfl⟩ := List.mem_map.mp hq
    intro r hr; cases hr; exact (o.ok a ha).1
theorem OkPs.len {h : H3} (k : OkH h) {ps : List Pr} (o : OkPs h ps) : ps.length ≤ 36 := by
  have := keys_len k o.keys.1 o.keys.2
  rw [keys_rows0, List.length_cons, List.length_map] at this
  omega
theorem flat_len {A B : Type} {n : Nat} (bs : A → List B) : ∀ as : List A, (∀ a ∈ as, (bs a).length ≤ n) → ((as.map fun a => (bs a)).flatten).length ≤ n * as.length
  | [], _ => Nat.zero_le _
  | a :: as, h => by
    rw [List.map_cons, List.flatten_cons, List.length_append, List.length_cons, Nat.mul_succ]
    have h1 := h a List.mem_cons_self
    have h2 := flat_len bs as fun b hb => h b (List.mem_cons_of_mem _ hb)
    omega
section
variable {c : Cfg} {CP CH CA CD : Addr} (B : Glb c CP CH CA CD)
include B
theorem ok_are_right : Has c 8 "are_right" (spP c (fun a : H3 × List Pr => [eHeld CP CH a.1, .tup (a.2.map ePr)]) (fun a => OkH a.1 ∧ OkPs a.1 a.2) fun a => .bl (rightM a.1 a.2)) :=
  has_of B.are_right (fun _ => rfl) fun ⟨h, ps⟩ ⟨h0, hp⟩ => by
    have h0 : OkH h := h0
    have hp : OkPs h ps := hp
    have hlen := hp.len h0
    have hz : ps.length ≤ 1000000 := by omega
    refine ds_cons (d1_if (k := false) (dt_not (k := true) (dt_val ((all1 3 ePr ps (fun _ => true) B.b_all (it_tup (dv 1 rfl)) hz fun q hq => de_call (ok_is_pair B) (h, q) ⟨h0, hp.ok q hq⟩ (ll rfl) (da_cons (dv 0 rfl) (da_cons (dv 3 rfl) da_nil))).is (by simp)))) (fun e => by cases e) fun _ => ds_nil ?_)
    refine ds_cons (d1_if (k := false) (dt_not (k := true) (dt_val ((all2 4 5 (fun q => ePr q.1) (fun q => ePr q.2) (ps.zip (ps.drop 1)) (fun _ => true) B.b_all (it_zipTail (dv 1 rfl) (dv 1 rfl) B.b_zip) (by rw [List.length_zip]; omega) fun q hq => ?_).is (by simp)))) (fun e => by cases e) fun _ => ds_nil ?_)
    · refine (de_cmp (c_ltd (inj_pr.pl q.1) (inj_pr.pl q.2) (pr_alike _ _) (fun z => by cases z) (Nat.le_trans (Nat.min_le_left _ _) (Nat.le_trans (inj_pr.dep q.1) (ll rfl)))) (rv 4 rfl) (rv 5 rfl)).is ?_
      rw [pairs_of hp.asc q hq]
    have kn : ((none :: ps.map some).map kPO).Nodup := by
      have := hp.keys.1
      rw [keys_rows0] at this
      exact List.pairwise_map.mpr (this.imp fun hne e => hne (kPO_inj.mp e))
    have e0 : dsAll kPO (fun _ : Option Pr => Dat.tup []) (none :: ps.map some) = (ksR (rows0 ps), xsR (rows0 ps)) := by
      rw [dsAll_nodup _ kn]
      unfold ksR xsR rows0
      rw [List.map_map, List.map_map]; rfl
    refine ds_cons (d1_setE 2 ((led_comp [("pair", 3)] ePO (none :: ps.map some) kPO (fun _ => .tup []) (it_tup ((de_tup (da_cons de_non (star_tup (dv 1 rfl) da_nil)) (by rw [List.length_cons, List.length_append, List.length_map]; show ps.length + 0 + 1 ≤ 100000; omega)).is (by rw [List.append_nil, List.map_cons, List.map_map]; rfl))) (by rw [List.length_cons, List.length_map]; omega) (fun q hq => ⟨[(3, ePO q)], dn 3, fun k hk => hk, (dv 3 rfl).is (kd_po q).symm, de_tup da_nil (ll rfl), ask_po q⟩) rfl).is (congrArg Prod.fst e0) (congrArg Prod.snd e0)).sx rfl (fun s hs => ?_) fun env he => by cases env; cases he; rfl)
    subst hs
    refine ds_freezeD 2 rfl ?_
    have fl : ((none :: ps.map some).map fun q => (nextsM h q).map fun l => Dat.bl (decide (l ∈ ps))).flatten = (((none :: ps.map some).map fun q => (nextsM h q).map fun l => decide (l ∈ ps)).flatten).map Dat.bl := by
      rw [List.map_flatten, List.map_map]
      congr 1
      apply List.map_congr_left
      intro q _
      show _ = List.map Dat.bl (List.map _ _)
      rw [List.map_map]; rfl
    have al : ((((none :: ps.map some).map fun q => (nextsM h q).map fun l => decide (l ∈ ps)).flatten).all fun x => x) = closed h ps := by
      unfold closed
      rw [List.all_flatten, List.all_map]
      congr 1
      funext q
      show ((nextsM h q).map _).all _ = _
      rw [all_map]
    refine ds_cons (d1_if (dt_not (k := closed h ps) (dt_val ((de_all (bs := ((none :: ps.map some).map fun q => (nextsM h q).map fun l => decide (l ∈ ps)).flatten) B.b_all ((le_comp2 [("pair", 3), ("late", 6)] [6] ePO (none :: ps.map some) (fun _ l => ePr l) (nextsM h) (fun _ l => .bl (decide (l ∈ ps))) ((it_dk (dv 2 rfl)).is ?_) ?_ (fun q hq => ⟨[(3, ePO q)], dn 3, ?_, it_list (de_methS (ok_nexts B) B.k_Held (dv 0 rfl) (da_cons (dv 3 rfl) da_nil) (h, q) rfl ⟨h0, ?_⟩ (ll rfl)), fun l hl => ⟨[(6, ePr l)], dn 6, fun k hk => hk, (de_cmp (c_inD (k := kPO (some l)) (ask_po _)) (dv 6 rfl).re (dv 2 rfl).re).is ?_⟩⟩) (by decide) rfl).re.is (by rw [fl])) rfl (by intro _; rfl)).is (by rw [al])))) (fun hb => ?_) fun hb => ds_nil ?_)
    · unfold ksR rows0
      rw [List.map_map, List.map_map]
      apply List.map_congr_left
      intro q _
      exact kd_po q
    · rw [fl, List.length_map]
      refine Nat.le_trans (flat_len (n := 8) _ _ fun q hq => ?_) (?_ : 8 * _ ≤ _)
      · rw [List.length_map]
        exact nextsM_len h0 (hp.keys.2 q (by rw [keys_rows0]; exact hq))
      · rw [List.length_cons, List.length_map]; omega
    · intro k hk
      simp only [List.map_cons, List.map_nil, List.mem_cons, List.not_mem_nil, or_false] at hk ⊢
      exact .inl hk
    · exact hp.keys.2 q (by rw [keys_rows0]; exact hq)
    · congr 1
      refine decide_eq_decide.mpr ?_
      rw [ksR_mem, keys_rows0]
      simp
    · have hb : (!closed h ps) = true := hb
      refine ds_cons (d1_ret de_bl ?_)
      show _ = Dat.bl (closed h ps && _)
      rw [Bool.not_eq_true'] at hb
      rw [hb]; rfl
    · have hb : (!closed h ps) = false := hb
      rw [Bool.not_eq_false'] at hb
      refine ds_cons (d1_ret (de_cmp c_isN (de_methS (ok_apart_by B) B.k_Held (dv 0 rfl) (da_cons (dv 2 rfl) da_nil) (h, rows0 ps) rfl ⟨h0, ?_, hp.keys.2⟩ (ll rfl)).re de_non.re) ?_)
      · show (rows0 ps).length ≤ 37
        unfold rows0
        rw [List.length_map, List.length_cons, List.length_map]; omega
      · show Dat.bl (isNon (eO eWays (apartM h (rows0 ps)))) = Dat.bl (closed h ps && decide (apartM h (rows0 ps) = none))
        rw [hb]
        cases apartM h (rows0 ps) <;> rfl
end
end Cal
set_option Elab.async false
set_option linter.all false
set_option maxRecDepth 100000
set_option maxHeartbeats 4000000
namespace Cal
open PySem PySem.Spec PyProof.Rows L2
/-! ### what is told -/
abbrev Told := List (Lot × List Pr)
def ksT (t : Told) : List NestedKey := t.map fun x => kLot x.1
def xsT (t : Told) : List Dat := t.map fun x => .tup (x.2.map ePr)
def eTold (t : Told) : Dat := .dic (ksT t) (xsT t)
def eAlike (CA : Addr) (t : Told) : Dat := .ins CA ["pairs"] [eTold t]
def eParted (CD : Addr) (x : Lot × List Way) : Dat := .ins CD ["ahead", "ways"] [eLot x.1, eWays x.2]
/-- the lots, in order -/
def rawLots : Nat → List Lot
  | 0 => [[]]
  | n + 1 => (rawLots n).flatMap fun l => [l ++ [0], l ++ [1], l ++ [2]]
/-- the key by which lots are sorted -/
def keyL (l : Lot) : PyData := .tuple [.int ((l.filter fun i => decide (0 < i)).length : Nat), .tuple (l.map fun n : Nat => PyData.int n)]
def lotsM (n : Nat) : List Lot := (rawLots n).mergeSort (PySem.W.dataLe false keyL)
def hashLot (l : Lot) : Int := reduceHash (Builtin.Tuple.tupleHashOf (l.map fun n : Nat => hashInt (n : Int)))
theorem hashLot_eq (w : World) (l : Lot) : (kLot l).hash w = hashLot l := by
  have e : ∀ l : Lot, NestedKey.hashes w (l.map kNum) = l.map fun n : Nat => hashInt (n : Int) := fun l => by
    induction l with
    | nil => rfl
    | cons a l ih =>
      show NestedKey.hash w (kNum a) :: NestedKey.hashes w (l.map kNum) = _
      rw [ih]; rfl
  show reduceHash (Builtin.Tuple.tupleHashOf (NestedKey.hashes w (l.map kNum))) = _
  rw [e]; rfl
theorem apart23 : ((rawLots 2).map hashLot).Nodup ∧ ((rawLots 3).map hashLot).Nodup := by decide +kernel
theorem hashLot_inj {n : Nat} (hn : n = 2 ∨ n = 3) {a b : Lot} (ha : a ∈ rawLots n) (hb : b ∈ rawLots n) (e : hashLot a = hashLot b) : a = b := by
  have nd : ((rawLots n).map hashLot).Nodup := by rcases hn with rfl | rfl; exact apart23.1; exact apart23.2
  revert ha hb
  generalize rawLots n = L at nd
  induction L with
  | nil => intro ha; simp at ha
  | cons x L ih =>
    rw [List.map_cons, List.nodup_cons] at nd
    intro ha hb
    rcases List.mem_cons.mp ha with rfl | ha' <;> rcases List.mem_cons.mp hb with rfl | hb'
    · rfl
    · exact absurd (by rw [e]; exact List.mem_map_of_mem hb') nd.1
    · exact absurd (by rw [← e]; exact List.mem_map_of_mem ha') nd.1
    · exact ih nd.2 ha' hb'
/-- a told that stands: lots of n names, each once -/
structure OkTold (n : Nat) (t : Told) : Prop where
  two : n = 2 ∨ n = 3
  lot : ∀ x ∈ t, x.1 ∈ rawLots n
  nd : (t.map (·.1)).Nodup
theorem OkTold.apart {n : Nat} {t : Told} (o : OkTold n t) (w : World) : Apart w (ksT t) := by
  unfold Apart ksT
  rw [List.map_map]
  refine List.pairwise_map.mpr ?_
  have := List.pairwise_map.mp o.nd
  refine List.Pairwise.imp_of_mem (fun {a b} ha hb hne e => hne ?_) this
  have e : (kLot a.1).hash w = (kLot b.1).hash w := e
  rw [hashLot_eq, hashLot_eq] at e
  exact hashLot_inj o.two (o.lot a ha) (o.lot b hb) e
theorem OkTold.len {n : Nat} {t : Told} (o : OkTold n t) : t.length ≤ 27 := by
  have h : ∀ (l L : List Lot), l.Nodup → (∀ x ∈ l, x ∈ L) → l.length ≤ L.length := by
    intro l
    induction l with
    | nil => intro L _ _; exact Nat.zero_le _
    | cons a l ih =>
      intro L hd hs
      rw [List.nodup_cons] at hd
      have ha := hs a List.mem_cons_self
      have := ih (L.erase a) hd.2 fun x hx => (List.mem_erase_of_ne (fun z => hd.1 (by rw [← z]; exact hx))).mpr (hs x (List.mem_cons_of_mem _ hx))
      rw [List.length_erase_of_mem ha] at this
      have := List.length_pos_of_mem ha
      rw [List.length_cons]; omega
  have := h (t.map (·.1)) (rawLots n) o.nd fun x hx => by
    obtain ⟨y, hy, rfl⟩ := List.mem_map.mp hx
    exact o.lot y hy
  rw [List.length_map] at this
  refine Nat.le_trans this ?_
  rcases o.two with rfl | rfl <;> decide
section
variable {c : Cfg} {CP CH CA CD : Addr} (B : Glb c CP CH CA CD)
include B
theorem ok_Alike : HasI c 2 "Alike" CA (spI c CA (fun a : Nat × Told => [eTold a.2]) (fun a => OkTold a.1 a.2) fun a => eAlike CA a.2) :=
  hasI_of B.Alike_init (fun _ => rfl) fun a ha X hX F H q dx us De g h1 h2 ne i k => by
    have r0 := ir_start (j := jF c N_Alike_init st_Alike_init 1) (C := CA) (N := N_Alike_init) rfl g h1 h2 ne i (by decide)
    have ha : OkTold a.1 a.2 := ha
    refine ir_fld (ns := []) (vs := []) hX rfl r0 (led_copy B.b_dict (dv 1 rfl).re (fun k hk => ?_) (ha.apart _) ?_).de B.k_Alike B.n_pairs (fun _ => rfl) (by decide) fun v F3 H3 i3 x3 r3 => ?_
    · obtain ⟨x, _, rfl⟩ := List.mem_map.mp hk
      exact ⟨_, rfl⟩
    · unfold ksT; rw [List.length_map]; exact Nat.le_trans ha.len (ll rfl)
    · obtain ⟨F4, i4, g4⟩ := ir_end r3 rfl (IsL.cons i3 IsL.nil)
      exact wss_of pss_nil (k F4 _ _ i4 g4)
theorem ok_Parted : HasI c 2 "Parted" CD (spI c CD (fun a : Lot × List Way => [eLot a.1, eWays a.2]) (fun _ => True) fun a => eParted CD a) :=
  hasI_of B.Parted_init (fun _ => rfl) fun a ha X hX F H q dx us De g h1 h2 ne i k => by
    have r0 := ir_start (j := jF c N_Parted_init st_Parted_init 1) (C := CD) (N := N_Parted_init) rfl g h1 h2 ne i (by decide)
    refine ir_fld (ns := []) (vs := []) hX rfl r0 (dv 1 rfl) B.k_Parted B.n_ahead (fun _ => rfl) (by decide) fun v1 F1 H1 i1 x1 r1 => ?_
    refine ir_fld (ns := ["ahead"]) (vs := [v1]) hX rfl r1 (dv 2 rfl) B.k_Parted B.n_ways (fun _ => rfl) (by decide) fun v2 F2 H2 i2 x2 r2 => ?_
    obtain ⟨F4, i4, g4⟩ := ir_end (ns := ["ahead", "ways"]) (vs := [v1, v2]) r2 rfl (IsL.cons (Is.mono x2 _ _ i1) (IsL.cons i2 IsL.nil))
    exact wss_of pss_nil (k F4 _ _ i4 g4)
end
end Cal
set_option Elab.async false
set_option linter.all false
set_option maxRecDepth 100000
set_option maxHeartbeats 4000000
namespace Cal
open PySem PySem.Spec PyProof.Rows L2
section
variable {j : J} {G : List Slot} {D : DEnds} {e : Expr} {pos spos : Pos} {d : Dat}
theorem d1_expr (h : DE j G e d) (hq : D.nx G) (hs : ∀ env : Env, swapsWith e none spos.line env = pure false := by intro _; rfl) : D1 j G (.Expr e spos) D := by
  intro X hX σ F0 H0 Fs F H De r ok
  exact ws_of (ps_expr we (hs _)) (h X hX σ F H _ r.env fun v F' H' i g => ok.nx _ F' H' _ hq (r.go g))
/-- {} -/
theorem led_disp0 : LED j G (.Dict [] [] pos) [] [] := by
  intro X hX σ F H q hE hq
  unfold WE
  intro pins s I
  have wX : X.w = j.c.w := hX.w
  have hPn : H s.heap.objs.size = none := I.hok.fresh (Nat.le_refl _)
  have bP := hE.good.back hPn
  refine wpAny_Dict_empty ⟨.ref s.heap.objs.size, upd H s.heap.objs.size (DicO j.c.w s.heap.objs.size 0 []), ?_, rfl, ?_⟩
  · refine I.laid (t' := s.toks) (fun b o z => Heap.get?_push_of_some _ z) (Nat.le_refl _) ?_
    rw [← wX]
    exact dic_new s.heap I.big
  · exact hq _ [] [] F _ hPn bP ⟨0, by rw [upd_same]; rfl⟩ DK.nil (Gr.made hE.good hPn)
end
end Cal
set_option Elab.async false
set_option linter.all false
set_option maxRecDepth 100000
set_option maxHeartbeats 4000000
namespace Cal
open PySem PySem.Spec PyProof.Rows L2
theorem reachF_inv {h : H3} (k : OkH h) : ∀ (n : Nat) (s : RS), RInv h s → RInv h (reachF h n s)
  | 0, s, r => r
  | n + 1, (rows, []), r => r
  | n + 1, (rows, q :: w), r => by
    have hq : q ∈ keysR rows := r.wt q List.mem_cons_self
    exact reachF_inv k n _ (fold_inv (nextsM h q) (rows, w) ⟨r.nd, r.ok, fun p hp => r.wt p (List.mem_cons_of_mem _ hp), r.pl⟩ hq fun l hl => nextsM_ok k (r.ok q hq) hl)
theorem start_inv (h : H3) : RInv h ([(none, [])], [none]) := by
  refine ⟨by simp [keysR], fun q hq => ?_, fun q hq => hq, fun r hr => ?_⟩
  · unfold keysR at hq; rw [List.map_singleton, List.mem_singleton] at hq; subst hq
    exact okNone h
  · rw [List.mem_singleton] at hr; subst hr; exact Nat.le_refl 1
theorem reachM_inv {h : H3} (k : OkH h) : RInv h (reachF h 100 ([(none, [])], [none])) := reachF_inv k 100 _ (start_inv h)
theorem reachM_len {h : H3} (k : OkH h) : (reachM h).length ≤ 37 := by
  have := keys_len k (reachM_inv k).nd (reachM_inv k).ok
  unfold keysR at this
  rwa [List.length_map] at this
theorem lotsM_mem {n : Nat} {l : Lot} : l ∈ lotsM n ↔ l ∈ rawLots n := (List.mergeSort_perm (rawLots n) _).mem_iff
theorem rawLots_ok : ∀ (n : Nat) {l : Lot}, l ∈ rawLots n → l.length = n ∧ ∀ i ∈ l, i ≤ 2
  | 0, l, h => by
    unfold rawLots at h
    rw [List.mem_singleton] at h
    subst h
    exact ⟨rfl, fun i hi => by simp at hi⟩
  | n + 1, l, h => by
    unfold rawLots at h
    obtain ⟨m, hm, hl⟩ := List.mem_flatMap.mp h
    obtain ⟨h1, h2⟩ := rawLots_ok n hm
    simp only [List.mem_cons, List.not_mem_nil, or_false] at hl
    rcases hl with rfl | rfl | rfl <;> refine ⟨by rw [List.length_append, h1]; rfl, fun i hi => ?_⟩ <;> rcases List.mem_append.mp hi with hi | hi
    all_goals first | exact h2 i hi | (rw [List.mem_singleton] at hi; omega)
theorem rawLots_len : ∀ n : Nat, n = 2 ∨ n = 3 → (rawLots n).length ≤ 27 := by
  rintro n (rfl | rfl) <;> decide
theorem lotsM_len {n : Nat} (hn : n = 2 ∨ n = 3) : (lotsM n).length ≤ 27 := by
  unfold lotsM
  rw [List.length_mergeSort]
  exact rawLots_len n hn
theorem ask_lot (l : Lot) : AskK (kLot l) := by
  refine ⟨.inr ⟨_, rfl⟩, ?_⟩
  have : NestedKey.depthAll (l.map kNum) = 0 := by
    induction l with
    | nil => rfl
    | cons a l ih =>
      show max (NestedKey.depth (kNum a)) (NestedKey.depthAll (l.map kNum)) = 0
      rw [ih]; rfl
  show NestedKey.depthAll (l.map kNum) + 1 ≤ 8
  omega
def pairsOf (t : Told) (l : Lot) : List Pr := (t.lookup l).getD []
def showsA (b1 b2 : Bld) (t : Told) : Bool := (decide ((lotsM b1.1.1.length).length = t.length) && (lotsM b1.1.1.length).all fun l => decide (l ∈ t.map (·.1))) && (lotsM b1.1.1.length).all fun l => rightM (b1, b2, l) (pairsOf t l)
structure OkShow (b1 b2 : Bld) (t : Told) : Prop where
  two : Ok2 (b1, b2)
  n : b1.1.1.length = 2 ∨ b1.1.1.length = 3
  told : OkTold b1.1.1.length t
  ps : ∀ x ∈ t, OkPs (b1, b2, x.1) x.2
theorem okH_of {b1 b2 : Bld} (k : Ok2 (b1, b2)) {l : Lot} (h : l ∈ rawLots b1.1.1.length) : OkH (b1, b2, l) := ⟨k, rawLots_ok _ h⟩
theorem ksT_mem {t : Told} {l : Lot} : kLot l ∈ ksT t ↔ l ∈ t.map (·.1) := by
  unfold ksT
  rw [show (t.map fun x => kLot x.1) = (t.map (·.1)).map kLot from by rw [List.map_map]; rfl]
  exact map_mem kLot_inj
theorem told_at {t : Told} {l : Lot} (h : l ∈ t.map (·.1)) : ∃ i : Nat, (ksT t)[i]? = some (kLot l) ∧ (xsT t)[i]? = some (.tup ((pairsOf t l).map ePr)) ∧ (l, pairsOf t l) ∈ t := by
  unfold ksT xsT pairsOf
  induction t with
  | nil => simp at h
  | cons a r ih =>
    obtain ⟨a1, a2⟩ := a
    rw [List.lookup_cons]
    by_cases z : l = a1
    · subst z
      exact ⟨0, rfl, by simp, by simp⟩
    · rw [show (l == a1) = false from beq_false_of_ne z]
      have h' : l ∈ r.map (·.1) := by
        rcases List.mem_cons.mp h with e | e
        · exact absurd e z
        · exact e
      obtain ⟨i, h1, h2, h3⟩ := ih h'
      exact ⟨i + 1, by simpa using h1, by simpa using h2, List.mem_cons_of_mem _ h3⟩
abbrev LotsOf (c : Cfg) (CP : Addr) : Prop := Has c 6 "lots_of" (spP c (fun a : Plan => [eProg CP a]) (fun a => OkPlan a ∧ (a.1.length = 2 ∨ a.1.length = 3)) fun a => .lst ((lotsM a.1.length).map eLot))
section
variable {c : Cfg} {CP CH CA CD : Addr} (B : Glb c CP CH CA CD) (L : LotsOf c CP)
include B L
theorem ok_Alike_shows : HasM c 11 CA "shows" (spP c (fun a : Told × Bld × Bld => [eAlike CA a.1, eBld CP a.2.1, eBld CP a.2.2]) (fun a => OkShow a.2.1 a.2.2 a.1) fun a => .bl (showsA a.2.1 a.2.2 a.1)) :=
  hasM_of B.Alike_shows (fun _ => rfl) fun ⟨t, b1, b2⟩ o => by
    have o : OkShow b1 b2 t := o
    have hll := lotsM_len o.n
    refine ds_cons (d1_expr (de_call (ok_check_two B) (b1, b2) o.two (ll rfl) (da_cons (dv 1 rfl) (da_cons (dv 2 rfl) da_nil))) ?_)
    refine ds_cons (d1_asg 3 (de_call L b1.1 ⟨o.two.one.plan, o.n⟩ (ll rfl) (da_cons (de_ixT (d := eProg CP b1.1) (dv 1 rfl) de_int rfl) da_nil)) rfl ?_)
    refine ds_cons (d1_if (dt_w (dw_or (dt_cmp (c_neE inj_nat (ll rfl) (lotsM b1.1.1.length).length t.length) ((de_lenL B.b_len (rv 3 rfl)).is (y := eN (lotsM b1.1.1.length).length) (by rw [List.length_map]; rfl)).re ((de_lenD B.b_len (de_fld1 (dv 0 rfl) B.k_Alike B.n_pairs).re).is (y := eN t.length) (by unfold ksT; rw [List.length_map]; rfl)).re) fun _ => dw_or1 (dt_not (dt_val (all1 4 eLot (lotsM b1.1.1.length) (fun l => decide (l ∈ t.map (·.1))) B.b_all (it_list (dv 3 rfl)) (by omega) fun l hl => (de_cmp (c_inD (k := kLot l) (ask_lot l)) ((dv 4 rfl).is (kd_lot l).symm).re (de_fld1 (dv 0 rfl) B.k_Alike B.n_pairs).re).is (by congr 1; exact decide_eq_decide.mpr ksT_mem)))))) (fun hb => ?_) fun hb => ds_nil ?_)
    · have hb : (!decide ((lotsM b1.1.1.length).length = t.length) || !((lotsM b1.1.1.length).all fun l => decide (l ∈ t.map (·.1)))) = true := hb
      rw [← Bool.not_and, Bool.not_eq_true'] at hb
      refine ds_cons (d1_ret de_bl ?_)
      show _ = Dat.bl ((_ && _) && _)
      rw [hb]; rfl
    · have hb : (!decide ((lotsM b1.1.1.length).length = t.length) || !((lotsM b1.1.1.length).all fun l => decide (l ∈ t.map (·.1)))) = false := hb
      rw [← Bool.not_and, Bool.not_eq_false'] at hb
      have hin : ∀ l ∈ lotsM b1.1.1.length, l ∈ t.map (·.1) := fun l hl => by
        rw [Bool.and_eq_true] at hb
        exact of_decide_eq_true (List.all_eq_true.mp hb.2 l hl)
      refine ds_cons (d1_ret (all1 4 eLot (lotsM b1.1.1.length) (fun l => rightM (b1, b2, l) (pairsOf t l)) B.b_all (it_list (dv 3 rfl)) (by omega) fun l hl => ?_) ?_)
      · obtain ⟨i, i1, i2, i3⟩ := told_at (hin l hl)
        exact de_call (ok_are_right B) ((b1, b2, l), pairsOf t l) ⟨okH_of o.two (lotsM_mem.mp hl), o.ps _ i3⟩ (ll rfl) (da_cons (de_make (ok_Held B) (b1, b2, l) trivial (ll rfl) (da_cons (dv 1 rfl) (da_cons (dv 2 rfl) (da_cons (dv 4 rfl) da_nil)))) (da_cons (de_getD (de_fld1 (dv 0 rfl) B.k_Alike B.n_pairs).re ((dv 4 rfl).is (kd_lot l).symm) (ask_lot l) i1 i2) da_nil))
      · show _ = Dat.bl ((_ && _) && _)
        rw [hb]; rfl
theorem ok_Parted_shows : HasM c 11 CD "shows" (spP c (fun a : (Lot × List Way) × Bld × Bld => [eParted CD a.1, eBld CP a.2.1, eBld CP a.2.2]) (fun a => OkH (a.2.1, a.2.2, a.1.1) ∧ a.1.2.length ≤ 4 ∧ ∀ w ∈ a.1.2, OkUse a.2.1.1.1 w.2) fun a => .bl (areWays (a.2.1, a.2.2, a.1.1) a.1.2)) :=
  hasM_of B.Parted_shows (fun _ => rfl) fun ⟨⟨l, ws⟩, b1, b2⟩ ⟨o, h1, h2⟩ => by
    have o : OkH (b1, b2, l) := o
    refine ds_cons (d1_expr (de_call (ok_check_two B) (b1, b2) o.two (ll rfl) (da_cons (dv 1 rfl) (da_cons (dv 2 rfl) da_nil))) ?_)
    refine ds_cons (d1_ret (de_and (de_call (ok_is_lot B) (b1.1, l) ⟨o.two.one.plan, o.lot⟩ (ll rfl) (da_cons (de_ixT (d := eProg CP b1.1) (dv 1 rfl) de_int rfl) (da_cons (de_fld2 (dv 0 rfl) B.k_Parted B.n_ahead) da_nil))) fun _ => de_one (de_call (ok_are_ways B) ((b1, b2, l), ws) ⟨o, h1, h2⟩ (ll rfl) (da_cons (de_make (ok_Held B) (b1, b2, l) trivial (ll rfl) (da_cons (dv 1 rfl) (da_cons (dv 2 rfl) (da_cons (de_fld2 (dv 0 rfl) B.k_Parted B.n_ahead) da_nil)))) (da_cons (de_fld2b (dv 0 rfl) (by decide) B.k_Parted B.n_ways) da_nil)))) rfl)
end
end Cal
set_option Elab.async false
set_option linter.all false
set_option maxRecDepth 100000
set_option maxHeartbeats 4000000
namespace Cal
open PySem PySem.Spec PyProof.Rows L2
def pairsR (r : Rows) : List Pr := (keysR r).filterMap id
def compF (b1 b2 : Bld) : List Lot → Told → Except (Lot × List Way) Told
  | [], t => .ok t
  | l :: ls, t => match apartM (b1, b2, l) (reachM (b1, b2, l)) with
    | some w => .error (l, w)
    | none => compF b1 b2 ls (t ++ [(l, srt ePr (pairsR (reachM (b1, b2, l))))])
def compareM (b1 b2 : Bld) : Except (Lot × List Way) Told := compF b1 b2 (lotsM b1.1.1.length) []
def eCmp (CA CD : Addr) : Except (Lot × List Way) Told → Dat
  | .error x => eParted CD x
  | .ok t => eAlike CA t
theorem pairsR_map (ks : List (Option Pr)) : (ks.filter fun q => !isNon (ePO q)).map ePO = (ks.filterMap id).map ePr := by
  induction ks with
  | nil => rfl
  | cons a ks ih =>
    cases a with
    | none => exact ih
    | some a => exact congrArg (ePr a :: ·) ih
theorem rawLots_nd {n : Nat} (hn : n = 2 ∨ n = 3) : (rawLots n).Nodup := by rcases hn with rfl | rfl <;> decide
theorem lotsM_nd {n : Nat} (hn : n = 2 ∨ n = 3) : (lotsM n).Nodup := (List.mergeSort_perm (rawLots n) _).nodup_iff.mpr (rawLots_nd hn)
theorem pairsR_len (r : Rows) : (pairsR r).length ≤ r.length := by
  unfold pairsR
  refine Nat.le_trans (List.length_filterMap_le _ _) ?_
  unfold keysR
  rw [List.length_map]
  exact Nat.le_refl _
theorem ksT_app (t : Told) (x : Lot × List Pr) : ksT (t ++ [x]) = ksT t ++ [kLot x.1] := by unfold ksT; rw [List.map_append]; rfl
theorem xsT_app (t : Told) (x : Lot × List Pr) : xsT (t ++ [x]) = xsT t ++ [.tup (x.2.map ePr)] := by unfold xsT; rw [List.map_append]; rfl
theorem has_lots {c : Cfg} {CP : Addr} (L : LotsOf c CP) : Has c 6 "lots_of" (spP c (fun a : Plan => [eProg CP a]) (fun a => OkPlan a ∧ (a.1.length = 2 ∨ a.1.length = 3)) fun a => .lst ((lotsM a.1.length).map eLot)) := L
section
variable {c : Cfg} {CP CH CA CD : Addr} (B : Glb c CP CH CA CD) (L : LotsOf c CP)
include B L
theorem ok_compare : Has c 9 "compare" (spP c (fun a : Bld × Bld => [eBld CP a.1, eBld CP a.2]) (fun a => Ok2 a ∧ (a.1.1.1.length = 2 ∨ a.1.1.1.length = 3)) fun a => eCmp CA CD (compareM a.1 a.2)) :=
  has_of B.compare (fun _ => rfl) fun ⟨b1, b2⟩ ⟨o, hn⟩ => by
    have o : Ok2 (b1, b2) := o
    have hn : b1.1.1.length = 2 ∨ b1.1.1.length = 3 := hn
    have hll := lotsM_len hn
    refine ds_cons (d1_expr (de_call (ok_check_two B) (b1, b2) o (ll rfl) (da_cons (dv 0 rfl) (da_cons (dv 1 rfl) da_nil))) ?_)
    refine ds_cons (d1_set 2 (S := fun s => s = .owd (ksT []) (xsT [])) led_disp0.sx rfl (fun s hs => ?_))
    subst hs
    refine ds_cons (d1_for (as := lotsM b1.1.1.length) (enc := eLot) (fun rem G => ∃ (t : Told) (done : List Lot), lotsM b1.1.1.length = done ++ rem ∧ t.map (·.1) = done ∧ compF b1 b2 rem t = compareM b1 b2 ∧ G = [.dat (eBld CP b1), .dat (eBld CP b2), .owd (ksT t) (xsT t), .no, .no, .no, .no, .no]) (it_list (de_call (has_lots L) b1.1 ⟨o.one.plan, hn⟩ (ll rfl) (da_cons (de_ixT (d := eProg CP b1.1) (dv 0 rfl) de_int rfl) da_nil))) ⟨[], [], rfl, rfl, rfl, rfl⟩ (fun l rem G ⟨t, done, e1, e2, e3, e4⟩ => ?_) (fun G ⟨t, done, e1, e2, e3, e4⟩ => ?_))
    · subst e4
      refine ⟨_, dn 3, ?_⟩
      have hl : l ∈ lotsM b1.1.1.length := by rw [e1]; simp
      have oh : OkH (b1, b2, l) := okH_of o (lotsM_mem.mp hl)
      have inv := reachM_inv oh
      have hrl := reachM_len oh
      have st : compF b1 b2 (l :: rem) t = match apartM (b1, b2, l) (reachM (b1, b2, l)) with | some w => .error (l, w) | none => compF b1 b2 rem (t ++ [(l, srt ePr (pairsR (reachM (b1, b2, l))))]) := rfl
      rw [st] at e3
      have htl : t.length ≤ 27 := by
        have := congrArg List.length e1
        rw [List.length_append, ← e2, List.length_map] at this
        omega
      have hnl : l ∉ t.map (·.1) := by
        rw [e2]
        have := lotsM_nd hn
        rw [e1, List.nodup_append] at this
        exact fun z => this.2.2 _ z _ List.mem_cons_self rfl
      refine ds_cons (d1_asg 4 (de_make (ok_Held B) (b1, b2, l) trivial (ll rfl) (da_cons (dv 0 rfl) (da_cons (dv 1 rfl) (da_cons (dv 3 rfl) da_nil)))) rfl ?_)
      refine ds_cons (d1_asg 5 (de_methS0 (ok_reach B) B.k_Held (dv 4 rfl) (b1, b2, l) rfl oh (ll rfl)) rfl ?_)
      refine ds_cons (d1_asg 6 (de_methS (ok_apart_by B) B.k_Held (dv 4 rfl) (da_cons (dv 5 rfl) da_nil) ((b1, b2, l), reachM (b1, b2, l)) rfl ⟨oh, hrl, inv.ok⟩ (ll rfl)) rfl ?_)
      cases z : apartM (b1, b2, l) (reachM (b1, b2, l)) with
      | some w =>
        rw [z] at e3
        refine ds_cons (d1_if (k := true) (dt_cmp c_notN (rv 6 rfl) de_non.re) (fun _ => ds_cons (d1_ret (de_make (ok_Parted B) (l, w) trivial (ll rfl) (da_cons (dv 3 rfl) (da_cons (dv 6 rfl) da_nil))) ?_)) fun e => by cases e)
        show _ = eCmp CA CD (compareM b1 b2)
        rw [← e3]; rfl
      | none =>
        rw [z] at e3
        have hnk : kLot l ∉ ksT t := fun y => hnl (ksT_mem.mp y)
        refine ds_cons (d1_if (k := false) (dt_cmp c_notN (rv 6 rfl) de_non.re) (fun e => by cases e) fun _ => ds_nil ?_)
        refine ds_cons (d1_setD (k := kLot l) (d := .tup ((srt ePr (pairsR (reachM (b1, b2, l)))).map ePr)) 2 rfl rfl (by first | exact .inl rfl | exact .inr (.inl rfl)) ((de_tupL B.b_tuple ((le_sorted B.b_sorted ((le_comp1 7 ePO (keysR (reachM (b1, b2, l))) (fun q => !isNon (ePO q)) ePO ((it_dk (dv 5 rfl)).is ?_) ?_ (fun q hq => dt_cmp c_notN (rv 7 rfl) de_non.re) (fun q hq _ => dv 7 rfl)).re.is (y := .lst ((pairsR (reachM (b1, b2, l))).map ePr)) (by rw [pairsR_map]; rfl)) (srt_pr.ok (ll rfl) _ (Nat.le_trans (pairsR_len _) (Nat.le_trans hrl (ll rfl))))).is (sortD_map _)).re)) ((dv 3 rfl).is (kd_lot l).symm) (ask_lot l) ?_ (ds_nil ⟨_, ?_, t ++ [(l, srt ePr (pairsR (reachM (b1, b2, l))))], done ++ [l], by rw [e1, List.append_assoc]; rfl, by rw [List.map_append, e2]; rfl, e3, rfl⟩))
        · unfold ksR keysR
          rw [List.map_map, List.map_map]
          apply List.map_congr_left
          intro q _
          exact kd_po q.1
        · unfold keysR
          rw [List.length_map]; omega
        · unfold ksT; rw [List.length_map]; omega
        · rw [dsK_new hnk, dsX_new hnk, ksT_app, xsT_app]
          exact wk_eq (wk_eq (wk_eq (wk_no (wk_no (wk_no (wk_no (wk_no wk_nil)))))))
    · subst e4
      rw [List.append_nil] at e1
      have e3 : Except.ok t = compareM b1 b2 := e3
      refine ds_freezeD 2 rfl ?_
      refine ds_cons (d1_ret (de_make (ok_Alike B) (b1.1.1.length, t) ⟨hn, fun x hx => ?_, ?_⟩ (ll rfl) (da_cons (dv 2 rfl) da_nil)) ?_)
      · have : x.1 ∈ t.map (·.1) := List.mem_map_of_mem hx
        rw [e2, ← e1] at this
        exact lotsM_mem.mp this
      · show (t.map (·.1)).Nodup
        rw [e2, ← e1]; exact lotsM_nd hn
      · show _ = eCmp CA CD (compareM b1 b2)
        rw [← e3]; rfl
end
end Cal
set_option Elab.async false
set_option linter.all false
set_option maxRecDepth 100000
set_option maxHeartbeats 4000000
namespace Cal
open PySem PySem.Spec PyProof.Rows L2
def isOkE {α β : Type} : Except α β → Bool
  | .ok _ => true
  | .error _ => false
def aheadOf : Except (Lot × List Way) Told → Option Lot
  | .ok _ => none
  | .error x => some x.1
section
variable {c : Cfg} {CP CH CA CD : Addr} (B : Glb c CP CH CA CD) (L : LotsOf c CP)
include B L
theorem ok_are_alike : Has c 10 "are_alike" (spP c (fun a : Bld × Bld => [eBld CP a.1, eBld CP a.2]) (fun a => Ok2 a ∧ (a.1.1.1.length = 2 ∨ a.1.1.1.length = 3)) fun a => .bl (isOkE (compareM a.1 a.2))) :=
  has_of B.are_alike (fun _ => rfl) fun ⟨b1, b2⟩ o => by
    refine ds_cons (d1_ret (de_isiC B.b_isinstance B.g_Alike (de_call (ok_compare B L) (b1, b2) o (ll rfl) (da_cons (dv 0 rfl) (da_cons (dv 1 rfl) da_nil))).re ?_ ?_) rfl)
    · show TyOk c (eCmp CA CD (compareM b1 b2))
      cases compareM b1 b2 with
      | ok t => exact B.i_Alike
      | error x => exact B.i_Parted
    · show PySem.W.kitOne c.K (tyD (eCmp CA CD (compareM b1 b2))) (.ref CA) = some (isOkE (compareM b1 b2))
      cases compareM b1 b2 with
      | ok t => exact bne_self CA
      | error x => exact B.q_DA
theorem ok_first_parting : Has c 10 "first_parting" (spP c (fun a : Bld × Bld => [eBld CP a.1, eBld CP a.2]) (fun a => Ok2 a ∧ (a.1.1.1.length = 2 ∨ a.1.1.1.length = 3)) fun a => eO eLot (aheadOf (compareM a.1 a.2))) :=
  has_of B.first_parting (fun _ => rfl) fun ⟨b1, b2⟩ o => by
    refine ds_cons (d1_asg 2 (de_call (ok_compare B L) (b1, b2) o (ll rfl) (da_cons (dv 0 rfl) (da_cons (dv 1 rfl) da_nil))) rfl ?_)
    show DS _ [_, _, .dat (eCmp CA CD (compareM b1 b2))] _ { nx := fun _ => eO eLot (aheadOf (compareM b1 b2)) = .non, rt := fun r => r = eO eLot (aheadOf (compareM b1 b2)) }
    cases compareM b1 b2 with
    | ok t => exact ds_cons (d1_ret (de_if (k := false) (d1 := .non) (d2 := .non) (dt_val (de_isiC (x := eAlike CA t) B.b_isinstance B.g_Parted (dv 2 rfl).re B.i_Alike B.q_AD)) (fun e => by cases e) fun _ => de_non) rfl)
    | error x => exact ds_cons (d1_ret (de_if (k := true) (d1 := eLot x.1) (d2 := .non) (dt_val (de_isiC (x := eParted CD x) B.b_isinstance B.g_Parted (dv 2 rfl).re B.i_Parted (bne_self CD))) (fun _ => de_fld2 (dv 2 rfl) B.k_Parted B.n_ahead) fun e => by cases e) rfl)
end
end Cal
set_option Elab.async false
set_option linter.all false
set_option maxRecDepth 100000
set_option maxHeartbeats 4000000
namespace Cal
open PySem PySem.Spec PyProof.Rows L2
/-! ### a def that gives a new list -/
def spL {A : Type} (c : Cfg) (enc : A → List Dat) (dom : A → Prop) (g : A → List Dat) : Sp := fun vs H Q _ => ∃ a F, dom a ∧ Good c no F H ∧ IsL c F (enc a) vs ∧ ∀ p us F' H', H p = none → F' p = none → H' p = some (.lst us) → IsL c F' (g a) us → Gr c no F H F' H' → Q (.ref p) H'
section
variable {j : J} {G : List Slot} {e : Expr} {es : List Expr} {f : Str} {p pos : Pos}
theorem le_callL {A : Type} {enc : A → List Dat} {dom : A → Prop} {g : A → List Dat} {i : Nat} (h : Has j.c i f (spL j.c enc dom g)) (a : A) (hd : dom a) (hi : i ≤ j.k) (ha : DA j G (e :: es) (enc a)) (hg : GlN j f := by rfl) (hdb : (f == ("__debug__" : Str)) = false := by decide)
    (he : ∀ env : Env, starEach (e :: es) env = (false, eval e env) :: starEach es env := by intro _; rfl) (hpl : ∀ env : Env, (backTo pos (starEach es env)).any (·.1) = false := by intro _; rfl) : LE j G (.Call (.Name f p) (e :: es) [] pos) (g a) := by
  intro X hX σ F H q hE hq
  obtain ⟨t, h1, h2, h3⟩ := h.ex
  refine we_of (pe_callR (fnR_at hX h3) (hX.room.mono hi) (hX.gl hg) (by rw [hX.mg]; exact h1) (by rw [hX.K]; exact h2) wa hdb (he _) (hpl _)) (ha X hX σ F H _ hE fun vs F1 H1 i1 g1 => ?_)
  exact ⟨a, F1, hd, g1.good.toNo, i1, fun r us F2 H2 n1 n2 n3 i2 g2 => hq r us F2 H2 (g1.back n1) ⟨n2, (g1.good.back n1).2⟩ n3 i2 (g1.trans (g2.up g1.good))⟩
theorem hasL_of {A : Type} {c : Cfg} {st : Stmt} {enc : A → List Dat} {dom : A → Prop} {g : A → List Dat} {k : Nat} {f : Str} {N ps : List Str} (d : Def c f st N ps) (hl : ∀ a, (enc a).length = ps.length)
    (hb : ∀ a, dom a → DS (jF c N st k) (startG N (enc a)) (defBody st) { nx := fun _ => False, rt := fun _ => False, ro := fun r => r = g a }) : Has c (k + 1) f (spL c enc dom g) := by
  obtain ⟨nm, qual, t, fd, hF, hm, hB⟩ := d.ex
  refine ⟨t, hm, hF.kp, ?_⟩
  have ok : FnOk c.P c.w c.K c.mg c.base CX0 (k + 1) t fd ps (spL c enc dom g) := hF.ok d.sc (fun vs H Q E ⟨a, F, _, _, h3, _⟩ => by rw [← h3.len, hl]) fun cdv A outer s H vs Q E hr ⟨a, F, h1, h2, h3, h4⟩ => by
    refine ⟨_, wss, hb a h1 _ (at_body (c := c) d.sc k no hr) (L2.start N vs) F H F F H _ ⟨start_env h2 h3, Gr.refl h2, fun i s p hs os => (startG_own hs os).elim, Ext.refl _⟩ ⟨fun σ F' H' G hn r => hn.elim, fun v d F' H' e i g => e.elim, fun p vs xs F' H' z n1 n2 n3 i g => ?_⟩⟩
    subst z
    exact h4 p vs F' H' n1 n2.1 n3 i g
  have := ok.raw hB (dvs := []) .nil
  exact this.imp fun vs H Q E h => by rw [List.append_nil]; exact h
end
end Cal
set_option Elab.async false
set_option linter.all false
set_option maxRecDepth 100000
set_option maxHeartbeats 4000000
namespace Cal
open PySem PySem.Spec PyProof.Rows L2
/-- the uses of a body -/
def innerM (p : Plan) (m n : Nat) : List U3 := match foundR p.2 m n with
  | some r => r.2.2.map fun u => (some m, u)
  | none => []
section
variable {c : Cfg} {CP CH CA CD : Addr} (B : Glb c CP CH CA CD)
include B
theorem ok_law_row : Has c 1 "_law_row" (spP c (fun a : Plan × Nat × Nat => [ePlan a.1, eN a.2.1, eN a.2.2]) (fun a => OkPlan a.1 ∧ a.2.1 < a.1.2.length) fun a => eO eRow (foundR a.1.2 a.2.1 a.2.2)) :=
  has_of B.law_row (fun _ => rfl) fun ⟨p, m, n⟩ ⟨h0, h1⟩ => by
    have h0 : OkPlan p := h0
    have h1 : m < p.2.length := h1
    have hm : p.2[m]? = some (p.2.getD m []) := by rw [List.getD_eq_getElem?_getD, List.getElem?_eq_getElem h1]; rfl
    have hz : (p.2.getD m []).length ≤ 1000000 := by
      have h2 := (h0.2.2 (p.2.getD m []) (List.mem_of_getElem? hm)).len
      have h3 : p.1.length ≤ 4 := h0.1.2.1
      omega
    refine ds_cons (d1_comp1 3 4 eRow (p.2.getD m []) (fun r => decide (r.1 = n)) eRow (it_tup (de_ixT (de_ixT (d := eMods p.2) (dv 0 rfl) de_int rfl) (dv 1 rfl) (atI_map hm))) hz (fun r hr => dt_cmp (c_eqE inj_nat (ll rfl) r.1 n) (de_ixT (dv 4 rfl) de_int rfl).re (rv 2 rfl)) (fun r hr _ => dv 4 rfl) ?_)
    refine ds_cons (d1_retX (R := fun d => d = eO eRow (foundR p.2 m n)) (DE.toX (de_if (d1 := eO eRow (foundR p.2 m n)) (d2 := .non) (dt_cmp (c_neNil (inj_row.all _)) (ro 3 rfl) (le_lst da_nil (ll rfl)).re) (fun h => ?_) (fun _ => de_non)) ?_) fun d z => z)
    · refine de_ixL (ro 3 rfl) de_int ?_
      unfold foundR
      cases q : ((p.2.getD m []).filter fun r => decide (r.1 = n)) with
      | nil => rw [q] at h; cases h
      | cons a as => exact atI_map (n := 0) rfl
    · unfold foundR
      cases q : ((p.2.getD m []).filter fun r => decide (r.1 = n)) with
      | nil => rfl
      | cons a as => rfl
theorem ok_law_how : Has c 2 "_law_how" (spP c (fun a : Plan × Nat × Nat => [ePlan a.1, eN a.2.1, eN a.2.2]) (fun a => OkPlan a.1 ∧ a.2.1 < a.1.2.length) fun a => eO Dat.str (showOf a.1.2 a.2.1 a.2.2)) :=
  has_of B.law_how (fun _ => rfl) fun ⟨p, m, n⟩ hh => by
    refine ds_cons (d1_asg 3 (de_call (ok_law_row B) (p, m, n) hh (ll rfl) (da_cons (dv 0 rfl) (da_cons (dv 1 rfl) (da_cons (dv 2 rfl) da_nil)))) rfl ?_)
    refine ds_cons (d1_ret (de_if (d1 := .non) (d2 := eO Dat.str (showOf p.2 m n)) (dt_cmp c_isN (rv 3 rfl) de_non.re) (fun _ => de_non) (fun h => ?_)) ?_)
    · show DE _ _ _ (eO Dat.str ((foundR p.2 m n).map _))
      cases q : foundR p.2 m n with
      | none =>
        exfalso
        have h' : isNon (eO eRow (foundR p.2 m n)) = false := h
        rw [q] at h'; cases h'
      | some r => exact de_ixT ((dv 3 rfl).is (y := eRow r) rfl) de_int rfl
    · show cond (isNon (eO eRow (foundR p.2 m n))) _ (eO Dat.str ((foundR p.2 m n).map _)) = eO Dat.str ((foundR p.2 m n).map _)
      cases q : foundR p.2 m n with
      | none => rfl
      | some r => rfl
theorem ok_law_outer : Has c 1 "_law_outer" (spP c (fun a : Plan => [ePlan a]) (fun a => a.1.length ≤ 4) fun a => .lst ((outer a.1).map eU3)) :=
  has_of B.law_outer (fun _ => rfl) fun p hp => by
    have hp : p.1.length ≤ 4 := hp
    refine ds_cons (d1_own 1 (le_lst da_nil (ll rfl)) rfl ?_)
    refine ds_cons (d1_for (as := enumL 0 p.1) (enc := fun q => .tup [eN q.1, .str q.2]) (fun rem G => ∃ done, enumL 0 p.1 = done ++ rem ∧ G = [.dat (ePlan p), .own ((done.flatMap outU).map eU3), .no, .no]) ((it_enumT (de_ixT (d := eSorts p.1) (dv 0 rfl) de_int rfl) B.b_enumerate).is (enumD_map Dat.str 0 p.1)) ⟨[], rfl, rfl⟩ (fun a rem G ⟨done, h1, h2⟩ => ?_) (fun G ⟨done, h1, h2⟩ => ?_))
    · subst h2
      refine ⟨_, dn2 (dn 2) (dn 3), ?_⟩
      have e1 := congrArg List.length h1
      rw [enumL_len, List.length_append] at e1
      have e2 : ((done.flatMap outU).map eU3).length = 2 * done.length := by rw [List.length_map, outU_len]
      refine ds_cons (d1_own 1 (xs := ((done ++ [a]).flatMap outU).map eU3) ((le_cat (ro 1 rfl) (le_lst (da_cons (de_tup (da_cons de_non (da_cons (de_if (dt_cmp (c_eqE inj_str (ll rfl) a.2 "call") (rv 3 rfl) de_str.re) (fun _ => de_str) fun _ => de_str) (da_cons (dv 2 rfl) da_nil))) (ll rfl)) (da_cons (de_tup (da_cons de_non (da_cons de_str (da_cons (dv 2 rfl) da_nil))) (ll rfl)) da_nil)) (ll rfl)).re ?_).is ?_) rfl (ds_nil ⟨_, ?_, done ++ [a], by rw [h1, List.append_assoc]; rfl, rfl⟩))
      · rw [e2]; show 2 * done.length + 2 ≤ 100000; omega
      · rw [List.flatMap_append, List.map_append]
        congr 1
        show _ = (outU a ++ []).map eU3
        rw [List.append_nil]
        unfold outU eU3
        by_cases z : a.2 = "call" <;> simp [z, eO]
      · exact wk_eq (wk_eq (wk_no (wk_no wk_nil)))
    · subst h2
      rw [List.append_nil] at h1
      rw [← h1]
      exact ds_cons (d1_retF 1 rfl rfl (.inl rfl) rfl)
theorem ok_law_inner : Has c 2 "_law_inner" (spP c (fun a : Plan × Nat × Nat => [ePlan a.1, .tup [eN a.2.1, eN a.2.2]]) (fun a => OkPlan a.1 ∧ a.2.1 < a.1.2.length ∧ foundR a.1.2 a.2.1 a.2.2 ≠ none) fun a => .lst ((innerM a.1 a.2.1 a.2.2).map eU3)) :=
  has_of B.law_inner (fun _ => rfl) fun ⟨p, m, n⟩ ⟨h0, h1, h2⟩ => by
    have h0 : OkPlan p := h0
    have h1 : m < p.2.length := h1
    have h2 : foundR p.2 m n ≠ none := h2
    cases q : foundR p.2 m n with
    | none => exact absurd q h2
    | some r =>
      have hz : r.2.2.length ≤ 3 := (h0.row h1 q).2.2.1
      refine ds_cons (d1_ret ((le_map2 2 3 (fun u : Use => .str u.1) (fun u => eN u.2) r.2.2 (fun u => eU3 (some m, u)) (it_tup (de_ixT ((de_call (ok_law_row B) (p, m, n) ⟨h0, h1⟩ (ll rfl) (da_cons (dv 0 rfl) (da_cons (de_ixT (dv 1 rfl) de_int rfl) (da_cons (de_ixT (dv 1 rfl) de_int rfl) da_nil)))).is (y := eRow r) (by show eO eRow (foundR p.2 m n) = _; rw [q]; rfl)) de_int rfl)) (Nat.le_trans hz (ll rfl)) fun u hu => de_tup (da_cons (de_ixT (dv 1 rfl) de_int rfl) (da_cons (dv 2 rfl) (da_cons (dv 3 rfl) da_nil))) (ll rfl)).de) ?_)
      show _ = Dat.lst ((innerM p m n).map eU3)
      unfold innerM
      rw [q, List.map_map]; rfl
theorem ok_law_are_mods : Has c 1 "_law_are_modules" (spP c (fun a : Fork => [eFork a]) (fun _ => True) fun a => .bl (areMods a)) :=
  has_of B.law_are_modules (fun _ => rfl) fun ⟨f, g⟩ _ => by
    refine ds_cons (d1_ret (de_and (de_cmp (c_notinE inj_plc (ll rfl) f [none, some (-1)]) (de_ixT (dv 0 rfl) de_int rfl).re (de_tup (da_cons de_non (da_cons (de_neg de_int) da_nil)) (ll rfl)).re) fun _ => de_one (de_cmp (c_notinE inj_plc (ll rfl) g [none, some (-1)]) (de_ixT (dv 0 rfl) de_int rfl).re (de_tup (da_cons de_non (da_cons (de_neg de_int) da_nil)) (ll rfl)).re)) ?_)
    show _ = Dat.bl (isAt f && isAt g)
    unfold isAt
    simp
end
end Cal
set_option Elab.async false
set_option linter.all false
set_option maxRecDepth 100000
set_option maxHeartbeats 4000000
namespace Cal
open PySem PySem.Spec PyProof.Rows L2
def lawHow (ms : Mods) (ch : List Cut) (n at_ : Nat) : Option Str := if (("copy", at_, n) : Cut) ∈ ch then some "shown" else showOf ms at_ n
def isFirm (ms : Mods) (ch : List Cut) (n at_ : Nat) : Bool := decide (lawHow ms ch n at_ ∈ [some ("shown" : Str), some "protected"])
def isWeak (ms : Mods) (ch : List Cut) (n at_ : Nat) : Bool := !isFirm ms ch n at_ && decide (lawHow ms ch n at_ = some ("weak" : Str))
def lawLine (ms : Mods) (ch : List Cut) (l n : Nat) : List Int :=
  (if l = 2 then [-1] else []) ++ ((rgN 0 ms.length).filter (isFirm ms ch n)).map (fun (i : Nat) => (i : Int)) ++ (if l = 1 then [-1] else []) ++ ((rgN 0 ms.length).filter (isWeak ms ch n)).map (fun (i : Nat) => (i : Int))
theorem isFirm_eq (ms : Mods) (ch : List Cut) (n at_ : Nat) : isFirm ms ch n at_ = firmAt ms ch n at_ := by
  unfold isFirm firmAt lawHow
  by_cases z : (("copy", at_, n) : Cut) ∈ ch
  · simp [z]
  · simp [z]
theorem first_filter {A : Type} {f : A → Bool} : ∀ as : List A, first? f as = (as.filter f).head?
  | [] => rfl
  | a :: as => by
    unfold first?
    by_cases z : f a = true
    · rw [if_pos z, List.filter_cons_of_pos z]; rfl
    · rw [if_neg z, List.filter_cons_of_neg z, first_filter as]
theorem lawLine_met (ms : Mods) (ch : List Cut) (l n : Nat) : (lawLine ms ch l n).head? = met2 ms ch l n := by
  unfold lawLine met2
  rw [show isFirm ms ch n = firmAt ms ch n from funext (isFirm_eq ms ch n), first_filter]
  by_cases h2 : l = 2
  · rw [if_pos h2, if_pos h2]; rfl
  · rw [if_neg h2, if_neg h2, List.nil_append]
    cases q : (rgN 0 ms.length).filter (firmAt ms ch n) with
    | cons a as => rfl
    | nil =>
      rw [List.map_nil, List.nil_append]
      show _ = if l = 1 then some (-1) else _
      by_cases h1 : l = 1
      · rw [if_pos h1, if_pos h1]; rfl
      · rw [if_neg h1, if_neg h1, List.nil_append]
        have e : (rgN 0 ms.length).filter (isWeak ms ch n) = (rgN 0 ms.length).filter (weakAt ms n) := by
          refine List.filter_congr fun at_ hat => ?_
          have hf : firmAt ms ch n at_ = false := by
            cases z : firmAt ms ch n at_ with
            | false => rfl
            | true =>
              have : at_ ∈ (rgN 0 ms.length).filter (firmAt ms ch n) := List.mem_filter.mpr ⟨hat, z⟩
              rw [q] at this; simp at this
          unfold isWeak weakAt
          rw [isFirm_eq, hf]
          have hc : (("copy", at_, n) : Cut) ∉ ch := fun z => by
            unfold firmAt at hf
            rw [decide_eq_true z, Bool.or_true] at hf; cases hf
          unfold lawHow
          rw [if_neg hc]; rfl
        rw [e, List.head?_map]
        cases ((rgN 0 ms.length).filter (weakAt ms n)).head? <;> rfl
section
variable {c : Cfg} {CP CH CA CD : Addr} (B : Glb c CP CH CA CD)
include B
theorem ok_law_met : Has c 3 "_law_met" (spP c (fun a : Plan × List Cut × Lot × U3 => [ePlan a.1, eCh a.2.1, eLot a.2.2.1, eU3 a.2.2.2]) (fun a => OkPlan a.1 ∧ OkLot a.1 a.2.2.1 ∧ a.2.2.2.2.2 < a.1.1.length ∧ ∀ m, a.2.2.2.1 = some m → m < a.1.2.length) fun a => ePlc (met a.1.2 a.2.1 a.2.2.1 a.2.2.2)) :=
  has_of B.law_met (fun _ => rfl) fun ⟨p, ch, lot, m, w, n⟩ ⟨h0, ⟨hl1, hl2⟩, hn, hm⟩ => by
    have h0 : OkPlan p := h0
    have hn : n < p.1.length := hn
    have hm : ∀ m', m = some m' → m' < p.2.length := hm
    have hl1 : lot.length = p.1.length := hl1
    have hml : p.2.length ≤ 3 := h0.2.1.2
    have hlot : lot[n]? = some (lot.getD n 0) := by rw [List.getD_eq_getElem?_getD, List.getElem?_eq_getElem (by omega)]; rfl
    have rest : ∀ G4, DS (jF c N_law_met st_law_met 2) [.dat (ePlan p), .dat (eCh ch), .dat (eLot lot), .dat (eU3 (m, w, n)), G4, .dat (.str w), .dat (eN n), .no, .no, .no, .no, .no] ((defBody st_law_met).drop 2) { nx := fun _ => ePlc (met2 p.2 ch (lot.getD n 0) n) = .non, rt := fun r => r = ePlc (met2 p.2 ch (lot.getD n 0) n) } := fun G4 => by
      refine ds_cons (d1_par 7 8 (le_lst da_nil (ll rfl)).sx (le_lst da_nil (ll rfl)).sx rfl rfl (by decide) (fun s t e1 e2 => ?_) rfl rfl (fun env he => by cases env; cases he; rfl))
      subst e1 e2
      refine ds_cons (d1_for (as := rgN 0 p.2.length) (enc := eN) (fun rem G => ∃ done, rgN 0 p.2.length = done ++ rem ∧ G = [.dat (ePlan p), .dat (eCh ch), .dat (eLot lot), .dat (eU3 (m, w, n)), G4, .dat (.str w), .dat (eN n), .own ((done.filter (isFirm p.2 ch n)).map eN), .own ((done.filter (isWeak p.2 ch n)).map eN), .no, .no, .no]) ((it_rng1 ((de_lenT B.b_len (de_ixT (d := eMods p.2) (dv 0 rfl) de_int rfl).re).is (by rw [List.length_map])) B.b_range (by omega)).is (rgD_nat 0 _)) ⟨[], rfl, rfl⟩ (fun a rem G ⟨done, e1, e2⟩ => ?_) (fun G ⟨done, e1, e2⟩ => ?_))
      · subst e2
        refine ⟨_, dn 9, ?_⟩
        have ha : a < p.2.length := (rgN_mem.mp (show a ∈ rgN 0 p.2.length by rw [e1]; simp)).2
        have hd : done.length ≤ 3 := by
          have := congrArg List.length e1
          rw [rgN_len, List.length_append] at this
          omega
        have d1 : ((done.filter (isFirm p.2 ch n)).map eN).length ≤ 3 := by rw [List.length_map]; exact Nat.le_trans (List.length_filter_le _ _) hd
        have d2 : ((done.filter (isWeak p.2 ch n)).map eN).length ≤ 3 := by rw [List.length_map]; exact Nat.le_trans (List.length_filter_le _ _) hd
        refine ds_cons (d1_asg 10 (d := eO Dat.str (lawHow p.2 ch n a)) ((de_if (d1 := .str "shown") (d2 := eO Dat.str (showOf p.2 a n)) (dt_cmp (c_inE inj_cut (ll rfl) ("copy", a, n) ch) (de_tup (da_cons de_str (da_cons (dv 9 rfl) (da_cons (dv 6 rfl) da_nil))) (ll rfl)).re (rv 1 rfl)) (fun _ => de_str) (fun _ => de_call (ok_law_how B) (p, a, n) ⟨h0, ha⟩ (ll rfl) (da_cons (dv 0 rfl) (da_cons (dv 9 rfl) (da_cons (dv 6 rfl) da_nil))))).is ?_) rfl ?_)
        · unfold lawHow
          by_cases z : (("copy", a, n) : Cut) ∈ ch <;> simp [z, eO]
        refine ds_cons (d1_if (dt_cmp (c_inE inj_ms (ll rfl) (lawHow p.2 ch n a) [some "shown", some "protected"]) (rv 10 rfl) (de_tup (da_cons de_str (da_cons de_str da_nil)) (ll rfl)).re) (fun hb => ?_) fun hb => ?_)
        · have hf : isFirm p.2 ch n a = true := hb
          refine ds_cons (d1_append 7 rfl rfl (.inl rfl) (dv 9 rfl) (Nat.le_trans d1 (ll rfl)) (ds_nil (ds_nil ⟨_, ?_, done ++ [a], by rw [e1, List.append_assoc]; rfl, rfl⟩)))
          rw [List.filter_append, List.filter_append, show [a].filter (isFirm p.2 ch n) = [a] from by rw [List.filter_cons_of_pos hf]; rfl, show [a].filter (isWeak p.2 ch n) = [] from by rw [List.filter_cons_of_neg (by unfold isWeak; rw [hf]; simp)]; rfl, List.append_nil, List.map_append]
          exact wk_eq (wk_eq (wk_eq (wk_eq (wk_eq (wk_eq (wk_eq (wk_eq (wk_eq (wk_no (wk_no (wk_no wk_nil)))))))))))
        · have hf : isFirm p.2 ch n a = false := hb
          refine ds_cons (d1_if (dt_cmp (c_eqE inj_ms (ll rfl) (lawHow p.2 ch n a) (some "weak")) (rv 10 rfl) de_str.re) (fun hw => ?_) fun hw => ds_nil (ds_nil (ds_nil ?_)))
          · have hk : isWeak p.2 ch n a = true := by unfold isWeak; rw [hf, show decide _ = true from hw]; rfl
            refine ds_cons (d1_append 8 rfl rfl (.inl rfl) (dv 9 rfl) (Nat.le_trans d2 (ll rfl)) (ds_nil (ds_nil (ds_nil ⟨_, ?_, done ++ [a], by rw [e1, List.append_assoc]; rfl, rfl⟩))))
            rw [List.filter_append, List.filter_append, show [a].filter (isFirm p.2 ch n) = [] from by rw [List.filter_cons_of_neg (by rw [hf]; simp)]; rfl, show [a].filter (isWeak p.2 ch n) = [a] from by rw [List.filter_cons_of_pos hk]; rfl, List.append_nil, List.map_append]
            exact wk_eq (wk_eq (wk_eq (wk_eq (wk_eq (wk_eq (wk_eq (wk_eq (wk_eq (wk_no (wk_no (wk_no wk_nil)))))))))))
          · have hk : isWeak p.2 ch n a = false := by unfold isWeak; rw [hf, show decide _ = false from hw]; rfl
            refine ⟨_, ?_, done ++ [a], by rw [e1, List.append_assoc]; rfl, rfl⟩
            rw [List.filter_append, List.filter_append, show [a].filter (isFirm p.2 ch n) = [] from by rw [List.filter_cons_of_neg (by rw [hf]; simp)]; rfl, show [a].filter (isWeak p.2 ch n) = [] from by rw [List.filter_cons_of_neg (by rw [hk]; simp)]; rfl, List.append_nil, List.append_nil]
            exact wk_eq (wk_eq (wk_eq (wk_eq (wk_eq (wk_eq (wk_eq (wk_eq (wk_eq (wk_no (wk_no (wk_no wk_nil)))))))))))
      · subst e2
        rw [List.append_nil] at e1
        subst e1
        have f1 : ((rgN 0 p.2.length).filter (isFirm p.2 ch n)).length ≤ 3 := Nat.le_trans (List.length_filter_le _ _) (by rw [rgN_len]; omega)
        have f2 : ((rgN 0 p.2.length).filter (isWeak p.2 ch n)).length ≤ 3 := Nat.le_trans (List.length_filter_le _ _) (by rw [rgN_len]; omega)
        have cl : ∀ k : Bool, (cond k [Dat.int (-1)] ([] : List Dat)).length ≤ 1 := fun k => by cases k <;> decide
        have ci : ∀ k : Nat, cond (decide (lot.getD n 0 = k)) [Dat.int (-1)] ([] : List Dat) = (if lot.getD n 0 = k then [(-1 : Int)] else []).map Dat.int := fun k => by
          by_cases z : lot.getD n 0 = k
          · rw [decide_eq_true z, if_pos z]; rfl
          · rw [decide_eq_false z, if_neg z]; rfl
        refine ds_cons (d1_own 11 (xs := (lawLine p.2 ch (lot.getD n 0) n).map Dat.int) ((le_cat (le_cat (le_cat (le_if (dt_cmp (c_eqE inj_nat (ll rfl) (lot.getD n 0) 2) (de_ixT (dv 2 rfl) (dv 6 rfl) (atI_map hlot)).re de_int.re) (fun _ => le_lst (da_cons (de_neg de_int) da_nil) (ll rfl)) (fun _ => le_lst da_nil (ll rfl))).re (ro 7 rfl) ?_).re (le_if (dt_cmp (c_eqE inj_nat (ll rfl) (lot.getD n 0) 1) (de_ixT (dv 2 rfl) (dv 6 rfl) (atI_map hlot)).re de_int.re) (fun _ => le_lst (da_cons (de_neg de_int) da_nil) (ll rfl)) (fun _ => le_lst da_nil (ll rfl))).re ?_).re (ro 8 rfl) ?_).is ?_) rfl ?_)
        · have := cl (decide (lot.getD n 0 = 2))
          rw [List.length_map]; omega
        · have := cl (decide (lot.getD n 0 = 2))
          have := cl (decide (lot.getD n 0 = 1))
          rw [List.length_append, List.length_map]; omega
        · have := cl (decide (lot.getD n 0 = 2))
          have := cl (decide (lot.getD n 0 = 1))
          rw [List.length_append, List.length_append, List.length_map, List.length_map]; omega
        · unfold lawLine
          rw [ci, ci, List.map_append, List.map_append, List.map_append, List.map_map, List.map_map]; rfl
        rw [← lawLine_met]
        generalize lawLine p.2 ch (lot.getD n 0) n = line
        refine ds_cons (d1_ret (de_if (d1 := ePlc line.head?) (d2 := .non) (dt_cmp (c_neNil (inj_int.all _)) (ro 11 rfl) (le_lst da_nil (ll rfl)).re) (fun h => ?_) fun _ => de_non) ?_)
        · refine de_ixL (ro 11 rfl) de_int ?_
          cases line with
          | nil => cases h
          | cons a as => exact atI_map (n := 0) rfl
        · cases line with
          | nil => rfl
          | cons a as => rfl
    refine ds_cons (d1_tgE (dv 3 rfl) (dn3 (dn 4) (dn 5) (dn 6)) ?_)
    cases m with
    | none =>
      refine ds_cons (d1_if (k := false) (dt_cmp c_notN (rv 4 rfl) de_non.re) (fun h => by cases h) fun _ => ds_nil (rest _))
    | some m =>
      have hm' : m < p.2.length := hm m rfl
      refine ds_cons (d1_if (k := true) (dt_cmp c_notN (rv 4 rfl) de_non.re) (fun _ => ?_) fun h => by cases h)
      have key : ∀ b : Bool, b = met1 p.2 ch m w n → (b = true → ePlc (met p.2 ch lot (some m, w, n)) = eN m) ∧ (b = false → ePlc (met p.2 ch lot (some m, w, n)) = ePlc (met2 p.2 ch (lot.getD n 0) n)) := fun b hb => by
        subst hb
        refine ⟨fun h => ?_, fun h => ?_⟩
        · show ePlc (if _ then _ else _) = _
          rw [if_pos h]; rfl
        · show ePlc (if _ then _ else _) = _
          rw [if_neg (by rw [show met1 p.2 ch m w n = false from h]; exact Bool.false_ne_true)]
      refine ds_cons (d1_if (dt_w (dw_or (dt_cmp (c_inE inj_cut (ll rfl) ("direct", m, n) ch) (de_tup (da_cons de_str (da_cons (dv 4 rfl) (da_cons (dv 6 rfl) da_nil))) (ll rfl)).re (rv 1 rfl)) fun _ => dw_or1 (dt_w (dw_and (dt_cmp (c_eqE inj_str (ll rfl) w "call") (rv 5 rfl) de_str.re) fun _ => dw_and1 (dt_cmp (c_inE inj_cut (ll rfl) ("place", m, n) ch) (de_tup (da_cons de_str (da_cons (dv 4 rfl) (da_cons (dv 6 rfl) da_nil))) (ll rfl)).re (rv 1 rfl)))))) (fun h => ds_cons (d1_ret (dv 4 rfl) ?_)) fun h => ds_nil ?_)
      · exact ((key true (by unfold met1; rw [show _ = true from h]; rfl)).1 rfl).symm
      refine ds_cons (d1_if (dt_cmp (c_inE inj_ms (ll rfl) (showOf p.2 m n) [some "protected", some "hidden"]) (de_call (ok_law_how B) (p, m, n) ⟨h0, hm'⟩ (ll rfl) (da_cons (dv 0 rfl) (da_cons (dv 4 rfl) (da_cons (dv 6 rfl) da_nil)))).re (de_tup (da_cons de_str (da_cons de_str da_nil)) (ll rfl)).re) (fun h' => ds_cons (d1_ret (dv 4 rfl) ?_)) fun h' => ds_nil ?_)
      · exact ((key true (by unfold met1; rw [show _ = false from h, show _ = true from h']; rfl)).1 rfl).symm
      refine ds_nil ?_
      have e2 := (key false (by unfold met1; rw [show _ = false from h, show _ = false from h']; rfl)).2 rfl
      show DS _ _ _ { nx := fun _ => ePlc (met p.2 ch lot (some m, w, n)) = .non, rt := fun r => r = ePlc (met p.2 ch lot (some m, w, n)) }
      rw [e2]
      exact rest _
end
end Cal
set_option Elab.async false
set_option linter.all false
set_option maxRecDepth 100000
set_option maxHeartbeats 4000000
namespace Cal
open PySem PySem.Spec PyProof.Rows L2
def eBs (h : H3) : Dat := .lst [eBuild h.1, eBuild h.2.1]
section
variable {c : Cfg} {CP CH CA CD : Addr} (B : Glb c CP CH CA CD)
include B
theorem ok_law_two : Has c 4 "_law_two" (spP c (fun a : H3 × Option Pr × Use => [eBs a.1, eLot a.1.2.2, ePO a.2.1, eUse a.2.2]) (fun a => OkH a.1 ∧ a.2.2.2 < a.1.1.1.1.length ∧ OkPO a.1 a.2.1) fun a => eFork (forkM a.1 (modsOf a.2.1) a.2.2)) :=
  has_of B.law_two (fun _ => rfl) fun ⟨⟨b1, b2, lot⟩, q, u⟩ ⟨h0, hn, hq⟩ => by
    have hs : b1.1.1 = b2.1.1 := h0.two.same
    have hn : u.2 < b1.1.1.length := hn
    have hml := modsOf_lt (h := (b1, b2, lot)) hq
    have okm : ∀ x ∈ [(b1, (modsOf q).1), (b2, (modsOf q).2)], OkPlan x.1.1 ∧ OkLot x.1.1 lot ∧ u.2 < x.1.1.1.length ∧ ∀ m, x.2 = some m → m < x.1.1.2.length := fun x hx => by
      rcases List.mem_cons.mp hx with rfl | hx
      · exact ⟨h0.two.one.plan, h0.lot, hn, hml.1⟩
      · rcases List.mem_cons.mp hx with rfl | hx
        · exact ⟨h0.two.two.plan, ⟨h0.lot.1.trans (congrArg List.length hs), h0.lot.2⟩, hs ▸ hn, hml.2⟩
        · simp at hx
    have main : DS (jF c N_law_two st_law_two 3) [.dat (eBs (b1, b2, lot)), .dat (eLot lot), .dat (ePO q), .dat (eUse u), .dat (eMs (modsOf q)), .no, .no, .no] ((defBody st_law_two).drop 1) { nx := fun _ => eFork (forkM (b1, b2, lot) (modsOf q) u) = .non, rt := fun r => r = eFork (forkM (b1, b2, lot) (modsOf q) u) } := by
      refine ds_cons (d1_ret (d := .tup ([(b1, (modsOf q).1), (b2, (modsOf q).2)].map fun x => ePlc (met x.1.1.2 x.1.2 lot (x.2, u)))) (de_tupL B.b_tuple (le_map [("_law_plan", 5), ("_law_choice_here", 6), ("_law_module", 7)] (fun x : Bld × Option Nat => .tup [eBuild x.1, eO eN x.2]) [(b1, (modsOf q).1), (b2, (modsOf q).2)] (fun x => ePlc (met x.1.1.2 x.1.2 lot (x.2, u))) ((it_zipLT (dv 0 rfl) (dv 4 rfl) B.b_zip).is rfl) (ll rfl) (fun x hx => ⟨[(5, ePlan x.1.1), (6, eCh x.1.2), (7, eO eN x.2)], dg_tup (u := [(5, ePlan x.1.1), (6, eCh x.1.2), (7, eO eN x.2)]) (dgs_cons (u := [(5, ePlan x.1.1), (6, eCh x.1.2)]) (u' := [(7, eO eN x.2)]) (dn2 (dn 5) (dn 6)) (dgs_cons (u := [(7, eO eN x.2)]) (u' := []) (dn 7) dgs_nil)), fun k hk => hk, de_call (ok_law_met B) (x.1.1, x.1.2, lot, (x.2, u)) (okm x hx) (ll rfl) (da_cons (dv 5 rfl) (da_cons (dv 6 rfl) (da_cons (dv 1 rfl) (da_cons (de_catT (xs := [eO eN x.2]) (ys := [.str u.1, eN u.2]) (de_tup (da_cons (dv 7 rfl) da_nil) (ll rfl)) (dv 3 rfl) (ll rfl)) da_nil))))⟩) rfl).re) rfl)
    cases q with
    | none => exact ds_cons (d1_asg 4 (d := eMs (none, none)) (de_if (k := true) (d1 := eMs (none, none)) (d2 := .non) (dt_cmp c_isN (rv 2 rfl) de_non.re) (fun _ => de_tup (da_cons de_non (da_cons de_non da_nil)) (ll rfl)) fun h => by cases h) rfl main)
    | some q => exact ds_cons (d1_asg 4 (d := eMs (some q.2.1, some q.2.2)) (de_if (k := false) (d1 := .non) (d2 := eMs (some q.2.1, some q.2.2)) (dt_cmp c_isN (rv 2 rfl) de_non.re) (fun h => by cases h) fun _ => (de_slT (dv 2 rfl) (dp_some de_int) dp_none).is (by rw [cut1]; rfl)) rfl main)
end
end Cal
set_option Elab.async false
set_option linter.all false
set_option maxRecDepth 100000
set_option maxHeartbeats 4000000
namespace Cal
open PySem PySem.Spec PyProof.Rows L2
theorem de_mulX {j : J} {G : List Slot} {a b : Expr} {pos : Pos} {m n : Int} (ha : DE j G a (.int m)) (hb : DE j G b (.int n)) (hc : CMulX m n) : DE j G (.BinOp a .Mult b pos) (.int (m * n)) := de_bin (fun _ => op_mulX) ha hb fun F H v u q g h1 h2 hq => ⟨m, n, is_int.mp h1, is_int.mp h2, hc, hq _ F H (is_int.mpr rfl) (Gr.refl g)⟩
end Cal
set_option Elab.async false
set_option linter.all false
set_option maxRecDepth 100000
set_option maxHeartbeats 4000000
namespace Cal
open PySem PySem.Spec PyProof.Rows L2
def primes : List Int := [1000003, 1000033, 1000037, 1000039, 1000081, 1000099, 1000117, 1000121, 1000133, 1000151, 1000159, 1000171, 1000183, 1000187, 1000193, 1000199]
def prime (k : Int) : Int := primes.getD (k % 16).toNat 1
/-- at most so many bits -/
def Fits (x : Int) (n : Nat) : Prop := ∃ a, a ≤ n ∧ x.natAbs < 2 ^ a
def drawM (x k many : Int) : Int := ((x * 48271 + k * 69621) % prime k) % many
theorem prime_at (k : Int) : atI (primes.map Dat.int) (k % 16) = some (.int (prime k)) ∧ 0 < prime k := by
  have h0 : 0 ≤ k % 16 := Int.emod_nonneg _ (by decide)
  have h1 : k % 16 < 16 := Int.emod_lt_of_pos _ (by decide)
  unfold prime
  generalize k % 16 = r at h0 h1
  obtain ⟨n, rfl⟩ := Int.eq_ofNat_of_zero_le h0
  have hn : n < 16 := by omega
  rw [atI_nat, Int.toNat_natCast]
  refine ⟨?_, (by decide : ∀ n : Fin 16, 0 < primes.getD n.val 1) ⟨n, hn⟩⟩
  have hl : n < primes.length := hn
  rw [List.getElem?_map, List.getD_eq_getElem?_getD, List.getElem?_eq_getElem hl]; rfl
/-- a row of written whole numbers -/
def constsI : List Expr → Option (List Int)
  | [] => some []
  | .Constant (.int i) _ _ :: es => (constsI es).map (i :: ·)
  | _ => none
theorem da_ints {j : J} {G : List Slot} : ∀ {es : List Expr} {l : List Int}, constsI es = some l → DA j G es (l.map Dat.int)
  | [], l, h => by cases h; exact da_nil
  | e :: es, l, h => by
    unfold constsI at h
    split at h
    · rename_i q
      cases q
    · rename_i i k p r q
      cases q
      cases z : constsI es with
      | none => rw [z] at h; cases h
      | some r => rw [z] at h; cases h; exact da_cons de_int (da_ints z)
    · cases h
theorem de_tupInts {j : J} {G : List Slot} {es : List Expr} {nn : Nat} {pos : Pos} {l : List Int} (h : constsI es = some l) (hl : l.length ≤ 100000) : DE j G (.Tuple es nn pos) (.tup (l.map Dat.int)) := de_tup (da_ints h) (by rw [List.length_map]; exact hl)
section
variable {c : Cfg} {CP CH CA CD : Addr} (B : Glb c CP CH CA CD)
include B
theorem ok_law_draw : Has c 1 "_law_draw" (spP c (fun a : Int × Int × Int => [.int a.1, .int a.2.1, .int a.2.2]) (fun a => Fits a.1 100000000 ∧ Fits a.2.1 60 ∧ 0 < a.2.2) fun a => .int (drawM a.1 a.2.1 a.2.2)) :=
  has_of B.law_draw (fun _ => rfl) fun ⟨x, k, many⟩ ⟨⟨a1, l1, h1⟩, ⟨a2, l2, h2⟩, h3⟩ => by
    obtain ⟨p1, p2⟩ := prime_at k
    refine ds_cons (d1_asg 3 (d := .tup (primes.map Dat.int)) (de_tupInts (l := primes) (by kernel_rfl) (ll rfl)) rfl ?_)
    exact ds_cons (d1_ret (de_mod (de_mod (de_intI B.b_int (de_add (de_mulX (dv 0 rfl) de_int (mulx_ok (b := 16) h1 (by decide) (by omega))) (de_mulX (dv 1 rfl) de_int (mulx_ok (b := 17) h2 (by decide) (by omega)))).re) (de_ixT (dv 3 rfl) (de_mod (dv 1 rfl) de_int (by decide)) p1) p2) (dv 2 rfl) h3) rfl)
end
end Cal
set_option Elab.async false
set_option linter.all false
set_option maxRecDepth 100000
set_option maxHeartbeats 4000000
namespace Cal
open PySem PySem.Spec PyProof.Rows L2
/-! ### sizes -/
theorem Fits.mono {x : Int} {m n : Nat} (h : Fits x m) (k : m ≤ n) : Fits x n := let ⟨a, h1, h2⟩ := h; ⟨a, Nat.le_trans h1 k, h2⟩
theorem Fits.top {x : Int} {m : Nat} (h : Fits x m) : x.natAbs < 2 ^ m := let ⟨a, h1, h2⟩ := h; Nat.lt_of_lt_of_le h2 (Nat.pow_le_pow_right (by decide) h1)
theorem Fits.of {x : Int} {n : Nat} (h : x.natAbs < 2 ^ n) : Fits x n := ⟨n, Nat.le_refl _, h⟩
theorem Fits.add {x y : Int} {n : Nat} (h : Fits x n) (k : Fits y n) : Fits (x + y) (n + 1) := by
  refine Fits.of ?_
  have h1 := h.top
  have h2 := k.top
  have h3 := Int.natAbs_add_le x y
  rw [Nat.pow_succ]
  omega
theorem Fits.mul {x y : Int} {m n : Nat} (h : Fits x m) (k : Fits y n) : Fits (x * y) (m + n) := by
  refine Fits.of ?_
  rw [Int.natAbs_mul, Nat.pow_add]
  have h1 := h.top
  have h2 := k.top
  exact Nat.mul_lt_mul'' h1 h2
theorem Fits.abs {x : Int} {n : Nat} (h : Fits x n) : Fits (if x < 0 then -x else x) n := by
  obtain ⟨a, h1, h2⟩ := h
  refine ⟨a, h1, ?_⟩
  split
  · rw [Int.natAbs_neg]; exact h2
  · exact h2
theorem fits_nat {m : Nat} {k n : Nat} (h : m < 2 ^ k) (hk : k ≤ n) : Fits (m : Int) n := ⟨k, hk, by rw [Int.natAbs_natCast]; exact h⟩
theorem fits_small {x : Int} {n : Nat} (h0 : 0 ≤ x) (h : x < 1048576) (hn : 20 ≤ n) : Fits x n := by
  obtain ⟨m, rfl⟩ := Int.eq_ofNat_of_zero_le h0
  have e : (2 : Nat) ^ 20 = 1048576 := by decide
  exact fits_nat (k := 20) (by rw [e]; omega) hn
theorem rgN_split {n t : Nat} {done rem : List Nat} (e : rgN 0 n = done ++ t :: rem) : t = done.length ∧ done.length + (rem.length + 1) = n := by
  have h1 := congrArg List.length e
  rw [rgN_len, List.length_append, List.length_cons] at h1
  have h2 : (rgN 0 n)[done.length]? = some t := by rw [e, List.getElem?_append_right (Nat.le_refl _)]; simp
  unfold rgN at h2
  rw [List.getElem?_map, List.getElem?_range (by omega)] at h2
  have h3 : 0 + done.length = t := Option.some.inj h2
  omega
theorem fits_sum {n : Nat} : ∀ {xs : List Int}, (∀ x ∈ xs, Fits x n) → Fits xs.sum (n + xs.length)
  | [], _ => ⟨0, Nat.zero_le _, by decide⟩
  | x :: xs, h => by
    rw [List.sum_cons, List.length_cons, ← Nat.add_assoc]
    exact Fits.add ((h x List.mem_cons_self).mono (Nat.le_add_right _ _)) (fits_sum fun y hy => h y (List.mem_cons_of_mem _ hy))
/-- a script -/
structure OkS (sc : List Int) : Prop where
  len : sc.length ≤ 63
  fit : ∀ x ∈ sc, Fits x 2000000
def absI (x : Int) : Int := if x < 0 then -x else x
def cellM (sc : List Int) (k : Nat) : Int := match sc[k]? with
  | some x => absI x
  | none => drawM (absI sc.sum + 7919 * (k : Int)) k 999983
theorem prime_pos (k : Int) : 0 < prime k := (prime_at k).2
theorem drawM_range {x k m : Int} (h : 0 < m) : 0 ≤ drawM x k m ∧ drawM x k m < m := ⟨Int.emod_nonneg _ (by omega), Int.emod_lt_of_pos _ h⟩
theorem OkS.cell {sc : List Int} (h : OkS sc) (k : Nat) : Fits (cellM sc k) 2000000 := by
  unfold cellM
  cases q : sc[k]? with
  | some x => exact (h.fit x (List.mem_of_getElem? q)).abs
  | none =>
    obtain ⟨a, b⟩ := drawM_range (x := absI sc.sum + 7919 * (k : Int)) (k := k) (m := 999983) (by decide)
    show Fits (drawM _ _ _) _
    exact fits_small a (by omega) (by decide)
def blendM (cell : Int) (t : Nat) : Int := drawM ((cell + 977 * (t : Int)) * (cell + 31 * (t : Int) + 5)) ((t : Int) % 9 + 1) 999983
def moreM (cell : Int) (t : Nat) : Int := drawM ((cell + 31 * (t : Int)) * (cell + 7) + 977 * (t : Int)) ((t : Int) % 7 + 2) 1000003
/-- the turns from t on, so many -/
def digitsF (cell base : Int) : Nat → Nat → Int → List Int
  | _, 0, _ => []
  | t, n + 1, r => if 0 < r then (r % base) :: digitsF cell base (t + 1) n (r / base) else ((blendM cell t * 1000003 + moreM cell t) % base) :: digitsF cell base (t + 1) n r
def digitsM (sc : List Int) (at_ many : Nat) (base : Int) : List Int := digitsF (cellM sc at_) base 0 many (cellM sc at_ - 10 ^ 18)
theorem digitsF_len (cell base : Int) : ∀ (n t : Nat) (r : Int), (digitsF cell base t n r).length = n
  | 0, _, _ => rfl
  | n + 1, t, r => by
    unfold digitsF
    split <;> rw [List.length_cons, digitsF_len]
def poolF (sc : List Int) : List (Nat × Int) → List Int
  | [] => []
  | p :: ps => digitsM sc p.1 150 p.2 ++ poolF sc ps
def poolM (sc bases : List Int) : List Int := poolF sc (enumL 0 bases)
def eSc (sc : List Int) : Dat := .lst (sc.map Dat.int)
theorem poolF_len (sc : List Int) : ∀ ps : List (Nat × Int), (poolF sc ps).length = 150 * ps.length
  | [] => rfl
  | p :: ps => by
    show (digitsM sc p.1 150 p.2 ++ poolF sc ps).length = _
    rw [List.length_append, poolF_len sc ps, List.length_cons]
    unfold digitsM
    rw [digitsF_len]; omega
theorem poolF_app (sc : List Int) : ∀ (ps qs : List (Nat × Int)), poolF sc (ps ++ qs) = poolF sc ps ++ poolF sc qs
  | [], qs => rfl
  | p :: ps, qs => by
    show digitsM sc p.1 150 p.2 ++ poolF sc (ps ++ qs) = (digitsM sc p.1 150 p.2 ++ poolF sc ps) ++ poolF sc qs
    rw [poolF_app, List.append_assoc]
section
variable {c : Cfg} {CP CH CA CD : Addr} (B : Glb c CP CH CA CD)
include B
theorem ok_law_cell_at : Has c 2 "_law_cell_at" (spP c (fun a : List Int × Nat => [eSc a.1, eN a.2]) (fun a => OkS a.1 ∧ a.2 < 64) fun a => .int (cellM a.1 a.2)) :=
  has_of B.law_cell_at (fun _ => rfl) fun ⟨sc, k⟩ ⟨h0, hk⟩ => by
    have h0 : OkS sc := h0
    have hk : k < 64 := hk
    refine ds_cons (d1_if (dt_cmp c_lt (rv 1 rfl) (de_lenL B.b_len (rv 0 rfl)).re) (fun h => ?_) fun h => ds_nil ?_)
    · have h1 : k < sc.length := by
        have h2 : (k : Int) < ((sc.map Dat.int).length : Nat) := of_decide_eq_true h
        rw [List.length_map] at h2
        omega
      have e : sc[k]? = some sc[k] := List.getElem?_eq_getElem h1
      refine ds_cons (d1_ret (de_abs (m := sc[k]) B.b_abs (de_ixL (rv 0 rfl) (dv 1 rfl) (atI_map e)).re) ?_)
      show Dat.int _ = Dat.int (cellM sc k)
      unfold cellM
      rw [e]; rfl
    · have h1 : sc.length ≤ k := by
        have h2 : ¬ (k : Int) < ((sc.map Dat.int).length : Nat) := of_decide_eq_false h
        rw [List.length_map] at h2
        omega
      have e : sc[k]? = none := List.getElem?_eq_none h1
      have f1 : Fits (absI sc.sum + 7919 * (k : Int)) 100000000 := ((fits_sum h0.fit).abs.mono (n := 2000100) (by have := h0.len; omega) |>.add (fits_small (by omega) (by omega) (by decide))).mono (by decide)
      have f2 : Fits (k : Int) 60 := fits_small (by omega) (by omega) (by decide)
      have f3 : (0 : Int) < 999983 := by decide
      refine ds_cons (d1_ret (de_call (ok_law_draw B) (absI sc.sum + 7919 * (k : Int), (k : Int), 999983) ⟨f1, f2, f3⟩ (ll rfl) (da_cons (de_add (de_abs (m := sc.sum) B.b_abs (de_sum B.b_sum (rv 0 rfl)).re) (de_mul de_int (dv 1 rfl) (.inr (by omega)))) (da_cons (dv 1 rfl) (da_cons de_int da_nil)))) ?_)
      show Dat.int _ = Dat.int (cellM sc k)
      unfold cellM
      rw [e]
theorem ok_law_digits : Has c 3 "_law_digits" (spP c (fun a : List Int × Nat × Nat × Int => [eSc a.1, eN a.2.1, eN a.2.2.1, .int a.2.2.2]) (fun a => OkS a.1 ∧ a.2.1 < 64 ∧ a.2.2.1 ≤ 1000 ∧ 0 < a.2.2.2 ∧ a.2.2.2 < 1073741824) fun a => .lst ((digitsM a.1 a.2.1 a.2.2.1 a.2.2.2).map Dat.int)) :=
  has_of B.law_digits (fun _ => rfl) fun ⟨sc, at_, many, base⟩ ⟨h0, h1, h2, h3, h4⟩ => by
    have h0 : OkS sc := h0
    have h2 : many ≤ 1000 := h2
    have h3 : 0 < base := h3
    have h4 : base < 1073741824 := h4
    have hc := h0.cell at_
    refine ds_cons (d1_par 4 5 (de_call (ok_law_cell_at B) (sc, at_) ⟨h0, h1⟩ (ll rfl) (da_cons (dv 0 rfl) (da_cons (dv 1 rfl) da_nil))).sx (le_lst da_nil (ll rfl)).sx rfl rfl (by decide) (fun s t e1 e2 => ?_) rfl rfl (fun env he => by cases env; cases he; rfl))
    subst e1 e2
    refine ds_cons (d1_asg 6 (d := .int (cellM sc at_ - 10 ^ 18)) (de_sub (dv 4 rfl) (de_pow de_int de_int ⟨by decide, by decide, by decide⟩)) rfl ?_)
    show DS _ _ _ { nx := fun _ => Dat.lst ((digitsF (cellM sc at_) base 0 many (cellM sc at_ - 10 ^ 18)).map Dat.int) = .non, rt := fun r => r = Dat.lst ((digitsF (cellM sc at_) base 0 many (cellM sc at_ - 10 ^ 18)).map Dat.int) }
    generalize cellM sc at_ = cell at hc ⊢
    generalize cell - 10 ^ 18 = r0
    refine ds_cons (d1_for (as := rgN 0 many) (enc := eN) (fun rem G => ∃ r found G7 G8 G9, (∃ done, rgN 0 many = done ++ rem ∧ found.length = done.length ∧ digitsF cell base 0 many r0 = found ++ digitsF cell base done.length rem.length r) ∧ G = [.dat (eSc sc), .dat (eN at_), .dat (eN many), .dat (.int base), .dat (.int cell), .own (found.map Dat.int), .dat (.int r), G7, G8, G9]) ((it_rng1 (dv 2 rfl) B.b_range ⟨by omega, by omega⟩).is (rgD_nat 0 _)) ⟨r0, [], _, _, _, ⟨[], rfl, rfl, by rw [rgN_len]; rfl⟩, rfl⟩ (fun t rem G ⟨r, found, G7, G8, G9, ⟨done, e1, e2, e3⟩, e4⟩ => ?_) (fun G ⟨r, found, G7, G8, G9, ⟨done, e1, e2, e3⟩, e4⟩ => ?_))
    · subst e4
      refine ⟨_, dn 7, ?_⟩
      obtain ⟨ht, hl⟩ := rgN_split e1
      have htl : t < 1000 := by omega
      have hfl : (found.map Dat.int).length ≤ 1000000 := by rw [List.length_map]; omega
      have step : ∀ y r', digitsF cell base done.length (rem.length + 1) r = y :: digitsF cell base (done.length + 1) rem.length r' → digitsF cell base 0 many r0 = (found ++ [y]) ++ digitsF cell base (done ++ [t]).length rem.length r' := fun y r' z => by
        rw [e3, List.length_cons, z, List.length_append, List.append_assoc]; rfl
      refine ds_cons (d1_if (dt_cmp c_gt (rv 6 rfl) de_int.re) (fun hb => ?_) fun hb => ?_)
      · have hr : 0 < r := of_decide_eq_true hb
        refine ds_cons (d1_append 5 rfl rfl (.inl rfl) (de_mod (de_intI B.b_int (rv 6 rfl)) (dv 3 rfl) h3) hfl ?_)
        refine ds_cons (d1_asg 6 (de_fdiv (dv 6 rfl) (dv 3 rfl) ⟨h3, h4⟩) rfl (ds_nil (ds_nil ?_)))
        refine ⟨_, Wk.refl, r / base, found ++ [r % base], .dat (eN t), G8, G9, ⟨done ++ [t], by rw [e1, List.append_assoc]; rfl, by rw [List.length_append, List.length_append, e2]; rfl, step _ _ (by show (if _ then _ else _) = _; rw [if_pos hr])⟩, ?_⟩
        rw [List.map_append]
        rfl
      · have hr : ¬ 0 < r := of_decide_eq_false hb
        have t0 : (0 : Int) ≤ (t : Int) := by omega
        have t1 : (t : Int) < 1000 := by omega
        have s977 : Fits (977 * (t : Int)) 2000000 := fits_small (by omega) (by omega) (by decide)
        have s31 : Fits (31 * (t : Int)) 2000000 := fits_small (by omega) (by omega) (by decide)
        have f1 : Fits (cell + 977 * (t : Int)) 2000001 := hc.add s977
        have f2 : Fits (cell + 31 * (t : Int) + 5) 2000002 := (hc.add s31).add (fits_small (by decide) (by decide) (by decide))
        have f3 : Fits (cell + 31 * (t : Int)) 2000001 := hc.add s31
        have f4 : Fits (cell + 7) 2000001 := hc.add (fits_small (by decide) (by decide) (by decide))
        have g1 : Fits ((cell + 977 * (t : Int)) * (cell + 31 * (t : Int) + 5)) 100000000 := (f1.mul f2).mono (by decide)
        have g2 : Fits ((cell + 31 * (t : Int)) * (cell + 7) + 977 * (t : Int)) 100000000 := ((f3.mul f4).add (s977.mono (by decide))).mono (by decide)
        have k1 : Fits ((t : Int) % 9 + 1) 60 := fits_small (by omega) (by omega) (by decide)
        have k2 : Fits ((t : Int) % 7 + 2) 60 := fits_small (by omega) (by omega) (by decide)
        have q1 : (0 : Int) < 999983 := by decide
        have q2 : (0 : Int) < 1000003 := by decide
        have m1 : ∀ k : Int, CMul k (t : Int) := fun k => .inr ⟨by omega, by omega⟩
        have r1 := drawM_range (x := (cell + 977 * (t : Int)) * (cell + 31 * (t : Int) + 5)) (k := (t : Int) % 9 + 1) (m := 999983) (by decide)
        refine ds_cons (d1_asg 8 (d := .int (blendM cell t)) (de_call (ok_law_draw B) ((cell + 977 * (t : Int)) * (cell + 31 * (t : Int) + 5), (t : Int) % 9 + 1, 999983) ⟨g1, k1, q1⟩ (ll rfl) (da_cons (de_mulX (de_add (dv 4 rfl) (de_mul de_int (dv 7 rfl) (m1 _))) (de_add (de_add (dv 4 rfl) (de_mul de_int (dv 7 rfl) (m1 _))) de_int) (mulx_ok f1.top f2.top (by decide))) (da_cons (de_add (de_mod (dv 7 rfl) de_int (by decide)) de_int) (da_cons de_int da_nil)))) rfl ?_)
        refine ds_cons (d1_asg 9 (d := .int (moreM cell t)) (de_call (ok_law_draw B) ((cell + 31 * (t : Int)) * (cell + 7) + 977 * (t : Int), (t : Int) % 7 + 2, 1000003) ⟨g2, k2, q2⟩ (ll rfl) (da_cons (de_add (de_mulX (de_add (dv 4 rfl) (de_mul de_int (dv 7 rfl) (m1 _))) (de_add (dv 4 rfl) de_int) (mulx_ok f3.top f4.top (by decide))) (de_mul de_int (dv 7 rfl) (m1 _))) (da_cons (de_add (de_mod (dv 7 rfl) de_int (by decide)) de_int) (da_cons de_int da_nil)))) rfl ?_)
        refine ds_cons (d1_append 5 (d := .int ((blendM cell t * 1000003 + moreM cell t) % base)) rfl rfl (.inl rfl) (de_mod (de_intI B.b_int (de_add (de_mul (dv 8 rfl) de_int (.inl ⟨by unfold blendM; omega, by unfold blendM; omega⟩)) (dv 9 rfl)).re) (dv 3 rfl) h3) hfl (ds_nil (ds_nil ?_)))
        refine ⟨_, Wk.refl, r, found ++ [(blendM cell t * 1000003 + moreM cell t) % base], .dat (eN t), .dat (.int (blendM cell t)), .dat (.int (moreM cell t)), ⟨done ++ [t], by rw [e1, List.append_assoc]; rfl, by rw [List.length_append, List.length_append, e2]; rfl, step _ _ (by show (if _ then _ else _) = _; rw [if_neg hr, ht])⟩, ?_⟩
        rw [List.map_append]
        rfl
    · subst e4
      refine ds_cons (d1_retF 5 rfl rfl (.inl rfl) ?_)
      show Dat.lst _ = Dat.lst _
      rw [e3]
      show _ = Dat.lst ((found ++ []).map _)
      rw [List.append_nil]
theorem ok_law_pool : Has c 4 "_law_pool" (spL c (fun a : List Int × List Int => [eSc a.1, .tup (a.2.map Dat.int)]) (fun a => OkS a.1 ∧ a.2.length ≤ 4 ∧ ∀ b ∈ a.2, 0 < b ∧ b < 1073741824) fun a => (poolM a.1 a.2).map Dat.int) :=
  hasL_of B.law_pool (fun _ => rfl) fun ⟨sc, bases⟩ ⟨h0, h1, h2⟩ => by
    have h1 : bases.length ≤ 4 := h1
    have h2 : ∀ b ∈ bases, 0 < b ∧ b < 1073741824 := h2
    refine ds_cons (d1_own 2 (xs := []) (le_lst da_nil (ll rfl)) rfl ?_)
    refine ds_cons (d1_for (as := enumL 0 bases) (enc := fun q => .tup [eN q.1, .int q.2]) (fun rem G => ∃ done G3 G4, enumL 0 bases = done ++ rem ∧ G = [.dat (eSc sc), .dat (.tup (bases.map Dat.int)), .own ((poolF sc done).map Dat.int), G3, G4]) ((it_enumT (dv 1 rfl) B.b_enumerate).is (enumD_map Dat.int 0 bases)) ⟨[], _, _, rfl, rfl⟩ (fun a rem G ⟨done, G3, G4, e1, e2⟩ => ?_) (fun G ⟨done, G3, G4, e1, e2⟩ => ?_))
    · subst e2
      refine ⟨_, dn2 (dn 3) (dn 4), ?_⟩
      obtain ⟨a1, a2⟩ := enumL_mem (p := a) (by rw [e1]; simp : a ∈ enumL 0 bases)
      have hb := h2 a.2 (List.mem_of_getElem? a2)
      have h150 : 150 ≤ 1000 := by decide
      have ha : a.1 < 64 := by
        have := (List.getElem?_eq_some_iff.mp a2).1
        omega
      have hd : done.length ≤ 4 := by
        have := congrArg List.length e1
        rw [enumL_len, List.length_append] at this
        omega
      refine ds_cons (d1_own 2 (xs := (poolF sc (done ++ [a])).map Dat.int) ((le_cat (ro 2 rfl) (de_call (ok_law_digits B) (sc, a.1, 150, a.2) ⟨h0, ha, h150, hb.1, hb.2⟩ (ll rfl) (da_cons (dv 0 rfl) (da_cons (dv 3 rfl) (da_cons de_int (da_cons (dv 4 rfl) da_nil))))).re ?_).is ?_) rfl (ds_nil ⟨_, Wk.refl, done ++ [a], _, _, by rw [e1, List.append_assoc]; rfl, rfl⟩))
      · rw [List.length_map, List.length_map, poolF_len]
        unfold digitsM
        rw [digitsF_len]
        show 150 * done.length + 150 ≤ 100000
        omega
      · rw [poolF_app, ← List.map_append]
        show _ = (poolF sc done ++ (digitsM sc a.1 150 a.2 ++ [])).map _
        rw [List.append_nil]
    · subst e2
      rw [List.append_nil] at e1
      subst e1
      exact ds_cons (d1_retO 2 rfl rfl (.inl rfl) rfl)
end
end Cal
set_option Elab.async false
set_option linter.all false
set_option maxRecDepth 100000
set_option maxHeartbeats 4000000
namespace Cal
open PySem PySem.Spec PyProof.Rows L2
def Below (m : Int) (d : Dat) : Prop := ∃ r : Int, d = .int r ∧ 0 ≤ r ∧ r < m
def UsesR (a : List Str × Nat) (d : Dat) : Prop := ∃ us : List Use, d = .tup (us.map eUse) ∧ us.length ≤ 2 ∧ (∀ u ∈ us, OkUse a.1 u) ∧ (a.1[a.2]? = some ("cell" : Str) → us = [])
theorem sortOf_take : sortOf "take" = sorts2 := by decide
theorem sortOf_call : ("call" : Str) ∈ sortOf "call" := by decide
theorem sortOf_read : ("cell" : Str) ∈ sortOf "read" := by decide
theorem w3_take : ("take" : Str) ∈ words3 := by decide
theorem w3_call : ("call" : Str) ∈ words3 := by decide
theorem w3_read : ("read" : Str) ∈ words3 := by decide
theorem cell_call : (("cell" : Str) = "call") = False := by decide
theorem okUse_take {ss : List Str} {o : Nat} {s : Str} (h : ss[o]? = some s) (hs : s ∈ sorts2) : OkUse ss ("take", o) := ⟨w3_take, s, h, by
  show s ∈ sortOf "take"
  rw [sortOf_take]; exact hs⟩
theorem okUse_word {ss : List Str} {o : Nat} {s : Str} (h : ss[o]? = some s) (hs : s ∈ sorts2) : OkUse ss (if s = "call" then "call" else "read", o) := by
  unfold sorts2 at hs
  rcases List.mem_cons.mp hs with rfl | hs
  · rw [if_pos rfl]
    exact ⟨w3_call, _, h, sortOf_call⟩
  · obtain rfl := List.mem_singleton.mp hs
    rw [if_neg (by rw [cell_call]; exact not_false)]
    exact ⟨w3_read, _, h, sortOf_read⟩
section
variable {c : Cfg} {CP CH CA CD : Addr}
/-- _law_take(draws, m) -/
theorem ok_law_take (B : Glb c CP CH CA CD) : Has c 1 "_law_take" (spD c (fun m : Int => [.int m]) (fun m => 0 < m) Below) :=
  hasD_of B.law_take (fun _ => rfl) (fun m q hm => ds_cons (d1_retX (dx_take rfl 0 rfl rfl (.inl rfl) B.b_int (dv 1 rfl) hm) fun d h => h)) (by decide)
theorem dx_takeC {j : J} {G : List Slot} {q : Addr} {p p1 pos : Pos} {x : Str} {e : Expr} {m : Int} (B : Glb j.c CP CH CA CD) (hE : j.E = fun b => b = q) (l : Nat) (hG : G[l]? = some .dr) (he : DE j G e (.int m)) (hm : 0 < m) (hk : 1 ≤ j.k) (hN : j.N[l]? = some x := by rfl) (hv : Vis j.sc x := by first | exact .inl rfl | exact .inr (.inl rfl) | exact .inr (.inr rfl)) (hg : GlN j "_law_take" := by rfl)
    (h1 : (x == ("__debug__" : Str)) = false := by decide) (h2 : (x == ("__classdict__" : Str)) = false := by decide) (hs : ∀ env : Env, starEach (.Name x p1 :: [e]) env = (false, eval (.Name x p1) env) :: starEach [e] env := by intro _; rfl) (hpl : ∀ env : Env, (backTo pos (starEach [e] env)).any (·.1) = false := by intro _; rfl) (hs2 : Stars e := by intro _; rfl) : DX j G (.Call (.Name "_law_take" p) [.Name x p1, e] [] pos) (Below m) :=
  dx_callD hE (ok_law_take B) l hG hN hv m hm hk (da_cons he da_nil hs2) hg (by decide) h1 h2 hs hpl
theorem below_int {m : Int} {d : Dat} (h : Below m d) : ∃ n : Int, d = .int n := let ⟨r, e, _⟩ := h; ⟨r, e⟩
variable (B : Glb c CP CH CA CD)
include B
theorem ok_law_pick : Has c 2 "_law_pick" (spD c (fun xs : List Dat => [.lst xs]) (fun xs => xs ≠ []) fun xs d => d ∈ xs) :=
  hasD_of B.law_pick (fun _ => rfl) (fun xs q hx => ds_cons (d1_retX (dx_ixL (R := Below (xs.length : Int)) (rv 1 rfl) (dx_takeC B rfl 0 rfl (de_lenL B.b_len (rv 1 rfl)) (by have := List.length_pos_iff.mpr hx; omega) (ll rfl)) fun z h => h) fun d h => h)) (by decide)
theorem ok_law_uses : Has c 2 "_law_uses" (spD c (fun a : List Str × Nat => [eSorts a.1, eN a.2]) (fun a => OkSorts a.1 ∧ a.2 < a.1.length) UsesR) :=
  hasD_of B.law_uses (fun _ => rfl) (fun ⟨ss, n⟩ q ⟨h0, h1⟩ => by
    have h0 : OkSorts ss := h0
    have h1 : n < ss.length := h1
    have hs : ss[n]? = some ss[n] := List.getElem?_eq_getElem h1
    refine ds_cons (d1_own 3 (xs := []) (le_lst da_nil (ll rfl)) rfl ?_)
    refine ds_cons (d1_forM (enc := eN) (R0 := fun ds G' => ∃ r : Int, (0 ≤ r ∧ r < 3 ∧ (ss[n] ≠ "call" → r = 0)) ∧ ds = rgD 0 r ∧ G' = [.dr, .dat (eSorts ss), .dat (eN n), .own [], .no, .no, .no]) (fun rem G => ∃ us G4 G5 G6, (us.length + rem.length ≤ 2 ∧ (∀ u ∈ us, OkUse ss u) ∧ (ss[n] ≠ "call" → us = [] ∧ rem = [])) ∧ G = [.dr, .dat (eSorts ss), .dat (eN n), .own (us.map eUse), G4, G5, G6])
      ((itx_rng1 (R := fun d => ∃ r : Int, d = .int r ∧ 0 ≤ r ∧ r < 3 ∧ (ss[n] ≠ "call" → r = 0)) (dx_if (T := fun b => b = decide (ss[n] = "call")) ((dt_cmp (c_eqE inj_str (ll rfl) ss[n] "call") (de_ixT (dv 1 rfl) (dv 2 rfl) (atI_map hs)).re de_str.re).toX rfl) (fun ht => (dx_takeC (m := 3) B rfl 0 rfl de_int (by decide) (ll rfl)).imp fun d ⟨r, e, a, b⟩ => ⟨r, e, a, b, fun z => absurd (of_decide_eq_true ht.symm) z⟩) (fun ht => de_int.toX ⟨0, rfl, by decide, by decide, fun _ => rfl⟩)) B.b_range (fun d ⟨r, e, a, b, _⟩ => ⟨r, e, a, by omega⟩)).toM (fun ds ⟨r, ⟨r', e, a, b, z⟩, _, h⟩ => ⟨r, by cases e; exact ⟨a, b, z⟩, h, rfl⟩))
      (fun ds G' ⟨r, ⟨a, b, z⟩, e, eG⟩ => ⟨rgN 0 r.toNat, by
          obtain ⟨m, rfl⟩ := Int.eq_ofNat_of_zero_le a
          rw [e]; exact rgD_nat 0 m, [], _, _, _, ⟨by rw [rgN_len]; show 0 + _ ≤ 2; omega, by simp, fun h => ⟨rfl, by rw [z h]; rfl⟩⟩, eG⟩)
      (fun t rem G ⟨us, G4, G5, G6, ⟨e1, e2, e3⟩, e4⟩ => ?_) (fun G ⟨us, G4, G5, G6, ⟨e1, e2, e3⟩, e4⟩ => ?_))
    · subst e4
      refine ⟨_, dn 4, ?_⟩
      rw [List.length_cons] at e1
      refine ds_mid (fun G' => ∃ o : Nat, o < ss.length ∧ G' = [.dr, .dat (eSorts ss), .dat (eN n), .own (us.map eUse), .dat (eN t), .dat (eN o), G6]) (d1_set 5 (S := fun s => ∃ o : Nat, o < ss.length ∧ s = .dat (eN o)) ((dx_takeC (m := (ss.length : Int)) B rfl 0 rfl ((de_lenT B.b_len (rv 1 rfl)).is (by rw [List.length_map])) (by omega) (ll rfl)).sx fun d ⟨r, e, a, b⟩ => by
        obtain ⟨m, rfl⟩ := Int.eq_ofNat_of_zero_le a
        exact ⟨m, by omega, by rw [e]; rfl⟩) rfl fun s ⟨o, ho, e⟩ => ⟨o, ho, by rw [e]; rfl⟩) fun G' ⟨o, ho, eG⟩ => ?_
      subst eG
      have hso : ss[o]? = some ss[o] := List.getElem?_eq_getElem ho
      have hm2 : ss[o] ∈ sorts2 := h0.2.2 _ (List.getElem_mem ho)
      refine ds_cons (d1_asg 6 (d := .str (if ss[o] = "call" then "call" else "read")) ((de_if (d1 := .str "call") (d2 := .str "read") (dt_cmp (c_eqE inj_str (ll rfl) ss[o] "call") (de_ixT (dv 1 rfl) (dv 5 rfl) (atI_map hso)).re de_str.re) (fun _ => de_str) (fun _ => de_str)).is ?_) rfl ?_)
      · by_cases z : ss[o] = ("call" : Str)
        · rw [decide_eq_true z, if_pos z]; rfl
        · rw [decide_eq_false z, if_neg z]; rfl
      refine ds_cons (d1_appendX (R := fun d => ∃ u : Use, d = eUse u ∧ OkUse ss u) 3 rfl rfl (.inl rfl) ((dx_tup (dax_cons (dx_if (R := fun d => ∃ w : Str, d = .str w ∧ OkUse ss (w, o)) (dtx_eqI (dx_takeC B rfl 0 rfl de_int (by decide) (ll rfl)) de_int fun z h => below_int h) (fun _ => de_str.toX ⟨"take", rfl, okUse_take hso hm2⟩) (fun _ => (dv 6 rfl).toX ⟨_, rfl, ?_⟩)) (dax_cons ((dv 5 rfl).toX (R := fun d => d = eN o) rfl) dax_nil)) fun ds ⟨d, r, e, _, d2, r2, e2, _, e3⟩ => by rw [e, e2, e3]; exact ll rfl).imp fun d ⟨ds, e, d1, r, e2, ⟨w, e3, hw⟩, d2, r2, e4, e5, e6⟩ => ⟨(w, o), by rw [e, e2, e4, e3, e5, e6]; rfl, hw⟩) (by rw [List.length_map]; omega) fun d ⟨u, e, hu⟩ => ds_nil ⟨_, Wk.refl, us ++ [u], .dat (eN t), .dat (eN o), .dat (.str (if ss[o] = "call" then "call" else "read")), ⟨by rw [List.length_append]; show us.length + 1 + rem.length ≤ 2; omega, fun v hv => (List.mem_append.mp hv).elim (e2 v) fun z => by rw [List.mem_singleton.mp z]; exact hu, fun z => absurd (e3 z).2 (by simp)⟩, by rw [List.map_append, e]; rfl⟩)
      exact okUse_word hso hm2
    · subst e4
      refine ds_cons (d1_ret (de_tupL B.b_tuple (ro 3 rfl)) ⟨us, rfl, by simpa using e1, e2, fun z => ?_⟩)
      have z : ss[n]? = some ("cell" : Str) := z
      rw [hs] at z
      exact (e3 (by rw [Option.some.inj z]; decide)).1) (by decide)
end
end Cal
set_option Elab.async false
set_option linter.all false
set_option maxRecDepth 100000
set_option maxHeartbeats 4000000
namespace Cal
open PySem PySem.Spec PyProof.Rows L2
/-- a plan of two or three names -/
structure OkP3 (p : Plan) : Prop where
  ok : OkPlan p
  two : p.1.length = 2 ∨ p.1.length = 3
def PartsR (_ : Unit) (d : Dat) : Prop := ∃ p : Plan, d = ePlan p ∧ OkP3 p
def shows7 : List (Option Str) := [some "shown", some "weak", some "protected", some "hidden", some "shown", none, none]
theorem shows7_mem {o : Option Str} (h : o ∈ shows7) {s : Str} (e : o = some s) : s ∈ shows4 := by
  subst e
  unfold shows7 at h
  unfold shows4
  simp only [List.mem_cons, Option.some.injEq, List.not_mem_nil, or_false, reduceCtorEq] at h
  simp only [List.mem_cons, List.not_mem_nil, or_false]
  rcases h with h | h | h | h | h <;> simp [h]
theorem rgD0 (m : Nat) : rgD 0 (m : Int) = (rgN 0 m).map eN := rgD_nat 0 m
theorem LX.imp {j : J} {G : List Slot} {e : Expr} {R R' : List Dat → Prop} (h : LX j G e R) (hr : ∀ d, R d → R' d) : LX j G e R' := fun X hX σ F H q hE hq => h X hX σ F H q hE fun p vs xs F' H' e1 a1 a2 a3 a4 g => hq p vs xs F' H' (hr _ e1) a1 a2 a3 a4 g
theorem ITX.imp {j : J} {G : List Slot} {tg e : Expr} {R R' : List Dat → Prop} (h : ITX j G tg e R) (hr : ∀ d, R d → R' d) : ITX j G tg e R' := fun X hX σ F H q hE hq => h X hX σ F H q hE fun ds Jt F1 H1 hd w g => hq ds Jt F1 H1 (hr ds hd) w g
theorem itx_rng1X {j : J} {G : List Slot} {tg e : Expr} {pos p1 : Pos} {R : Dat → Prop} {R' : List Dat → Prop} (h : DX j G e R) (hm : j.c.mg "range" = none) (hR : ∀ d, R d → ∃ n : Int, d = .int n ∧ 0 ≤ n ∧ n ≤ 1000000 ∧ R' (rgD 0 n)) (hg : GlN j "range" := by rfl) (hs : Stars e := by intro _; rfl) : ITX j G tg (.Call (.Name "range" p1) [e] [] pos) R' :=
  (itx_rng1 h hm (fun d hd => let ⟨n, a, b, c, _⟩ := hR d hd; ⟨n, a, b, c⟩) hg hs).imp fun ds ⟨n, h1, h2, h3⟩ => by
    obtain ⟨m, e1, _, _, e4⟩ := hR _ h1
    cases e1
    rw [h3]; exact e4
section
variable {c : Cfg} {CP CH CA CD : Addr} (B : Glb c CP CH CA CD)
include B
theorem ok_law_parts : Has c 3 "_law_parts" (spD c (fun _ : Unit => [.int 3]) (fun _ => True) PartsR) :=
  hasD_of B.law_parts (fun _ => rfl) (fun _ q _ => by
    refine ds_mid (fun G' => ∃ ss : List Str, OkSorts ss ∧ (ss.length = 2 ∨ ss.length = 3) ∧ G' = [.dr, .dat (.int 3), .dat (eSorts ss), .no, .no, .no, .no, .no]) (d1_set 2 (S := fun s => ∃ ss : List Str, OkSorts ss ∧ (ss.length = 2 ∨ ss.length = 3) ∧ s = .dat (eSorts ss)) (DX.sx (dx_tupL (S := fun xs => ∃ ss : List Str, xs = ss.map Dat.str ∧ OkSorts ss ∧ (ss.length = 2 ∨ ss.length = 3)) B.b_tuple (LX.imp (lx_comp [("_law_name", 6)] (R0 := fun ds => ∃ r : Int, (2 ≤ r ∧ r ≤ 3) ∧ ds = rgD 0 r)
      (itx_rng1X (dx_add de_int (dx_takeC (m := 3 - 1) B rfl 0 rfl (de_sub (dv 1 rfl) de_int) (by decide) (ll rfl)) fun z h => below_int h) B.b_range (fun d ⟨n, ⟨r, e, a, b⟩, e2⟩ => ⟨2 + n, e2, by cases e; omega, by cases e; omega, 2 + n, by cases e; omega, rfl⟩))
      (by rfl) (fun ds i ys => ∃ ss : List Str, ys = ss.map Dat.str ∧ ss.length = i ∧ ∀ s ∈ ss, s ∈ sorts2) (fun ds ⟨r, ⟨a, b⟩, e⟩ => by
        obtain ⟨m, rfl⟩ := Int.eq_ofNat_of_zero_le (show (0 : Int) ≤ r by omega)
        rw [e, rgD0 m, List.length_map, rgN_len]; omega) (fun ds _ => ⟨[], rfl, rfl, by simp⟩) (fun ds i d ys _ _ ⟨ss, e1, e2, e3⟩ => ⟨_, dn 6, fun k hk => hk, fun b => b = true, dix_nil rfl, (fun h => by cases h), fun _ => (dx_ixT (R := Below 3) (xs := [.str "call", .str "call", .str "cell"]) (de_tup (da_cons de_str (da_cons de_str (da_cons de_str da_nil))) (ll rfl)) (dx_takeC (m := 3) B rfl 0 rfl de_int (by decide) (ll rfl)) fun z h => h).imp fun d hd => ?_⟩)) fun xs ⟨ds, ⟨r, ⟨a, b⟩, e⟩, ss, e1, e2, e3⟩ => ?_)) fun d ⟨xs, e, ss, e1, h1, h2⟩ => ⟨ss, h1, h2, by rw [e, e1]; rfl⟩) rfl fun s ⟨ss, h1, h2, e⟩ => ⟨ss, h1, h2, by rw [e]; rfl⟩) fun G' ⟨ss, h0, h2, eG⟩ => ?_
    · have : ∃ s : Str, s ∈ sorts2 ∧ d = .str s := by
        simp only [List.mem_cons, List.not_mem_nil, or_false] at hd
        rcases hd with rfl | rfl | rfl
        · exact ⟨"call", by unfold sorts2; simp, rfl⟩
        · exact ⟨"call", by unfold sorts2; simp, rfl⟩
        · exact ⟨"cell", by unfold sorts2; simp, rfl⟩
      obtain ⟨s, hs, rfl⟩ := this
      exact ⟨ss ++ [s], by rw [e1, List.map_append]; rfl, by rw [List.length_append, e2]; rfl, fun t ht => (List.mem_append.mp ht).elim (e3 t) fun z => by rw [List.mem_singleton.mp z]; exact hs⟩
    · obtain ⟨m, rfl⟩ := Int.eq_ofNat_of_zero_le (show (0 : Int) ≤ r by omega)
      rw [e, rgD0 m, List.length_map, rgN_len] at e2
      exact ⟨ss, e1, ⟨by omega, by omega, e3⟩, by omega⟩
    · subst eG
      refine ds_cons (d1_own 3 (xs := []) (le_lst da_nil (ll rfl)) rfl ?_)
      refine ds_cons (d1_forM (enc := eN) (R0 := fun ds G' => ∃ r : Int, (1 ≤ r ∧ r ≤ 3) ∧ ds = rgD 0 r ∧ G' = [.dr, .dat (.int 3), .dat (eSorts ss), .own [], .no, .no, .no, .no]) (fun rem G => ∃ (ms : Mods) (G4 G5 G6 G7 : Slot), (1 ≤ ms.length + rem.length ∧ ms.length + rem.length ≤ 3 ∧ ∀ m ∈ ms, OkMod ss m) ∧ G = [.dr, .dat (.int 3), .dat (eSorts ss), .own (ms.map eMod), G4, G5, G6, G7])
        ((itx_rng1X (dx_add de_int (dx_takeC (m := 3) B rfl 0 rfl de_int (by decide) (ll rfl)) fun z h => below_int h) B.b_range (R' := fun ds => ∃ r : Int, (1 ≤ r ∧ r ≤ 3) ∧ ds = rgD 0 r) (fun d ⟨n, ⟨r, e, a, b⟩, e2⟩ => ⟨1 + n, e2, by cases e; omega, by cases e; omega, 1 + n, by cases e; omega, rfl⟩)).toM fun ds ⟨r, a, e⟩ => ⟨r, a, e, rfl⟩)
        (fun ds G' ⟨r, ⟨a, b⟩, e, eG⟩ => by
          obtain ⟨m, rfl⟩ := Int.eq_ofNat_of_zero_le (show (0 : Int) ≤ r by omega)
          exact ⟨rgN 0 m, by rw [e]; exact rgD_nat 0 m, [], _, _, _, _, ⟨by rw [rgN_len, List.length_nil]; omega, by rw [rgN_len, List.length_nil]; omega, by simp⟩, eG⟩)
        (fun t rem G ⟨ms, G4, G5, G6, G7, ⟨e1, e2, e3⟩, e4⟩ => ?_) (fun G ⟨ms, G4, G5, G6, G7, ⟨e1, e2, e3⟩, e4⟩ => ?_))
      · subst e4
        rw [List.length_cons] at e1 e2
        refine ⟨_, dn 4, ?_⟩
        refine ds_cons (d1_own 5 (xs := []) (le_lst da_nil (ll rfl)) rfl ?_)
        refine ds_cons (d1_for (as := rgN 0 ss.length) (enc := eN) (fun rem2 G => ∃ (rows : List Row) (done : List Nat) (G6 G7 : Slot), (rgN 0 ss.length = done ++ rem2 ∧ (∀ r ∈ rows, OkRow ss r ∧ r.1 < done.length) ∧ rows.Pairwise (fun a b => a.1 < b.1)) ∧ rows.length ≤ done.length ∧ G = [.dr, .dat (.int 3), .dat (eSorts ss), .own (ms.map eMod), .dat (eN t), .own (rows.map eRow), G6, G7]) ((it_rng1 ((de_lenT B.b_len (rv 2 rfl)).is (by rw [List.length_map])) B.b_range (by omega)).is (rgD_nat 0 _)) ⟨[], [], _, _, ⟨rfl, by simp, .nil⟩, Nat.le_refl _, rfl⟩ (fun n rem2 G ⟨rows, done, G6, G7, ⟨f1, f2, f3⟩, f4, f5⟩ => ?_) (fun G ⟨rows, done, G6, G7, ⟨f1, f2, f3⟩, f4, f5⟩ => ?_))
        · subst f5
          refine ⟨_, dn 6, ?_⟩
          obtain ⟨hn, hl⟩ := rgN_split f1
          have hns : n < ss.length := by omega
          refine ds_mid (fun G' => ∃ o : Option Str, o ∈ shows7 ∧ G' = [.dr, .dat (.int 3), .dat (eSorts ss), .own (ms.map eMod), .dat (eN t), .own (rows.map eRow), .dat (eN n), .dat (eO Dat.str o)]) (d1_set 7 (S := fun s => ∃ o : Option Str, o ∈ shows7 ∧ s = .dat (eO Dat.str o)) ((dx_ixT (R := Below 7) (xs := shows7.map (eO Dat.str)) (de_tup (da_cons de_str (da_cons de_str (da_cons de_str (da_cons de_str (da_cons de_str (da_cons de_non (da_cons de_non da_nil))))))) (ll rfl)) (dx_takeC (m := 7) B rfl 0 rfl de_int (by decide) (ll rfl)) fun z h => h).sx fun d hd => by
            obtain ⟨o, ho, e⟩ := List.mem_map.mp hd
            exact ⟨o, ho, by rw [e]⟩) rfl fun s ⟨o, ho, e⟩ => ⟨o, ho, by rw [e]; rfl⟩) fun G' ⟨o, ho, eG⟩ => ?_
          subst eG
          have hdl : ∀ r ∈ rows, OkRow ss r ∧ r.1 < (done ++ [n]).length := fun r hr => ⟨(f2 r hr).1, by rw [List.length_append]; exact Nat.lt_add_right _ (f2 r hr).2⟩
          cases o with
          | none => exact ds_cons (d1_if (k := false) (dt_cmp c_notN (rv 7 rfl) de_non.re) (fun h => by cases h) fun _ => ds_nil (ds_nil ⟨_, Wk.refl, rows, done ++ [n], _, _, ⟨by rw [f1, List.append_assoc]; rfl, hdl, f3⟩, by rw [List.length_append]; omega, rfl⟩))
          | some w =>
            have hw := shows7_mem ho rfl
            refine ds_cons (d1_if (k := true) (dt_cmp c_notN (rv 7 rfl) de_non.re) (fun _ => ?_) fun h => by cases h)
            refine ds_cons (d1_appendX (R := fun d => ∃ r : Row, d = eRow r ∧ OkRow ss r ∧ r.1 = n) 5 rfl rfl (.inl rfl) ((dx_tup (dax_cons ((dv 6 rfl).toX (R := fun d => d = eN n) rfl) (dax_cons ((dv 7 rfl).toX (R := fun d => d = .str w) rfl) (dax_cons (dx_callD rfl (ok_law_uses B) 0 rfl rfl (.inr (.inl rfl)) (ss, n) ⟨h0, hns⟩ (ll rfl) (da_cons (dv 2 rfl) (da_cons (dv 6 rfl) da_nil))) dax_nil))) fun ds ⟨_, _, e, _, _, _, e2, _, _, _, e3, _, e4⟩ => by rw [e, e2, e3, e4]; exact ll rfl).imp fun d ⟨ds, e, d1, r1, g1, g2, d2, r2, g3, g4, d3, r3, g5, ⟨us, g6, g7, g8, g9⟩, g10⟩ => ⟨(n, w, us), by rw [e, g1, g2, g3, g4, g5, g6, g10]; rfl, ⟨hns, hw, Nat.le_trans g7 (by decide), g9, g8⟩, rfl⟩) (by rw [List.length_map]; omega) fun d ⟨r, er, hr, hrn⟩ => ds_nil (ds_nil ⟨_, Wk.refl, rows ++ [r], done ++ [n], .dat (eN n), .dat (.str w), ⟨by rw [f1, List.append_assoc]; rfl, fun r' hr' => (List.mem_append.mp hr').elim (hdl r') fun z => by rw [List.mem_singleton.mp z, List.length_append]; exact ⟨hr, by rw [hrn, hn]; exact Nat.lt_succ_self _⟩, List.pairwise_append.mpr ⟨f3, List.pairwise_singleton _ _, fun a ha b hb => by rw [List.mem_singleton.mp hb, hrn, hn]; exact (f2 a ha).2⟩⟩, by rw [List.length_append, List.length_append]; exact Nat.succ_le_succ f4, by rw [List.map_append, er]; rfl⟩))
        · subst f5
          refine ds_cons (d1_append 3 (d := eMod rows) rfl rfl (.inl rfl) (de_tupL B.b_tuple (ro 5 rfl)) (by rw [List.length_map]; omega) (ds_nil ⟨_, Wk.refl, ms ++ [rows], _, _, _, _, ⟨by rw [List.length_append]; show 1 ≤ ms.length + 1 + rem.length; omega, by rw [List.length_append]; show ms.length + 1 + rem.length ≤ 3; omega, fun m hm => (List.mem_append.mp hm).elim (e3 m) fun z => by rw [List.mem_singleton.mp z]; exact ⟨fun r hr => (f2 r hr).1, f3⟩⟩, by rw [List.map_append]; rfl⟩))
      · subst e4
        exact ds_cons (d1_ret (de_tup (da_cons (dv 2 rfl) (da_cons (de_tupL B.b_tuple (ro 3 rfl)) da_nil)) (ll rfl)) ⟨(ss, ms), rfl, ⟨h0, ⟨by simpa using e1, by simpa using e2⟩, e3⟩, h2⟩)) (by decide)
end
end Cal
set_option Elab.async false
set_option linter.all false
set_option maxRecDepth 100000
set_option maxHeartbeats 4000000
namespace Cal
open PySem PySem.Spec PyProof.Rows L2
def othersM (ms : Mods) (n : Nat) : List (Option Str) := (rgN 1 ms.length).map fun a => showOf ms a n
def copyOk (p : Plan) (q : Nat × Str) : Bool := (decide (q.2 = "cell") && isNon (eO Dat.str (showOf p.2 0 q.1))) && (decide ((some "shown" : Option Str) ∈ othersM p.2 q.1) || (decide ((some "weak" : Option Str) ∈ othersM p.2 q.1) || decide ((some "protected" : Option Str) ∈ othersM p.2 q.1)))
def ctC (p : Plan) (q : Nat × Str) : List Cut := if copyOk p q = true then [("copy", 0, q.1)] else []
def ctD (p : Plan) (q : Nat × Str) (a : Nat) : List Cut := if showOf p.2 a q.1 = none then [] else ("direct", a, q.1) :: (if q.2 = "call" then [("place", a, q.1)] else [])
def ctQ (p : Plan) (q : Nat × Str) : List Cut := ctC p q ++ (rgN 0 p.2.length).flatMap (ctD p q)
def rawCuts (p : Plan) : List Cut := (enumL 0 p.1).flatMap (ctQ p)
def makeM (p : Plan) : List Cut := srt eCut (rawCuts p)
theorem flat_le {A B : Type} {n : Nat} {f : A → List B} : ∀ as : List A, (∀ a ∈ as, (f a).length ≤ n) → (as.flatMap f).length ≤ n * as.length
  | [], _ => Nat.le_refl _
  | a :: as, h => by
    rw [List.flatMap_cons, List.length_append, List.length_cons, Nat.mul_succ]
    have := h a List.mem_cons_self
    have := flat_le as fun b hb => h b (List.mem_cons_of_mem _ hb)
    omega
theorem ctD_len (p : Plan) (q : Nat × Str) (a : Nat) : (ctD p q a).length ≤ 2 := by
  unfold ctD
  split
  · exact Nat.zero_le _
  · split <;> simp
theorem ctC_len (p : Plan) (q : Nat × Str) : (ctC p q).length ≤ 1 := by
  unfold ctC
  split <;> simp
theorem rgC_len (p : Plan) (q : Nat × Str) (as : List Nat) : (as.flatMap (ctD p q)).length ≤ 2 * as.length := flat_le as fun a _ => ctD_len p q a
theorem ctQ_len {p : Plan} (h : OkPlan p) (q : Nat × Str) : (ctQ p q).length ≤ 7 := by
  unfold ctQ
  rw [List.length_append]
  have h1 := ctC_len p q
  have h2 := rgC_len p q (rgN 0 p.2.length)
  have h3 := h.2.1.2
  rw [rgN_len] at h2
  omega
theorem rawCuts_len {p : Plan} (h : OkPlan p) : (rawCuts p).length ≤ 28 := by
  have h1 := flat_le (enumL 0 p.1) fun q _ => ctQ_len h q
  have h2 := h.1.2.1
  rw [enumL_len] at h1
  unfold rawCuts
  omega
theorem isNon_eO {A : Type} {enc : A → Dat} (hn : ∀ a, isNon (enc a) = false) (o : Option A) : isNon (eO enc o) = o.isNone := by
  cases o with
  | none => rfl
  | some a => exact hn a
section
variable {c : Cfg} {CP CH CA CD : Addr} (B : Glb c CP CH CA CD)
include B
theorem ok_law_makeable : Has c 3 "_law_makeable" (spP c (fun a : Plan => [ePlan a]) OkPlan fun a => .lst ((makeM a).map eCut)) :=
  has_of B.law_makeable (fun _ => rfl) fun p h0 => by
    have hl : p.1.length ≤ 4 := h0.1.2.1
    have hml : p.2.length ≤ 3 := h0.2.1.2
    have hm1 : 1 ≤ p.2.length := h0.2.1.1
    refine ds_cons (d1_own 1 (xs := []) (le_lst da_nil (ll rfl)) rfl ?_)
    refine ds_cons (d1_for (as := enumL 0 p.1) (enc := fun q => .tup [eN q.1, .str q.2]) (fun rem G => ∃ (done : List (Nat × Str)) (G2 G3 G4 G5 : Slot), enumL 0 p.1 = done ++ rem ∧ G = [.dat (ePlan p), .own ((done.flatMap (ctQ p)).map eCut), G2, G3, G4, G5]) ((it_enumT (de_ixT (d := eSorts p.1) (dv 0 rfl) de_int rfl) B.b_enumerate).is (enumD_map Dat.str 0 p.1)) ⟨[], _, _, _, _, rfl, rfl⟩ (fun q rem G ⟨done, G2, G3, G4, G5, e1, e2⟩ => ?_) (fun G ⟨done, G2, G3, G4, G5, e1, e2⟩ => ?_))
    · subst e2
      refine ⟨_, dn2 (dn 2) (dn 3), ?_⟩
      obtain ⟨n, s⟩ := q
      have hd : done.length ≤ 4 := by
        have := congrArg List.length e1
        rw [enumL_len, List.length_append] at this
        omega
      have hfl : (done.flatMap (ctQ p)).length ≤ 28 := Nat.le_trans (flat_le done fun q _ => ctQ_len h0 q) (by omega)
      generalize hF : done.flatMap (ctQ p) = found at hfl
      refine ds_cons (d1_map1 4 5 eN (rgN 1 p.2.length) (fun a => eO Dat.str (showOf p.2 a n)) ((it_rng2 (m := 1) de_int ((de_lenT B.b_len (de_ixT (d := eMods p.2) (dv 0 rfl) de_int rfl).re).is (by rw [List.length_map])) B.b_range (by omega)).is (rgD_nat 1 _)) (by rw [rgN_len]; omega) (fun a ha => de_call (ok_law_how B) (p, a, n) ⟨h0, (rgN_mem.mp ha).2⟩ (ll rfl) (da_cons (dv 0 rfl) (da_cons (dv 5 rfl) (da_cons (dv 2 rfl) da_nil)))) ?_)
      have eo : (rgN 1 p.2.length).map (fun a => eO Dat.str (showOf p.2 a n)) = (othersM p.2 n).map (eO Dat.str) := by
        unfold othersM
        rw [List.map_map]; rfl
      rw [eo]
      refine ds_mid (fun G' => G' = [.dat (ePlan p), .own ((found ++ ctC p (n, s)).map eCut), .dat (eN n), .dat (.str s), .own ((othersM p.2 n).map (eO Dat.str)), G5]) ?_ fun G' eG => ?_
      · refine d1_if (dt_w (dw_and (dt_cmp (c_eqE inj_str (ll rfl) s "cell") (rv 3 rfl) de_str.re) fun _ => dw_and1 (dt_cmp c_isN (de_call (ok_law_how B) (p, 0, n) ⟨h0, hm1⟩ (ll rfl) (da_cons (dv 0 rfl) (da_cons de_int (da_cons (dv 2 rfl) da_nil)))).re de_non.re))) (fun h1 => ?_) fun h1 => ds_nil ?_
        · refine ds_cons (d1_if (dt_w (dw_or (dt_cmp (c_inLE inj_ms (ll rfl) (some "shown") (othersM p.2 n)) de_str.re (ro 4 rfl)) fun _ => dw_or (dt_cmp (c_inLE inj_ms (ll rfl) (some "weak") (othersM p.2 n)) de_str.re (ro 4 rfl)) fun _ => dw_or1 (dt_cmp (c_inLE inj_ms (ll rfl) (some "protected") (othersM p.2 n)) de_str.re (ro 4 rfl)))) (fun h2 => ?_) fun h2 => ds_nil (ds_nil ?_))
          · refine ds_cons (d1_append 1 (d := eCut ("copy", 0, n)) rfl rfl (.inl rfl) (de_tup (da_cons de_str (da_cons de_int (da_cons (dv 2 rfl) da_nil))) (ll rfl)) (by rw [List.length_map]; omega) (ds_nil (ds_nil ?_)))
            have : copyOk p (n, s) = true := by
              unfold copyOk
              rw [h1, h2]; rfl
            unfold ctC
            rw [if_pos this, List.map_append]
            subst hF
            rfl
          · have : copyOk p (n, s) = false := by
              unfold copyOk
              rw [h1, h2]; rfl
            unfold ctC
            rw [if_neg (by rw [this]; exact Bool.false_ne_true), List.append_nil]
            subst hF
            rfl
        · have : copyOk p (n, s) = false := by
            unfold copyOk
            rw [h1]; rfl
          unfold ctC
          rw [if_neg (by rw [this]; exact Bool.false_ne_true), List.append_nil]
          subst hF
          rfl
      · subst eG
        have hgl : (found ++ ctC p (n, s)).length ≤ 29 := by
          have := ctC_len p (n, s)
          rw [List.length_append]; omega
        refine ds_cons (d1_for (as := rgN 0 p.2.length) (enc := eN) (fun rem2 G => ∃ (done2 : List Nat) (G5 : Slot), rgN 0 p.2.length = done2 ++ rem2 ∧ G = [.dat (ePlan p), .own ((found ++ ctC p (n, s) ++ done2.flatMap (ctD p (n, s))).map eCut), .dat (eN n), .dat (.str s), .own ((othersM p.2 n).map (eO Dat.str)), G5]) ((it_rng1 ((de_lenT B.b_len (de_ixT (d := eMods p.2) (dv 0 rfl) de_int rfl).re).is (by rw [List.length_map])) B.b_range (by omega)).is (rgD_nat 0 _)) ⟨[], _, rfl, by show _ = [_, Slot.own ((_ ++ []).map eCut), _, _, _, _]; rw [List.append_nil]⟩ (fun a rem2 G ⟨done2, G5, f1, f2⟩ => ?_) (fun G ⟨done2, G5, f1, f2⟩ => ?_))
        · subst f2
          refine ⟨_, dn 5, ?_⟩
          have ha : a < p.2.length := (rgN_mem.mp (show a ∈ rgN 0 p.2.length by rw [f1]; simp)).2
          have hd2 : done2.length ≤ 3 := by
            have := congrArg List.length f1
            rw [rgN_len, List.length_append] at this
            omega
          have hkl : (found ++ ctC p (n, s) ++ done2.flatMap (ctD p (n, s))).length ≤ 35 := by
            have := rgC_len p (n, s) done2
            rw [List.length_append]; omega
          have eA : (done2 ++ [a]).flatMap (ctD p (n, s)) = done2.flatMap (ctD p (n, s)) ++ ctD p (n, s) a := by rw [List.flatMap_append, List.flatMap_cons, List.flatMap_nil, List.append_nil]
          refine ds_cons (d1_if (dt_cmp c_notN (de_call (ok_law_how B) (p, a, n) ⟨h0, ha⟩ (ll rfl) (da_cons (dv 0 rfl) (da_cons (dv 5 rfl) (da_cons (dv 2 rfl) da_nil)))).re de_non.re) (fun h1 => ?_) fun h1 => ds_nil (ds_nil ?_))
          · have h1 : (!isNon (eO Dat.str (showOf p.2 a n))) = true := h1
            rw [isNon_eO (fun _ => rfl)] at h1
            have hne : showOf p.2 a n ≠ none := fun z => by rw [z] at h1; cases h1
            refine ds_cons (d1_append 1 (d := eCut ("direct", a, n)) rfl rfl (.inl rfl) (de_tup (da_cons de_str (da_cons (dv 5 rfl) (da_cons (dv 2 rfl) da_nil))) (ll rfl)) (by rw [List.length_map]; omega) ?_)
            refine ds_cons (d1_own 1 (xs := (found ++ ctC p (n, s) ++ (done2 ++ [a]).flatMap (ctD p (n, s))).map eCut) ((le_cat (ro 1 rfl) (le_if (k := decide (s = "call")) (xs := [eCut ("place", a, n)]) (ys := []) (dt_cmp (c_eqE inj_str (ll rfl) s "call") (rv 3 rfl) de_str.re) (fun _ => le_lst (da_cons (de_tup (da_cons de_str (da_cons (dv 5 rfl) (da_cons (dv 2 rfl) da_nil))) (ll rfl)) da_nil) (ll rfl)) (fun _ => le_lst da_nil (ll rfl))).re ?_).is ?_) rfl (ds_nil (ds_nil ⟨_, Wk.refl, done2 ++ [a], .dat (eN a), by rw [f1, List.append_assoc]; rfl, rfl⟩)))
            · rw [List.length_append, List.length_map]
              show _ + 1 + _ ≤ 100000
              have : (cond (decide (s = "call")) [eCut ("place", a, n)] ([] : List Dat)).length ≤ 1 := by cases decide (s = ("call" : Str)) <;> simp
              omega
            · rw [eA, ← List.append_assoc, List.map_append]
              unfold ctD
              rw [if_neg hne]
              by_cases z : s = ("call" : Str)
              · subst z
                simp only [decide_true, cond_true, if_true, List.map_append, List.map_cons, List.map_nil, List.append_assoc, List.cons_append, List.nil_append]
              · rw [decide_eq_false z, if_neg z]
                simp only [cond_false, List.map_append, List.map_cons, List.map_nil, List.append_assoc, List.cons_append, List.nil_append]
          · have h1 : (!isNon (eO Dat.str (showOf p.2 a n))) = false := h1
            rw [isNon_eO (fun _ => rfl)] at h1
            have hne : showOf p.2 a n = none := by
              cases z : showOf p.2 a n with
              | none => rfl
              | some w => rw [z] at h1; cases h1
            refine ⟨_, Wk.refl, done2 ++ [a], .dat (eN a), by rw [f1, List.append_assoc]; rfl, ?_⟩
            rw [eA]
            unfold ctD
            rw [if_pos hne, List.append_nil]
            rfl
        · subst f2
          rw [List.append_nil] at f1
          refine ds_nil ⟨_, Wk.refl, done ++ [(n, s)], .dat (eN n), .dat (.str s), .own ((othersM p.2 n).map (eO Dat.str)), G5, by rw [e1, List.append_assoc]; rfl, ?_⟩
          rw [List.flatMap_append, hF, List.flatMap_cons, List.flatMap_nil, List.append_nil]
          unfold ctQ
          rw [← f1, List.append_assoc]
    · subst e2
      rw [List.append_nil] at e1
      refine ds_cons (d1_ret ((le_sorted B.b_sorted (ro 1 rfl) (srt_cut.ok (ll rfl) _ ?_)).de) ?_)
      · rw [← e1]
        exact Nat.le_trans (rawCuts_len h0) (ll rfl)
      · rw [← e1, sortD_map]; rfl
end
end Cal
set_option Elab.async false
set_option linter.all false
set_option maxRecDepth 100000
set_option maxHeartbeats 4000000
namespace Cal
open PySem PySem.Spec PyProof.Rows L2
/-! ### what is makeable is valid -/
theorem kind_copy : ("copy" : Str) ∈ kinds3 := by decide
theorem kind_direct : ("direct" : Str) ∈ kinds3 := by decide
theorem kind_place : ("place" : Str) ∈ kinds3 := by decide
theorem cut_ne1 : (("direct" : Str) = "copy") = False := by decide
theorem cut_ne2 : (("place" : Str) = "copy") = False := by decide
theorem cut_ne3 : (("direct" : Str) = "place") = False := by decide
theorem str_hid1 : (("shown" : Str) = "hidden") = False := by decide
theorem str_hid2 : (("weak" : Str) = "hidden") = False := by decide
theorem str_hid3 : (("protected" : Str) = "hidden") = False := by decide
theorem there_of {ms : Mods} {n : Nat} {w : Str} (h : (some w : Option Str) ∈ othersM ms n) (hw : (w = "hidden") = False) : there ms n = true := by
  unfold there
  rw [List.any_eq_true]
  refine ⟨some w, h, ?_⟩
  rw [decide_eq_false (by simp), decide_eq_false (fun z => hw.mp (Option.some.inj z))]; rfl
theorem rawCuts_mem {p : Plan} {k : Cut} (h : k ∈ rawCuts p) : ∃ s, p.1[k.2.2]? = some s ∧ ((k.1 = "copy" ∧ k.2.1 = 0 ∧ copyOk p (k.2.2, s) = true) ∨ (k.2.1 < p.2.length ∧ showOf p.2 k.2.1 k.2.2 ≠ none ∧ (k.1 = "direct" ∨ (k.1 = "place" ∧ s = "call")))) := by
  unfold rawCuts at h
  obtain ⟨⟨n, s⟩, hq, hk⟩ := List.mem_flatMap.mp h
  obtain ⟨_, a2⟩ := enumL_mem hq
  have a2 : p.1[n]? = some s := a2
  unfold ctQ at hk
  rcases List.mem_append.mp hk with hk | hk
  · unfold ctC at hk
    split at hk
    · rename_i hc
      obtain rfl := List.mem_singleton.mp hk
      exact ⟨s, a2, .inl ⟨rfl, rfl, hc⟩⟩
    · cases hk
  · obtain ⟨a, ha, hk⟩ := List.mem_flatMap.mp hk
    have ha := (rgN_mem.mp ha).2
    unfold ctD at hk
    split at hk
    · cases hk
    · rename_i hne
      rcases List.mem_cons.mp hk with rfl | hk
      · exact ⟨s, a2, .inr ⟨ha, hne, .inl rfl⟩⟩
      · split at hk
        · rename_i hs
          obtain rfl := List.mem_singleton.mp hk
          exact ⟨s, a2, .inr ⟨ha, hne, .inr ⟨rfl, hs⟩⟩⟩
        · cases hk
theorem rawCuts_ok {p : Plan} (h0 : OkPlan p) {k : Cut} (h : k ∈ rawCuts p) : OkCut p k := by
  obtain ⟨s, hs, hc⟩ := rawCuts_mem h
  have hn : k.2.2 < p.1.length := (List.getElem?_eq_some_iff.mp hs).1
  rcases hc with ⟨h1, h2, h3⟩ | ⟨h1, h2, h3⟩
  · unfold copyOk at h3
    rw [Bool.and_eq_true, Bool.and_eq_true, decide_eq_true_eq, isNon_eO (fun _ => rfl), Bool.or_eq_true, Bool.or_eq_true, decide_eq_true_eq, decide_eq_true_eq, decide_eq_true_eq] at h3
    obtain ⟨⟨g1, g2⟩, g3⟩ := h3
    have g1 : s = "cell" := g1
    have g2 : showOf p.2 0 k.2.2 = none := by
      cases z : showOf p.2 0 k.2.2 with
      | none => rfl
      | some w => rw [show (k.2.2, s).1 = k.2.2 from rfl, z] at g2; cases g2
    refine ⟨by rw [h1]; exact kind_copy, by rw [h2]; exact h0.2.1.1, hn, fun _ => ⟨h2, by rw [hs, g1], g2, ?_⟩, fun z => absurd h1 z⟩
    rcases g3 with g3 | g3 | g3
    · exact there_of g3 str_hid1
    · exact there_of g3 str_hid2
    · exact there_of g3 str_hid3
  · refine ⟨?_, h1, hn, fun z => ?_, fun _ => ⟨h2, ?_⟩⟩
    · rcases h3 with h3 | ⟨h3, _⟩ <;> rw [h3]
      · exact kind_direct
      · exact kind_place
    · rcases h3 with h3 | ⟨h3, _⟩
      · rw [h3] at z; exact (cut_ne1.mp z).elim
      · rw [h3] at z; exact (cut_ne2.mp z).elim
    · rcases h3 with h3 | ⟨h3, h4⟩
      · exact .inl h3
      · exact .inr (by rw [hs, h4])
theorem nodup_flat {A B : Type} {f : A → List B} : ∀ {as : List A}, as.Nodup → (∀ a ∈ as, (f a).Nodup) → (∀ a ∈ as, ∀ b ∈ as, ∀ x, x ∈ f a → x ∈ f b → a = b) → (as.flatMap f).Nodup
  | [], _, _, _ => List.nodup_nil
  | a :: as, nd, h1, h2 => by
    rw [List.flatMap_cons]
    obtain ⟨n1, n2⟩ := List.nodup_cons.mp nd
    refine List.nodup_append.mpr ⟨h1 a List.mem_cons_self, nodup_flat n2 (fun b hb => h1 b (List.mem_cons_of_mem _ hb)) fun b hb c hc => h2 b (List.mem_cons_of_mem _ hb) c (List.mem_cons_of_mem _ hc), fun x hx y hy e => ?_⟩
    subst e
    obtain ⟨b, hb, hxb⟩ := List.mem_flatMap.mp hy
    exact n1 (h2 a List.mem_cons_self b (List.mem_cons_of_mem _ hb) x hx hxb ▸ hb)
theorem enumL_nodup {A : Type} : ∀ (n : Nat) (as : List A), (enumL n as).Nodup
  | n, [] => List.nodup_nil
  | n, a :: as => List.nodup_cons.mpr ⟨fun h => by
    have := (enumL_mem h).1
    have this : n + 1 ≤ n := this
    omega, enumL_nodup (n + 1) as⟩
theorem rgN_nodup (m n : Nat) : (rgN m n).Nodup := by
  unfold rgN
  exact List.Pairwise.map _ (fun a b h e => h (by omega)) (List.nodup_range (n := n - m))
theorem ctD_mem {p : Plan} {q : Nat × Str} {a : Nat} {k : Cut} (h : k ∈ ctD p q a) : k.2.1 = a ∧ k.2.2 = q.1 ∧ (k.1 = "copy") = False := by
  unfold ctD at h
  split at h
  · cases h
  · rcases List.mem_cons.mp h with rfl | h
    · exact ⟨rfl, rfl, cut_ne1⟩
    · split at h
      · obtain rfl := List.mem_singleton.mp h
        exact ⟨rfl, rfl, cut_ne2⟩
      · cases h
theorem ctC_mem {p : Plan} {q : Nat × Str} {k : Cut} (h : k ∈ ctC p q) : k.2.2 = q.1 ∧ k.1 = "copy" := by
  unfold ctC at h
  split at h
  · obtain rfl := List.mem_singleton.mp h
    exact ⟨rfl, rfl⟩
  · cases h
theorem ctQ_mem {p : Plan} {q : Nat × Str} {k : Cut} (h : k ∈ ctQ p q) : k.2.2 = q.1 := by
  unfold ctQ at h
  rcases List.mem_append.mp h with h | h
  · exact (ctC_mem h).1
  · obtain ⟨a, _, h⟩ := List.mem_flatMap.mp h
    exact (ctD_mem h).2.1
theorem rawCuts_nodup (p : Plan) : (rawCuts p).Nodup := by
  refine nodup_flat (enumL_nodup 0 p.1) (fun q _ => ?_) fun q hq r hr k h1 h2 => ?_
  · unfold ctQ
    refine List.nodup_append.mpr ⟨?_, nodup_flat (rgN_nodup _ _) (fun a _ => ?_) fun a _ b _ k h1 h2 => (ctD_mem h1).1.symm.trans (ctD_mem h2).1, fun x hx y hy e => ?_⟩
    · unfold ctC
      split
      · exact List.nodup_cons.mpr ⟨by simp, List.nodup_nil⟩
      · exact List.nodup_nil
    · unfold ctD
      split
      · exact List.nodup_nil
      · split
        · refine List.nodup_cons.mpr ⟨fun z => ?_, List.nodup_cons.mpr ⟨by simp, List.nodup_nil⟩⟩
          have := List.mem_singleton.mp z
          exact cut_ne3.mp (congrArg (fun c : Cut => c.1) this)
        · exact List.nodup_cons.mpr ⟨by simp, List.nodup_nil⟩
    · subst e
      obtain ⟨a, _, hy⟩ := List.mem_flatMap.mp hy
      exact ((ctD_mem hy).2.2).mp (ctC_mem hx).2
  · have e : q.1 = r.1 := (ctQ_mem h1).symm.trans (ctQ_mem h2)
    have a1 := (enumL_mem hq).2
    have a2 := (enumL_mem hr).2
    rw [e, a2] at a1
    exact Prod.ext e (Option.some.inj a1).symm
theorem makeM_ok {p : Plan} (h0 : OkPlan p) {k : Cut} (h : k ∈ makeM p) : OkCut p k := rawCuts_ok h0 (srt_mem.mp h)
theorem makeM_asc (p : Plan) : (makeM p).Pairwise fun a b => dlt (eCut a) (eCut b) = true := srt_asc srt_cut (rawCuts_nodup p)
theorem makeM_len {p : Plan} (h0 : OkPlan p) : (makeM p).length ≤ 28 := by
  unfold makeM
  rw [srt_len]; exact rawCuts_len h0
theorem okCh_sub {p : Plan} (h0 : OkPlan p) {ch : List Cut} (h : ch.Sublist (makeM p)) : OkCh p ch := ⟨fun k hk => makeM_ok h0 (h.subset hk), (makeM_asc p).sublist h, Nat.le_trans h.length_le (Nat.le_trans (makeM_len h0) (ll rfl))⟩
section
variable {c : Cfg} {CP CH CA CD : Addr} (B : Glb c CP CH CA CD)
include B
theorem ok_law_choice : Has c 4 "_law_choice" (spD c (fun a : Plan => [ePlan a]) OkPlan fun a d => ∃ ch, d = eCh ch ∧ OkCh a ch) :=
  hasD_of B.law_choice (fun _ => rfl) (fun p q h0 => by
    refine ds_cons (d1_retX (dx_tupL (S := fun xs => ∃ ch : List Cut, xs = ch.map eCut ∧ OkCh p ch) B.b_tuple (LX.imp (lx_comp [("_law_one", 2)] (R0 := fun ds => ds = (makeM p).map eCut) ((it_list (de_call (ok_law_makeable B) p h0 (ll rfl) (da_cons (dv 1 rfl) da_nil))).toX rfl) (by rfl) (fun ds i ys => ∃ ch : List Cut, ys = ch.map eCut ∧ ch.Sublist ((makeM p).take i)) (fun ds e => ?_) (fun ds _ => ⟨[], rfl, List.nil_sublist _⟩) (fun ds i d ys e hd ⟨ch, e1, e2⟩ => ?_)) fun xs ⟨ds, e, ch, e1, e2⟩ => ⟨ch, e1, okCh_sub h0 ?_⟩)) fun d ⟨xs, e, ch, e1, e2⟩ => ⟨ch, by rw [e, e1]; rfl, e2⟩)
    · rw [e, List.length_map]
      exact Nat.le_trans (makeM_len h0) (ll rfl)
    · rw [e, List.getElem?_map] at hd
      cases q : (makeM p)[i]? with
      | none => rw [q] at hd; cases hd
      | some k =>
        rw [q] at hd
        cases hd
        refine ⟨_, dn 2, fun k hk => hk, fun _ => True, dix_one (dtx_eqI (dx_takeC B rfl 0 rfl de_int (by decide) (ll rfl)) de_int fun z h => below_int h), fun _ => ⟨ch, e1, ?_⟩, fun _ => (dv 2 rfl).toX ⟨ch ++ [k], by rw [List.map_append, e1]; rfl, ?_⟩⟩
        · rw [List.take_add_one, q]
          exact e2.trans (List.sublist_append_left _ _)
        · rw [List.take_add_one, q]
          exact e2.append (List.Sublist.refl _)
    · rw [e, List.length_map, List.take_length] at e2
      exact e2) (by decide)
end
end Cal
set_option Elab.async false
set_option linter.all false
set_option maxRecDepth 100000
set_option maxHeartbeats 4000000
namespace Cal
open PySem PySem.Spec PySem.Calls PyProof.Rows L2
/-! ### list(zip(a, b)), a a list, b a tuple -/
section
variable {prog : Program} {w : World} {A : Around} {E : Value → Shared → Prop} {s : Shared} {z TI TO i1 i2 T : Addr} {f1 f2 : List Addr} {n1 n2 i : Nat} {P1 P2 : Nat → Value → Prop} {S1 S2 : Nat → Heap → Prop} {ff : Bool} {oT : Obj}
/-- the next pair while the last one is held -/
theorem zh_item {Q : Value → Shared → Prop} (S : ZipSep2 z TI TO i1 i2 f1 f2) (D1 : Draws prog w A i1 f1 n1 P1 S1) (D2 : Draws prog w A i2 f2 n2 P2 S2) (kz : IsZipHeld s.heap z TI TO T ff) (kT : s.heap.get? T = some oT) (kI : IsTupOf2 s.heap TI (.ref i1) (.ref i2))
    (t1 : S1 i s.heap) (t2 : S2 i s.heap) (l1 : i < n1) (l2 : i < n2)
    (q : ∀ x y h' tk, P1 i x → P2 i y → IsZipHeld h' z TI TO T true → S1 (i + 1) h' → S2 (i + 1) h' → IsTupOf2 h' s.heap.objs.size x y → h'.objs.size = s.heap.objs.size + 1 → (∀ c o, c ≠ z → c ≠ i1 → c ≠ i2 → s.heap.get? c = some o → h'.get? c = some o) → Q (.ref s.heap.objs.size) { s with heap := h', toks := tk }) :
    wpAny (model prog w) A (Builtin.«zip.__next__» ⟨[.ref z], []⟩) (fun fin s' => ∃ v, fin = .done (.ret v) ∧ Q v s') E s := by
  obtain ⟨h0, gg, dd, k0, oo⟩ := s
  show wpAny _ _ (field (.ref z) 2 >>= _) _ _ _; refine wpAny_bind (wpAny_field kz rfl (x := .bool false) rfl ?_)
  show wpAny _ _ (field (.ref z) 3 >>= _) _ _ _; refine wpAny_bind (wpAny_field kz rfl (x := .ref TI) rfl ?_)
  refine wpAny_bind (wpAny_seqItems kI rfl ?_)
  show wpAny _ _ (Builtin.SmallTypes.ownedTupleIsFree (.ref z) >>= _) _ _ _; refine wpAny_bind (wpAny_tupleHeld_zip kz kT fun h1 kz1 b1 => ?_)
  simp only [Bool.false_eq_true, if_false]; refine wpAny_bind ?_
  rw [← Array.forIn_toList]; simp only [List.forIn_cons, List.forIn_nil]
  refine wpAny_bind (wpAny_bind (wpAny_holding ?_)); show wpAny _ _ (Builtin.SmallTypes.nextOf (.ref i1) >>= _) _ _ ⟨h1, gg, dd, k0, oo⟩
  refine wpAny_bind (D1.item i _ _ _ l1 (D1.over t1 b1 S.zf1) fun x h2 k2 px u1 b2 => wpAny_pure ?_); refine wpAny_pure ?_
  refine wpAny_bind (wpAny_bind (wpAny_holding ?_)); show wpAny _ _ (Builtin.SmallTypes.nextOf (.ref i2) >>= _) _ _ ⟨h2, gg, dd, k2, oo⟩
  refine wpAny_bind (D2.item i _ _ _ l2 (D2.over (D2.over t2 b1 S.zf2) b2 S.sep1_2) fun y h3 k3 py u2 b3 => wpAny_pure ?_); refine wpAny_pure (wpAny_pure ?_)
  show wpAny _ _ (newTuple [x, y] >>= _) _ _ _; refine wpAny_bind (wpAny_newTuple ?_)
  replace b1 : Heap.SameBut z h0 h1 := b1
  replace b2 : Heap.SameBut i1 h1 h2 := b2
  replace b3 : Heap.SameBut i2 h2 h3 := b3
  have sz : h3.objs.size = h0.objs.size := by rw [b3.1, b2.1, b1.1]
  have kz3 : IsZipHeld h3 z TI TO T true := b3.extBut _ _ S.zi2 (b2.extBut _ _ S.zi1 kz1)
  have u1' : S1 (i + 1) h3 := D1.over u1 b3 S.sep2_1
  have up : ∀ c o, c ≠ z → c ≠ i1 → c ≠ i2 → h0.get? c = some o → h3.get? c = some o := fun c o a1 a2 a3 e => b3.extBut _ _ a3 (b2.extBut _ _ a2 (b1.extBut _ _ a1 e))
  refine wpAny_pure ⟨_, rfl, ?_⟩
  show Q (.ref h3.objs.size) _
  have hp : IsTupOf2 (h3.push { cls := .type "tuple", data := .seq #[x, y] }) h3.objs.size x y := Heap.get?_push_size _ rfl
  have h4 : (h3.push { cls := .type "tuple", data := .seq #[x, y] }).objs.size = h3.objs.size + 1 := Heap.size_push ..
  rw [sz] at hp h4 ⊢
  exact q x y _ k3 px py (Heap.get?_push_of_some _ kz3) (D1.frame _ _ _ u1' fun b _ o e => Heap.get?_push_of_some _ e) (D2.frame _ _ _ u2 fun b _ o e => Heap.get?_push_of_some _ e) hp h4 fun c o a1 a2 a3 e => Heap.get?_push_of_some _ (up c o a1 a2 a3 e)
/-- the end, both through at once -/
theorem zh_end {Q : Fin → Shared → Prop} (S : ZipSep2 z TI TO i1 i2 f1 f2) (D1 : Draws prog w A i1 f1 n1 P1 S1) (kz : IsZipHeld s.heap z TI TO T ff) (kT : s.heap.get? T = some oT) (kI : IsTupOf2 s.heap TI (.ref i1) (.ref i2)) (t1 : S1 n1 s.heap)
    (q : ∀ h' e, (∀ c o, c ≠ z → c ≠ i1 → s.heap.get? c = some o → h'.get? c = some o) → (∃ o, h'.get? e = some o ∧ o.cls = .type "StopIteration") → E (.ref e) { s with heap := h' }) :
    wpAny (model prog w) A (Builtin.«zip.__next__» ⟨[.ref z], []⟩) Q E s := by
  show wpAny _ _ (field (.ref z) 2 >>= _) _ _ _; refine wpAny_bind (wpAny_field kz rfl (x := .bool false) rfl ?_)
  show wpAny _ _ (field (.ref z) 3 >>= _) _ _ _; refine wpAny_bind (wpAny_field kz rfl (x := .ref TI) rfl ?_)
  refine wpAny_bind (wpAny_seqItems kI rfl ?_)
  show wpAny _ _ (Builtin.SmallTypes.ownedTupleIsFree (.ref z) >>= _) _ _ _; refine wpAny_bind (wpAny_tupleHeld_zip kz kT fun h1 kz1 b1 => ?_)
  simp only [Bool.false_eq_true, if_false]; refine wpAny_bind ?_
  rw [← Array.forIn_toList]; simp only [List.forIn_cons, List.forIn_nil]
  refine wpAny_bind (wpAny_bind (wpAny_holding ?_)); show wpAny _ _ (Builtin.SmallTypes.nextOf (.ref i1) >>= _) _ _ { s with heap := h1 }
  exact wpAny_bind (D1.done _ _ _ (D1.over t1 b1 S.zf1) fun h2 e b2 he => q h2 e (fun c o a1 a2 x => b2 _ _ a2 (b1.extBut _ _ a1 x)) he)
theorem zh_pyItem {Q : Option Value → Shared → Prop} (S : ZipSep2 z TI TO i1 i2 f1 f2) (D1 : Draws prog w A.in1 i1 f1 n1 P1 S1) (D2 : Draws prog w A.in1 i2 f2 n2 P2 S2) (kz : IsZipHeld s.heap z TI TO T ff) (kT : s.heap.get? T = some oT) (kI : IsTupOf2 s.heap TI (.ref i1) (.ref i2))
    (t1 : S1 i s.heap) (t2 : S2 i s.heap) (l1 : i < n1) (l2 : i < n2)
    (q : ∀ x y h' tk, P1 i x → P2 i y → IsZipHeld h' z TI TO T true → S1 (i + 1) h' → S2 (i + 1) h' → IsTupOf2 h' s.heap.objs.size x y → h'.objs.size = s.heap.objs.size + 1 → (∀ c o, c ≠ z → c ≠ i1 → c ≠ i2 → s.heap.get? c = some o → h'.get? c = some o) → Q (some (.ref s.heap.objs.size)) { s with heap := h', toks := tk }) :
    wpAny (model prog w) A (pyNext (.ref z)) Q E s := by
  have ty : s.TypeIs (.ref z) "zip" := ⟨_, kz, rfl⟩
  unfold pyNext
  exact wpAny_bind (wpAny_attempt (wpAny_callSpecial?_slot (name := Str.ofString "__next__") ty F.slot_zip_next (wpAny_call_entry F.slot_zip_next ty F.entry_zip_next (zh_item S D1 D2 kz kT kI t1 t2 l1 l2 fun x y h' tk a1 a2 a3 a4 a5 a6 a7 a8 => wpAny_pure (q x y h' tk a1 a2 a3 a4 a5 a6 a7 a8)) (F.args_zip_next_1 _))))
theorem zh_pyEnd {Q : Option Value → Shared → Prop} (S : ZipSep2 z TI TO i1 i2 f1 f2) (D1 : Draws prog w A.in1 i1 f1 n1 P1 S1) (kz : IsZipHeld s.heap z TI TO T ff) (kT : s.heap.get? T = some oT) (kI : IsTupOf2 s.heap TI (.ref i1) (.ref i2)) (t1 : S1 n1 s.heap)
    (q : ∀ h', (∀ c o, c ≠ z → c ≠ i1 → s.heap.get? c = some o → h'.get? c = some o) → Q none { s with heap := h' }) : wpAny (model prog w) A (pyNext (.ref z)) Q E s := by
  have ty : s.TypeIs (.ref z) "zip" := ⟨_, kz, rfl⟩
  unfold pyNext
  refine wpAny_bind (wpAny_attempt (wpAny_callSpecial?_slot (name := Str.ofString "__next__") ty F.slot_zip_next (wpAny_call_entry F.slot_zip_next ty F.entry_zip_next (zh_end S D1 kz kT kI t1 fun h' e kk ⟨o, ho, hc⟩ => ?_) (F.args_zip_next_1 _))))
  exact wpAny_bind (wpAny_isInstance (T := "StopIteration") (b := true) ⟨o, ho, hc⟩ isSubtype_stop (wpAny_pure (q _ kk)))
theorem zip_no_len : typeLookup (.type "zip") "__len__" = pure none := am_miss_of_fast (by decide +kernel)
theorem zip_no_hint : typeLookup (.type "zip") "__length_hint__" = pure none := am_miss_of_fast (by decide +kernel)
theorem zip_hint {r : Addr} {Q : Bool → Shared → Prop} (hT : s.TypeIs (.ref r) "zip") (h : Q true s) : wpAny (model prog w) A (Builtin.List.listLengthHint (.ref r)) Q E s := by
  unfold Builtin.List.listLengthHint
  refine wpAny_bind (wpAny_specialOf hT zip_no_len ?_)
  wp_delta
  refine wpAny_ite_split (fun hab => absurd hab (by decide +kernel)) (fun _ => ?_)
  refine wpAny_ite_split (fun hab => absurd hab (by decide +kernel)) (fun _ => ?_)
  exact wpAny_bind (wpAny_specialOf hT zip_no_hint (wpAny_pure h))
end
end Cal
set_option Elab.async false
set_option linter.all false
set_option maxRecDepth 100000
set_option maxHeartbeats 4000000
namespace Cal
open PySem PySem.Spec PySem.Calls PyProof.Rows L2 PySem.W
/-- a zip on its way, with the list S that is made of it -/
structure ZS (h : Heap) (z TI TO i1 i2 S : Addr) (S1 S2 : Nat → Heap → Prop) (k : Nat) : Prop where
  ti : IsTupOf2 h TI (.ref i1) (.ref i2)
  one : S1 k h
  two : S2 k h
  out : (IsZip h z TI TO .none ∧ ∃ a b, IsTupOf2 h TO a b) ∨ ∃ T f oT, IsZipHeld h z TI TO T f ∧ h.get? T = some oT ∧ T ≠ z ∧ T ≠ i1 ∧ T ≠ i2 ∧ T ≠ S
/-- what lies where -/
structure ZP (prog : Program) (w : World) (z TI TO i1 i2 S : Addr) (f1 f2 : List Addr) (n : Nat) (P1 P2 : Nat → Value → Prop) (S1 S2 : Nat → Heap → Prop) : Prop where
  sep : ZipSep2 z TI TO i1 i2 f1 f2
  d1 : ∀ A : Around, A.handled = none → Draws prog w A i1 f1 n P1 S1
  d2 : ∀ A : Around, A.handled = none → Draws prog w A i2 f2 n P2 S2
  zS : z < S
  tiS : TI < S
  toS : TO < S
  i1S : i1 < S
  i2S : i2 < S
  f1S : ∀ b ∈ f1, b < S
  f2S : ∀ b ∈ f2, b < S
/-- the pairs made so far -/
structure ZG (S : Addr) (P1 P2 : Nat → Value → Prop) (h : Heap) (as : List Addr) : Prop where
  rise : as.Pairwise (· < ·)
  above : ∀ a ∈ as, S < a
  pairs : ∀ (j : Nat) (a : Addr), as[j]? = some a → ∃ x y, P1 j x ∧ P2 j y ∧ IsTupOf2 h a x y
section
variable {prog : Program} {w : World} {A : Around} {E : Value → Shared → Prop} {s : Shared} {z TI TO i1 i2 S : Addr} {f1 f2 : List Addr} {n i : Nat} {P1 P2 : Nat → Value → Prop} {S1 S2 : Nat → Heap → Prop}
theorem ZG.there {h : Heap} {as : List Addr} (g : ZG S P1 P2 h as) {a : Addr} (m : a ∈ as) : a < h.objs.size := by
  obtain ⟨j, hj⟩ := List.mem_iff_getElem?.mp m
  obtain ⟨_, _, _, _, e⟩ := g.pairs j a hj
  exact Heap.lt_size e
theorem ZG.keep {h h' : Heap} {as : List Addr} (g : ZG S P1 P2 h as) (k : ∀ b o, S < b → h.get? b = some o → h'.get? b = some o) : ZG S P1 P2 h' as := ⟨g.rise, g.above, fun j a hj => by
  obtain ⟨x, y, p, q, e⟩ := g.pairs j a hj
  exact ⟨x, y, p, q, k _ _ (g.above a (List.mem_of_getElem? hj)) e⟩⟩
theorem ZS.keep {h h' : Heap} {k : Nat} (hP : ZP prog w z TI TO i1 i2 S f1 f2 n P1 P2 S1 S2) (A0 : ∃ A : Around, A.handled = none) (x : ZS h z TI TO i1 i2 S S1 S2 k) (e : ∀ b o, b ≠ S → h.get? b = some o → h'.get? b = some o) : ZS h' z TI TO i1 i2 S S1 S2 k := by
  obtain ⟨A0, hA0⟩ := A0
  refine ⟨e _ _ (Nat.ne_of_lt hP.tiS) x.ti, (hP.d1 A0 hA0).frame _ _ _ x.one fun b hb o q => e b o (Nat.ne_of_lt (hP.f1S b hb)) q, (hP.d2 A0 hA0).frame _ _ _ x.two fun b hb o q => e b o (Nat.ne_of_lt (hP.f2S b hb)) q, ?_⟩
  rcases x.out with ⟨a1, a, b, a2⟩ | ⟨T, f, oT, a1, a2, a3, a4, a5, a6⟩
  · exact .inl ⟨e _ _ (Nat.ne_of_lt hP.zS) a1, a, b, e _ _ (Nat.ne_of_lt hP.toS) a2⟩
  · exact .inr ⟨T, f, oT, e _ _ (Nat.ne_of_lt hP.zS) a1, e _ _ a6 a2, a3, a4, a5, a6⟩
theorem zs_item {Q : Option Value → Shared → Prop} (hh : A.handled = none) (hP : ZP prog w z TI TO i1 i2 S f1 f2 n P1 P2 S1 S2) (x : ZS s.heap z TI TO i1 i2 S S1 S2 i) (hS : S < s.heap.objs.size) (hi : i < n)
    (q : ∀ u v h' tk, P1 i u → P2 i v → ZS h' z TI TO i1 i2 S S1 S2 (i + 1) → IsTupOf2 h' s.heap.objs.size u v → h'.objs.size = s.heap.objs.size + 1 → (∀ b o, S ≤ b → s.heap.get? b = some o → h'.get? b = some o) → (∀ b o, b ≠ z → b ≠ TO → b ≠ i1 → b ≠ i2 → s.heap.get? b = some o → h'.get? b = some o) → Q (some (.ref s.heap.objs.size)) { s with heap := h', toks := tk }) :
    wpAny (model prog w) A (pyNext (.ref z)) Q E s := by
  have g1 : ∀ {b c : Addr}, S ≤ b → c < S → b ≠ c := fun a b => Nat.ne_of_gt (Nat.lt_of_lt_of_le b a)
  have big : ∀ {c : Addr}, c < S → s.heap.objs.size ≠ c := fun a => Nat.ne_of_gt (Nat.lt_trans a hS)
  have D1 := hP.d1 A.in1 hh
  have D2 := hP.d2 A.in1 hh
  rcases x.out with ⟨a1, a, b, a2⟩ | ⟨T, f, oT, a1, a2, a3, a4, a5, a6⟩
  · refine wpAny_pyNext_zipD2_item hP.sep D1 D2 a1 x.ti a2 x.one x.two hi hi fun u v h' tk p1 p2 c1 c2 c3 c4 c5 c6 c7 => ?_
    exact q u v h' tk p1 p2 ⟨c7 _ _ hP.sep.TIz hP.sep.TITO hP.sep.TIi1 hP.sep.TIi2 x.ti, c3, c4, .inr ⟨_, false, _, c1, c5, big hP.zS, big hP.i1S, big hP.i2S, Nat.ne_of_gt hS⟩⟩ c5 c6 (fun b o hb e => c7 b o (g1 hb hP.zS) (g1 hb hP.toS) (g1 hb hP.i1S) (g1 hb hP.i2S) e) fun b o h1 h2 h3 h4 e => c7 b o h1 h2 h3 h4 e
  · refine zh_pyItem hP.sep D1 D2 a1 a2 x.ti x.one x.two hi hi fun u v h' tk p1 p2 c1 c3 c4 c5 c6 c7 => ?_
    exact q u v h' tk p1 p2 ⟨c7 _ _ hP.sep.TIz hP.sep.TIi1 hP.sep.TIi2 x.ti, c3, c4, .inr ⟨T, true, oT, c1, c7 _ _ a3 a4 a5 a2, a3, a4, a5, a6⟩⟩ c5 c6 (fun b o hb e => c7 b o (g1 hb hP.zS) (g1 hb hP.i1S) (g1 hb hP.i2S) e) fun b o h1 h2 h3 h4 e => c7 b o h1 h3 h4 e
theorem zs_done {Q : Option Value → Shared → Prop} (hh : A.handled = none) (hP : ZP prog w z TI TO i1 i2 S f1 f2 n P1 P2 S1 S2) (x : ZS s.heap z TI TO i1 i2 S S1 S2 n)
    (q : ∀ h' tk, (∀ b o, S ≤ b → s.heap.get? b = some o → h'.get? b = some o) → (∀ b o, b ≠ z → b ≠ TO → b ≠ i1 → b ≠ i2 → s.heap.get? b = some o → h'.get? b = some o) → Q none { s with heap := h', toks := tk }) :
    wpAny (model prog w) A (pyNext (.ref z)) Q E s := by
  have g1 : ∀ {b c : Addr}, S ≤ b → c < S → b ≠ c := fun a b => Nat.ne_of_gt (Nat.lt_of_lt_of_le b a)
  have D1 := hP.d1 A.in1 hh
  have D2 := hP.d2 A.in1 hh
  rcases x.out with ⟨a1, a, b, a2⟩ | ⟨T, f, oT, a1, a2, a3, a4, a5, a6⟩
  · exact wpAny_pyNext_zipD2_end hP.sep D1 D2 a1 x.ti a2 x.one x.two (Nat.le_refl _) (Nat.le_refl _) (.inl rfl) fun h' tk c7 => q h' tk (fun b o hb e => c7 b o (g1 hb hP.zS) (g1 hb hP.toS) (g1 hb hP.i1S) (g1 hb hP.i2S) e) fun b o h1 h2 h3 h4 e => c7 b o h1 h2 h3 h4 e
  · exact zh_pyEnd hP.sep D1 a1 a2 x.ti x.one fun h' c7 => q h' s.toks (fun b o hb e => c7 b o (g1 hb hP.zS) (g1 hb hP.i1S) e) fun b o h1 h2 h3 h4 e => c7 b o h1 h3 e
theorem zl_loop {R : Result → Shared → Prop} (hh : A.handled = none) (hP : ZP prog w z TI TO i1 i2 S f1 f2 n P1 P2 S1 S2) (hn : n ≤ sizeLine) (res : Value) {h0 : Heap}
    (fin : ∀ h' tk acc c as, (∀ b o, b ≠ S → b ≠ z → b ≠ TO → b ≠ i1 → b ≠ i2 → h0.get? b = some o → h'.get? b = some o) → h'.get? S = some { cls := .type "list", dict := none, data := .seq acc c, slots := #[] } → as.length = n → ZG S P1 P2 h' as → acc.toList = as.map Value.ref → R (.ok (.ret res)) { s with heap := h', toks := tk }) :
    ∀ (k i : Nat) (h : Heap) (tk c : Nat) (acc : Array Value) (as : List Addr), n - i = k → i ≤ n → ZS h z TI TO i1 i2 S S1 S2 i → (∀ b o, b ≠ S → b ≠ z → b ≠ TO → b ≠ i1 → b ≠ i2 → h0.get? b = some o → h.get? b = some o) →
      h.get? S = some { cls := .type "list", dict := none, data := .seq acc c, slots := #[] } → acc.toList = as.map Value.ref → as.length = i → ZG S P1 P2 h as →
      codeAny (model prog w) A (.builtin "list.extend.loop" ⟨[.ref S, .ref z, res], []⟩) R { s with heap := h, toks := tk } := by
  have A0 : ∃ A : Around, A.handled = none := ⟨A, hh⟩
  intro k
  induction k with
  | zero =>
    intro i h tk c acc as hk hi x kp kS ka kl g
    obtain rfl : i = n := by omega
    refine codeAny_builtin PySem.F.entry_extend_loop ?_
    rw [Around.under_plainId PySem.F.plain_extend_loop _]
    show wpAny _ A.in1 (pyNext (.ref z) >>= _) _ _ _
    refine wpAny_bind (zs_done (s := { s with heap := h, toks := tk }) (A := A.in1) hh hP x fun h' tk' c1 c2 => ?_)
    exact wpAny_pure (fin h' tk' acc c as (fun b o b1 b2 b3 b4 b5 e => c2 b o b2 b3 b4 b5 (kp b o b1 b2 b3 b4 b5 e)) (c1 S _ (Nat.le_refl _) kS) kl (g.keep fun b o hb e => c1 b o (Nat.le_of_lt hb) e) ka)
  | succ k ih =>
    intro i h tk c acc as hk hi x kp kS ka kl g
    have hlt : i < n := by omega
    have hsz : acc.size = i := by rw [← Array.length_toList, ka, List.length_map, kl]
    have hSl : S < h.objs.size := Heap.lt_size kS
    refine codeAny_builtin PySem.F.entry_extend_loop ?_
    rw [Around.under_plainId PySem.F.plain_extend_loop _]
    show wpAny _ A.in1 (pyNext (.ref z) >>= _) _ _ _
    refine wpAny_bind (zs_item (s := { s with heap := h, toks := tk }) (A := A.in1) hh hP x hSl hlt fun u v h' tk' p1 p2 x' ht hz c1 c2 => ?_)
    dsimp only at ht hz c1 c2 ⊢
    have kS' := c1 S _ (Nat.le_refl _) kS
    have up : ∀ b o, b ≠ S → h'.get? b = some o → (h'.update S (Obj.mapSeq (·.push (Value.ref h.objs.size)))).get? b = some o := fun b o hb e => (Heap.get?_update_other _ _ (Ne.symm hb)).trans e
    show wpAny _ A.in1 (updateSeq S (·.push (Value.ref h.objs.size)) >>= _) _ _ _; refine wpAny_bind ?_
    refine wpAny_updateSeq kS' rfl (wpAny_pure ⟨plainId_quiet PySem.F.plain_extend_loop _, ih (i + 1) _ tk' _ (acc.push (Value.ref h.objs.size)) (as ++ [h.objs.size]) (by omega) hlt (x'.keep hP A0 up)
      (fun b o b1 b2 b3 b4 b5 e => up b o b1 (c2 b o b2 b3 b4 b5 (kp b o b1 b2 b3 b4 b5 e))) (Heap.get?_update_self _ kS' rfl) (by rw [Array.toList_push, ka, List.map_append]; rfl) (by rw [List.length_append, kl]; rfl) ⟨?_, ?_, ?_⟩⟩) (by rw [hsz]; omega) (by show (acc.push (Value.ref h.objs.size)).size ≤ sizeLine + 1; rw [Array.size_push, hsz]; omega)
    · refine List.pairwise_append.mpr ⟨g.rise, List.pairwise_singleton _ _, fun a ha b hb => ?_⟩
      rw [List.mem_singleton.mp hb]; exact g.there ha
    · intro a ha
      rcases List.mem_append.mp ha with ha | ha
      · exact g.above a ha
      · rw [List.mem_singleton.mp ha]; exact hSl
    · intro j b hj
      rcases Nat.lt_trichotomy j as.length with q | q | q
      · rw [List.getElem?_append_left q] at hj
        obtain ⟨x1, y1, r1, r2, r3⟩ := g.pairs j b hj
        have hb := g.above b (List.mem_of_getElem? hj)
        exact ⟨x1, y1, r1, r2, up b _ (Nat.ne_of_gt hb) (c1 b _ (Nat.le_of_lt hb) r3)⟩
      · subst q
        obtain rfl : h.objs.size = b := by simpa using hj
        exact ⟨u, v, by rw [kl]; exact p1, by rw [kl]; exact p2, up _ _ (Nat.ne_of_gt hSl) ht⟩
      · rw [List.getElem?_eq_none (by rw [List.length_append, List.length_singleton]; omega)] at hj
        cases hj
end
end Cal
set_option Elab.async false
set_option linter.all false
set_option maxRecDepth 100000
set_option maxHeartbeats 4000000
namespace Cal
open PySem PySem.Spec PySem.Calls PyProof.Rows L2 PySem.W
section
variable {prog : Program} {w : World} {A : Around} {E : Value → Shared → Prop} {s : Shared} {z TI TO i1 i2 S : Addr} {f1 f2 : List Addr} {n i : Nat} {P1 P2 : Nat → Value → Prop} {S1 S2 : Nat → Heap → Prop}
theorem zl_extend {R : Result → Shared → Prop} (hh : A.handled = none) (hP : ZP prog w z TI TO i1 i2 S f1 f2 n P1 P2 S1 S2) (hn : n ≤ sizeLine) (kz : IsZip s.heap z TI TO .none) (x : ZS s.heap z TI TO i1 i2 S S1 S2 0) (c0 : Nat) (kS : s.heap.get? S = some { cls := .type "list", data := .seq #[] c0 })
    (fin : ∀ h' tk acc c as, (∀ b o, b ≠ S → b ≠ z → b ≠ TO → b ≠ i1 → b ≠ i2 → s.heap.get? b = some o → h'.get? b = some o) → h'.get? S = some { cls := .type "list", dict := none, data := .seq acc c, slots := #[] } → as.length = n → ZG S P1 P2 h' as → acc.toList = as.map Value.ref → R (.ok (.ret .none)) { s with heap := h', toks := tk }) :
    wpAny (model prog w) A.in1 (Builtin.List.listExtendWith (.ref S) (.ref z) .none) (fun fin s' => match fin with | .done f => R (.ok f) s' | .again c' => c'.quiet = true ∧ codeAny (model prog w) A c' R s') (fun e s' => R (.error e) s') s := by
  have ty : s.TypeIs (.ref z) "zip" := ⟨_, kz, rfl⟩
  have A0 : ∃ A : Around, A.handled = none := ⟨A, hh⟩
  have go : ∀ (h : Heap) (c tk : Nat), (∀ b o, b ≠ S → s.heap.get? b = some o → h.get? b = some o) → h.get? S = some { cls := .type "list", data := .seq #[] c } → codeAny (model prog w) A (.builtin "list.extend.loop" ⟨[.ref S, .ref z, .none], []⟩) R { s with heap := h, toks := tk } := fun h c tk kk kS' =>
    zl_loop (h0 := s.heap) hh hP hn .none fin n 0 h tk c #[] [] (Nat.sub_zero _) (Nat.zero_le _) (x.keep hP A0 kk) (fun b o b1 _ _ _ _ e => kk b o b1 e) kS' rfl rfl ⟨List.Pairwise.nil, (fun _ ha => nomatch ha), (fun j a hj => by simp at hj)⟩
  unfold Builtin.List.listExtendWith
  refine wpAny_bind (wpAny_typeOf (T := "zip") ty ?_)
  have e1 : Builtin.List.listSameRef (.ref S) (.ref z) = false := by simp [Builtin.List.listSameRef, Nat.ne_of_gt hP.zS]
  have e2 : (Value.type "zip" == Value.type "list") = false := by decide
  have e3 : (Value.type "zip" == Value.type "tuple") = false := by decide
  simp only [e1, e2, e3, Bool.or_false, Bool.false_eq_true, if_false]
  refine wpAny_bind (wpAny_pyIter_zip kz ?_)
  refine wpAny_bind (wpAny_holding (zip_hint ty ?_))
  refine wpAny_ite_split (fun _ => ?_) (fun _ => wpAny_pure ⟨plainId_quiet PySem.F.plain_extend_loop _, go _ c0 _ (fun b o _ e => e) kS⟩)
  refine wpAny_bind (wpAny_rule ?_); refine wpAny_bind ?_
  show wpAny _ _ (updateSeq S (·.push .none) >>= fun _ => updateSeq S (·.pop)) _ _ _; refine wpAny_bind (wpAny_updateSeq kS rfl ?_)
  have kS2 := Heap.get?_update_self (Obj.mapSeq (·.push Value.none)) kS rfl
  refine wpAny_updateSeq (hz := by seq_fits) kS2 rfl ?_
  have kS3 := Heap.get?_update_self (Obj.mapSeq (·.pop)) kS2 rfl
  exact wpAny_pure ⟨plainId_quiet PySem.F.plain_extend_loop _, go _ _ _ (fun b o hb e => (Heap.get?_update_other _ _ (Ne.symm hb)).trans ((Heap.get?_update_other _ _ (Ne.symm hb)).trans e)) kS3⟩
theorem zl_init {R : Result → Shared → Prop} (hh : A.handled = none) (hP : ZP prog w z TI TO i1 i2 S f1 f2 n P1 P2 S1 S2) (hn : n ≤ sizeLine) (kz : IsZip s.heap z TI TO .none) (x : ZS s.heap z TI TO i1 i2 S S1 S2 0) (kS : s.heap.get? S = some { cls := .type "list", data := .seq #[] })
    (fin : ∀ h' tk acc c as, (∀ b o, b ≠ S → b ≠ z → b ≠ TO → b ≠ i1 → b ≠ i2 → s.heap.get? b = some o → h'.get? b = some o) → h'.get? S = some { cls := .type "list", dict := none, data := .seq acc c, slots := #[] } → as.length = n → ZG S P1 P2 h' as → acc.toList = as.map Value.ref → R (.ok (.ret .none)) { s with heap := h', toks := tk }) :
    wpAny (model prog w) A.in1 (Builtin.«list.__init__» ⟨[.ref S, .ref z], []⟩) (fun fin s' => match fin with | .done f => R (.ok f) s' | .again c' => c'.quiet = true ∧ codeAny (model prog w) A c' R s') (fun e s' => R (.error e) s') s := by
  show wpAny _ _ (do let old ← Builtin.List.listItems (.ref S); Builtin.List.listUpdate (.ref S) (fun _ => #[]); letGo old.toList.reverse; Builtin.List.listExtendWith (.ref S) (.ref z) .none) _ _ s
  refine wpAny_bind ?_
  unfold Builtin.List.listItems
  refine wpAny_bind (wpAny_seqItems kS rfl (wpAny_pure ?_))
  show wpAny _ _ (updateSeq S (fun _ => #[]) >>= fun _ => letGo (#[] : Array Value).toList.reverse >>= fun _ => Builtin.List.listExtendWith (.ref S) (.ref z) .none) _ _ s
  refine wpAny_bind (wpAny_updateSeq kS rfl ?_)
  have kS2 := Heap.get?_update_self (Obj.mapSeq (fun _ => (#[] : Array Value))) kS rfl
  have oth : ∀ b o, b ≠ S → s.heap.get? b = some o → (s.heap.update S (Obj.mapSeq (fun _ => (#[] : Array Value)))).get? b = some o := fun b o hb e => (Heap.get?_update_other _ _ (Ne.symm hb)).trans e
  refine wpAny_bind (wpAny_letGo ?_)
  exact zl_extend hh hP hn (oth _ _ (Nat.ne_of_lt hP.zS) kz) (x.keep hP ⟨A, hh⟩ oth) _ kS2 fun h' tk acc c as kk kS' hl g ha => fin h' tk acc c as (fun b o b1 b2 b3 b4 b5 e => kk b o b1 b2 b3 b4 b5 (oth b o b1 e)) kS' hl g ha
/-- list(z), z a zip just made -/
theorem zl_call {Q : Value → Shared → Prop} (hh : A.handled = none) (hP : ZP prog w z TI TO i1 i2 s.heap.objs.size f1 f2 n P1 P2 S1 S2) (hn : n ≤ sizeLine) (kz : IsZip s.heap z TI TO .none) (x : ZS s.heap z TI TO i1 i2 s.heap.objs.size S1 S2 0)
    (fin : ∀ h' tk acc c as, (∀ b o, b ≠ z → b ≠ TO → b ≠ i1 → b ≠ i2 → s.heap.get? b = some o → h'.get? b = some o) → h'.get? s.heap.objs.size = some { cls := .type "list", dict := none, data := .seq acc c, slots := #[] } → as.length = n → ZG s.heap.objs.size P1 P2 h' as → acc.toList = as.map Value.ref → Q (.ref s.heap.objs.size) { s with heap := h', toks := tk }) :
    wpAny (model prog w) A (call (.type "list") [.ref z]) Q E s := by
  refine callType_codes (Q₁ := fun obj t => obj = .ref s.heap.objs.size ∧ t = { s with heap := s.heap.push { cls := .type "list", data := .seq #[] } }) PySem.F.called_list (PySem.F.typeCall_list_1 _) PySem.F.entry_list_init (code_list_new _ ⟨rfl, rfl⟩) fun obj t ⟨e1, e2⟩ => ?_
  subst e1 e2
  have kS : (s.heap.push { cls := .type "list", data := .seq #[] }).get? s.heap.objs.size = some { cls := .type "list", data := .seq #[] } := Heap.get?_push_size _ rfl
  refine ⟨⟨_, kS, rfl⟩, PySem.F.args_list_init_2 _ _, zl_init (A := A.in1) hh hP hn (Heap.get?_push_of_some _ kz) (x.keep hP ⟨A, hh⟩ fun b o _ e => Heap.get?_push_of_some _ e) kS fun h' tk acc c as kk kS' hl g ha => ?_⟩
  exact ⟨rfl, fin h' tk acc c as (fun b o b2 b3 b4 b5 e => kk b o (Nat.ne_of_lt (Heap.lt_size e)) b2 b3 b4 b5 (Heap.get?_push_of_some _ e)) kS' hl g ha⟩
end
end Cal
set_option Elab.async false
set_option linter.all false
set_option maxRecDepth 100000
set_option maxHeartbeats 4000000
namespace Cal
open PySem PySem.Spec PySem.Calls PyProof.Rows L2
/-- many new objects are learnt at once -/
theorem inv_many {X : Cx} {pins : List (Addr × Obj)} {σ : L2.St} {H H' : Hp} {s : Shared} {h' : Heap} {t' : Nat} (I : Inv X pins σ H s) (k : ∀ b o, s.heap.get? b = some o → h'.get? b = some o) (hx : ∀ b o, H b = some o → H' b = some o)
    (hn : ∀ b o, H b = none → H' b = some o → s.heap.objs.size ≤ b ∧ ObjOk X.prog X.w H' h' b o) : Inv X pins σ H' { s with heap := h', toks := t' } := by
  refine I.un ⟨fun b u q _ _ _ => k b u q, fun b u q _ _ _ => ⟨u.slots, k b u q⟩, fun b u q n _ => ?_, fun b u q _ => ⟨u, k b u q⟩, fun b xs q => hx _ _ q, fun b u xs q => hx _ _ q, fun b ps q => ⟨#[], by rw [hx _ _ q]; simp⟩⟩ fun b u e => ?_
  · cases z : H' b with
    | none => rfl
    | some o => exact absurd (Nat.lt_of_lt_of_le (Heap.lt_size q) (hn b o n z).1) (Nat.lt_irrefl _)
  · cases z : H b with
    | none => exact (hn b u z e).2
    | some o =>
      have := hx b o z
      rw [e] at this
      cases this
      exact (I.hok b u z).stay (fun b u _ q => k b u q) (fun d q => hx _ _ q) fun d xs q => hx _ _ q
/-- pairs laid as tuples -/
def layT (H : Hp) : List (Addr × V × V) → Hp
  | [] => H
  | p :: l => layT (upd H p.1 (.tup [p.2.1, p.2.2])) l
theorem layT_old : ∀ {l : List (Addr × V × V)} {H : Hp} {b : Addr} {o : HO}, (∀ p ∈ l, b ≠ p.1) → H b = some o → layT H l b = some o
  | [], H, b, o, _, e => e
  | p :: l, H, b, o, h, e => by
    show layT (upd H p.1 (.tup [p.2.1, p.2.2])) l b = some o
    exact layT_old (l := l) (fun q hq => h q (List.mem_cons_of_mem _ hq)) (by rw [upd_ne (h p List.mem_cons_self)]; exact e)
theorem layT_new : ∀ {l : List (Addr × V × V)} {H : Hp} {b : Addr} {o : HO}, (l.map (·.1)).Nodup → layT H l b = some o → H b = some o ∨ ∃ p ∈ l, b = p.1 ∧ o = .tup [p.2.1, p.2.2]
  | [], H, b, o, _, e => .inl e
  | p :: l, H, b, o, nd, e => by
    rw [List.map_cons] at nd
    obtain ⟨n1, n2⟩ := List.nodup_cons.mp nd
    rcases layT_new n2 e with z | ⟨q, hq, z⟩
    · by_cases y : b = p.1
      · subst y
        rw [upd_same] at z
        cases z
        exact .inr ⟨p, List.mem_cons_self, rfl, rfl⟩
      · rw [upd_ne y] at z
        exact .inl z
    · exact .inr ⟨q, List.mem_cons_of_mem _ hq, z⟩
theorem gr_lay {c : Cfg} {E : Addr → Prop} : ∀ {l : List (Addr × V × V)} {F H : Hp}, Good c E F H → (∀ p ∈ l, H p.1 = none) → (l.map (·.1)).Nodup → ∃ F', Gr c E F H F' (layT H l) ∧ ∀ p ∈ l, F' p.1 = some (.tup [p.2.1, p.2.2])
  | [], F, H, g, _, _ => ⟨F, Gr.refl g, fun p hp => by cases hp⟩
  | p :: l, F, H, g, hn, nd => by
    rw [List.map_cons] at nd
    obtain ⟨n1, n2⟩ := List.nodup_cons.mp nd
    have g1 : Gr c E F H (upd F p.1 (.tup [p.2.1, p.2.2])) (upd H p.1 (.tup [p.2.1, p.2.2])) := Gr.laid g (hn p List.mem_cons_self)
    obtain ⟨F', g2, h2⟩ := gr_lay (l := l) g1.good (fun q hq => by
      rw [upd_ne fun z => n1 (by rw [← z]; exact List.mem_map_of_mem hq)]
      exact hn q (List.mem_cons_of_mem _ hq)) n2
    refine ⟨F', g1.trans g2, fun q hq => ?_⟩
    rcases List.mem_cons.mp hq with rfl | hq
    · exact g2.ext _ _ upd_same
    · exact h2 q hq
def zipA : List Addr → List V → List V → List (Addr × V × V)
  | a :: as, x :: xs, y :: ys => (a, x, y) :: zipA as xs ys
  | _, _, _ => []
theorem zipA_fst : ∀ {as : List Addr} {xs ys : List V}, as.length = xs.length → as.length = ys.length → (zipA as xs ys).map (·.1) = as
  | [], [], [], _, _ => rfl
  | a :: as, x :: xs, y :: ys, h1, h2 => by
    show a :: (zipA as xs ys).map (·.1) = _
    rw [zipA_fst (by simpa using h1) (by simpa using h2)]
  | [], _ :: _, _, h, _ => by simp at h
  | [], [], _ :: _, _, h => by simp at h
  | _ :: _, [], _, h, _ => by simp at h
  | _ :: _, _ :: _, [], _, h => by simp at h
theorem zipA_mem : ∀ {as : List Addr} {xs ys : List V} {p : Addr × V × V}, p ∈ zipA as xs ys → ∃ j : Nat, as[j]? = some p.1 ∧ xs[j]? = some p.2.1 ∧ ys[j]? = some p.2.2
  | a :: as, x :: xs, y :: ys, p, h => by
    rcases List.mem_cons.mp h with rfl | h
    · exact ⟨0, rfl, rfl, rfl⟩
    · obtain ⟨j, a1, a2, a3⟩ := zipA_mem h
      exact ⟨j + 1, a1, a2, a3⟩
  | [], _, _, p, h => by simp [zipA] at h
  | _ :: _, [], _, p, h => by simp [zipA] at h
  | _ :: _, _ :: _, [], p, h => by simp [zipA] at h
theorem zipA_is {c : Cfg} {F : Hp} : ∀ {as : List Addr} {xs ys : List V} {dx dy : List Dat}, as.length = xs.length → as.length = ys.length → IsL c F dx xs → IsL c F dy ys → (∀ p ∈ zipA as xs ys, F p.1 = some (.tup [p.2.1, p.2.2])) → IsL c F (zipD dx dy) (as.map V.ref)
  | [], xs, ys, dx, dy, h1, h2, i1, i2, _ => by
    have e := i1.len
    rw [← h1] at e
    have e2 : dx = [] := List.length_eq_zero_iff.mp e
    subst e2
    exact IsL.nil
  | a :: as, [], ys, dx, dy, h1, h2, i1, i2, _ => by simp at h1
  | a :: as, x :: xs, [], dx, dy, h1, h2, i1, i2, _ => by simp at h2
  | a :: as, x :: xs, y :: ys, [], dy, h1, h2, i1, i2, _ => by have := i1.len; simp at this
  | a :: as, x :: xs, y :: ys, d :: dx, [], h1, h2, i1, i2, _ => by have := i2.len; simp at this
  | a :: as, x :: xs, y :: ys, d :: dx, e :: dy, h1, h2, i1, i2, hf => by
    obtain ⟨_, _, e1, a1, a2⟩ := IsL.cons_iff.mp i1
    cases e1
    obtain ⟨_, _, e1, b1, b2⟩ := IsL.cons_iff.mp i2
    cases e1
    refine IsL.cons (is_tup.mpr ⟨a, [x, y], rfl, .inl (.inl (hf (a, x, y) List.mem_cons_self)), IsL.cons a1 (IsL.cons b1 IsL.nil)⟩) (zipA_is (by simpa using h1) (by simpa using h2) a2 b2 fun p hp => hf p (List.mem_cons_of_mem _ hp))
theorem vals_refs : ∀ as : List Addr, Vals (as.map V.ref) (as.map Value.ref)
  | [] => .nil
  | a :: as => .cons rfl (vals_refs as)
theorem rise_nodup {as : List Addr} (h : as.Pairwise (· < ·)) : as.Nodup := h.imp fun q => Nat.ne_of_lt q
section
variable {j : J} {G : List Slot} {a b : Expr} {pos p p1 pp : Pos} {xs ys : List Dat}
/-- list(zip(a, b)), a a list, b a tuple of as many things -/
theorem le_listZip (ha : DE j G a (.lst xs)) (hb : DE j G b (.tup ys)) (hl : xs.length = ys.length) (hm : j.c.mg "list" = none) (hm2 : j.c.mg "zip" = none) (hg : GlN j "list" := by rfl) (hg2 : GlN j "zip" := by rfl)
    (hs : ∀ env : Env, starEach [a, b] env = (false, eval a env) :: starEach [b] env := by intro _; rfl) (hs2 : Stars b := by intro _; rfl) (hpl : ∀ env : Env, (backTo pp (starEach [b] env)).any (·.1) = false := by intro _; rfl) :
    LE j G (.Call (.Name "list" p) [.Call (.Name "zip" p1) [a, b] [] pp] [] pos) (zipD xs ys) := by
  intro X hX σ F H q hE hq
  unfold WE
  intro pins s I
  have hda : DA j G [a, b] [.lst xs, .tup ys] := da_cons ha (da_cons hb da_nil hs2) hs
  have hh : X.A.handled = none := I.ok.hd hX.calm
  refine Call_ (ld_blt I (hX.gl hg) (by rw [hX.mg]; exact hm) PyProof.Rows.boot_list (PyProof.Rows.callWith_type1 ?_ rfl rfl))
  show wpAny _ _ (spliced ((false, eval (.Call (.Name "zip" p1) [a, b] [] pp) X.env) :: backTo pos (starEach [] X.env))) _ _ s
  refine Calls.spliced_cons ?_
  refine Call_ (ld_blt I (hX.gl hg2) (by rw [hX.mg]; exact hm2) PyProof.Rows.boot_zip (PyProof.Rows.callWith_type1 (thn (wa.run pp pins s σ H (fun vs H1 => ∃ F1, IsL j.c F1 [.lst xs, .tup ys] vs ∧ Gr j.c j.E F H F1 H1) I (hda X hX σ F H _ hE fun vs F1 H1 i g => ⟨F1, i, g⟩)) fun us s1 ⟨vs, H1, I1, r1, F1, i1, g1⟩ => ?_) (hs _) (hpl _)))
  obtain ⟨v1, w1, e1, ix, i2⟩ := IsL.cons_iff.mp i1
  subst e1
  obtain ⟨v2, w2, e2, iy, i3⟩ := IsL.cons_iff.mp i2
  subst e2
  obtain rfl := IsL.nil_iff.mp i3
  obtain ⟨pa, vx, rfl, fx, ix⟩ := is_lst.mp ix
  obtain ⟨pb, vy, rfl, fy, iy⟩ := is_tup.mp iy
  obtain ⟨u1, u2, rfl, ru1, ru2⟩ := r1.two
  cases ru1
  cases ru2
  obtain ⟨its, rv, pl1, zx⟩ := I1.list (.inl (.inl (g1.good.ext _ _ fx)))
  have fy1 : SqT X.K H1 pb vy := by rw [hX.K]; exact g1.good.ext.t fy
  obtain ⟨its2, rv2, pl2, zy⟩ := I1.tuple fy1
  have la : pa < s1.heap.objs.size := by obtain ⟨_, _, e, _⟩ := pl1; exact Heap.lt_size e
  have lb : pb < s1.heap.objs.size := pl2.lt
  have n1 : its.length = xs.length := by rw [← rv.length, ← ix.len]
  have n2 : its2.length = xs.length := by rw [← rv2.length, ← iy.len, hl]
  refine zip_begins2 (begins_list pa its.toArray) (begins_tuple pb its2.toArray) pl1.isList pl2 fun h2 hz hTI hTO o1 o2 hsz hk => ?_
  refine Calls.spliced_nil ?_
  have S : ZipSep2 (s1.heap.objs.size + 4) (s1.heap.objs.size + 2) (s1.heap.objs.size + 3) s1.heap.objs.size (s1.heap.objs.size + 1) [s1.heap.objs.size, pa] [s1.heap.objs.size + 1, pb] := zip_sep2 (fun c hc => by rw [List.mem_singleton.mp hc]; exact la) (fun c hc => by rw [List.mem_singleton.mp hc]; exact lb)
  have below : ∀ {c : Nat}, c < s1.heap.objs.size + 5 → c < h2.objs.size := fun {c} q => by rw [hsz]; exact q
  have e1 : its.toArray.size = xs.length := by simp [n1]
  have e2 : its2.toArray.size = xs.length := by simp [n2]
  have hP : ZP X.prog X.w (s1.heap.objs.size + 4) (s1.heap.objs.size + 2) (s1.heap.objs.size + 3) s1.heap.objs.size (s1.heap.objs.size + 1) h2.objs.size [s1.heap.objs.size, pa] [s1.heap.objs.size + 1, pb] xs.length (fun i v => its.toArray[i]? = some v) (fun i v => its2.toArray[i]? = some v) (fun i h => h.IsListIter s1.heap.objs.size pa i ∧ h.IsList pa its.toArray) (fun i h => h.IsTupleIter (s1.heap.objs.size + 1) pb i ∧ h.IsTuple pb its2.toArray) :=
    { sep := S, d1 := fun A hA => by have := Draws.list (prog := X.prog) (w := X.w) hA s1.heap.objs.size pa (Nat.ne_of_lt la) its.toArray; rw [e1] at this; exact this
      d2 := fun A hA => by have := Draws.tuple (prog := X.prog) (w := X.w) hA (s1.heap.objs.size + 1) pb (Nat.ne_of_lt (Nat.lt_succ_of_lt lb)) its2.toArray; rw [e2] at this; exact this
      zS := below (Nat.lt_succ_self _), tiS := below (Nat.add_lt_add_left (by decide) _), toS := below (Nat.add_lt_add_left (by decide) _), i1S := below (Nat.lt_add_of_pos_right (by decide)), i2S := below (Nat.add_lt_add_left (by decide) _)
      f1S := fun c hc => by
        rcases List.mem_cons.mp hc with rfl | hc
        · exact below (Nat.lt_add_of_pos_right (by decide))
        · rw [List.mem_singleton.mp hc]; exact below (Nat.lt_add_right 5 la)
      f2S := fun c hc => by
        rcases List.mem_cons.mp hc with rfl | hc
        · exact below (Nat.add_lt_add_left (by decide) _)
        · rw [List.mem_singleton.mp hc]; exact below (Nat.lt_add_right 5 lb) }
  have hzl : xs.length ≤ sizeLine := by rw [ix.len]; exact zx
  refine zl_call (s := { s1 with heap := h2 }) hh hP hzl hz ⟨hTI, ⟨⟨_, o1, rfl, rfl⟩, pl1.isList.at fun o e => hk _ o e⟩, ⟨⟨_, o2, rfl, rfl⟩, (show s1.heap.IsTuple pb its2.toArray from pl2).at fun o e => hk _ o e⟩, .inl ⟨hz, _, _, hTO⟩⟩ fun h' tk acc c as kk hS hal g hacc => ?_
  dsimp only at kk hS g
  have ge : s1.heap.objs.size ≤ h2.objs.size := by rw [hsz]; exact Nat.le_add_right _ _
  have old : ∀ b o, s1.heap.get? b = some o → h'.get? b = some o := fun b o e => by
    have lt := Heap.lt_size e
    exact kk b o (Nat.ne_of_lt (Nat.lt_add_right 4 lt)) (Nat.ne_of_lt (Nat.lt_add_right 3 lt)) (Nat.ne_of_lt lt) (Nat.ne_of_lt (Nat.lt_succ_of_lt lt)) (hk b o e)
  have ax : as.length = vx.length := by rw [hal, ix.len]
  have ay : as.length = vy.length := by rw [hal, hl, iy.len]
  have fr : ∀ q ∈ zipA as vx vy, H1 q.1 = none := fun q hq => I1.hok.fresh (Nat.le_trans ge (by
    obtain ⟨jj, a1, _⟩ := zipA_mem hq
    exact Nat.le_of_lt (g.above _ (List.mem_of_getElem? a1))))
  have nd : ((zipA as vx vy).map (·.1)).Nodup := by rw [zipA_fst ax ay]; exact rise_nodup g.rise
  obtain ⟨F2, gr2, f2⟩ := gr_lay g1.good fr nd
  have hL0 : H1 h2.objs.size = none := I1.hok.fresh ge
  have notA : ∀ q ∈ zipA as vx vy, h2.objs.size ≠ q.1 := fun q hq => Nat.ne_of_lt (by
    obtain ⟨jj, a1, _⟩ := zipA_mem hq
    exact g.above _ (List.mem_of_getElem? a1))
  have hL1 : layT H1 (zipA as vx vy) h2.objs.size = none := by
    cases z : layT H1 (zipA as vx vy) h2.objs.size with
    | none => rfl
    | some o =>
      rcases layT_new nd z with y | ⟨q, hq, y, _⟩
      · rw [hL0] at y; cases y
      · exact absurd y (notA q hq)
  have I2 : Inv X pins σ (upd (layT H1 (zipA as vx vy)) h2.objs.size (.lst (as.map V.ref))) { s1 with heap := h', toks := tk } := by
    refine inv_many I1 old (fun b o e => ?_) fun b o e1 e2 => ?_
    · rw [upd_ne (ne_of_none e hL0)]
      exact layT_old (fun q hq z => by rw [z, fr q hq] at e; cases e) e
    · by_cases z : b = h2.objs.size
      · subst z
        rw [upd_same] at e2
        cases e2
        refine ⟨ge, ?_, acc.toList, c, by rw [hacc]; exact vals_refs as, by rw [Array.toArray_toList]; exact hS⟩
        rw [List.length_map, hal]; exact hzl
      · rw [upd_ne z] at e2
        rcases layT_new nd e2 with y | ⟨q, hq, y1, y2⟩
        · rw [e1] at y; cases y
        · subst y1 y2
          obtain ⟨jj, a1, a2, a3⟩ := zipA_mem hq
          have ab := g.above _ (List.mem_of_getElem? a1)
          obtain ⟨x1, y1, r1, r2, r3⟩ := g.pairs jj _ a1
          refine ⟨Nat.le_trans ge (Nat.le_of_lt ab), by simp [sizeLine_eq], [x1, y1], .cons ?_ (.cons ?_ .nil), ⟨_, r3, rfl, 0, rfl⟩⟩
          · rw [List.getElem?_toArray] at r1
            obtain ⟨v, e, r⟩ := vals_at rv r1
            rw [a2] at e; cases e; exact r
          · rw [List.getElem?_toArray] at r2
            obtain ⟨v, e, r⟩ := vals_at rv2 r2
            rw [a3] at e; cases e; exact r
  have gr3 := gr2.trans (Gr.made (p := h2.objs.size) (o := .lst (as.map V.ref)) gr2.good hL1)
  refine ⟨.ref h2.objs.size, _, I2, rfl, hq _ (as.map V.ref) F2 _ ((g1.trans gr2).back hL1) (gr2.good.back hL1) upd_same ?_ (g1.trans gr3)⟩
  exact zipA_is ax ay (IsL.mono gr2.ext _ _ ix) (IsL.mono gr2.ext _ _ iy) f2
end
end Cal
set_option Elab.async false
set_option linter.all false
set_option maxRecDepth 100000
set_option maxHeartbeats 4000000
namespace Cal
open PySem PySem.Spec PyProof.Rows L2
def wordsM (h : H3) : Option Pr → List Use × List Use
  | none => ((outer h.1.1.1).map (·.2), (outer h.2.1.1.1).map (·.2))
  | some q => ((innerM h.1.1 q.2.1 q.1).map (·.2), (innerM h.2.1.1 q.2.2 q.1).map (·.2))
def eWW (p : List Use × List Use) : Dat := .lst [.lst (p.1.map eUse), .lst (p.2.map eUse)]
theorem innerM_len {p : Plan} (h0 : OkPlan p) {m n : Nat} (hm : m < p.2.length) : (innerM p m n).length ≤ 3 := by
  unfold innerM
  cases q : foundR p.2 m n with
  | none => exact Nat.zero_le _
  | some r => rw [List.length_map]; exact (h0.row hm q).2.2.1
section
variable {c : Cfg} {CP CH CA CD : Addr} (B : Glb c CP CH CA CD)
include B
theorem ok_law_words : Has c 3 "_law_words" (spP c (fun a : H3 × Option Pr => [eBs a.1, ePO a.2]) (fun a => OkH a.1 ∧ OkPO a.1 a.2) fun a => eWW (wordsM a.1 a.2)) :=
  has_of B.law_words (fun _ => rfl) fun ⟨⟨b1, b2, lot⟩, q⟩ ⟨h0, hq⟩ => by
    have k1 : OkPlan b1.1 := h0.two.one.plan
    have k2 : OkPlan b2.1 := h0.two.two.plan
    cases q with
    | none =>
      refine ds_cons (d1_if (k := true) (dt_cmp c_isN (rv 1 rfl) de_non.re) (fun _ => ?_) fun h => by cases h)
      refine ds_cons (d1_ret (d := .lst ([b1, b2].map fun b => .lst (((outer b.1.1).map (·.2)).map eUse))) ((le_map2 3 4 (fun b : Bld => ePlan b.1) (fun b : Bld => eCh b.2) [b1, b2] (fun b => .lst (((outer b.1.1).map (·.2)).map eUse)) ((it_list (dv 0 rfl)).is rfl) (ll rfl) (fun b hb => ?_)).de) rfl)
      have kb : OkPlan b.1 := by
        rcases List.mem_cons.mp hb with rfl | hb
        · exact k1
        · rw [List.mem_singleton.mp hb]; exact k2
      have hl : b.1.1.length ≤ 4 := kb.1.2.1
      refine ((le_map1 5 eU3 (outer b.1.1) (fun u => eUse u.2) (it_list (de_call (ok_law_outer B) b.1 hl (ll rfl) (da_cons (dv 3 rfl) da_nil))) (by rw [outer_len]; omega) (fun u hu => (de_slT (dv 5 rfl) (dp_some de_int) dp_none).is (by rw [cut1]; rfl))).is (by rw [List.map_map]; rfl)).de
    | some q =>
      have kq : OkPair (b1, b2, lot) q := hq q rfl
      obtain ⟨_, ⟨m1, f1⟩, m2, f2⟩ := kq
      refine ds_cons (d1_if (k := false) (dt_cmp c_isN (rv 1 rfl) de_non.re) (fun h => by cases h) fun _ => ds_nil ?_)
      refine ds_cons (d1_own 2 (xs := [(b1, q.2.1), (b2, q.2.2)].map fun x : Bld × Nat => .tup [eBuild x.1, eN x.2]) ((le_listZip (xs := [eBuild b1, eBuild b2]) (ys := [eN q.2.1, eN q.2.2]) (dv 0 rfl) ((de_slT (xs := [eN q.1, eN q.2.1, eN q.2.2]) (dv 1 rfl) (dp_some de_int) dp_none).is (by rw [cut1]; rfl)) rfl B.b_list B.b_zip).is rfl) rfl ?_)
      refine ds_freeze 2 rfl ?_
      refine ds_cons (d1_ret (d := .lst ([(b1, q.2.1), (b2, q.2.2)].map fun x : Bld × Nat => .lst (((innerM x.1.1 x.2 q.1).map (·.2)).map eUse))) ((le_map [("_law_plan", 3), ("_law_choice_here", 4), ("_law_module", 6)] (fun x : Bld × Nat => .tup [eBuild x.1, eN x.2]) [(b1, q.2.1), (b2, q.2.2)] (fun x => .lst (((innerM x.1.1 x.2 q.1).map (·.2)).map eUse)) (it_list (dv 2 rfl)) (ll rfl) (fun x hx => ⟨[(3, ePlan x.1.1), (4, eCh x.1.2), (6, eN x.2)], dg_tup (u := [(3, ePlan x.1.1), (4, eCh x.1.2), (6, eN x.2)]) (dgs_cons (u := [(3, ePlan x.1.1), (4, eCh x.1.2)]) (u' := [(6, eN x.2)]) (dn2 (dn 3) (dn 4)) (dgs_cons (u := [(6, eN x.2)]) (u' := []) (dn 6) dgs_nil)), fun k hk => hk, ?_⟩) (by rfl)).de) rfl)
      have kx : OkPlan x.1.1 ∧ x.2 < x.1.1.2.length ∧ foundR x.1.1.2 x.2 q.1 ≠ none := by
        rcases List.mem_cons.mp hx with rfl | hx
        · exact ⟨k1, m1, f1⟩
        · rw [List.mem_singleton.mp hx]; exact ⟨k2, m2, f2⟩
      refine ((le_map1 5 eU3 (innerM x.1.1 x.2 q.1) (fun u => eUse u.2) (it_list (de_call (ok_law_inner B) (x.1.1, x.2, q.1) kx (ll rfl) (da_cons (dv 3 rfl) (da_cons (de_tup (da_cons (dv 6 rfl) (da_cons (de_ixT (xs := [eN q.1, eN q.2.1, eN q.2.2]) (dv 1 rfl) de_int rfl) da_nil)) (ll rfl)) da_nil)))) (Nat.le_trans (innerM_len kx.1 kx.2.1) (ll rfl)) (fun u hu => (de_slT (dv 5 rfl) (dp_some de_int) dp_none).is (by rw [cut1]; rfl))).is (by rw [List.map_map]; rfl)).de
end
end Cal
set_option Elab.async false
set_option linter.all false
set_option maxRecDepth 100000
set_option maxHeartbeats 4000000
namespace Cal
open PySem PySem.Spec PyProof.Rows L2
/-- a, b = a list of two -/
theorem dg_lst {j : J} {es : List Expr} {ds : List Dat} {u : List (Nat × Dat)} {pos : Pos} {kk n : Nat} (h : DGs j es ds u) (hl : ds.length = n := by rfl) (hn : ∀ env : Env, (assignEach es env).length = n := by intro _; rfl) (hst : ∀ env : Env, (assignEach es env).findIdx? (·.1) = none := by intro _; rfl) : DG j (.Tuple es kk pos) (.lst ds) u := by
  intro X hX v σ F H q g iv hq
  obtain ⟨t, h1, h2⟩ := h X hX
  obtain ⟨p, vs, rfl, i1, i2⟩ := is_lst.mp iv
  exact wg_of (pg_lst hX.calm h1 (hn _) (hst _)) ⟨p, vs, rfl, .inl (.inl (g.ext _ _ i1)), by rw [← i2.len]; exact hl, h2 vs σ F H q g i2 hq⟩
theorem dnL2 {j : J} {pos : Pos} {i l : Nat} {x y : Str} {px py : Pos} {kt : Nat} {d1 d2 : Dat} (h1 : DG j (.Name x px) d1 [(i, d1)]) (h2 : DG j (.Name y py) d2 [(l, d2)]) : DG j (.Tuple [.Name x px, .Name y py] kt pos) (.lst [d1, d2]) [(i, d1), (l, d2)] :=
  dg_lst (u := [(i, d1), (l, d2)]) (dgs_cons (u := [(i, d1)]) h1 (dgs_cons (u := [(l, d2)]) (u' := []) h2 dgs_nil))
theorem dd_snoc {A : Type} [DecidableEq A] (as : List A) (a : A) : dd (as ++ [a]) = if a ∈ dd as then dd as else dd as ++ [a] := by
  unfold dd
  rw [List.foldl_append]; rfl
theorem dd_nodup {A : Type} [DecidableEq A] (as : List A) : (dd as).Nodup := by
  have key : ∀ (bs acc : List A), acc.Nodup → (bs.foldl (fun acc a => if a ∈ acc then acc else acc ++ [a]) acc).Nodup := fun bs => by
    induction bs with
    | nil => intro acc h; exact h
    | cons b bs ih =>
      intro acc h
      rw [List.foldl_cons]
      refine ih _ ?_
      split
      · exact h
      · rename_i hb
        exact List.nodup_append.mpr ⟨h, by simp, fun x hx y hy e => by rw [List.mem_singleton.mp hy] at e; exact hb (e ▸ hx)⟩
  exact key as [] List.nodup_nil
def callsL (h : H3) (q : Option Pr) : List Use := (wordsM h q).1.filter fun u => decide (u.1 = ("call" : Str)) && decide (u ∈ (wordsM h q).2)
def nextsL (h : H3) (q : Option Pr) : List Pr := dd ((callsL h q).filterMap (nextOf h q))
theorem words_ok {h : H3} (k : OkH h) {q : Option Pr} (hq : OkPO h q) {u : Use} (hu : u ∈ (wordsM h q).1 ∨ u ∈ (wordsM h q).2) : OkUse h.1.1.1 u := by
  have es := k.same
  cases q with
  | none =>
    rcases hu with hu | hu <;> obtain ⟨v, hv, rfl⟩ := List.mem_map.mp hu
    · exact outer_ok k.two.one.plan.1.2.2 hv
    · rw [es]
      exact outer_ok k.two.two.plan.1.2.2 hv
  | some q =>
    obtain ⟨_, ⟨m1, f1⟩, m2, f2⟩ := hq q rfl
    have inn : ∀ {p : Plan} {m n : Nat}, OkPlan p → m < p.2.length → ∀ {u : Use}, u ∈ (innerM p m n).map (·.2) → OkUse p.1 u := fun {p m n} kp hm {u} hu => by
      unfold innerM at hu
      cases z : foundR p.2 m n with
      | none => rw [z] at hu; cases hu
      | some r =>
        rw [z] at hu
        rw [List.map_map] at hu
        obtain ⟨v, hv, rfl⟩ := List.mem_map.mp hu
        exact (kp.row hm z).2.2.2.2 v hv
    rcases hu with hu | hu
    · exact inn k.two.one.plan m1 hu
    · rw [es]
      exact inn k.two.two.plan m2 hu
theorem words_len {h : H3} (k : OkH h) {q : Option Pr} (hq : OkPO h q) : (wordsM h q).1.length ≤ 8 ∧ (wordsM h q).2.length ≤ 8 := by
  cases q with
  | none =>
    have e1 := k.two.one.plan.1.2.1
    have e2 := k.two.two.plan.1.2.1
    refine ⟨?_, ?_⟩ <;> show (List.map _ _).length ≤ 8 <;> rw [List.length_map, outer_len]
    · have e1 : h.1.1.1.length ≤ 4 := e1
      omega
    · have e2 : h.2.1.1.1.length ≤ 4 := e2
      omega
  | some q =>
    obtain ⟨_, ⟨m1, f1⟩, m2, f2⟩ := hq q rfl
    refine ⟨?_, ?_⟩ <;> show (List.map _ _).length ≤ 8 <;> rw [List.length_map]
    · exact Nat.le_trans (innerM_len k.two.one.plan m1) (by decide)
    · exact Nat.le_trans (innerM_len k.two.two.plan m2) (by decide)
theorem nextsL_okC {h : H3} (k : OkH h) {q : Option Pr} (hq : OkPO h q) {r : Pr} (hr : r ∈ nextsL h q) : OkPairC h r := by
  unfold nextsL at hr
  obtain ⟨u, hu, e⟩ := List.mem_filterMap.mp (dd_mem.mp hr)
  unfold callsL at hu
  rw [List.mem_filter, Bool.and_eq_true, decide_eq_true_eq] at hu
  have ok := words_ok k hq (.inl hu.1)
  exact ⟨nextOf_ok k hq ok hu.2.1 e, nextOf_call ok hu.2.1 e⟩
theorem nextsL_len {h : H3} (k : OkH h) {q : Option Pr} (hq : OkPO h q) : (nextsL h q).length ≤ 8 :=
  Nat.le_trans (dd_len _) (Nat.le_trans (List.length_filterMap_le _ _) (Nat.le_trans (List.length_filter_le _ _) (words_len k hq).1))
section
variable {c : Cfg} {CP CH CA CD : Addr} (B : Glb c CP CH CA CD)
include B
theorem ok_law_nexts : Has c 5 "_law_nexts" (spP c (fun a : H3 × Option Pr => [eBs a.1, eLot a.1.2.2, ePO a.2]) (fun a => OkH a.1 ∧ OkPO a.1 a.2) fun a => .lst ((nextsL a.1 a.2).map ePr)) :=
  has_of B.law_nexts (fun _ => rfl) fun ⟨h, q⟩ ⟨h0, hq⟩ => by
    have h0 : OkH h := h0
    have hq : OkPO h q := hq
    have hlen := (words_len h0 hq).1
    refine ds_cons (d1_tgE (de_call (ok_law_words B) (h, q) ⟨h0, hq⟩ (ll rfl) (da_cons (dv 0 rfl) (da_cons (dv 2 rfl) da_nil))) (dnL2 (dn 3) (dn 4)) ?_)
    refine ds_cons (d1_own 5 (le_lst da_nil (ll rfl)) rfl ?_)
    refine ds_cons (d1_for (as := callsL h q) (enc := eUse) (fun rem G => ∃ (done : List Use) (G6 G7 : Slot), callsL h q = done ++ rem ∧ G = [.dat (eBs h), .dat (eLot h.2.2), .dat (ePO q), .dat (.lst ((wordsM h q).1.map eUse)), .dat (.lst ((wordsM h q).2.map eUse)), .own ((dd (done.filterMap (nextOf h q))).map ePr), G6, G7])
      (it_list (le_comp1 6 eUse (wordsM h q).1 (fun u => decide (u.1 = ("call" : Str)) && decide (u ∈ (wordsM h q).2)) eUse (it_list (dv 3 rfl)) (Nat.le_trans hlen (ll rfl)) (fun u hu => dt_w (dw_and (dt_cmp (c_eqE inj_str (ll rfl) u.1 "call") (de_ixT (dv 6 rfl) de_int rfl).re de_str.re) fun _ => dw_and1 (dt_cmp (c_inLE inj_use (ll rfl) u (wordsM h q).2) (rv 6 rfl) (rv 4 rfl)))) (fun u hu _ => dv 6 rfl)).de) ⟨[], _, _, rfl, rfl⟩ (fun u rem G ⟨done, G6, G7, e1, e2⟩ => ?_) (fun G ⟨done, G6, G7, e1, e2⟩ => ?_))
    · subst e2
      refine ⟨_, dn 6, ?_⟩
      have hu0 : u ∈ callsL h q := by rw [e1]; simp
      have hu : u ∈ (wordsM h q).1 := (List.mem_filter.mp hu0).1
      have hd : done.length ≤ 8 := by
        have := congrArg List.length e1
        rw [List.length_append] at this
        have := List.length_filter_le (fun u => decide (u.1 = ("call" : Str)) && decide (u ∈ (wordsM h q).2)) (wordsM h q).1
        unfold callsL at *
        omega
      have hfl : (dd (done.filterMap (nextOf h q))).length ≤ 8 := Nat.le_trans (dd_len _) (Nat.le_trans (List.length_filterMap_le _ _) hd)
      have hok := words_ok h0 hq (.inl hu)
      refine ds_cons (d1_asg 7 (de_call (ok_law_two B) (h, q, u) ⟨h0, hok.lt, hq⟩ (ll rfl) (da_cons (dv 0 rfl) (da_cons (dv 1 rfl) (da_cons (dv 2 rfl) (da_cons (dv 6 rfl) da_nil))))) rfl ?_)
      have nx : nextOf h q u = if areMods (forkM h (modsOf q) u) then some (u.2, plcN (forkM h (modsOf q) u).1, plcN (forkM h (modsOf q) u).2) else none := rfl
      generalize hr : ((u.2, plcN (forkM h (modsOf q) u).1, plcN (forkM h (modsOf q) u).2) : Pr) = r at nx
      have hpr : areMods (forkM h (modsOf q) u) = true → ∀ {j : J} {G : List Slot} {e1 e2 : Expr} {p1 p2 : Pos} {nn : Nat}, DE j G e1 (eUse u) → DE j G e2 (eFork (forkM h (modsOf q) u)) → True := fun _ _ _ _ _ _ _ _ _ _ => trivial
      have er : areMods (forkM h (modsOf q) u) = true → Dat.tup ([eN u.2] ++ [ePlc (forkM h (modsOf q) u).1, ePlc (forkM h (modsOf q) u).2]) = ePr r := fun hm => by
        unfold areMods at hm
        rw [Bool.and_eq_true] at hm
        have p1 := ePlc_nat (u := ((modsOf q).1, u)) (modsOf_lt hq).1 hm.1
        have p2 := ePlc_nat (u := ((modsOf q).2, u)) (modsOf_lt hq).2 hm.2
        show Dat.tup [eN u.2, ePlc (forkM h (modsOf q) u).1, ePlc (forkM h (modsOf q) u).2] = _
        rw [show ePlc (forkM h (modsOf q) u).1 = _ from p1, show ePlc (forkM h (modsOf q) u).2 = _ from p2, ← hr]; rfl
      refine ds_cons (d1_if (k := areMods (forkM h (modsOf q) u) && !decide (r ∈ dd (done.filterMap (nextOf h q)))) (dt_w (dw_and (dt_val (de_call (ok_law_are_mods B) (forkM h (modsOf q) u) trivial (ll rfl) (da_cons (dv 7 rfl) da_nil))) fun hm => dw_and1 (dt_cmp (c_notinLE inj_pr (ll rfl) r (dd (done.filterMap (nextOf h q)))) ((de_catT (xs := [eN u.2]) (ys := [ePlc (forkM h (modsOf q) u).1, ePlc (forkM h (modsOf q) u).2]) (de_tup (da_cons (de_ixT (xs := [.str u.1, eN u.2]) (dv 6 rfl) de_int rfl) da_nil) (ll rfl)) (dv 7 rfl) (ll rfl)).is (er hm)).re (ro 5 rfl)))) (fun hb => ?_) fun hb => ds_nil (ds_nil ?_))
      · rw [Bool.and_eq_true, Bool.not_eq_true', decide_eq_false_iff_not] at hb
        obtain ⟨hm, hn⟩ := hb
        refine ds_cons (d1_append (d := ePr r) 5 rfl rfl (.inl rfl) ((de_catT (xs := [eN u.2]) (ys := [ePlc (forkM h (modsOf q) u).1, ePlc (forkM h (modsOf q) u).2]) (de_tup (da_cons (de_ixT (xs := [.str u.1, eN u.2]) (dv 6 rfl) de_int rfl) da_nil) (ll rfl)) (dv 7 rfl) (ll rfl)).is (er hm)) (by rw [List.length_map]; omega) (ds_nil (ds_nil ?_)))
        refine ⟨_, Wk.refl, done ++ [u], .dat (eUse u), .dat (eFork (forkM h (modsOf q) u)), by rw [e1, List.append_assoc]; rfl, ?_⟩
        rw [List.filterMap_append, show [u].filterMap (nextOf h q) = [r] from by rw [List.filterMap_cons, nx, if_pos hm]; rfl, dd_snoc, if_neg hn, List.map_append]; rfl
      · refine ⟨_, Wk.refl, done ++ [u], .dat (eUse u), .dat (eFork (forkM h (modsOf q) u)), by rw [e1, List.append_assoc]; rfl, ?_⟩
        rw [List.filterMap_append]
        cases hm : areMods (forkM h (modsOf q) u) with
        | false =>
          rw [show [u].filterMap (nextOf h q) = [] from by rw [List.filterMap_cons, nx, if_neg (by rw [hm]; exact Bool.false_ne_true)]; rfl, List.append_nil]; rfl
        | true =>
          rw [hm, Bool.true_and, Bool.not_eq_false', decide_eq_true_eq] at hb
          rw [show [u].filterMap (nextOf h q) = [r] from by rw [List.filterMap_cons, nx, if_pos hm]; rfl, dd_snoc, if_pos hb]; rfl
    · subst e2
      rw [List.append_nil] at e1
      refine ds_cons (d1_retF 5 rfl rfl (.inl rfl) ?_)
      rw [← e1]; rfl
end
end Cal
set_option Elab.async false
set_option linter.all false
set_option maxRecDepth 100000
set_option maxHeartbeats 4000000
namespace Cal
open PySem PySem.Spec PyProof.Rows L2
/-- what is found, and the line turned round: its last one first -/
abbrev TS := List Pr × List (Option Pr)
def addT (s : TS) (late : Pr) : TS := if late ∈ s.1 then s else (s.1 ++ [late], some late :: s.2)
def throughF (h : H3) : Nat → TS → TS
  | 0, s => s
  | k + 1, s => match s.2 with
    | [] => s
    | q :: w => throughF h k ((nextsL h q).foldl addT (s.1, w))
def throughM (h : H3) : List Pr := (throughF h 100 ([], [none])).1
theorem throughF_nil (h : H3) (f : List Pr) : ∀ k : Nat, throughF h k (f, []) = (f, [])
  | 0 => rfl
  | k + 1 => rfl
structure TInv (h : H3) (s : TS) : Prop where
  nd : s.1.Nodup
  ok : ∀ q ∈ s.1, OkPairC h q
  wt : ∀ q ∈ s.2, OkPO h q
theorem TInv.len {h : H3} (k : OkH h) {s : TS} (r : TInv h s) : s.1.length ≤ 37 := by
  have := keys_len k (l := s.1.map some) (r.nd.map some fun a b n e => n (Option.some.inj e)) fun q hq => by
    obtain ⟨p, hp, rfl⟩ := List.mem_map.mp hq
    intro r' e
    cases e
    exact (r.ok p hp).1
  rwa [List.length_map] at this
theorem TInv.add {h : H3} {s : TS} (r : TInv h s) {late : Pr} (hl : OkPairC h late) : TInv h (addT s late) := by
  unfold addT
  split
  · exact r
  · rename_i hn
    refine ⟨List.nodup_append.mpr ⟨r.nd, by simp, fun x hx y hy e => by rw [List.mem_singleton.mp hy] at e; exact hn (e ▸ hx)⟩, fun q hq => ?_, fun q hq => ?_⟩
    · rcases List.mem_append.mp hq with hq | hq
      · exact r.ok q hq
      · rw [List.mem_singleton.mp hq]; exact hl
    · rcases List.mem_cons.mp hq with rfl | hq
      · intro r' e; cases e; exact hl.1
      · exact r.wt q hq
theorem fold_addT {h : H3} : ∀ (ls : List Pr) (s : TS), TInv h s → (∀ l ∈ ls, OkPairC h l) → TInv h (ls.foldl addT s)
  | [], s, r, _ => r
  | l :: ls, s, r, hl => fold_addT ls _ (r.add (hl l List.mem_cons_self)) fun x hx => hl x (List.mem_cons_of_mem _ hx)
theorem addT_grow (s : TS) (late : Pr) : ∃ d, (addT s late).1.length = s.1.length + d ∧ (addT s late).2.length = s.2.length + d := by
  unfold addT
  split
  · exact ⟨0, rfl, rfl⟩
  · exact ⟨1, by rw [List.length_append]; rfl, rfl⟩
theorem foldT_grow : ∀ (ls : List Pr) (s : TS), ∃ d, (ls.foldl addT s).1.length = s.1.length + d ∧ (ls.foldl addT s).2.length = s.2.length + d
  | [], s => ⟨0, rfl, rfl⟩
  | l :: ls, s => by
    obtain ⟨d, a, b⟩ := addT_grow s l
    obtain ⟨e, c, f⟩ := foldT_grow ls (addT s l)
    exact ⟨d + e, by rw [List.foldl_cons, c, a, Nat.add_assoc], by rw [List.foldl_cons, f, b, Nat.add_assoc]⟩
theorem itm_imp {j : J} {G : List Slot} {tg e : Expr} {R R' : List Dat → List Slot → Prop} (h : ITM j G tg e R) (hr : ∀ ds G', R ds G' → R' ds G') : ITM j G tg e R' := fun X hX σ F0 H0 Fs F H q r hq => h X hX σ F0 H0 Fs F H q r fun ds J G1 F1 H1 hd w g => hq ds J G1 F1 H1 (hr ds G1 hd) w g
section
variable {c : Cfg} {CP CH CA CD : Addr} (B : Glb c CP CH CA CD)
include B
theorem ok_law_through : Has c 6 "_law_through" (spP c (fun a : H3 => [eBs a, eLot a.2.2]) OkH fun a => .lst ((throughM a).map ePr)) :=
  has_of B.law_through (fun _ => rfl) fun h h0 => by
    have h0 : OkH h := h0
    refine ds_cons (d1_par 2 3 (le_lst da_nil (ll rfl)).sx (le_lst (da_cons de_non da_nil) (ll rfl)).sx rfl rfl (by decide) (fun s t e1 e2 => ?_) rfl rfl (fun env he => by cases env; cases he; rfl))
    subst e1 e2
    refine ds_cons (d1_while (m0 := 77) (fun m G => ∃ (s : TS) (k : Nat) (G4 : Slot), TInv h s ∧ m = s.2.length + 2 * (38 - s.1.length) ∧ (m ≤ k ∧ k ≤ 100) ∧ throughF h k s = throughF h 100 ([], [none]) ∧ G = [.dat (eBs h), .dat (eLot h.2.2), .own (s.1.map ePr), .own (s.2.reverse.map ePO), G4]) ⟨([], [none]), 100, .no, ⟨by simp, by simp, fun q hq => ?_⟩, rfl, ⟨by decide, by decide⟩, rfl, rfl⟩ (fun m G ⟨s, k, G4, r, em, ⟨hk, hk2⟩, hF, eG⟩ => ?_))
    · rw [List.mem_singleton.mp hq]; exact okNone h
    · subst eG
      obtain ⟨f, w⟩ := s
      refine ⟨!(w.reverse.map ePO).isEmpty, dt_cmp (c_neNil (inj_po.all _)) (ro 3 rfl) (le_lst da_nil (ll rfl)).re, fun hb => ?_, fun hb => ?_⟩
      · cases w with
        | nil => cases hb
        | cons q w =>
          have hqo : OkPO h q := r.wt q List.mem_cons_self
          have fl : f.length ≤ 37 := r.len h0
          refine ds_cons (d1_forM (enc := ePr) (R0 := fun ds G' => ds = (nextsL h q).map ePr ∧ G' = [.dat (eBs h), .dat (eLot h.2.2), .own (f.map ePr), .own (w.reverse.map ePO), G4]) (fun rem G => ∃ (done : List Pr) (G4 : Slot), nextsL h q = done ++ rem ∧ TInv h (done.foldl addT (f, w)) ∧ G = [.dat (eBs h), .dat (eLot h.2.2), .own ((done.foldl addT (f, w)).1.map ePr), .own ((done.foldl addT (f, w)).2.reverse.map ePO), G4])
            (itm_imp (itm_list (dm_call (ok_law_nexts B) (h, q) ⟨h0, hqo⟩ (ll rfl) (dma_cons (dv 0 rfl) (dma_cons (dv 1 rfl) (dma_last (dm_pop (xs := w.reverse.map ePO) (d := ePO q) 3 (by rw [List.reverse_cons, List.map_append]; rfl) rfl (.inl rfl))))) (fun ds G' ⟨ds1, e1, ds2, e2, d, e3, e4, e5⟩ => by rw [e1, e2, e3, e4])) (fun d G' ⟨e, _⟩ => ⟨_, e⟩)) (fun ds G' ⟨e, ds0, ds1, e1, ds2, e2, d, e3, e4, e5⟩ => ⟨by cases e; rfl, e5⟩))
            (fun ds G' ⟨e1, e2⟩ => ⟨nextsL h q, e1, [], _, rfl, ⟨r.nd, r.ok, fun p hp => r.wt p (List.mem_cons_of_mem _ hp)⟩, e2⟩) (fun late rem G ⟨done, G5, e1, r1, e2⟩ => ?_) (fun G ⟨done, G5, e1, r1, e2⟩ => ?_))
          · subst e2
            refine ⟨_, dn 4, ?_⟩
            have hl : late ∈ nextsL h q := by rw [e1]; simp
            have hlo := nextsL_okC h0 hqo hl
            have st : (done ++ [late]).foldl addT (f, w) = addT (done.foldl addT (f, w)) late := by rw [List.foldl_append]; rfl
            obtain ⟨d, g1, g2⟩ := foldT_grow done (f, w)
            have r2 := r1.add hlo
            have fl1 := r1.len h0
            have wl : (done.foldl addT (f, w)).2.length ≤ 200 := by
              rw [g2]
              have : (f, w).2.length = w.length := rfl
              have em : m = (q :: w).length + 2 * (38 - f.length) := em
              rw [List.length_cons] at em
              omega
            generalize done.foldl addT (f, w) = s1 at *
            obtain ⟨f1, w1⟩ := s1
            have fl1 : f1.length ≤ 37 := fl1
            have wl : w1.length ≤ 200 := wl
            refine ds_cons (d1_if (dt_cmp (c_notinLE inj_pr (ll rfl) late f1) (rv 4 rfl) (ro 2 rfl)) (fun hn => ?_) fun hn => ds_nil (ds_nil ?_))
            · rw [Bool.not_eq_true', decide_eq_false_iff_not] at hn
              have e0 : addT (f1, w1) late = (f1 ++ [late], some late :: w1) := by unfold addT; rw [if_neg hn]
              refine ds_cons (d1_append 2 (d := ePr late) rfl rfl (.inl rfl) (dv 4 rfl) (by rw [List.length_map]; omega) ?_)
              refine ds_cons (d1_append 3 (d := ePO (some late)) rfl rfl (.inl rfl) (dv 4 rfl) (by rw [List.length_map, List.length_reverse]; omega) (ds_nil (ds_nil ⟨_, Wk.refl, done ++ [late], .dat (ePr late), by rw [e1, List.append_assoc]; rfl, by rw [st]; exact r2, ?_⟩)))
              rw [st, e0, List.map_append, List.reverse_cons, List.map_append]; rfl
            · rw [Bool.not_eq_false', decide_eq_true_eq] at hn
              have e0 : addT (f1, w1) late = (f1, w1) := by unfold addT; rw [if_pos hn]
              refine ⟨_, Wk.refl, done ++ [late], .dat (ePr late), by rw [e1, List.append_assoc]; rfl, by rw [st]; exact r2, ?_⟩
              rw [st, e0]; rfl
          · subst e2
            rw [List.append_nil] at e1
            subst e1
            obtain ⟨d, g1, g2⟩ := foldT_grow (nextsL h q) (f, w)
            have fl1 := r1.len h0
            have g1 : ((nextsL h q).foldl addT (f, w)).1.length = f.length + d := g1
            have g2 : ((nextsL h q).foldl addT (f, w)).2.length = w.length + d := g2
            have em : m = (q :: w).length + 2 * (38 - f.length) := em
            rw [List.length_cons] at em
            obtain ⟨k', rfl⟩ : ∃ k', k = k' + 1 := ⟨k - 1, by omega⟩
            have hF' : throughF h k' ((nextsL h q).foldl addT (f, w)) = throughF h 100 ([], [none]) := hF
            exact ds_nil ⟨_, _, Wk.refl, by omega, (nextsL h q).foldl addT (f, w), k', G5, r1, rfl, ⟨by omega, by omega⟩, hF', rfl⟩
      · cases w with
        | cons q w => rw [List.reverse_cons, List.map_append] at hb; simp at hb
        | nil =>
          refine ds_cons (d1_retF 2 rfl rfl (.inl rfl) ?_)
          have e : throughM h = f := by
            unfold throughM
            rw [← hF, throughF_nil]
          rw [e]
end
end Cal
set_option Elab.async false
set_option linter.all false
set_option maxRecDepth 100000
set_option maxHeartbeats 4000000
namespace Cal
open PySem PySem.Spec PyProof.Rows L2
theorem inj_bl : Inj 0 Dat.bl := ⟨fun _ => rfl, fun _ => Nat.le_refl _, fun a b => by
  show PyData.eqv (.bool a) (.bool b) = true ↔ _
  rw [PyData.eqv]
  cases a <;> cases b <;> decide⟩
abbrev SeenT := Use × Fork
def eSeen (x : SeenT) : Dat := .tup [eUse x.1, eFork x.2]
def badL (h : H3) (q : Option Pr) (u : Use) : Bool := !decide (u ∈ (wordsM h q).1) || (!decide (u ∈ (wordsM h q).2) || (!decide ((forkM h (modsOf q) u).1 = (forkM h (modsOf q) u).2) && !areMods (forkM h (modsOf q) u)))
def toldL (h : H3) (q : Option Pr) (u : Use) : Bool := decide (u.1 ∈ told2) && areMods (forkM h (modsOf q) u)
def seenU (h : H3) (q : Option Pr) (u : Use) : List SeenT := if toldL h q u = true then [(u, forkM h (modsOf q) u)] else []
def usesL (h : H3) (q : Option Pr) : List Use := (wordsM h q).1 ++ (wordsM h q).2
def seenQ (h : H3) (q : Option Pr) : List SeenT := (usesL h q).flatMap (seenU h q)
def clash (x y : SeenT) : Bool := decide (x.1 = y.1) && !decide (decide (x.2.1 = y.2.1) = decide (x.2.2 = y.2.2))
def pairsL (ps : List Pr) : List (Option Pr) := none :: ps.map some
def seenL (h : H3) (ps : List Pr) : List SeenT := (pairsL ps).flatMap (seenQ h)
def apartL (h : H3) (ps : List Pr) : Bool := ((pairsL ps).any fun q => (usesL h q).any (badL h q)) || (seenL h ps).any fun x => (seenL h ps).any (clash x)
theorem seenU_len (h : H3) (q : Option Pr) (u : Use) : (seenU h q u).length ≤ 1 := by
  unfold seenU
  split <;> simp
theorem usesL_len {h : H3} (k : OkH h) {q : Option Pr} (hq : OkPO h q) : (usesL h q).length ≤ 16 := by
  unfold usesL
  obtain ⟨a, b⟩ := words_len k hq
  rw [List.length_append]; omega
theorem any_of {A : Type} {f : A → Bool} {l : List A} {a : A} (h : a ∈ l) (e : f a = true) : l.any f = true := List.any_eq_true.mpr ⟨a, h, e⟩
theorem any_no {A : Type} {f : A → Bool} {l : List A} (h : ∀ a ∈ l, f a = false) : l.any f = false := by
  rw [List.any_eq_false]
  intro a ha
  rw [h a ha]; exact Bool.false_ne_true
section
variable {c : Cfg} {CP CH CA CD : Addr} (B : Glb c CP CH CA CD)
include B
theorem ok_law_are_apart : Has c 5 "_law_are_apart" (spP c (fun a : H3 × List Pr => [eBs a.1, eLot a.1.2.2, .lst (a.2.map ePr)]) (fun a => OkH a.1 ∧ a.2.length ≤ 37 ∧ ∀ q ∈ a.2, OkPair a.1 q) fun a => .bl (apartL a.1 a.2)) :=
  has_of B.law_are_apart (fun _ => rfl) fun ⟨h, ps⟩ ⟨h0, hl, hps⟩ => by
    have h0 : OkH h := h0
    have hl : ps.length ≤ 37 := hl
    have hps : ∀ q ∈ ps, OkPair h q := hps
    have hpo : ∀ q ∈ pairsL ps, OkPO h q := fun q hq => by
      unfold pairsL at hq
      rcases List.mem_cons.mp hq with rfl | hq
      · exact okNone h
      · obtain ⟨r, hr, rfl⟩ := List.mem_map.mp hq
        intro r' e; cases e; exact hps r hr
    have hpl : (pairsL ps).length ≤ 38 := by unfold pairsL; rw [List.length_cons, List.length_map]; omega
    have last : ∀ (G4 G5 G6 G7 G8 G9 : Slot), (∀ q ∈ pairsL ps, (usesL h q).any (badL h q) = false) → DS (jF c N_law_are_apart st_law_are_apart 4) [.dat (eBs h), .dat (eLot h.2.2), .dat (.lst (ps.map ePr)), .dat (.lst ((seenL h ps).map eSeen)), G4, G5, G6, G7, G8, G9] ((defBody st_law_are_apart).drop 2) { nx := fun _ => Dat.bl (apartL h ps) = .non, rt := fun r => r = .bl (apartL h ps) } := fun G4 G5 G6 G7 G8 G9 hno => by
      have e0 : apartL h ps = (seenL h ps).any fun x => (seenL h ps).any (clash x) := by
        unfold apartL
        rw [any_no hno, Bool.false_or]
      rw [e0]
      generalize seenL h ps = sn
      refine ds_cons (d1_for (as := sn) (enc := eSeen) (fun rem G => ∃ (done : List SeenT) (G6 G7 G8 G9 : Slot), (sn = done ++ rem ∧ ∀ x ∈ done, sn.any (clash x) = false) ∧ G = [.dat (eBs h), .dat (eLot h.2.2), .dat (.lst (ps.map ePr)), .dat (.lst (sn.map eSeen)), G4, G5, G6, G7, G8, G9]) (it_list (dv 3 rfl)) ⟨[], _, _, _, _, ⟨rfl, by simp⟩, rfl⟩ (fun x rem G ⟨done, G6, G7, G8, G9, ⟨e1, e2⟩, e3⟩ => ?_) (fun G ⟨done, G6, G7, G8, G9, ⟨e1, e2⟩, e3⟩ => ?_))
      · subst e3
        refine ⟨_, dn2 (dn 7) (dn 8), ?_⟩
        have hx : x ∈ sn := by rw [e1]; simp
        refine ds_cons (d1_for (as := sn) (enc := eSeen) (fun rem2 G => ∃ (done2 : List SeenT) (G6 G9 : Slot), (sn = done2 ++ rem2 ∧ ∀ y ∈ done2, clash x y = false) ∧ G = [.dat (eBs h), .dat (eLot h.2.2), .dat (.lst (ps.map ePr)), .dat (.lst (sn.map eSeen)), G4, G5, G6, .dat (eUse x.1), .dat (eFork x.2), G9]) (it_list (dv 3 rfl)) ⟨[], _, _, ⟨rfl, by simp⟩, rfl⟩ (fun y rem2 G ⟨done2, G6, G9, ⟨f1, f2⟩, f3⟩ => ?_) (fun G ⟨done2, G6, G9, ⟨f1, f2⟩, f3⟩ => ?_))
        · subst f3
          refine ⟨_, dn2 (dn 6) (dn 9), ?_⟩
          have hy : y ∈ sn := by rw [f1]; simp
          refine ds_cons (d1_if (k := clash x y) (dt_w (dw_and (dt_cmp (c_eqE inj_use (ll rfl) x.1 y.1) (rv 7 rfl) (rv 6 rfl)) fun _ => dw_and1 (dt_cmp (c_neE inj_bl (ll rfl) (decide (x.2.1 = y.2.1)) (decide (x.2.2 = y.2.2))) (de_cmp (c_eqE inj_plc (ll rfl) x.2.1 y.2.1) (de_ixT (xs := [ePlc x.2.1, ePlc x.2.2]) (dv 8 rfl) de_int rfl).re (de_ixT (xs := [ePlc y.2.1, ePlc y.2.2]) (dv 9 rfl) de_int rfl).re).re (de_cmp (c_eqE inj_plc (ll rfl) x.2.2 y.2.2) (de_ixT (xs := [ePlc x.2.1, ePlc x.2.2]) (dv 8 rfl) de_int rfl).re (de_ixT (xs := [ePlc y.2.1, ePlc y.2.2]) (dv 9 rfl) de_int rfl).re).re))) (fun hb => ds_cons (d1_ret de_bl ?_)) fun hb => ds_nil (ds_nil ⟨_, Wk.refl, done2 ++ [y], _, _, ⟨by rw [f1, List.append_assoc]; rfl, fun z hz => (List.mem_append.mp hz).elim (f2 z) fun w => by rw [List.mem_singleton.mp w]; exact hb⟩, rfl⟩))
          rw [any_of hx (any_of hy hb)]
        · subst f3
          rw [List.append_nil] at f1
          exact ds_nil ⟨_, Wk.refl, done ++ [x], _, _, _, _, ⟨by rw [e1, List.append_assoc]; rfl, fun z hz => (List.mem_append.mp hz).elim (e2 z) fun w => by rw [List.mem_singleton.mp w]; exact any_no fun y hy => f2 y (f1 ▸ hy)⟩, rfl⟩
      · subst e3
        rw [List.append_nil] at e1
        refine ds_cons (d1_ret de_bl ?_)
        rw [any_no fun x hx => e2 x (e1 ▸ hx)]
    refine ds_cons (d1_own 3 (xs := []) (le_lst da_nil (ll rfl)) rfl ?_)
    refine ds_cons (d1_for (as := pairsL ps) (enc := ePO) (fun rem G => ∃ (done : List (Option Pr)) (G4 G5 G6 G7 G8 G9 : Slot), (pairsL ps = done ++ rem ∧ ∀ q ∈ done, (usesL h q).any (badL h q) = false) ∧ (done.flatMap (seenQ h)).length ≤ 16 * done.length ∧ G = [.dat (eBs h), .dat (eLot h.2.2), .dat (.lst (ps.map ePr)), .own ((done.flatMap (seenQ h)).map eSeen), G4, G5, G6, G7, G8, G9]) (it_list ((le_cat (xs := [.non]) (le_lst (da_cons de_non da_nil) (ll rfl)).re (rv 2 rfl) (by rw [List.length_map]; show 1 + _ ≤ _; omega)).is (by unfold pairsL; rw [List.map_cons, List.map_map]; rfl)).de) ⟨[], _, _, _, _, _, _, ⟨rfl, by simp⟩, Nat.le_refl _, rfl⟩ (fun q rem G ⟨done, G4, G5, G6, G7, G8, G9, ⟨e1, e2⟩, e4, e3⟩ => ?_) (fun G ⟨done, G4, G5, G6, G7, G8, G9, ⟨e1, e2⟩, e4, e3⟩ => ?_))
    · subst e3
      refine ⟨_, dn 4, ?_⟩
      have hqm : q ∈ pairsL ps := by rw [e1]; simp
      have hq := hpo q hqm
      have hdl : done.length ≤ 38 := by
        have := congrArg List.length e1
        rw [List.length_append] at this
        omega
      generalize hF : done.flatMap (seenQ h) = sn at e4
      obtain ⟨wl1, wl2⟩ := words_len h0 hq
      have ul := usesL_len h0 hq
      refine ds_cons (d1_tgE (de_call (ok_law_words B) (h, q) ⟨h0, hq⟩ (ll rfl) (da_cons (dv 0 rfl) (da_cons (dv 4 rfl) da_nil))) (dnL2 (dn 5) (dn 6)) ?_)
      refine ds_cons (d1_for (as := usesL h q) (enc := eUse) (fun rem2 G => ∃ (done2 : List Use) (G7 G8 : Slot), (usesL h q = done2 ++ rem2 ∧ ∀ u ∈ done2, badL h q u = false) ∧ (done2.flatMap (seenU h q)).length ≤ done2.length ∧ G = [.dat (eBs h), .dat (eLot h.2.2), .dat (.lst (ps.map ePr)), .own ((sn ++ done2.flatMap (seenU h q)).map eSeen), .dat (ePO q), .dat (.lst ((wordsM h q).1.map eUse)), .dat (.lst ((wordsM h q).2.map eUse)), G7, G8, G9]) (it_list ((le_cat (rv 5 rfl) (rv 6 rfl) (by rw [List.length_map, List.length_map]; show (wordsM h q).1.length + (wordsM h q).2.length ≤ 100000; omega)).is (by unfold usesL; rw [List.map_append])).de) ⟨[], _, _, ⟨rfl, by simp⟩, Nat.le_refl _, by show _ = [_, _, _, Slot.own ((sn ++ []).map eSeen), _, _, _, _, _, _]; rw [List.append_nil, ← hF]; rfl⟩ (fun u rem2 G ⟨done2, G7, G8, ⟨f1, f2⟩, f4, f3⟩ => ?_) (fun G ⟨done2, G7, G8, ⟨f1, f2⟩, f4, f3⟩ => ?_))
      · subst f3
        refine ⟨_, dn 7, ?_⟩
        have hu : u ∈ usesL h q := by rw [f1]; simp
        have hok : OkUse h.1.1.1 u := words_ok h0 hq (by unfold usesL at hu; exact List.mem_append.mp hu)
        have hd2 : done2.length ≤ 16 := by
          have := congrArg List.length f1
          rw [List.length_append] at this
          omega
        have eA : (done2 ++ [u]).flatMap (seenU h q) = done2.flatMap (seenU h q) ++ seenU h q u := by rw [List.flatMap_append, List.flatMap_cons, List.flatMap_nil, List.append_nil]
        have lA : ((done2 ++ [u]).flatMap (seenU h q)).length ≤ (done2 ++ [u]).length := by
          rw [eA, List.length_append, List.length_append]
          have := seenU_len h q u
          show _ ≤ done2.length + 1
          omega
        refine ds_cons (d1_asg 8 (de_call (ok_law_two B) (h, q, u) ⟨h0, hok.lt, hq⟩ (ll rfl) (da_cons (dv 0 rfl) (da_cons (dv 1 rfl) (da_cons (dv 4 rfl) (da_cons (dv 7 rfl) da_nil))))) rfl ?_)
        refine ds_cons (d1_if (k := badL h q u) (dt_w (dw_or (dt_cmp (c_notinLE inj_use (ll rfl) u (wordsM h q).1) (rv 7 rfl) (rv 5 rfl)) fun _ => dw_or (dt_cmp (c_notinLE inj_use (ll rfl) u (wordsM h q).2) (rv 7 rfl) (rv 6 rfl)) fun _ => dw_or1 (dt_w (dw_and (dt_cmp (c_neE inj_plc (ll rfl) (forkM h (modsOf q) u).1 (forkM h (modsOf q) u).2) (de_ixT (xs := [ePlc (forkM h (modsOf q) u).1, ePlc (forkM h (modsOf q) u).2]) (dv 8 rfl) de_int rfl).re (de_ixT (xs := [ePlc (forkM h (modsOf q) u).1, ePlc (forkM h (modsOf q) u).2]) (dv 8 rfl) de_int rfl).re) fun _ => dw_and1 (dt_not (dt_val (de_call (ok_law_are_mods B) (forkM h (modsOf q) u) trivial (ll rfl) (da_cons (dv 8 rfl) da_nil)))))))) (fun hb => ds_cons (d1_ret de_bl ?_)) fun hb => ds_nil ?_)
        · unfold apartL
          rw [any_of hqm (any_of hu hb), Bool.true_or]
        · have hno : ∀ v ∈ done2 ++ [u], badL h q v = false := fun v hv => (List.mem_append.mp hv).elim (f2 v) fun w => by rw [List.mem_singleton.mp w]; exact hb
          refine ds_cons (d1_if (k := toldL h q u) (dt_w (dw_and (dt_cmp (c_inE inj_str (ll rfl) u.1 told2) (de_ixT (xs := [.str u.1, eN u.2]) (dv 7 rfl) de_int rfl).re (de_tup (da_cons de_str (da_cons de_str da_nil)) (ll rfl)).re) fun _ => dw_and1 (dt_val (de_call (ok_law_are_mods B) (forkM h (modsOf q) u) trivial (ll rfl) (da_cons (dv 8 rfl) da_nil))))) (fun ht => ?_) fun ht => ds_nil (ds_nil ?_))
          · refine ds_cons (d1_append 3 (d := eSeen (u, forkM h (modsOf q) u)) rfl rfl (.inl rfl) (de_tup (da_cons (dv 7 rfl) (da_cons (dv 8 rfl) da_nil)) (ll rfl)) (by rw [List.length_map, List.length_append]; omega) (ds_nil (ds_nil ⟨_, Wk.refl, done2 ++ [u], .dat (eUse u), .dat (eFork (forkM h (modsOf q) u)), ⟨by rw [f1, List.append_assoc]; rfl, hno⟩, lA, ?_⟩)))
            rw [eA, ← List.append_assoc, show seenU h q u = [(u, forkM h (modsOf q) u)] from by unfold seenU; rw [if_pos ht], (List.map_append : ((sn ++ done2.flatMap (seenU h q)) ++ [(u, forkM h (modsOf q) u)]).map eSeen = _)]; rfl
          · refine ⟨_, Wk.refl, done2 ++ [u], .dat (eUse u), .dat (eFork (forkM h (modsOf q) u)), ⟨by rw [f1, List.append_assoc]; rfl, hno⟩, lA, ?_⟩
            rw [eA, show seenU h q u = [] from by unfold seenU; rw [if_neg (by rw [show toldL h q u = false from ht]; exact Bool.false_ne_true)], List.append_nil]; rfl
      · subst f3
        rw [List.append_nil] at f1
        refine ds_nil ⟨_, Wk.refl, done ++ [q], .dat (ePO q), .dat (.lst ((wordsM h q).1.map eUse)), .dat (.lst ((wordsM h q).2.map eUse)), G7, G8, G9, ⟨by rw [e1, List.append_assoc]; rfl, fun z hz => (List.mem_append.mp hz).elim (e2 z) fun w => by rw [List.mem_singleton.mp w]; exact any_no fun u hu => f2 u (f1 ▸ hu)⟩, ?_, ?_⟩
        · rw [List.flatMap_append, hF, List.flatMap_cons, List.flatMap_nil, List.append_nil, List.length_append, List.length_append]
          unfold seenQ
          rw [f1]
          rw [← f1] at f4
          show _ ≤ 16 * (done.length + 1)
          rw [f1] at f4 ul
          omega
        · rw [List.flatMap_append, hF, List.flatMap_cons, List.flatMap_nil, List.append_nil]
          unfold seenQ
          rw [f1]
    · subst e3
      rw [List.append_nil] at e1
      subst e1
      refine ds_freeze 3 rfl ?_
      exact last _ _ _ _ _ _ e2
end
end Cal
set_option Elab.async false
set_option linter.all false
set_option maxRecDepth 100000
set_option maxHeartbeats 4000000
namespace Cal
open PySem PySem.Spec PyProof.Rows L2
def endL (h : H3) (q : Option Pr) : List Nat → Option (Option Pr)
  | [] => some q
  | n :: r => match (nextsL h q).filter fun l => decide (l.1 = n) with
    | [] => none
    | l :: _ => endL h (some l) r
def eEndL : Option (Option Pr) → Dat
  | none => .lst []
  | some q => .lst [ePO q]
theorem endL_ok {h : H3} (k : OkH h) : ∀ (r : List Nat) {q e : Option Pr}, OkPO h q → endL h q r = some e → OkPO h e
  | [], q, e, hq, z => by cases z; exact hq
  | n :: r, q, e, hq, z => by
    unfold endL at z
    cases w : (nextsL h q).filter fun l => decide (l.1 = n) with
    | nil => rw [w] at z; cases z
    | cons l ls =>
      rw [w] at z
      refine endL_ok k r (fun r' e' => ?_) z
      cases e'
      exact (nextsL_okC k hq (List.mem_filter.mp (by rw [w]; exact List.mem_cons_self : l ∈ (nextsL h q).filter fun l => decide (l.1 = n))).1).1
abbrev RowT := Use × Bool × Fork
def eRowT (x : RowT) : Dat := .tup [eUse x.1, .bl x.2.1, eFork x.2.2]
def rowL (h : H3) (w : Way) : Option RowT := match endL h none w.1 with
  | none => none
  | some q => if (!decide (w.2 ∈ (wordsM h q).1) && !decide (w.2 ∈ (wordsM h q).2)) = true then none else some (w.2, decide (w.2 ∈ (wordsM h q).1) && decide (w.2 ∈ (wordsM h q).2), forkM h (modsOf q) w.2)
def judge : List RowT → Bool
  | [x] => !x.2.1 || (!decide (x.2.2.1 = x.2.2.2) && !areMods x.2.2)
  | [x, y] => !(!decide (x.1 = y.1) || decide (x.1.1 = ("call" : Str))) && (((x.2.1 && areMods x.2.2) && (y.2.1 && areMods y.2.2)) && !decide (decide (x.2.2.1 = y.2.2.1) = decide (x.2.2.2 = y.2.2.2)))
  | _ => false
def waysL (h : H3) (ws : List Way) : Bool := (ws.all fun w => (rowL h w).isSome) && judge (ws.filterMap (rowL h))
section
variable {c : Cfg} {CP CH CA CD : Addr} (B : Glb c CP CH CA CD)
include B
theorem ok_law_end : Has c 6 "_law_end" (spP c (fun a : H3 × List Nat => [eBs a.1, eLot a.1.2.2, .tup (a.2.map eN)]) (fun a => OkH a.1) fun a => eEndL (endL a.1 none a.2)) :=
  has_of B.law_end (fun _ => rfl) fun ⟨h, row⟩ h0 => by
    have h0 : OkH h := h0
    refine ds_cons (d1_asg 3 (d := ePO none) de_non rfl ?_)
    refine ds_cons (d1_for (as := row) (enc := eN) (fun rem G => ∃ (q : Option Pr) (G4 G5 G6 : Slot), (OkPO h q ∧ endL h q rem = endL h none row) ∧ G = [.dat (eBs h), .dat (eLot h.2.2), .dat (.tup (row.map eN)), .dat (ePO q), G4, G5, G6]) (it_tup (dv 2 rfl)) ⟨none, _, _, _, ⟨okNone h, rfl⟩, rfl⟩ (fun n rem G ⟨q, G4, G5, G6, ⟨hq, e1⟩, e2⟩ => ?_) (fun G ⟨q, G4, G5, G6, ⟨hq, e1⟩, e2⟩ => ?_))
    · subst e2
      refine ⟨_, dn 4, ?_⟩
      have nl := nextsL_len h0 hq
      refine ds_cons (d1_comp1 5 6 ePr (nextsL h q) (fun l => decide (l.1 = n)) ePr (it_list (de_call (ok_law_nexts B) (h, q) ⟨h0, hq⟩ (ll rfl) (da_cons (dv 0 rfl) (da_cons (dv 1 rfl) (da_cons (dv 3 rfl) da_nil))))) (Nat.le_trans nl (ll rfl)) (fun l hl => dt_cmp (c_eqE inj_nat (ll rfl) l.1 n) (de_ixT (dv 6 rfl) de_int rfl).re (rv 4 rfl)) (fun l hl _ => dv 6 rfl) ?_)
      have e1' : (match (nextsL h q).filter fun l => decide (l.1 = n) with | [] => none | l :: _ => endL h (some l) rem) = endL h none row := e1
      cases w : (nextsL h q).filter fun l => decide (l.1 = n) with
      | nil =>
        rw [w] at e1'
        refine ds_cons (d1_if (k := true) (dt_cmp (c_eqNil (xs := []) rfl) (ro 5 rfl) (le_lst da_nil (ll rfl)).re) (fun _ => ds_cons (d1_ret (le_lst da_nil (ll rfl)).de ?_)) fun h => by cases h)
        rw [show endL (h, row).1 none (h, row).2 = none from e1'.symm]; rfl
      | cons l ls =>
        rw [w] at e1'
        have hl : l ∈ nextsL h q := (List.mem_filter.mp (by rw [w]; exact List.mem_cons_self : l ∈ (nextsL h q).filter fun l => decide (l.1 = n))).1
        refine ds_cons (d1_if (k := false) (dt_cmp (c_eqNil (inj_pr.all (l :: ls))) (ro 5 rfl) (le_lst da_nil (ll rfl)).re) (fun h => by cases h) fun _ => ds_nil ?_)
        refine ds_cons (d1_asg 3 (d := ePO (some l)) (de_ixL (ro 5 rfl) de_int (atI_map (n := 0) rfl)) rfl (ds_nil ⟨_, Wk.refl, some l, _, _, _, ⟨fun r e => by cases e; exact (nextsL_okC h0 hq hl).1, e1'⟩, rfl⟩))
    · subst e2
      refine ds_cons (d1_ret (le_lst (da_cons (dv 3 rfl) da_nil) (ll rfl)).de ?_)
      rw [show endL (h, row).1 none (h, row).2 = some q from e1.symm]; rfl
theorem ok_law_ways_right : Has c 7 "_law_ways_right" (spP c (fun a : H3 × List Way => [eBs a.1, eLot a.1.2.2, eWays a.2]) (fun a => OkH a.1 ∧ a.2.length ≤ 4 ∧ ∀ w ∈ a.2, OkUse a.1.1.1.1 w.2) fun a => .bl (waysL a.1 a.2)) :=
  has_of B.law_ways_right (fun _ => rfl) fun ⟨h, ws⟩ ⟨h0, hl, hu⟩ => by
    have h0 : OkH h := h0
    have hl : ws.length ≤ 4 := hl
    have hu : ∀ w ∈ ws, OkUse h.1.1.1 w.2 := hu
    have bad : ∀ w ∈ ws, rowL h w = none → waysL h ws = false := fun w hw e => by
      unfold waysL
      have : (ws.all fun w => (rowL h w).isSome) = false := by
        rw [List.all_eq_false]
        exact ⟨w, hw, by rw [e]; decide⟩
      rw [this, Bool.false_and]
    refine ds_cons (d1_own 3 (xs := []) (le_lst da_nil (ll rfl)) rfl ?_)
    refine ds_cons (d1_for (as := ws) (enc := eWay) (fun rem G => ∃ (done : List Way) (G4 G5 G6 G7 G8 : Slot), (ws = done ++ rem ∧ ∀ w ∈ done, (rowL h w).isSome = true) ∧ G = [.dat (eBs h), .dat (eLot h.2.2), .dat (eWays ws), .own ((done.filterMap (rowL h)).map eRowT), G4, G5, G6, G7, G8, .no, .no]) (it_tup (dv 2 rfl)) ⟨[], _, _, _, _, _, ⟨rfl, by simp⟩, rfl⟩ (fun w rem G ⟨done, G4, G5, G6, G7, G8, ⟨e1, e2⟩, e3⟩ => ?_) (fun G ⟨done, G4, G5, G6, G7, G8, ⟨e1, e2⟩, e3⟩ => ?_))
    · subst e3
      refine ⟨_, dn2 (dn 4) (dn 5), ?_⟩
      have hw : w ∈ ws := by rw [e1]; simp
      have hdl : (done.filterMap (rowL h)).length ≤ 4 := by
        have := congrArg List.length e1
        rw [List.length_append] at this
        have := List.length_filterMap_le (rowL h) done
        omega
      refine ds_cons (d1_asg 6 (de_call (ok_law_end B) (h, w.1) h0 (ll rfl) (da_cons (dv 0 rfl) (da_cons (dv 1 rfl) (da_cons (dv 4 rfl) da_nil)))) rfl ?_)
      have rw0 : rowL h w = match endL h none w.1 with | none => none | some q => if (!decide (w.2 ∈ (wordsM h q).1) && !decide (w.2 ∈ (wordsM h q).2)) = true then none else some (w.2, decide (w.2 ∈ (wordsM h q).1) && decide (w.2 ∈ (wordsM h q).2), forkM h (modsOf q) w.2) := rfl
      cases z : endL h none w.1 with
      | none =>
        rw [z] at rw0
        refine ds_cons (d1_if (k := true) (dt_cmp (c_eqNil (xs := []) rfl) (rv 6 rfl) (le_lst da_nil (ll rfl)).re) (fun _ => ds_cons (d1_ret de_bl ?_)) fun h => by cases h)
        rw [show waysL (h, ws).1 (h, ws).2 = false from bad w hw rw0]
      | some q =>
        rw [z] at rw0
        have rw0 : rowL h w = if (!decide (w.2 ∈ (wordsM h q).1) && !decide (w.2 ∈ (wordsM h q).2)) = true then none else some (w.2, decide (w.2 ∈ (wordsM h q).1) && decide (w.2 ∈ (wordsM h q).2), forkM h (modsOf q) w.2) := rw0
        have hq : OkPO h q := endL_ok h0 w.1 (okNone h) z
        refine ds_cons (d1_if (k := false) (dt_cmp (c_eqNil (xs := [ePO q]) (by show (pl (ePO q) && true) = true; rw [inj_po.pl]; rfl)) (rv 6 rfl) (le_lst da_nil (ll rfl)).re) (fun h => by cases h) fun _ => ds_nil ?_)
        refine ds_cons (d1_tgE (de_call (ok_law_words B) (h, q) ⟨h0, hq⟩ (ll rfl) (da_cons (dv 0 rfl) (da_cons (de_ixL (xs := [ePO q]) (rv 6 rfl) de_int rfl) da_nil))) (dnL2 (dn 7) (dn 8)) ?_)
        refine ds_cons (d1_if (dt_w (dw_and (dt_cmp (c_notinLE inj_use (ll rfl) w.2 (wordsM h q).1) (rv 5 rfl) (rv 7 rfl)) fun _ => dw_and1 (dt_cmp (c_notinLE inj_use (ll rfl) w.2 (wordsM h q).2) (rv 5 rfl) (rv 8 rfl)))) (fun hb => ds_cons (d1_ret de_bl ?_)) fun hb => ds_nil ?_)
        · rw [if_pos hb] at rw0
          rw [show waysL (h, ws).1 (h, ws).2 = false from bad w hw rw0]
        · rw [if_neg (by rw [hb]; exact Bool.false_ne_true)] at rw0
          refine ds_cons (d1_append 3 (d := eRowT (w.2, decide (w.2 ∈ (wordsM h q).1) && decide (w.2 ∈ (wordsM h q).2), forkM h (modsOf q) w.2)) rfl rfl (.inl rfl) (de_tup (da_cons (dv 5 rfl) (da_cons (de_and (de_cmp (c_inLE inj_use (ll rfl) w.2 (wordsM h q).1) (rv 5 rfl) (rv 7 rfl)) fun _ => de_one (de_cmp (c_inLE inj_use (ll rfl) w.2 (wordsM h q).2) (rv 5 rfl) (rv 8 rfl))) (da_cons (de_call (ok_law_two B) (h, q, w.2) ⟨h0, (hu w hw).lt, hq⟩ (ll rfl) (da_cons (dv 0 rfl) (da_cons (dv 1 rfl) (da_cons (de_ixL (xs := [ePO q]) (rv 6 rfl) de_int rfl) (da_cons (dv 5 rfl) da_nil))))) da_nil))) (ll rfl)) (by rw [List.length_map]; omega) (ds_nil ⟨_, Wk.refl, done ++ [w], .dat (.tup (w.1.map eN)), .dat (eUse w.2), .dat (.lst [ePO q]), .dat (.lst ((wordsM h q).1.map eUse)), .dat (.lst ((wordsM h q).2.map eUse)), ⟨by rw [e1, List.append_assoc]; rfl, fun v hv => (List.mem_append.mp hv).elim (e2 v) fun y => by rw [List.mem_singleton.mp y, rw0]; rfl⟩, ?_⟩))
          rw [List.filterMap_append, show [w].filterMap (rowL h) = [(w.2, decide (w.2 ∈ (wordsM h q).1) && decide (w.2 ∈ (wordsM h q).2), forkM h (modsOf q) w.2)] from by rw [List.filterMap_cons, rw0]; rfl, List.map_append]; rfl
    · subst e3
      rw [List.append_nil] at e1
      subst e1
      have ew : waysL h ws = judge (ws.filterMap (rowL h)) := by
        unfold waysL
        rw [List.all_eq_true.mpr e2, Bool.true_and]
      show DS _ _ _ { nx := fun _ => Dat.bl (waysL h ws) = .non, rt := fun r => r = .bl (waysL h ws) }
      rw [ew]
      have hrl : (ws.filterMap (rowL h)).length ≤ 4 := Nat.le_trans (List.length_filterMap_le _ _) hl
      generalize ws.filterMap (rowL h) = rs at hrl ⊢
      have ix : ∀ {j : J} {G : List Slot} {e : Expr} (x : RowT), DE j G e (eRowT x) → True := fun _ _ => trivial
      refine ds_cons (d1_if (dt_cmp (c_eqE inj_int (ll rfl) (rs.length : Int) 1) ((de_lenL B.b_len (ro 3 rfl)).is (by rw [List.length_map])).re de_int.re) (fun hb => ?_) fun hb => ds_nil ?_)
      · have h1 : (rs.length : Int) = 1 := of_decide_eq_true hb
        match rs, h1 with
        | [x], _ =>
          refine ds_cons (d1_tgE (de_ixL (d := eRowT x) (ro 3 rfl) de_int rfl) (dn3 (dn 5) (dn 9) (dn 10)) ?_)
          exact ds_cons (d1_ret (de_or (de_not (dv 9 rfl)) fun _ => de_one (de_and (de_cmp (c_neE inj_plc (ll rfl) x.2.2.1 x.2.2.2) (de_ixT (xs := [ePlc x.2.2.1, ePlc x.2.2.2]) (dv 10 rfl) de_int rfl).re (de_ixT (xs := [ePlc x.2.2.1, ePlc x.2.2.2]) (dv 10 rfl) de_int rfl).re) fun _ => de_one (de_not (de_call (ok_law_are_mods B) x.2.2 trivial (ll rfl) (da_cons (dv 10 rfl) da_nil))))) rfl)
      · have h1 : ¬ (rs.length : Int) = 1 := of_decide_eq_false hb
        have body : ∀ (x y : RowT), rs = [x, y] → DS (jF c N_law_ways_right st_law_ways_right 6) [.dat (eBs h), .dat (eLot h.2.2), .dat (eWays ws), .own (rs.map eRowT), G4, G5, G6, G7, G8, .no, .no] ((defBody st_law_ways_right).drop 3) { nx := fun _ => Dat.bl (judge rs) = .non, rt := fun r => r = .bl (judge rs) } := fun x y ers => by
          subst ers
          refine ds_cons (d1_if (k := !decide (x.1 = y.1) || decide (x.1.1 = ("call" : Str))) (dt_w (dw_or (k := false) (DT.is (dt_cmp (c_neE inj_int (ll rfl) 2 2) (de_lenL (xs := [eRowT x, eRowT y]) B.b_len (ro 3 rfl)).re de_int.re) (by decide)) fun _ => dw_or (dt_cmp (c_neE inj_use (ll rfl) x.1 y.1) (de_ixT (xs := [eUse x.1, .bl x.2.1, eFork x.2.2]) (de_ixL (d := eRowT x) (ro 3 rfl) de_int rfl) de_int rfl).re (de_ixT (xs := [eUse y.1, .bl y.2.1, eFork y.2.2]) (de_ixL (d := eRowT y) (ro 3 rfl) de_int rfl) de_int rfl).re) fun _ => dw_or1 (dt_cmp (c_eqE inj_str (ll rfl) x.1.1 "call") (de_ixT (xs := [.str x.1.1, eN x.1.2]) (de_ixT (xs := [eUse x.1, .bl x.2.1, eFork x.2.2]) (de_ixL (d := eRowT x) (ro 3 rfl) de_int rfl) de_int rfl) de_int rfl).re de_str.re))) (fun hb => ds_cons (d1_ret de_bl ?_)) fun hb => ds_nil ?_)
          · show Dat.bl false = Dat.bl (!(_ || _) && _)
            rw [hb]; rfl
          · refine ds_freeze 3 rfl ?_
            refine ds_cons (d1_if (k := !((x.2.1 && areMods x.2.2) && (y.2.1 && areMods y.2.2))) ((dt_not (dt_val ((de_all (bs := [x, y].map fun r : RowT => r.2.1 && areMods r.2.2) B.b_all ((le_map [("_law_use", 5), ("_law_is_both", 9), ("_law_fork", 10)] eRowT [x, y] (fun r => .bl (r.2.1 && areMods r.2.2)) (it_list (dv 3 rfl)) (ll rfl) (fun r hr => ⟨[(5, eUse r.1), (9, .bl r.2.1), (10, eFork r.2.2)], dn3 (dn 5) (dn 9) (dn 10), fun k hk => hk, de_and (dv 9 rfl) fun _ => de_one (de_call (ok_law_are_mods B) r.2.2 trivial (ll rfl) (da_cons (dv 10 rfl) da_nil))⟩) (by rfl)).re.is rfl)).is (by simp only [List.map_cons, List.map_nil, List.all_cons, List.all_nil, Bool.and_true]))))) (fun hc => ds_cons (d1_ret de_bl ?_)) fun hc => ds_nil ?_)
            · rw [Bool.not_eq_true'] at hc
              show Dat.bl false = Dat.bl (!(_ || _) && (_ && _))
              rw [hc, Bool.false_and, Bool.and_false]
            · rw [Bool.not_eq_false'] at hc
              refine ds_cons (d1_ret (de_cmp (c_neE inj_bl (ll rfl) (decide (x.2.2.1 = y.2.2.1)) (decide (x.2.2.2 = y.2.2.2))) (de_cmp (c_eqE inj_plc (ll rfl) x.2.2.1 y.2.2.1) (de_ixT (xs := [ePlc x.2.2.1, ePlc x.2.2.2]) (de_ixT (d := eFork x.2.2) (xs := [eUse x.1, .bl x.2.1, eFork x.2.2]) (de_ixL (d := eRowT x) (rv 3 rfl) de_int rfl) de_int rfl) de_int rfl).re (de_ixT (xs := [ePlc y.2.2.1, ePlc y.2.2.2]) (de_ixT (d := eFork y.2.2) (xs := [eUse y.1, .bl y.2.1, eFork y.2.2]) (de_ixL (d := eRowT y) (rv 3 rfl) de_int rfl) de_int rfl) de_int rfl).re).re (de_cmp (c_eqE inj_plc (ll rfl) x.2.2.2 y.2.2.2) (de_ixT (xs := [ePlc x.2.2.1, ePlc x.2.2.2]) (de_ixT (d := eFork x.2.2) (xs := [eUse x.1, .bl x.2.1, eFork x.2.2]) (de_ixL (d := eRowT x) (rv 3 rfl) de_int rfl) de_int rfl) de_int rfl).re (de_ixT (xs := [ePlc y.2.2.1, ePlc y.2.2.2]) (de_ixT (d := eFork y.2.2) (xs := [eUse y.1, .bl y.2.1, eFork y.2.2]) (de_ixL (d := eRowT y) (rv 3 rfl) de_int rfl) de_int rfl) de_int rfl).re).re) ?_)
              show _ = Dat.bl (!(_ || _) && (_ && _))
              rw [hb, hc]; rfl
        match rs, h1, hrl, body with
        | [], _, _, _ => exact ds_cons (d1_if (k := true) (dt_w (dw_or (k := true) (k' := true) (DT.is (dt_cmp (c_neE inj_int (ll rfl) 0 2) (de_lenL (xs := []) B.b_len (ro 3 rfl)).re de_int.re) (by decide)) fun h => by cases h)) (fun _ => ds_cons (d1_ret de_bl rfl)) fun h => by cases h)
        | [x, y], _, _, body => exact body x y rfl
        | x :: y :: z :: rs, _, _, _ => exact ds_cons (d1_if (k := true) (dt_w (dw_or (k := true) (k' := true) (DT.is (dt_cmp (c_neE inj_int (ll rfl) (((x :: y :: z :: rs).map eRowT).length : Int) 2) (de_lenL B.b_len (ro 3 rfl)).re de_int.re) (by rw [List.length_map]; rw [decide_eq_false (by simp only [List.length_cons]; omega)]; rfl)) fun h => by cases h)) (fun _ => ds_cons (d1_ret de_bl rfl)) fun h => by cases h)
        | [x], h1, _, _ => exact absurd rfl h1
end
end Cal
set_option Elab.async false
set_option linter.all false
set_option maxRecDepth 100000
set_option maxHeartbeats 4000000
namespace Cal
open PySem PySem.Spec PyProof.Rows L2
theorem cutTake (xs : List Dat) {n : Nat} (h : n ≤ xs.length) : cutD xs none (some (n : Int)) = xs.take n := by
  unfold cutD
  have e1 : HT.sIx xs.length 0 none = 0 := rfl
  have e2 : HT.sIx xs.length xs.length (some (n : Int)) = n := by
    rw [HT.sIx_nat]
    omega
  rw [e1, e2]; rfl
theorem cutDrop (xs : List Dat) {n : Nat} (h : n ≤ xs.length) : cutD xs (some (n : Int)) none = xs.drop n := by
  unfold cutD
  have e1 : HT.sIx xs.length 0 (some (n : Int)) = n := by
    rw [HT.sIx_nat]
    omega
  have e2 : HT.sIx xs.length xs.length none = xs.length := rfl
  rw [e1, e2]
  exact List.take_of_length_le (by simp)
def shows3 : List Str := ["shown", "weak", "protected"]
theorem shows3_ok {w : Str} (h : w ∈ shows3) : w ∈ shows4 := by
  unfold shows3 at h
  unfold shows4
  simp only [List.mem_cons, List.not_mem_nil, or_false] at h ⊢
  rcases h with h | h | h <;> simp [h]
/-- one row told otherwise -/
def turnRow (r : Row) (w : Str) (x : Row) : Row := if x = r then (r.1, w, r.2.2.reverse) else x
theorem turnRow_ok {ss : List Str} {m : List Row} {r : Row} {w : Str} (h : OkMod ss m) (hr : r ∈ m) (hw : w ∈ shows4) : OkMod ss (m.map (turnRow r w)) := by
  have e1 : ∀ x, (turnRow r w x).1 = x.1 := fun x => by
    unfold turnRow
    split
    · rename_i z; rw [z]
    · rfl
  refine ⟨fun x hx => ?_, List.pairwise_map.mpr (h.2.imp fun {a b} q => by rw [e1, e1]; exact q)⟩
  obtain ⟨y, hy, rfl⟩ := List.mem_map.mp hx
  unfold turnRow
  split
  · obtain ⟨a1, a2, a3, a4, a5⟩ := h.1 r hr
    exact ⟨a1, hw, by show r.2.2.reverse.length ≤ 3; rw [List.length_reverse]; exact a3, fun z => by show r.2.2.reverse = []; rw [a4 z]; rfl, fun u hu => a5 u (List.mem_reverse.mp hu)⟩
  · exact h.1 y hy
theorem okPlan_set {p : Plan} (h0 : OkPlan p) {a : Nat} {m : List Row} (hm : OkMod p.1 m) : OkPlan (p.1, p.2.set a m) :=
  ⟨h0.1, by show 1 ≤ (p.2.set a m).length ∧ (p.2.set a m).length ≤ 3; rw [List.length_set]; exact h0.2.1, fun x hx => (List.mem_or_eq_of_mem_set hx).elim (h0.2.2 x) fun e => e ▸ hm⟩
theorem okPlan_ins {p : Plan} (h0 : OkPlan p) (hl : p.2.length < 3) (a : Nat) : OkPlan (p.1, p.2.take a ++ [[]] ++ p.2.drop a) := by
  refine ⟨h0.1, ?_, fun x hx => ?_⟩
  · show 1 ≤ (p.2.take a ++ [[]] ++ p.2.drop a).length ∧ (p.2.take a ++ [[]] ++ p.2.drop a).length ≤ 3
    rw [List.length_append, List.length_append, List.length_take, List.length_drop, List.length_singleton]
    omega
  · rcases List.mem_append.mp hx with hx | hx
    · rcases List.mem_append.mp hx with hx | hx
      · exact h0.2.2 x (List.mem_of_mem_take hx)
      · rw [List.mem_singleton.mp hx]
        exact (⟨fun r hr => (by cases hr), List.Pairwise.nil⟩ : OkMod p.1 [])
    · exact h0.2.2 x (List.mem_of_mem_drop hx)
def NearR (a : Bld) (d : Dat) : Prop := ∃ b : Bld, d = eBuild b ∧ OkBld b ∧ b.1.1 = a.1.1
section
variable {c : Cfg} {CP CH CA CD : Addr} (B : Glb c CP CH CA CD)
include B
theorem ok_law_near : Has c 5 "_law_near" (spD c (fun a : Bld => [ePlan a.1, eCh a.2]) OkBld NearR) :=
  hasD_of B.law_near (fun _ => rfl) (fun ⟨p, ch⟩ q hb => by
    have h0 : OkPlan p := hb.plan
    have hc : OkCh p ch := hb.ch
    obtain ⟨m1, m3⟩ := h0.2.1
    have hml : (p.2.map eMod).length = p.2.length := List.length_map _
    refine ds_mid (fun G' => ∃ r : Int, (0 ≤ r ∧ r < 4) ∧ G' = [.dr, .dat (ePlan p), .dat (eCh ch), .own (p.2.map eMod), .dat (.int r), .no, .no, .no, .no, .no]) (d1_par 3 4 (T := fun s => ∃ r : Int, (0 ≤ r ∧ r < 4) ∧ s = .dat (.int r)) (le_listT B.b_list (de_ixT (d := eMods p.2) (xs := [eSorts p.1, eMods p.2]) (dv 1 rfl) de_int rfl).re).sx ((dx_takeC (m := 4) B rfl 0 rfl de_int (by decide) (ll rfl)).sx fun d ⟨r, e, a, b⟩ => ⟨r, ⟨a, b⟩, by rw [e]⟩) rfl rfl (by decide) (fun s t e1 ⟨r, a, e2⟩ => ⟨r, a, by rw [e1, e2]; rfl⟩) rfl rfl (fun env he => by cases env; cases he; rfl)) fun G' ⟨r, hr, eG⟩ => ?_
    subst eG
    refine ds_cons (d1_if (dt_cmp (c_eqE inj_int (ll rfl) r 0) (rv 4 rfl) de_int.re) (fun _ => ?_) fun _ => ds_nil ?_)
    · refine ds_cons (d1_retX (dx_tup (dax_cons ((dv 1 rfl).toX (R := fun d => d = ePlan p) rfl) (dax_cons (dx_callD rfl (ok_law_choice B) 0 rfl rfl (by first | exact .inl rfl | exact .inr (.inl rfl)) p h0 (ll rfl) (da_cons (dv 1 rfl) da_nil)) dax_nil)) fun ds ⟨_, _, e, _, _, _, e2, _, e4⟩ => by rw [e, e2, e4]; exact ll rfl) fun d ⟨ds, e, d1, r1, g1, g2, d2, r2, g3, ⟨c', g4, g5⟩, g6⟩ => ⟨(p, c'), by rw [e, g1, g2, g3, g4, g6]; rfl, ⟨h0, g5⟩, rfl⟩)
    refine ds_mid (fun G' => ∃ a : Nat, a < p.2.length ∧ G' = [.dr, .dat (ePlan p), .dat (eCh ch), .own (p.2.map eMod), .dat (.int r), .dat (eN a), .no, .no, .no, .no]) (d1_set 5 (S := fun s => ∃ a : Nat, a < p.2.length ∧ s = .dat (eN a)) ((dx_takeC (m := (p.2.length : Int)) B rfl 0 rfl ((de_lenL B.b_len (ro 3 rfl)).is (by rw [List.length_map])) (by omega) (ll rfl)).sx fun d ⟨z, e, a1, a2⟩ => by
      obtain ⟨n, rfl⟩ := Int.eq_ofNat_of_zero_le a1
      exact ⟨n, by omega, by rw [e]; rfl⟩) rfl fun s ⟨a, ha, e⟩ => ⟨a, ha, by rw [e]; rfl⟩) fun G' ⟨a, ha, eG⟩ => ?_
    subst eG
    refine ds_mid (fun G' => ∃ (ms : Mods) (G6 G7 G8 G9 : Slot), OkPlan (p.1, ms) ∧ G' = [.dr, .dat (ePlan p), .dat (eCh ch), .dat (.lst (ms.map eMod)), .dat (.int r), .dat (eN a), G6, G7, G8, G9]) ?_ fun G' ⟨ms, G6, G7, G8, G9, hms, eG⟩ => ?_
    · refine d1_if (dt_cmp (c_eqE inj_int (ll rfl) r 1) (rv 4 rfl) de_int.re) (fun _ => ds_freeze 3 rfl ?_) fun _ => ?_
      · refine ds_cons (d1_asg 3 (d := .lst ((if p.2.length < 3 then p.2.take a ++ [[]] ++ p.2.drop a else p.2).map eMod)) ((de_if (d1 := .lst ((p.2.take a ++ [[]] ++ p.2.drop a).map eMod)) (d2 := .lst (p.2.map eMod)) (dt_cmp c_lt (de_lenL B.b_len (rv 3 rfl)).re de_int.re) (fun _ => (le_cat (le_cat (le_slL (rv 3 rfl) dp_none (dp_some (dv 5 rfl))).re (le_lst (da_cons (de_tup da_nil (ll rfl)) da_nil) (ll rfl)).re ?_).re (le_slL (rv 3 rfl) (dp_some (dv 5 rfl)) dp_none).re ?_).de.is ?_) fun _ => dv 3 rfl).is ?_) rfl (ds_nil ⟨if p.2.length < 3 then p.2.take a ++ [[]] ++ p.2.drop a else p.2, _, _, _, _, ?_, rfl⟩))
        · rw [cutTake _ (by rw [hml]; omega), List.length_take, List.length_map]
          show _ + 1 ≤ _
          omega
        · rw [cutTake _ (by rw [hml]; omega), cutDrop _ (by rw [hml]; omega), List.length_append, List.length_take, List.length_drop, List.length_map]
          show _ + 1 + _ ≤ _
          omega
        · rw [cutTake _ (by rw [hml]; omega), cutDrop _ (by rw [hml]; omega), List.map_append, List.map_append, List.map_take, List.map_drop]; rfl
        · rw [hml]
          by_cases z : p.2.length < 3
          · rw [decide_eq_true (by omega), if_pos z]; rfl
          · rw [decide_eq_false (by omega), if_neg z]; rfl
        · split
          · rename_i z; exact okPlan_ins h0 z a
          · exact h0
      · have em : p.2[a]? = some p.2[a] := List.getElem?_eq_getElem ha
        have hmo : OkMod p.1 p.2[a] := h0.2.2 _ (List.getElem_mem ha)
        have hmn : p.2[a].length ≤ 4 := Nat.le_trans hmo.len h0.1.2.1
        generalize hM : p.2[a] = m at em hmo hmn
        refine ds_cons (d1_if (dt_cmp (c_neE inj_mod (ll rfl) m []) (de_ixL (ro 3 rfl) (dv 5 rfl) (atI_map em)).re (de_tup da_nil (ll rfl)).re) (fun hb => ?_) fun hb => ds_nil (ds_freeze 3 rfl (ds_nil ⟨p.2, _, _, _, _, h0, rfl⟩)))
        have hne : m ≠ [] := by
          rw [Bool.not_eq_true', decide_eq_false_iff_not] at hb
          exact hb
        refine ds_mid (fun G' => ∃ x : Row, x ∈ m ∧ G' = [.dr, .dat (ePlan p), .dat (eCh ch), .own (p.2.map eMod), .dat (.int r), .dat (eN a), .dat (eRow x), .no, .no, .no]) (d1_set 6 (S := fun s => ∃ x : Row, x ∈ m ∧ s = .dat (eRow x)) (DX.sx (dx_callD rfl (ok_law_pick B) 0 rfl rfl (by first | exact .inl rfl | exact .inr (.inl rfl)) (m.map eRow) (fun z => hne (List.map_eq_nil_iff.mp z)) (ll rfl) (da_cons (LE.de (le_listT (xs := m.map eRow) B.b_list (DE.re (de_ixL (d := eMod m) (ro 3 rfl) (dv 5 rfl) (atI_map em))))) da_nil)) fun d hd => by
          obtain ⟨x, hx, e⟩ := List.mem_map.mp hd
          exact ⟨x, hx, by rw [e]⟩) rfl fun s ⟨x, hx, e⟩ => ⟨x, hx, by rw [e]; rfl⟩) fun G' ⟨x, hx, eG⟩ => ?_
        subst eG
        refine ds_mid (fun G' => ∃ w : Str, w ∈ shows3 ∧ G' = [.dr, .dat (ePlan p), .dat (eCh ch), .own (p.2.map eMod), .dat (.int r), .dat (eN a), .dat (eRow x), .dat (eRow (x.1, w, x.2.2.reverse)), .no, .no]) (d1_set 7 (S := fun s => ∃ w : Str, w ∈ shows3 ∧ s = .dat (eRow (x.1, w, x.2.2.reverse))) (DX.sx (dx_tup (dax_cons ((de_ixT (d := eN x.1) (xs := [eN x.1, .str x.2.1, .tup (x.2.2.map eUse)]) (dv 6 rfl) de_int rfl).toX (R := fun d => d = eN x.1) rfl) (dax_cons (dx_ixT (R := Below 3) (xs := shows3.map Dat.str) (de_tup (da_cons de_str (da_cons de_str (da_cons de_str da_nil))) (ll rfl)) (dx_takeC (m := 3) B rfl 0 rfl de_int (by decide) (ll rfl)) fun z h => h) (dax_cons ((de_revT (xs := x.2.2.map eUse) (de_ixT (xs := [eN x.1, .str x.2.1, .tup (x.2.2.map eUse)]) (dv 6 rfl) de_int rfl)).toX (R := fun d => d = .tup (x.2.2.map eUse).reverse) rfl) dax_nil))) fun ds ⟨_, _, e, _, _, _, e2, _, _, _, e3, _, e4⟩ => by rw [e, e2, e3, e4]; exact ll rfl) fun d ⟨ds, e, d1, r1, g1, g2, d2, r2, g3, g4, d3, r3, g5, g6, g7⟩ => by
          obtain ⟨w, hw, ew⟩ := List.mem_map.mp g4
          exact ⟨w, hw, by rw [e, g1, g2, g3, ← ew, g5, g6, g7, ← List.map_reverse]; rfl⟩) rfl fun s ⟨w, hw, e⟩ => ⟨w, hw, by rw [e]; rfl⟩) fun G' ⟨w, hw, eG⟩ => ?_
        subst eG
        refine ds_cons (d1_setL 3 (kk := a) (m := (a : Int)) (d := eMod (m.map (turnRow x w))) rfl rfl (.inl rfl) (de_tupL B.b_tuple ((le_map1 9 eRow m (fun y => eRow (turnRow x w y)) (it_tup (de_ixL (d := eMod m) (ro 3 rfl) (dv 5 rfl) (atI_map em))) (Nat.le_trans hmn (ll rfl)) (fun y hy => (de_if (d1 := eRow (x.1, w, x.2.2.reverse)) (d2 := eRow y) (dt_cmp (c_eqE inj_row (ll rfl) y x) (rv 9 rfl) (rv 6 rfl)) (fun _ => dv 7 rfl) fun _ => dv 9 rfl).is (by
          unfold turnRow
          by_cases z : y = x
          · rw [decide_eq_true z, if_pos z]; rfl
          · rw [decide_eq_false z, if_neg z]; rfl))).is (by rw [List.map_map]; rfl)).re) (dv 5 rfl) (by unfold ixN; rw [if_pos (by omega), if_pos (by rw [hml]; omega)]; rfl) (ds_nil (ds_freeze 3 (xs := (p.2.set a (m.map (turnRow x w))).map eMod) (by rw [List.map_set]; rfl) (ds_nil ⟨p.2.set a (m.map (turnRow x w)), _, _, _, _, okPlan_set h0 (turnRow_ok hmo hx (shows3_ok hw)), rfl⟩))))
    · subst eG
      have hmm := makeM_len hms
      refine ds_cons (d1_asg 8 (d := ePlan (p.1, ms)) (de_tup (da_cons (de_ixT (xs := [eSorts p.1, eMods p.2]) (dv 1 rfl) de_int rfl) (da_cons (de_tupL B.b_tuple (rv 3 rfl)) da_nil)) (ll rfl)) rfl ?_)
      refine ds_cons (d1_ret (d := eBuild ((p.1, ms), ch.filter fun k => decide (k ∈ makeM (p.1, ms)))) (de_tup (da_cons (dv 8 rfl) (da_cons (de_tupL B.b_tuple (le_comp1 9 eCut ch (fun k => decide (k ∈ makeM (p.1, ms))) eCut (it_tup (dv 2 rfl)) (Nat.le_trans hc.len (ll rfl)) (fun k hk => dt_cmp (c_inLE inj_cut (ll rfl) k (makeM (p.1, ms))) (rv 9 rfl) (de_call (ok_law_makeable B) (p.1, ms) hms (ll rfl) (da_cons (dv 8 rfl) da_nil)).re) fun k hk _ => dv 9 rfl).re) da_nil)) (ll rfl)) ⟨_, rfl, ⟨hms, ⟨fun k hk => makeM_ok hms (of_decide_eq_true (List.mem_filter.mp hk).2), hc.asc.sublist List.filter_sublist, Nat.le_trans (List.length_filter_le _ _) hc.len⟩⟩, rfl⟩)) (by decide)
end
end Cal
set_option Elab.async false
set_option linter.all false
set_option maxRecDepth 100000
set_option maxHeartbeats 4000000
namespace Cal
open PySem PySem.Spec PySem.Calls PyProof.Rows L2 PySem.W
/-! ### the two lambdas, over the heap itself -/
section
variable {prog : Program} {w : World} {A : Around} {s : Shared}
abbrev NoE : Value → Shared → Prop := fun _ _ => False
/-- a lambda of one argument is called -/
theorem lam_one {f a c' : Addr} {qual x : Str} {params : Arguments} {body : Expr} {scope : Scope} {clos : List (Str × Addr)} {pm ctv : Value} {Q : Value → Shared → Prop} (room : A.depth < recursionLimit) (hf : s.heap.get? f = some (kla_obj "<lambda>" qual params body scope clos pm c' ctv))
    (k1 : scope.kind = .function) (k2 : scope.isCoroutine = false) (k3 : scope.isGenerator = false) (k4 : ∀ y ∈ scope.names, y.2 ≠ .cell) (k5 : scope.names.lookup x = some .local) (hc : s.heap.CodeRec (.ref c') qual) (hl : s.heap.NoLimit)
    (hb : bindArgs (kla_fn "<lambda>" qual params body scope clos pm (.ref c') ctv) ⟨[.ref a], []⟩ = pure [(x, .ref a)])
    (h : ∀ (h1 : Heap) (tk : Nat) (m : Str → Option Value), (∀ b o, s.heap.get? b = some o → h1.get? b = some o) → h1.Ns s.heap.objs.size m → m x = some (.ref a) → wpAny (model prog w) (A.deeper (envX qual scope s.heap.objs.size f (.ref c') clos)) (eval body (envX qual scope s.heap.objs.size f (.ref c') clos)) Q NoE { s with heap := h1, toks := tk }) :
    wpAny (model prog w) A (call (.ref f) [.ref a]) Q NoE s := by
  refine wpAny_call (codeAny_mono (R := fun r s' => ∃ v, r = .ok (.ret v) ∧ Q v s') ?_ fun r s' ⟨v, e, q⟩ => by subst e; exact q)
  refine kla_callFunE room hf rfl k2 k3 rfl hc ?_
  rw [hb]
  refine wpAny_pure (wpAny_newFunctionEnv k4 (fun y hy => by rw [List.mem_singleton.mp hy]; exact k5) (fun h1 ns sb => ⟨hl.fresh _ sb, ?_⟩) k1)
  refine kla_codeExpr (wpAny_mono (h h1 _ _ (fun b o e => sb.extBut b o (Nat.ne_of_lt (Heap.lt_size e)) (Heap.get?_push_of_some _ e)) ns (by simp)) (fun v s' q => ⟨v, rfl, q⟩) fun _ _ z => z.elim)
end
end Cal
set_option Elab.async false
set_option linter.all false
set_option maxRecDepth 100000
set_option maxHeartbeats 4000000
namespace Cal
open PySem PySem.Spec PySem.Calls PyProof.Rows L2 PySem.W
section
variable {prog : Program} {w : World} {A : Around} {s : Shared}
theorem reads_ints {h : Heap} : ∀ {ns : List Int} {its : List Value}, Vals (ns.map V.int) its → ReadsAll h its (ns.map PyData.int) []
  | [], _, .nil => .nil
  | n :: ns, _, .cons r v => by
    obtain ⟨t, rfl⟩ := r
    exact .cons (.int n t) (reads_ints v)
theorem reads_tup {h : Heap} {a : Addr} {ns : List Int} {its : List Value} (ht : h.IsTuple a its.toArray) (v : Vals (ns.map V.int) its) : Reads h (.ref a) (.tuple (ns.map PyData.int)) [] := by
  obtain ⟨o, ho, hc, n, hd⟩ := ht
  exact .tuple ho hc hd (reads_ints v)
/-- the end of both: the pair is laid -/
theorem reads_pair {h : Heap} {a : Addr} {ns : List Int} {its : List Value} {n : Int} {t : Tok} (ht : h.IsTuple a its.toArray) (v : Vals (ns.map V.int) its) : Reads (h.push { cls := .type "tuple", data := .seq ([.int n t, .ref a] : List Value).toArray }) (.ref h.objs.size) (.tuple [.int n, .tuple (ns.map PyData.int)]) [] := by
  refine .tuple (as := [] ++ ([] ++ [])) (Heap.get?_push_size _ rfl) rfl rfl (.cons (.int n t) (.cons (reads_tup (its := its) ?_ v) .nil))
  exact ht.at fun o e => Heap.get?_push_of_some _ e
abbrev KeyAt (k : PyData) (s : Shared) (v : Value) (s' : Shared) : Prop := ∃ h' tk, s' = { s with heap := h', toks := tk } ∧ (∀ b o, s.heap.get? b = some o → h'.get? b = some o) ∧ Reads h' v k []
theorem ld_loc {env : Env} {x : Str} {pos : Pos} {m : Str → Option Value} {v : Value} {Q : Value → Shared → Prop} {E : Value → Shared → Prop} (hk : env.scope.kind = .function) (hl : env.kindOf x = some .local) (hn : s.heap.Ns env.locals m) (hv : m x = some v) (h : Q v s) (hd : (x == ("__debug__" : Str)) = false) : wpAny (model prog w) A (eval (.Name x pos) env) Q E s := wpAny_Name (wpAny_loadName_local hk hl hn hv h) hd
theorem cnt_succ {ns : List Int} {i : Nat} {n : Int} (h : ns[i]? = some n) : ((ns.take (i + 1)).filter fun n => decide (0 < n)).length = ((ns.take i).filter fun n => decide (0 < n)).length + if 0 < n then 1 else 0 := by
  rw [List.take_add_one, h, List.filter_append, List.length_append]
  by_cases z : 0 < n
  · rw [if_pos z]
    show _ + (List.filter _ [n]).length = _
    rw [List.filter_cons_of_pos (by exact decide_eq_true z)]; rfl
  · rw [if_neg z]
    show _ + (List.filter _ [n]).length = _
    rw [List.filter_cons_of_neg (by simpa using z)]; rfl
/-- (len([y for y in x if y > 0]), x) -/
theorem key1_body {env : Env} {x y : Str} {m mg mb : Str → Option Value} {a : Addr} {ns : List Int} {its : List Value} {cs : Scope} {p1 p2 p3 p4 p5 p6 p7 p8 p9 p10 p11 : Pos} {k0 kk : Nat} (hh : A.handled = none) (hk : env.scope.kind = .function) (hx : env.kindOf x = some .local) (hlen : env.kindOf "len" = some .globalImplicit) (hg : env.globals = mainGlobals) (hb : env.builtins = builtinsNs)
    (hn : s.heap.Ns env.locals m) (hm : m x = some (.ref a)) (hng : s.heap.Ns mainGlobals mg) (hmg : mg "len" = none) (hnb : s.heap.Ns builtinsNs mb) (hmb : mb "len" = some (.builtin "len")) (ht : s.heap.IsTuple a its.toArray) (vs : Vals (ns.map V.int) its) (hz : ns.length ≤ 1000)
    (c1 : cs.kind = .function) (c2 : ∀ z ∈ cs.names, z.2 ≠ .cell) (c3 : ∀ z ∈ cs.names, z.2 = .local → cs.names.lookup z.1 = some .local) (c4 : cs.names.lookup y = some .local) (c5 : closureFor cs env = pure [])
    (dx : (x == ("__debug__" : Str)) = false) (dy : (y == ("__debug__" : Str)) = false) :
    wpAny (model prog w) A (eval (.Tuple [.Call (.Name "len" p1) [.ListComp (.Name y p2) [⟨.Name y p3, .Name x p4, [.Compare (.Name y p5) [.Gt] [.Constant (.int 0) k0 p6] p7], 0⟩] cs p8] [] p9, .Name x p10] kk p11) env) (KeyAt (.tuple [.int ((ns.filter fun n => decide (0 < n)).length : Nat), .tuple (ns.map PyData.int)]) s) NoE s := by
  have hil : its.length = ns.length := by rw [← vs.length, List.length_map]
  have ha : a < s.heap.objs.size := by obtain ⟨o, ho, _⟩ := ht; exact Heap.lt_size ho
  refine PyProof.Rows.Tuple_ ?_
  show wpAny _ _ (spliced ((false, eval (.Call (.Name "len" p1) [.ListComp (.Name y p2) [⟨.Name y p3, .Name x p4, [.Compare (.Name y p5) [.Gt] [.Constant (.int 0) k0 p6] p7], 0⟩] cs p8] [] p9) env) :: (false, eval (.Name x p10) env) :: [])) _ _ s
  refine Calls.spliced_cons ?_
  refine PyProof.Rows.Call_ (Calls.Name_function_global hk hlen (Calls.loadGlobal_builtin (mg := mg) (mb := mb) (by rw [hg]; exact hng) hmg (by rw [hb]; exact hnb) hmb ?_))
  refine Calls.callWith_builtin rfl (Calls.evalArgs_plain ?_)
  show wpAny _ _ (spliced ((false, eval (.ListComp (.Name y p2) [⟨.Name y p3, .Name x p4, [.Compare (.Name y p5) [.Gt] [.Constant (.int 0) k0 p6] p7], 0⟩] cs p8) env) :: [])) _ _ s
  refine Calls.spliced_cons ?_
  refine ListComp_goes c5 c2 c1 c3 (ld_loc hk hx hn hm ?_ dx)
  refine wpAny_pyIter_tuple ht ?_
  refine ⟨_, _, _, _, _, _, rfl, Goes.tuple hh s.heap.objs.size a (Nat.ne_of_lt ha) its.toArray, ?_, ⟨⟨_, Heap.get?_push_size _ rfl, rfl, rfl⟩, ht.at fun o e => Heap.get?_push_of_some _ e⟩, ?_, fun D C s3 hB => ?_⟩
  · have : its.toArray.size = its.length := by simp
    rw [this, hil]
    exact Nat.le_trans hz (by decide)
  · intro b hb
    rw [Heap.size_push]
    rcases List.mem_cons.mp hb with rfl | hb
    · exact Nat.lt_succ_self _
    · rw [List.mem_singleton.mp hb]; exact Nat.lt_succ_of_lt ha
  · obtain ⟨⟨h3, tk3, rfl⟩, old, nD, nC, hDC, hnm⟩ := hB
    have kd : (compEnvC cs [] C env).kindOf y = some .local := lookup_relabel_local c4
    have hp : ((compEnvC cs [] C env).scope.kind == .class || ((compEnvC cs [] C env).scope.kind == .module && (compEnvC cs [] C env).locals != (compEnvC cs [] C env).globals)) = false := by
      show (cs.kind == .class || (cs.kind == .module && _)) = false
      rw [c1]; rfl
    have size1 : (s.heap.push { cls := .type "tuple_iterator", data := .fields #[.ref a, .int 0 0] }).objs.size = s.heap.objs.size + 1 := Heap.size_push ..
    have nD' : s.heap.objs.size + 1 ≤ D := by rw [← size1]; exact nD
    have nC' : s.heap.objs.size + 1 ≤ C := by rw [← size1]; exact nC
    have old0 : ∀ b o, s.heap.get? b = some o → h3.get? b = some o := fun b o e => old b o (Heap.get?_push_of_some _ e)
    refine ⟨fun i ys s1 => ∃ h' tk m', s1 = { s with heap := h', toks := tk } ∧ h'.Ns C m' ∧ ys.length = ((ns.take i).filter fun n => decide (0 < n)).length ∧ ∀ b o, s.heap.get? b = some o → h'.get? b = some o, ⟨h3, tk3, _, rfl, hnm, by simp, old0⟩, ?_, ?_, ?_⟩
    · rintro i ys s1 h' tk ⟨h4, tk4, m4, rfl, n4, e4, k4⟩ hk' _
      refine ⟨h', tk, m4, rfl, n4.at' fun o e => hk' C o ?_ e, e4, fun b o e => hk' b o ?_ (k4 b o e)⟩
      · simp only [List.mem_cons, List.not_mem_nil, or_false, not_or]
        exact ⟨Ne.symm hDC, Nat.ne_of_gt nC'⟩
      · have lt := Heap.lt_size e
        simp only [List.mem_cons, List.not_mem_nil, or_false, not_or]
        exact ⟨Nat.ne_of_lt (Nat.lt_of_lt_of_le (Nat.lt_succ_of_lt lt) nD'), Nat.ne_of_lt lt⟩
    · rintro i v ys s1 hi hY st ⟨h4, tk4, m4, rfl, n4, e4, k4⟩ hpl
      rw [List.getElem?_toArray] at hY
      obtain ⟨u, hu, r⟩ := vals_at vs hY
      rw [List.getElem?_map] at hu
      cases q : ns[i]? with
      | none => rw [q] at hu; cases hu
      | some n =>
        rw [q] at hu
        cases hu
        obtain ⟨t, rfl⟩ := r
        refine wpAny_assign_Name (wpAny_storeName_local kd n4 (fun h5 n5 s5 => ?_) hp)
        have up : ∀ b o, b ≠ C → h4.get? b = some o → h5.get? b = some o := fun b o hb e => s5.extBut b o hb e
        have st5 : h5.IsTupleIter s.heap.objs.size a (i + 1) ∧ h5.IsTuple a its.toArray := ⟨st.1.at fun o e => up _ o (Nat.ne_of_lt nC') e, st.2.at fun o e => up _ o (Nat.ne_of_lt (Nat.lt_of_lt_of_le (Nat.lt_succ_of_lt ha) nC')) e⟩
        have pl5 : h5.PlainList D ys.toArray := hpl.at fun o e => up D o hDC e
        have k5 : ∀ b o, s.heap.get? b = some o → h5.get? b = some o := fun b o e => up b o (Nat.ne_of_lt (Nat.lt_of_lt_of_le (Nat.lt_succ_of_lt (Heap.lt_size e)) nC')) (k4 b o e)
        refine wpAny_tests_one (wpAny_isTrue_Compare1 (ld_loc (s := { s with heap := h5, toks := tk4 + 1 }) c1 kd n5 (v := .int n t) (by simp) ?_ dy))
        refine wpAny_Constant_int (PyProof.Rows.gt_int (wpAny_truthy_bool ?_))
        dsimp only
        by_cases z : 0 < n
        · rw [if_pos (decide_eq_true z)]
          refine ld_loc (s := { s with heap := h5, toks := _ }) c1 kd n5 (v := .int n t) (by simp) ⟨⟨h5, _, _, rfl, n5, ?_, k5⟩, st5, pl5⟩ dy
          rw [List.length_append, cnt_succ q, if_pos z, e4]; rfl
        · rw [if_neg (by simpa using z)]
          refine ⟨⟨h5, _, _, rfl, n5, ?_, k5⟩, st5, pl5⟩
          rw [cnt_succ q, if_neg z, e4]; rfl
    · rintro ys s1 ⟨h4, tk4, m4, rfl, n4, e4, k4⟩ hpl
      refine ⟨m4, n4, fun h5 sb => ?_⟩
      have up : ∀ b o, b ≠ C → h4.get? b = some o → h5.get? b = some o := fun b o hb e => sb.extBut b o hb e
      have k5 : ∀ b o, s.heap.get? b = some o → h5.get? b = some o := fun b o e => up b o (Nat.ne_of_lt (Nat.lt_of_lt_of_le (Nat.lt_succ_of_lt (Heap.lt_size e)) nC')) (k4 b o e)
      have pl5 : h5.PlainList D ys.toArray := hpl.at fun o e => up D o hDC e
      refine Calls.spliced_nil ?_
      have yl : ys.length = (ns.filter fun n => decide (0 < n)).length := by
        rw [e4, List.take_of_length_le]
        have : its.toArray.size = its.length := by simp
        omega
      have ysz : ys.toArray.size = (ns.filter fun n => decide (0 < n)).length := by rw [← yl]; simp
      have fl : (ns.filter fun n => decide (0 < n)).length ≤ 1000 := Nat.le_trans (List.length_filter_le _ _) hz
      refine Calls.call_len_list (Heap.PlainList.isList pl5) (by rw [ysz]; omega) ?_
      refine Calls.spliced_cons (ld_loc (s := { s with heap := h5, toks := _ }) hk hx (hn.at' fun o e => k5 _ o e) hm (Calls.spliced_nil ?_) dx)
      rw [ysz]
      refine wpAny_newTuple ⟨_, _, rfl, fun b o e => Heap.get?_push_of_some _ (k5 b o e), reads_pair (ht.at fun o e => k5 _ o e) vs⟩ (by simp [sizeLine_eq])
end
end Cal
set_option Elab.async false
set_option linter.all false
set_option maxRecDepth 100000
set_option maxHeartbeats 4000000
namespace Cal
open PySem PySem.Spec PySem.Calls PyProof.Rows L2 PySem.W
section
variable {prog : Program} {w : World} {A : Around} {s : Shared}
theorem ints_plain : ∀ ns : List Int, PyData.plainAll (ns.map PyData.int) = true
  | [] => by rw [List.map_nil, PyData.plainAll]
  | n :: ns => by rw [List.map_cons, PyData.plainAll, ints_plain ns, PyData.plain]; rfl
theorem countP_zero (ns : List Int) : ((ns.map PyData.int).countP fun y => PyData.eqv y (.int 0)) = ns.countP fun n => decide (n = 0) := by
  rw [List.countP_map]
  refine List.countP_congr fun n _ => ?_
  show PyData.eqv (.int n) (.int 0) = true ↔ _
  rw [PyData.eqv]
  simp
/-- (mn - x.count(0), x) -/
theorem key2_body {env : Env} {x mn : Str} {m : Str → Option Value} {a cl : Addr} {M : Int} {tM : Tok} {ns : List Int} {its : List Value} {p1 p2 ap p3 p4 p5 p6 p7 : Pos} {k0 kk : Nat} (hk : env.scope.kind = .function) (hx : env.kindOf x = some .local) (hmn : env.kindOf mn = some .free) (hcl : env.cells.lookup mn = some cl) (hcv : s.heap.IsCell cl (some (.int M tM)))
    (hn : s.heap.Ns env.locals m) (hm : m x = some (.ref a)) (ht : s.heap.IsTuple a its.toArray) (hd : ∃ o, s.heap.get? a = some o ∧ o.dict = none) (vs : Vals (ns.map V.int) its) (hu : A.units + 2 < cLine)
    (hline : (ap.endLine == p4.line) = true) (dx : (x == ("__debug__" : Str)) = false) (dm : (mn == ("__debug__" : Str)) = false) (dm2 : (mn == ("__classdict__" : Str)) = false) (hbase : attributeBase (.Name x p2) "count" env (eval (.Name x p2) env) = eval (.Name x p2) env) :
    wpAny (model prog w) A (eval (.Tuple [.BinOp (.Name mn p1) .Sub (.Call (.Attribute (.Name x p2) "count" ap) [.Constant (.int 0) k0 p3] [] p4) p5, .Name x p6] kk p7) env) (KeyAt (.tuple [.int (M - (ns.countP fun n => decide (n = 0) : Nat)), .tuple (ns.map PyData.int)]) s) NoE s := by
  refine PyProof.Rows.Tuple_ ?_
  show wpAny _ _ (spliced ((false, eval (.BinOp (.Name mn p1) .Sub (.Call (.Attribute (.Name x p2) "count" ap) [.Constant (.int 0) k0 p3] [] p4) p5) env) :: (false, eval (.Name x p6) env) :: [])) _ _ s
  refine Calls.spliced_cons (wpAny_BinOp (wpAny_Name (wpAny_loadName_free hk hmn hcl hcv ?_ dm2) dm))
  refine wpAny_Call_method_late hbase rfl hline rfl (ld_loc hk hx hn hm ?_ dx)
  refine ⟨"tuple", "tuple.count", F.plainAttrs_tuple, F.slot_tuple_count, F.type_tuple_count, ht.typeIs, fun b e => by cases e; exact hd, ?_⟩
  refine Calls.callWith_builtin rfl (Calls.evalArgs_plain ?_)
  show wpAny _ _ (spliced ((false, eval (.Constant (.int 0) k0 p3) env) :: [])) _ _ s
  refine Calls.spliced_cons (wpAny_Constant_int (Calls.spliced_nil ?_))
  have dp : PyData.depthAll (ns.map PyData.int) ≤ 0 := by
    clear vs
    induction ns with
    | nil => exact Nat.le_refl _
    | cons n ns ih => rw [List.map_cons, PyData.depthAll]; exact Nat.max_le.mpr ⟨Nat.le_refl _, ih⟩
  refine SeqAt.count_tuple_data (xs := ns.map PyData.int) (as := []) (d := .int 0) (bs := []) (ht.at fun o e => e) (by simpa using reads_ints vs) (.int 0 _) (ints_plain ns) rfl (by have : min (PyData.depthAll (ns.map PyData.int)) (PyData.int 0).depth ≤ 0 := Nat.le_trans (Nat.min_le_left _ _) dp; omega) ?_
  refine PyProof.Rows.sub_int ?_
  refine Calls.spliced_cons (ld_loc (s := { s with toks := _ }) hk hx hn hm (Calls.spliced_nil ?_) dx)
  rw [countP_zero]
  exact wpAny_newTuple ⟨_, _, rfl, fun b o e => Heap.get?_push_of_some _ e, reads_pair ht vs⟩ (by simp [sizeLine_eq])
end
end Cal
set_option Elab.async false
set_option linter.all false
set_option maxRecDepth 100000
set_option maxHeartbeats 4000000
namespace Cal
open PySem PySem.Spec PyProof.Rows L2
open LamX (TabB TabS Tabs CodeO among_app inv_table)
/-! ### a lambda is made: all but its maker's table stands -/
abbrev lamQ (X : Cx) : Str := X.env.qual ++ "<lambda>"
abbrev lamO (X : Cx) (params : Arguments) (body : Expr) (scope : Scope) (pm : Value) (c' : Addr) (ctv : Value) : Obj := PySem.W.kla_obj "<lambda>" (lamQ X) params body scope (cloFrom X.env.cells scope.names []) pm c' ctv
section
variable {X : Cx} {pins : List (Addr × Obj)} {σ : L2.St} {H : Hp} {s : Shared} {co P : Addr} {params : Arguments} {body : Expr} {scope : Scope} {pos : Pos} {E : Value → Shared → Prop} {Q : Value → Shared → Prop}
theorem lam_mk (I : Inv X pins σ H s) (B : TabB X.base X.mg co P) (hco : X.env.code = .ref co) (hT : TabS H P (lamQ X)) (hdef : defaultsOf params X.env = ([], [])) (hfree : ∀ y ∈ scope.names, y.2 = .free → ∃ c, X.env.cells.lookup y.1 = some c)
    (k : ∀ (f c' : Addr) (pm ctv : Value) (H1 : Hp) (s' : Shared), Inv X pins σ H1 s' → (∀ b o, H b = some o → b ≠ P → H1 b = some o) → (∀ b, H b = none → H1 b ≠ none → s.heap.get? b = none) → TabS H1 P (lamQ X) → s'.heap.get? f = some (lamO X params body scope pm c' ctv) → H1 c' = some (CodeO c' (lamQ X)) → Q (.ref f) s') :
    wpAny (model X.prog X.w) X.A (eval (.Lambda params body scope pos) X.env) Q E s := by
  obtain ⟨tb, hP, tr, am⟩ := hT
  have bP : s.heap.BuiltinsAt X.mg P := B.bm.keeps I.bk
  have oP : s.heap.get? P = some { cls := .none, data := .fields tb } := I.hok P _ hP
  refine PySem.W.kla_eval hdef ?_
  cases hc : codeAmong pos tb.toList with
  | some cv =>
    obtain ⟨c', rfl, hk⟩ := am pos cv hc
    refine PySem.W.kla_makeFunctionHit (mg := X.mg) (c := co) (P := P) (ps := tb) (closure_ok hfree) I.ok.glob (I.mod.glob.keeps I.bk) hco (B.code.keeps I.bk) oP tr hc bP fun ctv h' tk kp sz => ?_
    exact k h'.objs.size c' ((X.mg "__name__").getD .none) ctv H _ (I.kept (t' := tk) fun b o e => Heap.get?_push_of_some _ (kp b o e)) (fun b o e _ => e) (fun b e n => absurd e n) ⟨tb, hP, tr, am⟩ (Heap.get?_push_size _ rfl) hk
  | none =>
    refine PySem.W.kla_makeFunction (mg := X.mg) (c := co) (P := P) (ps := tb) (closure_ok hfree) I.ok.glob (I.mod.glob.keeps I.bk) hco (B.code.keeps I.bk) oP tr hc B.gP bP fun c' ctv h' tk kp ge lt rec tb' => ?_
    obtain ⟨c2, oc, vs, t, e2, g1, g2, g3⟩ := rec
    cases e2
    have nC : H c' = none := I.hok.fresh ge
    have same : ∀ b o, H b = some o → b ≠ P → upd (upd H P (.tbl (tb ++ #[rawInt pos.line, rawInt pos.col, .ref c']))) c' (CodeO c' (lamQ X)) b = some o := fun b o e n => by rw [upd_ne (ne_of_none e nC), upd_ne n]; exact e
    have eL : (tb ++ #[rawInt pos.line, rawInt pos.col, .ref c']).toList = tb.toList ++ [rawInt pos.line, rawInt pos.col, .ref c'] := by simp
    refine k h'.objs.size c' ((X.mg "__name__").getD .none) ctv (upd (upd H P (.tbl (tb ++ #[rawInt pos.line, rawInt pos.col, .ref c']))) c' (CodeO c' (lamQ X))) _ (inv_table (more := #[rawInt pos.line, rawInt pos.col, .ref c']) (t' := tk) (h' := h'.push (lamO X params body scope ((X.mg "__name__").getD .none) c' ctv)) I hP (fun b o n e => Heap.get?_push_of_some _ (kp b o n e)) (Heap.get?_push_of_some _ tb') ge ⟨oc, vs, t, Heap.get?_push_of_some _ g1, g2, g3⟩) same (fun b e n => ?_) ⟨_, by rw [upd_ne (ne_of_none hP nC), upd_same], by rw [eL]; exact PySem.TriplesOk_snoc _ _ _ _ tr, fun p' cv hcv => ?_⟩ (Heap.get?_push_size _ rfl) upd_same
    · by_cases z : b = c'
      · subst z; exact Heap.get?_none_of_le ge
      · rw [upd_ne z] at n
        by_cases y : b = P
        · subst y; rw [hP] at e; cases e
        · rw [upd_ne y] at n; exact absurd e n
    · rw [eL] at hcv
      rcases among_app _ tr hcv with z | z
      · obtain ⟨c0, a1, a2⟩ := am p' cv z
        refine ⟨c0, a1, same _ _ a2 fun y => ?_⟩
        rw [y, hP] at a2
        exact LamX.codeO_ne tb (Option.some.inj a2).symm
      · exact ⟨c', z, upd_same⟩
end
/-- from before to behind the making -/
theorem gr_lam {c : Cfg} {E : Addr → Prop} {F H H1 : Hp} {P : Addr} {q : Str} (g : Good c E F H) (hm : (P, q) ∈ c.T) (hu : ∀ p ∈ c.T, p.1 = P → p.2 = q) (k : ∀ b o, H b = some o → b ≠ P → H1 b = some o) (t : TabS H1 P q) : Gr c E F H F H1 := by
  have oP : F P = none := g.out _ hm
  obtain ⟨tb, hP, _⟩ := g.tab _ hm
  refine ⟨⟨fun b o e => k b o (g.ext b o e) fun z => (by rw [z, oP] at e; cases e), fun p hp => ?_, g.out, fun b hb => ?_⟩, Ext.refl F, fun p h1 h2 => absurd h1 h2, fun b o e ht _ => k b o e fun z => ht ⟨_, hm, z.symm⟩⟩
  · by_cases z : p.1 = P
    · rw [hu p hp z, z]; exact t
    · obtain ⟨ps, a1, a2, a3⟩ := g.tab p hp
      refine ⟨ps, k _ _ a1 z, a2, fun pos cv hc => ?_⟩
      obtain ⟨cc, b1, b2⟩ := a3 pos cv hc
      refine ⟨cc, b1, k _ _ b2 fun y => ?_⟩
      rw [y, hP] at b2
      exact LamX.codeO_ne tb (Option.some.inj b2).symm
  · obtain ⟨a1, ns, a2⟩ := g.dr b hb
    refine ⟨a1, ns, k _ _ a2 fun y => ?_⟩
    rw [y, hP] at a2; cases a2
end Cal
set_option Elab.async false
set_option linter.all false
set_option maxRecDepth 100000
set_option maxHeartbeats 4000000
namespace Cal
open PySem PySem.Spec PyProof.Rows L2
open LamX (TabB TabS Tabs CodeO)
theorem each_to {c : Cfg} {F : Hp} {A : Type} {enc : A → Dat} : ∀ {ls : List A} {ts : List V} {us : List Value}, IsL c F (ls.map enc) ts → Vals ts us → PySem.W.EachIs (fun u l => ∃ v, RelV v u ∧ Is c F (enc l) v) us ls
  | [], ts, us, i, r => by
    obtain rfl := IsL.nil_iff.mp i
    cases r
    exact .nil
  | l :: ls, ts, us, i, r => by
    obtain ⟨v, w, rfl, a1, a2⟩ := IsL.cons_iff.mp i
    cases r with
    | cons r1 r2 => exact .cons ⟨v, r1, a1⟩ (each_to a2 r2)
theorem each_from {c : Cfg} {F : Hp} {A : Type} {enc : A → Dat} : ∀ {ls : List A} {us : List Value}, PySem.W.EachIs (fun u l => ∃ v, RelV v u ∧ Is c F (enc l) v) us ls → ∃ ts, Vals ts us ∧ IsL c F (ls.map enc) ts
  | [], _, .nil => ⟨[], .nil, IsL.nil⟩
  | l :: ls, _, .cons ⟨v, r, i⟩ t => by
    obtain ⟨ts, a, b⟩ := each_from t
    exact ⟨v :: ts, .cons r a, IsL.cons i b⟩
section
variable {j : J} {G : List Slot} {e : Expr} {pos p lpos kpos : Pos} {params : Arguments} {body : Expr} {lsc : Scope} {q0 : Str} {co P : Addr}
/-- sorted(e, key=lambda ..) -/
theorem le_sortLam {ls : List (List Int)} {enc : List Int → Dat} {key : List Int → PyData} (hlam : j.lam = some (q0, .ref co)) (TB : TabB j.c.base j.c.mg co P) (hmT : (P, q0 ++ "<lambda>") ∈ j.c.T) (huT : ∀ p ∈ j.c.T, p.1 = P → p.2 = q0 ++ "<lambda>") (hm : j.c.mg "sorted" = none) (ha : RE j G e (.lst (ls.map enc)))
    (hAl : PySem.W.AllAlike (ls.map key)) (hS : PySem.W.Sortable (ls.map key)) (hdep : ∀ l ∈ ls, (key l).depth ≤ 60) (hz : ls.length ≤ 1000000)
    (turn : ∀ X, At j X → ∀ pins σ F H s, Inv X pins σ H s → EnvR j.c j.E F H σ G → ∀ f c' pm ctv, s.heap.get? f = some (lamO X params body lsc pm c' ctv) → s.heap.CodeRec (.ref c') (lamQ X) → ∀ h tk, (∀ b o, s.heap.get? b = some o → h.get? b = some o) → ∀ u v l, l ∈ ls → Is j.c F (enc l) u → RelV u v → wpAny (model X.prog X.w) X.A.in1.in1 (call (.ref f) [v]) (PySem.W.KeyPure (key l) { s with heap := h, toks := tk }) (fun _ _ => False) { s with heap := h, toks := tk })
    (hdef : ∀ env : Env, defaultsOf params env = ([], []) := by intro _; rfl) (hfree : ∀ y ∈ lsc.names, y.2 = .free → j.sc.names.lookup y.1 = some .cell ∨ j.sc.names.lookup y.1 = some .free) (hg : GlN j "sorted" := by rfl) (hs : Stars e := by intro _; rfl) (he : ∀ env : Env, backTo pos (starEach [e] env) = (false, eval e env) :: backTo pos (starEach [] env) := by intro _; rfl) (hpl : ∀ env : Env, (backTo pos (starEach [e] env)).any (·.1) = false := by intro _; rfl) :
    LE j G (.Call (.Name "sorted" p) [e] [⟨some "key", .Lambda params body lsc lpos, kpos⟩] pos) ((ls.mergeSort (PySem.W.dataLe false key)).map enc) := by
  intro X hX σ F H q hE hq
  unfold WE
  intro pins s I
  obtain ⟨l1, l2⟩ := hX.lam _ hlam
  have l1 : X.env.qual = q0 := l1
  have l2 : X.env.code = .ref co := l2
  have eq : lamQ X = q0 ++ "<lambda>" := by unfold lamQ; rw [l1]
  have hfr : ∀ y ∈ lsc.names, y.2 = .free → ∃ c, X.env.cells.lookup y.1 = some c := fun y hy z => I.ok.has _ (by
    rcases hfree y hy z with k | k
    · exact .inl (by unfold Env.kindOf; rw [hX.sc]; exact k)
    · exact .inr (by unfold Env.kindOf; rw [hX.sc]; exact k))
  refine wpAny_Call_Name_kw (ld_blt I (hX.gl hg) (by rw [hX.mg]; exact hm) PyProof.Rows.boot_sorted ?_)
  refine PyProof.Rows.callWith_kw (thn ((pa_cons we pa_nil (hs _)).run pos pins s σ H (fun vs H1 => ∃ v F1, vs = [v] ∧ At0 j.c j.E F1 H1 (.lst (ls.map enc)) v ∧ Gr j.c j.E F H F1 H1) I (ha X hX σ F H _ hE fun v F1 H1 i g => ⟨v, F1, rfl, i, g⟩)) fun us s1 ⟨vs, H1, I1, r1, v, F1, e1, i1, g1⟩ => ?_) (he _) (hpl _) rfl rfl
  subst e1
  obtain ⟨t, ts, rfl, ⟨h2, h2E⟩, h3⟩ := at0_lst i1
  obtain rfl := Vals.ref1 r1
  show wpAny _ _ (evalAll ((do let v ← eval (.Lambda params body lsc lpos) X.env; standAt pos; pure v) :: [])) _ _ _
  refine wpAny_evalAll_cons (wpAny_bind (lam_mk I1 (by rw [hX.base, hX.mg]; exact TB) l2 (by rw [eq]; exact g1.good.tab _ hmT) (hdef _) hfr fun f c' pm ctv H2 s2 I2 kp nw t2 hf hc => wpAny_bind (wpAny_standAt (wpAny_pure (wpAny_evalAll_nil ?_)))))
  rw [eq] at t2
  have gL := gr_lam g1.good hmT huT kp t2
  have g2 := g1.trans gL
  have hE2 : EnvR j.c j.E F1 H2 σ G := (hE.gr g1).gr gL
  have h2' : H2 t = some (.lst ts) := kp t _ h2 fun z => by
    obtain ⟨tb, hP, _⟩ := g1.good.tab _ hmT
    rw [z, show H1 P = _ from hP] at h2; cases h2
  have hcr : s2.heap.CodeRec (.ref c') (lamQ X) := by
    obtain ⟨⟨oc, vs, tk, a1, a2, a3⟩, _⟩ := I2.hok c' _ hc
    exact ⟨c', oc, vs, tk, rfl, a1, a2, a3⟩
  obtain ⟨hz', its, n, r, hl, el⟩ := I2.lstM h2'
  show wpAny _ _ (call (.builtin "sorted") [.ref t] [(Str.ofString "key", .ref f)]) _ _ s2
  refine PySem.W.sorted_key_data (β := List Int) (R := fun u l => ∃ v, RelV v u ∧ Is j.c F1 (enc l) v) (b := false) key ⟨_, el, rfl, n, rfl⟩ (each_to h3 r) hAl hS (Nat.le_trans hz (by decide)) (fun l hl => ?_) (PyProof.Rows.ksk_s1 _ _) (fun _ => PyProof.Rows.ksk_l1 _ _) (fun a => PyProof.Rows.ksk_t1 _ _) (fun v l ⟨u, ru, iu⟩ hl h tk kk => turn X hX pins σ F1 H2 s2 I2 hE2 f c' pm ctv hf hcr h tk kk u v l hl iu ru) fun out c h' tk kk _ ho hlo eo => ?_
  · have := hX.room.units
    have := hdep l hl
    omega
  · obtain ⟨ws, w1, w2⟩ := each_from eo
    have hn : s2.heap.objs.size ≤ s2.heap.objs.size + 1 := Nat.le_succ _
    have hr := I2.hok.fresh hn
    refine ⟨.ref (s2.heap.objs.size + 1), _, I2.laid (t' := tk) (o := .lst ws) kk hn ⟨?_, out, c, w1, ho⟩, rfl, hq _ ws F1 _ (g2.back hr) (g2.good.back hr) upd_same w2 (g2.trans (Gr.made g2.good hr))⟩
    rw [w1.length, hlo]; exact Nat.le_trans hz (by decide)
end
end Cal
set_option Elab.async false
set_option linter.all false
set_option maxRecDepth 100000
set_option maxHeartbeats 4000000
namespace Cal
open PySem PySem.Spec PyProof.Rows L2
def toI (l : Lot) : List Int := l.map fun n : Nat => (n : Int)
def keyI (l : List Int) : PyData := .tuple [.int ((l.filter fun n => decide (0 < n)).length : Nat), .tuple (l.map PyData.int)]
theorem keyI_toI (l : Lot) : keyI (toI l) = keyL l := by
  unfold keyI keyL toI
  have e : ((l.map fun n : Nat => (n : Int)).filter fun n => decide (0 < n)).length = (l.filter fun i => decide (0 < i)).length := by
    rw [List.filter_map, List.length_map]
    congr 1
    refine List.filter_congr fun n _ => ?_
    show decide (0 < (n : Int)) = decide (0 < n)
    by_cases z : 0 < n
    · rw [decide_eq_true z, decide_eq_true (by omega)]
    · rw [decide_eq_false z, decide_eq_false (by omega)]
  rw [e, List.map_map]; rfl
theorem alikeAll_ints : ∀ xs ys : List Int, PySem.W.alikeAll (xs.map PyData.int) (ys.map PyData.int) = true
  | [], _ => by rw [List.map_nil, PySem.W.alikeAll]
  | _ :: _, [] => by rw [List.map_nil, List.map_cons, PySem.W.alikeAll]
  | x :: xs, y :: ys => by
    rw [List.map_cons, List.map_cons, PySem.W.alikeAll, alikeAll_ints xs ys, PySem.W.alike]; rfl
theorem keyI_alike (a b : List Int) : PySem.W.alike (keyI a) (keyI b) = true := by
  unfold keyI
  rw [PySem.W.alike, PySem.W.alikeAll, PySem.W.alikeAll, PySem.W.alike, PySem.W.alike, alikeAll_ints, PySem.W.alikeAll]; rfl
theorem eqvAll_ints : ∀ xs ys : List Int, PyData.eqvAll (xs.map PyData.int) (ys.map PyData.int) = true → xs = ys
  | [], [], _ => rfl
  | [], y :: ys, h => by rw [List.map_nil, List.map_cons, PyData.eqvAll] at h; cases h; all_goals simp
  | x :: xs, [], h => by rw [List.map_nil, List.map_cons, PyData.eqvAll] at h; cases h; all_goals simp
  | x :: xs, y :: ys, h => by
    rw [List.map_cons, List.map_cons, eqv_cons, Bool.and_eq_true] at h
    obtain ⟨h1, h2⟩ := h
    rw [PyData.eqv, beq_iff_eq] at h1
    rw [h1, eqvAll_ints xs ys h2]
theorem keyI_inj {a b : List Int} (h : PyData.eqv (keyI a) (keyI b) = true) : a = b := by
  unfold keyI at h
  rw [eqv_tup, eqv_cons, eqv_cons, Bool.and_eq_true, Bool.and_eq_true] at h
  have h2 := h.2.1
  rw [eqv_tup] at h2
  exact eqvAll_ints a b h2
theorem keyI_depth (a : List Int) : (keyI a).depth ≤ 60 := by
  have d0 : ∀ l : List Int, PyData.depthAll (l.map PyData.int) ≤ 0 := fun l => by
    induction l with
    | nil => exact Nat.le_refl _
    | cons n l ih => rw [List.map_cons, PyData.depthAll]; exact Nat.max_le.mpr ⟨Nat.le_refl _, ih⟩
  show max (0 : Nat) (max (PyData.depthAll (a.map PyData.int) + 1) 0) + 1 ≤ 60
  have := d0 a
  omega
theorem keyI_allAlike (ls : List (List Int)) : PySem.W.AllAlike (ls.map keyI) := fun d hd d' hd' => by
  obtain ⟨a, _, rfl⟩ := List.mem_map.mp hd
  obtain ⟨b, _, rfl⟩ := List.mem_map.mp hd'
  exact keyI_alike a b
theorem keyI_sortable (ls : List (List Int)) : PySem.W.Sortable (ls.map keyI) := .inl fun d hd => by
  obtain ⟨a, _, rfl⟩ := List.mem_map.mp hd
  exact ⟨_, _, rfl⟩
theorem leI_pair (as : List (List Int)) : (as.mergeSort (PySem.W.dataLe false keyI)).Pairwise (fun a b => PySem.W.dataLe false keyI a b = true) := by
  unfold PySem.W.dataLe
  exact PySem.W.sort_pairwise (PySem.W.sortLe_total _ _ _) as
theorem leI_anti {a b : List Int} (h1 : PySem.W.dataLe false keyI a b = true) (h2 : PySem.W.dataLe false keyI b a = true) : a = b := by
  rw [PySem.W.dataLe_eq] at h1 h2
  have h1 : (!PySem.W.dataLt (keyI b) (keyI a)) = true := h1
  have h2 : (!PySem.W.dataLt (keyI a) (keyI b)) = true := h2
  rw [Bool.not_eq_true'] at h1 h2
  exact keyI_inj (data_tri (keyI_alike a b) h2 h1)
theorem sortI_perm {as bs : List (List Int)} (h : as.Perm bs) : as.mergeSort (PySem.W.dataLe false keyI) = bs.mergeSort (PySem.W.dataLe false keyI) :=
  List.Perm.eq_of_pairwise (le := fun a b => PySem.W.dataLe false keyI a b = true) (fun a b _ _ h1 h2 => leI_anti h1 h2) (leI_pair as) (leI_pair bs) ((List.mergeSort_perm as _).trans (h.trans (List.mergeSort_perm bs _).symm))
/-- the lots as whole numbers, sorted -/
theorem sortI_lots (n : Nat) : ((rawLots n).map toI).mergeSort (PySem.W.dataLe false keyI) = (lotsM n).map toI := by
  unfold lotsM
  refine (List.map_mergeSort (r := PySem.W.dataLe false keyL) (s := PySem.W.dataLe false keyI) (f := toI) fun a _ b _ => ?_).symm
  rw [PySem.W.dataLe_eq, PySem.W.dataLe_eq]
  show (!PySem.W.dataLt (keyL b) (keyL a)) = (!PySem.W.dataLt (keyI (toI b)) (keyI (toI a)))
  rw [keyI_toI, keyI_toI]
def lawRaw : Nat → List Lot
  | 0 => [[]]
  | n + 1 => (lawRaw n).map (· ++ [0]) ++ (lawRaw n).map (· ++ [1]) ++ (lawRaw n).map (· ++ [2])
theorem perm_three {A : Type} (f g h : A → A) : ∀ as : List A, (as.map f ++ as.map g ++ as.map h).Perm (as.flatMap fun a => [f a, g a, h a])
  | [] => List.Perm.refl _
  | a :: as => by
    rw [List.map_cons, List.map_cons, List.map_cons, List.flatMap_cons]
    have ih := perm_three f g h as
    refine List.Perm.trans ?_ (List.Perm.append_left [f a, g a, h a] ih)
    show (f a :: (as.map f) ++ (g a :: as.map g) ++ (h a :: as.map h)).Perm (f a :: g a :: h a :: (as.map f ++ as.map g ++ as.map h))
    refine List.Perm.cons _ ?_
    refine (List.perm_middle (l₁ := as.map f ++ g a :: as.map g)).trans ?_
    refine List.Perm.trans (List.Perm.cons _ (List.Perm.append_right _ (List.perm_middle (l₁ := as.map f)))) ?_
    exact List.Perm.swap _ _ _
theorem lawRaw_perm : ∀ n : Nat, (lawRaw n).Perm (rawLots n)
  | 0 => List.Perm.refl _
  | n + 1 => (perm_three _ _ _ (lawRaw n)).trans (List.Perm.flatMap_right _ (lawRaw_perm n))
theorem rawLots_pow : ∀ n : Nat, (rawLots n).length = 3 ^ n
  | 0 => rfl
  | n + 1 => by
    show ((rawLots n).flatMap _).length = _
    have key : ∀ l : List Lot, (l.flatMap fun l => [l ++ [0], l ++ [1], l ++ [2]]).length = 3 * l.length := fun l => by
      induction l with
      | nil => rfl
      | cons a l ih => rw [List.flatMap_cons, List.length_append, ih]; show 3 + 3 * l.length = 3 * (l.length + 1); omega
    rw [key, rawLots_pow n, Nat.pow_succ]; omega
theorem rawLots_flat (n : Nat) (f : Lot → Dat) : ((rawLots n).map fun l => [0, 1, 2].map fun i : Nat => f (l ++ [i])).flatten = (rawLots (n + 1)).map f := by
  show _ = ((rawLots n).flatMap fun l => [l ++ [0], l ++ [1], l ++ [2]]).map f
  induction rawLots n with
  | nil => rfl
  | cons a l ih =>
    rw [List.map_cons, List.flatten_cons, ih, List.flatMap_cons, List.map_append]; rfl
def encI (l : List Int) : Dat := .tup (l.map Dat.int)
def encF (l : List Int) : Dat := .tuf (l.map Dat.int)
theorem encI_toI (l : Lot) : encI (toI l) = eLot l := by
  unfold encI toI eLot
  rw [List.map_map]; rfl
end Cal
set_option Elab.async false
set_option linter.all false
set_option maxRecDepth 100000
set_option maxHeartbeats 4000000
namespace Cal
open PySem PySem.Spec PyProof.Rows L2
open LamX (TabB TabS Tabs CodeO)
/-! ### a def that makes a lambda -/
structure DefT (c : Cfg) (f : Str) (st : Stmt) (N ps : List Str) : Prop where
  ex : ∃ (x q : Str) (t co P : Addr) (oc : Value) (od : Option Addr) (kV doc pm : Value) (an : Option Addr) (ct : Value) (osl : Array (Option Value)),
    c.K.lookup t = some ⟨oc, od, .func (PySem.W.fnOf x q (defArgs st) (defBody st) (defScope st) .none kV doc pm an (.ref co) ct), osl⟩ ∧ PySem.W.codeIn c.K (.ref co) q = true ∧ PySem.W.keepIn c.K (.ref t) = true ∧ c.mg f = some (.ref t) ∧ Binds c.K (PySem.W.fnOf x q (defArgs st) (defBody st) (defScope st) .none kV doc pm an (.ref co) ct) ps [] ∧
    TabB c.base c.mg co P ∧ (P, q ++ ".<locals>." ++ "<lambda>") ∈ c.T ∧ ∀ p ∈ c.T, p.1 = P → p.2 = q ++ ".<locals>." ++ "<lambda>"
  sc : FnScope N ps (defScope st)
theorem has_ofT {A : Type} {c : Cfg} {st : Stmt} {enc : A → List Dat} {dom : A → Prop} {g : A → Dat} {k : Nat} {f : Str} {N ps : List Str} (d : DefT c f st N ps) (hl : ∀ a, (enc a).length = ps.length)
    (hb : ∀ (q : Str) (co P : Addr), TabB c.base c.mg co P → (P, q ++ "<lambda>") ∈ c.T → (∀ p ∈ c.T, p.1 = P → p.2 = q ++ "<lambda>") → ∀ a, dom a → DS { c := c, N := N, sc := defScope st, k := k, lam := some (q, .ref co) } (startG N (enc a)) (defBody st) { nx := fun _ => g a = .non, rt := fun r => r = g a }) : Has c (k + 1) f (spP c enc dom g) := by
  obtain ⟨x, q, t, co, P, oc, od, kV, doc, pm, an, ct, osl, lk, hcd, kp, hm, hB, TB, m1, m2⟩ := d.ex
  refine ⟨t, hm, kp, ?_⟩
  have ok : FnOk c.P c.w c.K c.mg c.base CX0 (k + 1) t (PySem.W.fnOf x q (defArgs st) (defBody st) (defScope st) .none kV doc pm an (.ref co) ct) ps (spP c enc dom g) := fn_of lk hcd d.sc (fun vs H Q E ⟨a, F, _, _, h3, _⟩ => by rw [← h3.len, hl]) fun A outer s H vs Q E hr ⟨a, F, h1, h2, h3, h4⟩ => by
    have hA := at_body (c := c) (H := H) (qual := q) (t := t) (cdv := .ref co) (outer := outer) (Ex := E) (CX := CX0) d.sc k no hr
    refine ⟨_, (wss (X := (cxOf CX0 c.P c.w c.K c.mg c.base N q (defScope st) t (.ref co) A outer s H E).nox)).nox, hb (q ++ ".<locals>.") co P TB m1 m2 a h1 _ ⟨hA.prog, hA.w, hA.K, hA.mg, hA.base, hA.N, hA.sc, hA.calm, hA.room, hA.nd, hA.fn, fun p hp => by cases hp; exact ⟨rfl, rfl⟩, hA.xe⟩ (L2.start N vs) F H F F H _ ⟨start_env h2 h3, Gr.refl h2, fun i s p hs os => (startG_own hs os).elim, Ext.refl _⟩ ⟨fun σ F' H' G hn r => ?_, fun v d F' H' e i g => ?_, fun p vs xs F' H' z => z.elim⟩⟩
    · exact h4 .non F' H' (by rw [hn]; unfold Is; rfl) r.gr
    · subst e
      exact h4 v F' H' i g
  have := ok.raw hB (dvs := []) .nil
  exact this.imp fun vs H Q E h => by rw [List.append_nil]; exact h
theorem key_up {k : PyData} {s s2 : Shared} {h h1 : Heap} {tk t1 : Nat} {v : Value} (kk : ∀ b o, h.get? b = some o → h1.get? b = some o) (q : KeyAt k { s with heap := h1, toks := t1 } v s2) : PySem.W.KeyPure k { s with heap := h, toks := tk } v s2 := by
  obtain ⟨h', tk', e, a, b⟩ := q
  exact ⟨h', tk', e, fun c o z => a c o (kk c o z), b⟩
theorem code_up {h h1 : Heap} {c' : Addr} {q : Str} (kk : ∀ b o, h.get? b = some o → h1.get? b = some o) (r : h.CodeRec (.ref c') q) : h1.CodeRec (.ref c') q := by
  obtain ⟨c, oc, vs, t, e1, e2, e3, e4⟩ := r
  exact ⟨c, oc, vs, t, e1, kk _ _ e2, e3, e4⟩
theorem mem_one {i : Nat} {d : Dat} {vs : List Nat} (h : i ∈ vs) : ∀ k ∈ ([(i, d)] : List (Nat × Dat)).map (·.1), k ∈ vs := fun k hk => by
  rw [List.map_singleton, List.mem_singleton] at hk
  rw [hk]; exact h
theorem no_free {ns : List (Str × NameKind)} {Q : Str × NameKind → Prop} (h : (ns.all fun y => decide (y.2 ≠ .free)) = true) : ∀ y ∈ ns, y.2 = .free → Q y := fun y hy e => absurd e (of_decide_eq_true (List.all_eq_true.mp h y hy))
section
variable {c : Cfg} {CP CH CA CD : Addr} (B : Glb c CP CH CA CD)
include B
theorem ok_lots_of (T : DefT c "lots_of" st_lots_of N_lots_of ps_lots_of) : Has c 6 "lots_of" (spP c (fun a : Plan => [eProg CP a]) (fun a => OkPlan a ∧ (a.1.length = 2 ∨ a.1.length = 3)) fun a => .lst ((lotsM a.1.length).map eLot)) :=
  has_ofT T (fun _ => rfl) fun q co P TB m1 m2 p ⟨h0, h1⟩ => by
    have h1 : p.1.length = 2 ∨ p.1.length = 3 := h1
    refine ds_cons (d1_own 1 (xs := [eLot []]) (le_lst (da_cons (de_tup da_nil (ll rfl)) da_nil) (ll rfl)) rfl ?_)
    refine ds_cons (d1_for (as := rgN 0 p.1.length) (enc := eN) (fun rem G => ∃ (done : List Nat) (G2 : Slot), rgN 0 p.1.length = done ++ rem ∧ G = [.dat (eProg CP p), .own ((rawLots done.length).map eLot), G2, .no, .no]) ((it_rng1 (de_plen B (dv 0 rfl) (by omega) (ll rfl)) B.b_range (by omega)).is (rgD_nat 0 _)) ⟨[], _, rfl, rfl⟩ (fun a rem G ⟨done, G2, e1, e2⟩ => ?_) (fun G ⟨done, G2, e1, e2⟩ => ?_))
    · subst e2
      refine ⟨_, dn 2, ds_freeze 1 rfl ?_⟩
      have hd : done.length < 3 := by
        have := congrArg List.length e1
        rw [rgN_len, List.length_append, List.length_cons] at this
        omega
      refine ds_cons (d1_comp2 1 [("lot", 3), ("item", 4)] [4] eLot (rawLots done.length) (fun _ b => eN b) (fun _ => [0, 1, 2]) (fun l i => eLot (l ++ [i])) (it_list (dv 1 rfl)) ?_ (fun l hl => ⟨_, dn 3, mem_one (by decide), (it_tup (de_tup (da_cons de_int (da_cons de_int (da_cons de_int da_nil))) (ll rfl))).is rfl, fun b hb => ⟨_, dn 4, mem_one (by decide), (de_tup (star_tup (xs := l.map eN) (ds := [eN b]) (dv 3 rfl) (da_cons (dv 4 rfl) da_nil)) (by rw [List.length_append, List.length_map, (rawLots_ok done.length hl).1]; show _ + 1 ≤ _; omega)).is (by unfold eLot; rw [List.map_append]; rfl)⟩⟩) rfl rfl (ds_nil ⟨_, Wk.refl, done ++ [a], .dat (eN a), by rw [e1, List.append_assoc]; rfl, ?_⟩) (fun env he => sw_true (by rw [he]; rfl) (by rw [he]; rfl) rfl rfl) (by decide) (by rfl))
      · rw [rawLots_flat, List.length_map, rawLots_pow]
        have : done.length = 0 ∨ done.length = 1 ∨ done.length = 2 := by omega
        rcases this with z | z | z <;> rw [z] <;> decide
      · rw [rawLots_flat, List.length_append]; rfl
    · subst e2
      rw [List.append_nil] at e1
      have hdl : done.length = p.1.length := by rw [← e1, rgN_len]; omega
      rw [hdl]
      have eE : (rawLots p.1.length).map eLot = ((rawLots p.1.length).map toI).map encI := by
        rw [List.map_map]
        exact List.map_congr_left fun l _ => (encI_toI l).symm
      rw [eE]
      refine ds_cons (d1_ret (LE.de (le_sortLam (key := keyI) rfl TB m1 m2 B.b_sorted (ro 1 rfl) (keyI_allAlike _) (keyI_sortable _) (fun l _ => keyI_depth l) ?_ (fun X hX pins σ F H s I hE f c' pm ctv hf hcr h tk kk u v l hl iu ru => ?_) (fun _ => rfl) (no_free rfl))) ?_)
      · rw [List.length_map]
        exact Nat.le_trans (rawLots_len _ h1) (ll rfl)
      · obtain ⟨a, vs, rfl, i1, i2⟩ := is_tup.mp iu
        have e5 := isL_int i2
        subst e5
        obtain ⟨its, rv, ht, hz⟩ := I.tuple (a := a) (xs := l.map V.int) (by rw [hX.K]; exact hE.good.ext.t i1)
        cases ru
        have ll3 : l.length ≤ 1000 := by
          obtain ⟨l0, hl0, rfl⟩ := List.mem_map.mp hl
          unfold toI
          rw [List.length_map, (rawLots_ok _ hl0).1]; omega
        obtain ⟨mb, g1, g2⟩ := I.mod.blt
        refine lam_one (x := "lot") (s := { s with heap := h, toks := tk }) hX.room.depth (kk _ _ hf) rfl rfl rfl (by decide) rfl (code_up kk hcr) (I.nolimit.keeps kk) rfl fun h1 tk1 m k1 ns hm => ?_
        have k2 : ∀ b o, s.heap.get? b = some o → h1.get? b = some o := fun b o e => k1 b o (kk b o e)
        refine wpAny_mono (key1_body (ns := l) (its := its) (a := a) (m := m) (mg := X.mg) (mb := mb) (s := { s with heap := h1, toks := tk1 }) (I.ok.hd hX.calm) rfl rfl rfl rfl rfl ns hm ((I.mod.glob.keeps I.bk).keeps k2) (by rw [hX.mg]; exact B.b_len) ((g1.keeps I.bk).keeps k2) ((g2 "len" (by decide)).trans boot_len) ((show s.heap.IsTuple a its.toArray from ht).at fun o e => k2 _ o e) rv ll3 rfl (by decide) (by decide) rfl (closure_ok (no_free rfl)) (by decide) (by decide)) (fun v s2 q => key_up k1 q) fun _ _ z => z
      · rw [sortI_lots, List.map_map]
        show Dat.lst _ = Dat.lst _
        congr 1
        exact List.map_congr_left fun l _ => encI_toI l
end
end Cal
set_option Elab.async false
set_option linter.all false
set_option maxRecDepth 100000
set_option maxHeartbeats 4000000
namespace Cal
open PySem PySem.Spec PyProof.Rows L2
open LamX (TabB TabS Tabs CodeO)
theorem DE.weak {j : J} {G : List Slot} {e : Expr} {d d' : Dat} (h : DE j G e d) (k : ∀ F v, Is j.c F d v → Is j.c F d' v) : DE j G e d' := fun X hX σ F H q hE hq => h X hX σ F H q hE fun v F' H' i g => hq v F' H' (k _ _ i) g
theorem isL_tuf {c : Cfg} {F : Hp} : ∀ {ls : List (List Int)} {vs : List V}, IsL c F (ls.map encF) vs → IsL c F (ls.map encI) vs
  | [], vs, h => h
  | l :: ls, vs, h => by
    obtain ⟨v, r, rfl, a, b⟩ := IsL.cons_iff.mp h
    exact IsL.cons (Is.tuf a) (isL_tuf b)
theorem is_lst_tuf {c : Cfg} {F : Hp} {ls : List (List Int)} {v : V} (h : Is c F (.lst (ls.map encF)) v) : Is c F (.lst (ls.map encI)) v := by
  obtain ⟨p, vs, rfl, a, b⟩ := is_lst.mp h
  exact is_lst.mpr ⟨p, vs, rfl, a, isL_tuf b⟩
theorem count_key {l : Lot} {n : Nat} (h : l.length = n) : (n : Int) - ((toI l).countP fun n => decide (n = 0) : Nat) = (((toI l).filter fun n => decide (0 < n)).length : Nat) := by
  subst h
  have key : ∀ l : Lot, ((toI l).countP fun n => decide (n = 0)) + ((toI l).filter fun n => decide (0 < n)).length = l.length := fun l => by
    induction l with
    | nil => rfl
    | cons a l ih =>
      show (List.countP (fun n => decide (n = 0)) ((a : Int) :: toI l)) + (List.filter (fun n => decide (0 < n)) ((a : Int) :: toI l)).length = l.length + 1
      by_cases z : a = 0
      · subst z
        rw [List.countP_cons_of_pos (by decide), List.filter_cons_of_neg (by decide)]
        omega
      · rw [List.countP_cons_of_neg (by simpa using z), List.filter_cons_of_pos (by simp; omega), List.length_cons]
        omega
  have := key l
  omega
section
variable {c : Cfg} {CP CH CA CD : Addr} (B : Glb c CP CH CA CD)
include B
theorem ok_law_lots (T : DefT c "_law_lots" st_law_lots N_law_lots ps_law_lots) : Has c 3 "_law_lots" (spP c (fun n : Nat => [eN n]) (fun n => n = 2 ∨ n = 3) fun n => .lst ((lotsM n).map eLot)) :=
  has_ofT T (fun _ => rfl) fun q co P TB m1 m2 n h1 => by
    have h1 : n = 2 ∨ n = 3 := h1
    refine ds_cons (d1_own 1 (xs := (lawRaw 0).map fun l => encF (toI l)) ((le_lst (da_cons (de_tupF da_nil (ll rfl)) da_nil) (ll rfl)).is rfl) rfl ?_)
    refine ds_cons (d1_for (as := rgN 0 n) (enc := eN) (fun rem G => ∃ (done : List Nat) (G2 : Slot), rgN 0 n = done ++ rem ∧ G = [.dat (eN n), .own ((lawRaw done.length).map fun l => encF (toI l)), G2, .no]) ((it_rng1 (dv 0 rfl) B.b_range (by omega)).is (rgD_nat 0 _)) ⟨[], _, rfl, rfl⟩ (fun a rem G ⟨done, G2, e1, e2⟩ => ?_) (fun G ⟨done, G2, e1, e2⟩ => ?_))
    · subst e2
      refine ⟨_, dn 2, ds_freeze 1 rfl ?_⟩
      have hd : done.length < 3 := by
        have := congrArg List.length e1
        rw [rgN_len, List.length_append, List.length_cons] at this
        omega
      have hw : (lawRaw done.length).length ≤ 9 := by
        rw [(lawRaw_perm _).length_eq, rawLots_pow]
        have : done.length = 0 ∨ done.length = 1 ∨ done.length = 2 := by omega
        rcases this with z | z | z <;> rw [z] <;> decide
      have h2 : ∀ l ∈ lawRaw done.length, l.length ≤ 3 := fun l hl => by
        rw [(rawLots_ok done.length ((lawRaw_perm _).mem_iff.mp hl)).1]; omega
      generalize hR : lawRaw done.length = rs at hw h2
      have et : ∀ (l : Lot) (i : Nat), Dat.tuf ((toI l).map Dat.int ++ [Dat.int (i : Int)]) = encF (toI (l ++ [i])) := fun l i => by
        unfold encF toI
        rw [List.map_append, List.map_append]; rfl
      refine ds_cons (d1_own 1 (xs := (rs.map (fun l => encF (toI (l ++ [0]))) ++ rs.map (fun l => encF (toI (l ++ [1])))) ++ rs.map (fun l => encF (toI (l ++ [2])))) (le_cat (le_cat (LE.re (le_map1 3 (fun l => encF (toI l)) rs (fun l => encF (toI (l ++ [0]))) (it_list (dv 1 rfl)) (by omega) (fun l hl => (de_catF (xs := (toI l).map Dat.int) (ys := [.int 0]) (dv 3 rfl) (de_tupF (da_cons de_int da_nil) (ll rfl)) (by simp) (by have := h2 l hl; unfold toI; rw [List.length_map, List.length_map]; show _ + 1 ≤ _; omega)).is (et l 0)))) (LE.re (le_map1 3 (fun l => encF (toI l)) rs (fun l => encF (toI (l ++ [1]))) (it_list (dv 1 rfl)) (by omega) (fun l hl => (de_catF (xs := (toI l).map Dat.int) (ys := [.int 1]) (dv 3 rfl) (de_tupF (da_cons de_int da_nil) (ll rfl)) (by simp) (by have := h2 l hl; unfold toI; rw [List.length_map, List.length_map]; show _ + 1 ≤ _; omega)).is (et l 1)))) (by rw [List.length_map, List.length_map]; omega)).re (LE.re (le_map1 3 (fun l => encF (toI l)) rs (fun l => encF (toI (l ++ [2]))) (it_list (dv 1 rfl)) (by omega) (fun l hl => (de_catF (xs := (toI l).map Dat.int) (ys := [.int 2]) (dv 3 rfl) (de_tupF (da_cons de_int da_nil) (ll rfl)) (by simp) (by have := h2 l hl; unfold toI; rw [List.length_map, List.length_map]; show _ + 1 ≤ _; omega)).is (et l 2)))) (by rw [List.length_append, List.length_map, List.length_map, List.length_map]; omega)) rfl (ds_nil ⟨_, Wk.refl, done ++ [a], .dat (eN a), by rw [e1, List.append_assoc]; rfl, ?_⟩))
      rw [List.length_append]
      show _ = [_, Slot.own ((lawRaw (done.length + 1)).map _), _, _]
      show _ = [_, Slot.own (((lawRaw done.length).map (· ++ [0]) ++ (lawRaw done.length).map (· ++ [1]) ++ (lawRaw done.length).map (· ++ [2])).map _), _, _]
      rw [hR, List.map_append, List.map_append, List.map_map, List.map_map, List.map_map]; rfl
    · subst e2
      rw [List.append_nil] at e1
      have hdl : done.length = n := by rw [← e1, rgN_len]; omega
      rw [hdl]
      have eE : ((lawRaw n).map fun l => encF (toI l)) = ((lawRaw n).map toI).map encF := by rw [List.map_map]; rfl
      rw [eE]
      have hlen : ∀ l ∈ lawRaw n, l.length = n := fun l hl => (rawLots_ok n ((lawRaw_perm n).mem_iff.mp hl)).1
      refine ds_cons (d1_ret (DE.weak (d := .lst (((lotsM n).map toI).map encF)) (LE.de ((le_sortLam (key := keyI) rfl TB m1 m2 B.b_sorted (ro 1 rfl) (keyI_allAlike _) (keyI_sortable _) (fun l _ => keyI_depth l) ?_ (fun X hX pins σ F H s I hE f c' pm ctv hf hcr h tk kk u v l hl iu ru => ?_) (fun _ => rfl) (fun y hy z => ?_)).is ?_)) fun F v i => ?_) rfl)
      · rw [List.length_map, (lawRaw_perm n).length_eq]
        exact Nat.le_trans (rawLots_len _ h1) (ll rfl)
      · obtain ⟨a, o, vs, rfl, i1, i3, i2⟩ := is_tuf iu
        have e5 := isL_int i2
        subst e5
        have hH := hE.good.ext a _ i1
        obtain ⟨its, rv, ht, hz⟩ := I.tuple (a := a) (xs := l.map V.int) (.inl (.inr ⟨o, hH⟩))
        have hob : s.heap.get? a = some o := (I.hok a _ hH).1
        cases ru
        obtain ⟨l0, hl0, rfl⟩ := List.mem_map.mp hl
        have hl0 := hlen l0 hl0
        obtain ⟨v0, s0, iv0⟩ := hE.dat (i := 0) (d := eN n) rfl
        obtain rfl := is_int.mp iv0
        obtain ⟨m0, hm0, look⟩ := I.loc
        have hkd : X.env.scope.names.lookup ("_law_many" : Str) = some .cell := by rw [hX.sc]; rfl
        obtain ⟨u0, ru0, lk⟩ := look 0 "_law_many" _ (by rw [hX.N]; rfl) s0 (.inr (.inl hkd))
        obtain ⟨t0, rfl⟩ := ru0
        obtain ⟨cl, hcl, hcv⟩ : ∃ cl, X.env.cells.lookup ("_law_many" : Str) = some cl ∧ s.heap.IsCell cl (some (.int n t0)) := by
          rcases lk with ⟨z, _⟩ | ⟨_, cl, a1, a2⟩
          · have z : X.env.scope.names.lookup ("_law_many" : Str) = some .local := z
            rw [hkd] at z; cases z
          · exact ⟨cl, a1, a2⟩
        refine lam_one (x := "_law_lot") (s := { s with heap := h, toks := tk }) hX.room.depth (kk _ _ hf) rfl rfl rfl (by decide) rfl (code_up kk hcr) (I.nolimit.keeps kk) rfl fun h1 tk1 m k1 ns hm => ?_
        have k2 : ∀ b o, s.heap.get? b = some o → h1.get? b = some o := fun b o e => k1 b o (kk b o e)
        have ek : keyI (toI l0) = .tuple [.int ((n : Int) - ((toI l0).countP fun n => decide (n = 0) : Nat)), .tuple ((toI l0).map PyData.int)] := by
          unfold keyI
          rw [count_key hl0]
        rw [ek]
        refine wpAny_mono (key2_body (ns := toI l0) (its := its) (a := a) (m := m) (cl := cl) (M := (n : Int)) (tM := t0) (s := { s with heap := h1, toks := tk1 }) rfl rfl rfl (by show List.lookup _ [(("_law_many" : Str), (X.env.cells.lookup ("_law_many" : Str)).getD 0)] = _; rw [hcl]; rfl) (by obtain ⟨oc, hoc, hod⟩ := hcv; exact ⟨oc, k2 _ _ hoc, hod⟩) ns hm ((show s.heap.IsTuple a its.toArray from ht).at fun o e => k2 _ o e) ⟨o, k2 _ _ hob, i3⟩ rv (by have := hX.room.un; show X.A.units + 1 + 1 + 3 + 2 < cLine; omega) rfl (by decide) (by decide) (by decide) rfl) (fun v s2 q => key_up k1 q) fun _ _ z => z
      · rcases List.mem_cons.mp hy with rfl | hy
        · cases z
        · obtain rfl := List.mem_singleton.mp hy
          exact .inl rfl
      · rw [sortI_perm ((lawRaw_perm n).map toI), sortI_lots]
      · have := is_lst_tuf i
        rw [List.map_map] at this
        rwa [show ((lotsM n).map eLot) = (lotsM n).map (encI ∘ toI) from List.map_congr_left fun l _ => (encI_toI l).symm]
end
end Cal
set_option Elab.async false
set_option linter.all false
set_option maxRecDepth 100000
set_option maxHeartbeats 4000000
namespace Cal
/-! ### the same uses -/
theorem innerM_use {p : Plan} {m n : Nat} {u : Use} : u ∈ (innerM p m n).map (·.2) ↔ u ∈ usesOf p n m := by
  unfold innerM usesOf
  cases foundR p.2 m n with
  | none => exact Iff.rfl
  | some r =>
    show u ∈ ((r.2.2.map fun u => (some m, u)).map (·.2)) ↔ u ∈ srt eUse (dd r.2.2)
    rw [srt_mem, dd_mem, List.map_map]
    constructor
    · intro h
      obtain ⟨v, hv, rfl⟩ := List.mem_map.mp h
      exact hv
    · intro h
      exact List.mem_map.mpr ⟨u, h, rfl⟩
theorem words_iff {h : H3} (k : OkH h) (q : Option Pr) (u : Use) : (u ∈ (wordsM h q).1 ↔ u ∈ (usesAt h q).1) ∧ (u ∈ (wordsM h q).2 ↔ u ∈ (usesAt h q).2) := by
  cases q with
  | none =>
    have e : u ∈ outUses h.1.1.1 ↔ u ∈ (outer h.1.1.1).map (·.2) := by
      unfold outUses
      exact srt_mem
    refine ⟨e.symm, ?_⟩
    show u ∈ (outer h.2.1.1.1).map (·.2) ↔ u ∈ outUses h.1.1.1
    rw [e, k.same]
  | some q => exact ⟨innerM_use, innerM_use⟩
theorem callsM_mem {h : H3} {q : Option Pr} {r : Pr} : r ∈ nextsM h q ↔ ∃ u : Use, u ∈ (usesAt h q).1 ∧ u ∈ (usesAt h q).2 ∧ u.1 = ("call" : PySem.Str) ∧ nextOf h q u = some r := by
  unfold nextsM
  rw [List.mem_filterMap]
  constructor
  · rintro ⟨u, hu, e⟩
    rw [List.mem_filter, Bool.and_eq_true, decide_eq_true_eq, decide_eq_true_eq] at hu
    exact ⟨u, hu.1, hu.2.2, hu.2.1, e⟩
  · rintro ⟨u, a, b, c, e⟩
    exact ⟨u, by rw [List.mem_filter, Bool.and_eq_true, decide_eq_true_eq, decide_eq_true_eq]; exact ⟨a, c, b⟩, e⟩
theorem nexts_iff {h : H3} (k : OkH h) {q : Option Pr} {r : Pr} : r ∈ nextsL h q ↔ r ∈ nextsM h q := by
  rw [callsM_mem]
  unfold nextsL callsL
  rw [dd_mem, List.mem_filterMap]
  constructor
  · rintro ⟨u, hu, e⟩
    rw [List.mem_filter, Bool.and_eq_true, decide_eq_true_eq, decide_eq_true_eq] at hu
    exact ⟨u, (words_iff k q u).1.mp hu.1, (words_iff k q u).2.mp hu.2.2, hu.2.1, e⟩
  · rintro ⟨u, a, b, c, e⟩
    exact ⟨u, by rw [List.mem_filter, Bool.and_eq_true, decide_eq_true_eq, decide_eq_true_eq]; exact ⟨(words_iff k q u).1.mpr a, c, (words_iff k q u).2.mpr b⟩, e⟩
/-! ### what is reached -/
/-- a set of pairs that calls do not leave -/
def Shut (h : H3) (S : Option Pr → Prop) : Prop := S none ∧ ∀ q, S q → ∀ r ∈ nextsM h q, S (some r)
theorem fold_keys (q : Option Pr) : ∀ (ls : List Pr) (s : RS) (x : Option Pr), x ∈ keysR (ls.foldl (addLate q) s).1 ↔ x ∈ keysR s.1 ∨ ∃ l ∈ ls, x = some l
  | [], s, x => by simp
  | l :: ls, s, x => by
    rw [List.foldl_cons, fold_keys q ls]
    have key : x ∈ keysR (addLate q s l).1 ↔ x ∈ keysR s.1 ∨ x = some l := by
      unfold addLate
      split
      · rename_i z
        exact ⟨.inl, fun y => y.elim id fun e => e ▸ z⟩
      · unfold keysR
        rw [List.map_append, List.mem_append]
        show _ ∨ x ∈ [some l] ↔ _
        rw [List.mem_singleton]
    rw [key]
    constructor
    · rintro ((a | a) | ⟨m, a, b⟩)
      · exact .inl a
      · exact .inr ⟨l, List.mem_cons_self, a⟩
      · exact .inr ⟨m, List.mem_cons_of_mem _ a, b⟩
    · rintro (a | ⟨m, a, b⟩)
      · exact .inl (.inl a)
      · rcases List.mem_cons.mp a with rfl | a
        · exact .inl (.inr b)
        · exact .inr ⟨m, a, b⟩
theorem fold_wait (q : Option Pr) : ∀ (ls : List Pr) (s : RS) (x : Option Pr), x ∈ (ls.foldl (addLate q) s).2 ↔ x ∈ s.2 ∨ (x ∉ keysR s.1 ∧ ∃ l ∈ ls, x = some l)
  | [], s, x => by simp
  | l :: ls, s, x => by
    rw [List.foldl_cons, fold_wait q ls]
    by_cases z : some l ∈ keysR s.1
    · have e : addLate q s l = s := by unfold addLate; rw [if_pos z]
      rw [e]
      constructor
      · rintro (a | ⟨a, m, b, c⟩)
        · exact .inl a
        · exact .inr ⟨a, m, List.mem_cons_of_mem _ b, c⟩
      · rintro (a | ⟨a, m, b, c⟩)
        · exact .inl a
        · rcases List.mem_cons.mp b with rfl | b
          · rw [c] at a; exact absurd z a
          · exact .inr ⟨a, m, b, c⟩
    · have e : addLate q s l = (s.1 ++ [(some l, pathOf s.1 q ++ [l.1])], s.2 ++ [some l]) := by unfold addLate; rw [if_neg z]
      have k : ∀ y, y ∈ keysR (addLate q s l).1 ↔ y ∈ keysR s.1 ∨ y = some l := fun y => by
        rw [e]; unfold keysR
        rw [List.map_append, List.mem_append]
        show _ ∨ y ∈ [some l] ↔ _
        rw [List.mem_singleton]
      rw [k]
      have k2 : x ∈ (addLate q s l).2 ↔ x ∈ s.2 ∨ x = some l := by rw [e]; show x ∈ s.2 ++ [some l] ↔ _; rw [List.mem_append, List.mem_singleton]
      rw [k2]
      constructor
      · rintro ((a | a) | ⟨a, m, b, c⟩)
        · exact .inl a
        · exact .inr ⟨a ▸ z, l, List.mem_cons_self, a⟩
        · exact .inr ⟨fun y => a (.inl y), m, List.mem_cons_of_mem _ b, c⟩
      · rintro (a | ⟨a, m, b, c⟩)
        · exact .inl (.inl a)
        · by_cases y : x = some l
          · exact .inl (.inr y)
          · rcases List.mem_cons.mp b with rfl | b
            · exact absurd c y
            · exact .inr ⟨fun w => w.elim a y, m, b, c⟩
structure RInv2 (h : H3) (s : RS) : Prop extends RInv h s where
  top : none ∈ keysR s.1
  shut : ∀ q ∈ keysR s.1, q ∈ s.2 ∨ ∀ r ∈ nextsM h q, some r ∈ keysR s.1
  least : ∀ S, Shut h S → ∀ q ∈ keysR s.1, S q
theorem reachF_inv2 {h : H3} (k : OkH h) : ∀ (n : Nat) (s : RS), RInv2 h s → s.2.length + 2 * (37 - s.1.length) ≤ n → RInv2 h (reachF h n s) ∧ (reachF h n s).2 = []
  | 0, s, r, hm => ⟨r, List.length_eq_zero_iff.mp (by show s.2.length = 0; omega)⟩
  | n + 1, (rows, []), r, hm => ⟨r, rfl⟩
  | n + 1, (rows, q :: w), r, hm => by
    have hqk : q ∈ keysR rows := r.wt q List.mem_cons_self
    have hqo : OkPO h q := r.ok q hqk
    have r0 : RInv h (rows, w) := ⟨r.nd, r.ok, fun p hp => r.wt p (List.mem_cons_of_mem _ hp), r.pl⟩
    have r1 := fold_inv (nextsM h q) (rows, w) r0 hqk fun l hl => nextsM_ok k hqo hl
    obtain ⟨d, d1, d2⟩ := fold_grow q (nextsM h q) (rows, w)
    have d1 : ((nextsM h q).foldl (addLate q) (rows, w)).1.length = rows.length + d := d1
    have d2 : ((nextsM h q).foldl (addLate q) (rows, w)).2.length = w.length + d := d2
    have h37 : ((nextsM h q).foldl (addLate q) (rows, w)).1.length ≤ 37 := by
      have := keys_len k r1.nd r1.ok
      unfold keysR at this
      rwa [List.length_map] at this
    have hm : (w.length + 1) + 2 * (37 - rows.length) ≤ n + 1 := hm
    have hm2 : ((nextsM h q).foldl (addLate q) (rows, w)).2.length + 2 * (37 - ((nextsM h q).foldl (addLate q) (rows, w)).1.length) ≤ n := by omega
    refine reachF_inv2 k n ((nextsM h q).foldl (addLate q) (rows, w)) ⟨r1, (fold_keys q _ _ _).mpr (.inl r.top), fun x hx => ?_, fun S hS x hx => ?_⟩ hm2
    · have kk := fold_keys q (nextsM h q) (rows, w)
      have kw := fold_wait q (nextsM h q) (rows, w)
      by_cases z : x = q
      · refine .inr fun l hl => (kk _).mpr (.inr ⟨l, z ▸ hl, rfl⟩)
      · rcases (kk x).mp hx with a | ⟨l, a, b⟩
        · rcases r.shut x a with c | c
          · rcases List.mem_cons.mp c with c | c
            · exact absurd c z
            · exact .inl ((kw x).mpr (.inl c))
          · exact .inr fun l hl => (kk _).mpr (.inl (c l hl))
        · by_cases y : x ∈ keysR rows
          · rcases r.shut x y with c | c
            · rcases List.mem_cons.mp c with c | c
              · exact absurd c z
              · exact .inl ((kw x).mpr (.inl c))
            · exact .inr fun l hl => (kk _).mpr (.inl (c l hl))
          · exact .inl ((kw x).mpr (.inr ⟨y, l, a, b⟩))
    · rcases (fold_keys q (nextsM h q) (rows, w) x).mp hx with a | ⟨l, a, b⟩
      · exact r.least S hS x a
      · rw [b]; exact hS.2 q (r.least S hS q hqk) l a
theorem reachM_inv2 {h : H3} (k : OkH h) : RInv2 h (reachF h 100 ([(none, [])], [none])) ∧ (reachF h 100 ([(none, [])], [none])).2 = [] := by
  refine reachF_inv2 k 100 _ ⟨start_inv h, List.mem_singleton.mpr rfl, fun q hq => ?_, fun S hS q hq => ?_⟩ (by decide)
  · rw [show q = none from List.mem_singleton.mp hq]; exact .inl (List.mem_singleton.mpr rfl)
  · rw [show q = none from List.mem_singleton.mp hq]; exact hS.1
theorem reach_shut {h : H3} (k : OkH h) : Shut h fun q => q ∈ keysR (reachM h) := by
  obtain ⟨a, b⟩ := reachM_inv2 k
  refine ⟨a.top, fun q hq r hr => ?_⟩
  rcases a.shut q hq with c | c
  · rw [b] at c; cases c
  · exact c r hr
theorem reach_least {h : H3} (k : OkH h) {S : Option Pr → Prop} (hS : Shut h S) {q : Option Pr} (hq : q ∈ keysR (reachM h)) : S q := (reachM_inv2 k).1.least S hS q hq
/-! the law's own -/
theorem foldT_mem : ∀ (ls : List Pr) (s : TS) (x : Pr), x ∈ (ls.foldl addT s).1 ↔ x ∈ s.1 ∨ x ∈ ls
  | [], s, x => by simp
  | l :: ls, s, x => by
    rw [List.foldl_cons, foldT_mem ls]
    have key : x ∈ (addT s l).1 ↔ x ∈ s.1 ∨ x = l := by
      unfold addT
      split
      · rename_i z
        exact ⟨.inl, fun y => y.elim id fun e => e ▸ z⟩
      · show x ∈ s.1 ++ [l] ↔ _
        rw [List.mem_append, List.mem_singleton]
    rw [key, List.mem_cons, or_assoc]
theorem foldT_wait : ∀ (ls : List Pr) (s : TS) (x : Option Pr), (x ∈ s.2 → x ∈ (ls.foldl addT s).2) ∧ (∀ l ∈ ls, l ∉ s.1 → some l ∈ (ls.foldl addT s).2)
  | [], s, x => ⟨id, fun l hl => by cases hl⟩
  | l :: ls, s, x => by
    rw [List.foldl_cons]
    by_cases z : l ∈ s.1
    · have e : addT s l = s := by unfold addT; rw [if_pos z]
      rw [e]
      obtain ⟨a, b⟩ := foldT_wait ls s x
      refine ⟨a, fun m hm hn => ?_⟩
      rcases List.mem_cons.mp hm with rfl | hm
      · exact absurd z hn
      · exact b m hm hn
    · have e : addT s l = (s.1 ++ [l], some l :: s.2) := by unfold addT; rw [if_neg z]
      obtain ⟨a, b⟩ := foldT_wait ls (addT s l) x
      have a' := (foldT_wait ls (addT s l) (some l)).1
      refine ⟨fun hx => a (by rw [e]; exact List.mem_cons_of_mem _ hx), fun m hm hn => ?_⟩
      by_cases y : m = l
      · subst y
        exact a' (by rw [e]; exact List.mem_cons_self)
      · rcases List.mem_cons.mp hm with rfl | hm
        · exact absurd rfl y
        · exact b m hm (by rw [e]; show m ∉ s.1 ++ [l]; rw [List.mem_append, List.mem_singleton]; exact fun w => w.elim hn y)
def inT (s : TS) (q : Option Pr) : Prop := ∀ r, q = some r → r ∈ s.1
structure TInv2 (h : H3) (s : TS) : Prop extends TInv h s where
  inn : ∀ q ∈ s.2, inT s q
  shut : ∀ q, inT s q → q ∈ s.2 ∨ ∀ r ∈ nextsM h q, r ∈ s.1
  least : ∀ S, Shut h S → ∀ r ∈ s.1, S (some r)
theorem throughF_inv2 {h : H3} (k : OkH h) : ∀ (n : Nat) (s : TS), TInv2 h s → s.2.length + 2 * (38 - s.1.length) ≤ n → TInv2 h (throughF h n s) ∧ (throughF h n s).2 = []
  | 0, s, r, hm => ⟨r, List.length_eq_zero_iff.mp (by show s.2.length = 0; omega)⟩
  | n + 1, (f, []), r, hm => ⟨r, rfl⟩
  | n + 1, (f, q :: w), r, hm => by
    have hqo : OkPO h q := r.wt q List.mem_cons_self
    have hqi : inT (f, q :: w) q := r.inn q List.mem_cons_self
    have r0 : TInv h (f, w) := ⟨r.nd, r.ok, fun p hp => r.wt p (List.mem_cons_of_mem _ hp)⟩
    have r1 := fold_addT (nextsL h q) (f, w) r0 fun l hl => nextsL_okC k hqo hl
    obtain ⟨d, d1, d2⟩ := foldT_grow (nextsL h q) (f, w)
    have d1 : ((nextsL h q).foldl addT (f, w)).1.length = f.length + d := d1
    have d2 : ((nextsL h q).foldl addT (f, w)).2.length = w.length + d := d2
    have h37 := r1.len k
    have hm : (w.length + 1) + 2 * (38 - f.length) ≤ n + 1 := hm
    have mem := foldT_mem (nextsL h q) (f, w)
    have wait := foldT_wait (nextsL h q) (f, w)
    have back : ∀ x, inT ((nextsL h q).foldl addT (f, w)) x → inT (f, w) x ∨ ∃ l ∈ nextsL h q, l ∉ f ∧ x = some l := fun x hx => by
      cases x with
      | none => exact .inl fun r e => by cases e
      | some y =>
        by_cases z : y ∈ f
        · exact .inl fun r e => by cases e; exact z
        · rcases (mem y).mp (hx y rfl) with a | a
          · exact absurd a z
          · exact .inr ⟨y, a, z, rfl⟩
    have hm2 : ((nextsL h q).foldl addT (f, w)).2.length + 2 * (38 - ((nextsL h q).foldl addT (f, w)).1.length) ≤ n := by omega
    refine throughF_inv2 k n ((nextsL h q).foldl addT (f, w)) ⟨r1, fun x hx => ?_, fun x hx => ?_, fun S hS x hx => ?_⟩ hm2
    · intro y e
      subst e
      have key : ∀ (ls : List Pr) (s : TS), (∀ q ∈ s.2, inT s q) → ∀ q ∈ (ls.foldl addT s).2, inT (ls.foldl addT s) q := fun ls => by
        induction ls with
        | nil => exact fun s hs => hs
        | cons l ls ih =>
          intro s hs
          rw [List.foldl_cons]
          refine ih _ fun x hx => ?_
          unfold addT at hx ⊢
          split at hx
          · rename_i z
            rw [if_pos z]; exact hs x hx
          · rename_i z
            rw [if_neg z]
            rcases List.mem_cons.mp hx with rfl | hx
            · intro r e; cases e; exact List.mem_append_right _ (List.mem_singleton.mpr rfl)
            · intro r e; exact List.mem_append_left _ (hs x hx r e)
      exact key (nextsL h q) (f, w) (fun p hp => r.inn p (List.mem_cons_of_mem _ hp)) (some y) hx y rfl
    · by_cases z : x = q
      · exact .inr fun l hl => (mem l).mpr (.inr ((nexts_iff k).mpr (z ▸ hl)))
      · rcases back x hx with a | ⟨l, a, b, c⟩
        · rcases r.shut x a with c | c
          · rcases List.mem_cons.mp c with c | c
            · exact absurd c z
            · exact .inl ((wait x).1 c)
          · exact .inr fun l hl => (mem l).mpr (.inl (c l hl))
        · rw [c]; exact .inl ((wait x).2 l a b)
    · rcases (mem x).mp hx with a | a
      · exact r.least S hS x a
      · have sq : S q := by
          cases q with
          | none => exact hS.1
          | some y => exact r.least S hS y (hqi y rfl)
        exact hS.2 q sq x ((nexts_iff k).mp a)
theorem throughM_inv2 {h : H3} (k : OkH h) : TInv2 h (throughF h 100 ([], [none])) ∧ (throughF h 100 ([], [none])).2 = [] := by
  refine throughF_inv2 k 100 _ ⟨⟨by simp, by simp, fun q hq => ?_⟩, fun q hq => ?_, fun q hq => ?_, fun S hS q hq => by cases hq⟩ (by decide)
  · rw [List.mem_singleton.mp hq]; exact okNone h
  · rw [show q = none from List.mem_singleton.mp hq]; intro r e; cases e
  · cases q with
    | none => exact .inl (List.mem_singleton.mpr rfl)
    | some r => exact absurd (hq r rfl) (by simp)
/-- both go through the same pairs -/
theorem through_iff {h : H3} (k : OkH h) {r : Pr} : r ∈ throughM h ↔ some r ∈ keysR (reachM h) := by
  obtain ⟨a, b⟩ := throughM_inv2 k
  constructor
  · exact fun hr => a.least _ (reach_shut k) r hr
  · intro hr
    have sh : Shut h fun q => inT (throughF h 100 ([], [none])) q := by
      refine ⟨fun r e => (by cases e), fun q hq l hl => ?_⟩
      rcases a.shut q hq with c | c
      · rw [b] at c; cases c
      · intro r e; cases e; exact c l hl
    exact reach_least k sh hr r rfl
theorem throughM_len {h : H3} (k : OkH h) : (throughM h).length ≤ 37 := (throughM_inv2 k).1.toTInv.len k
theorem throughM_ok {h : H3} (k : OkH h) {r : Pr} (hr : r ∈ throughM h) : OkPairC h r := (throughM_inv2 k).1.ok r hr
end Cal
set_option Elab.async false
set_option linter.all false
set_option maxRecDepth 100000
set_option maxHeartbeats 4000000
namespace Cal
/-! ### when nothing tells apart -/
def badM (h : H3) (q : Option Pr) (u : Use) : Bool := !decide (u ∈ (usesAt h q).1) || (!decide (u ∈ (usesAt h q).2) || !isEven (forkM h (modsOf q) u))
def toldM (h : H3) (q : Option Pr) (u : Use) : Bool := decide (u.1 ∈ told2) && areMods (forkM h (modsOf q) u)
abbrev Ev := Option Pr × List Nat × Use
def fkOf (h : H3) (e : Ev) : Fk := (e.2.2, forkM h (modsOf e.1) e.2.2, e.2.1)
def evs (h : H3) (rows : Rows) : List Ev := rows.flatMap fun x => (allUses h x.1).map fun u => (x.1, x.2, u)
def runE (h : H3) : List Ev → List Fk → Except (List Way) (List Fk)
  | [], s => .ok s
  | e :: es, s => match useStep h e.1 e.2.1 s e.2.2 with
    | .error w => .error w
    | .ok s' => runE h es s'
theorem runE_app (h : H3) : ∀ (es fs : List Ev) (s : List Fk), runE h (es ++ fs) s = match runE h es s with | .error w => .error w | .ok s' => runE h fs s'
  | [], fs, s => rfl
  | e :: es, fs, s => by
    have a1 : runE h (e :: es ++ fs) s = (match useStep h e.1 e.2.1 s e.2.2 with | .error w => .error w | .ok s' => runE h (es ++ fs) s') := rfl
    have a2 : runE h (e :: es) s = (match useStep h e.1 e.2.1 s e.2.2 with | .error w => .error w | .ok s' => runE h es s') := rfl
    rw [a1, a2]
    cases useStep h e.1 e.2.1 s e.2.2 with
    | error w => rfl
    | ok s' => exact runE_app h es fs s'
theorem runU_runE (h : H3) (q : Option Pr) (row : List Nat) : ∀ (us : List Use) (s : List Fk), runU h q row us s = runE h (us.map fun u => (q, row, u)) s
  | [], s => rfl
  | u :: us, s => by
    have a1 : runU h q row (u :: us) s = (match useStep h q row s u with | .error w => .error w | .ok s' => runU h q row us s') := rfl
    have a2 : runE h ((u :: us).map fun u => (q, row, u)) s = (match useStep h q row s u with | .error w => .error w | .ok s' => runE h (us.map fun u => (q, row, u)) s') := rfl
    rw [a1, a2]
    cases useStep h q row s u with
    | error w => rfl
    | ok s' => exact runU_runE h q row us s'
theorem runR_runE (h : H3) : ∀ (rows : Rows) (s : List Fk), runR h rows s = runE h (evs h rows) s
  | [], s => rfl
  | x :: rows, s => by
    have a1 : runR h (x :: rows) s = (match runU h x.1 x.2 (allUses h x.1) s with | .error w => .error w | .ok s' => runR h rows s') := rfl
    have a2 : evs h (x :: rows) = ((allUses h x.1).map fun u => (x.1, x.2, u)) ++ evs h rows := rfl
    rw [a1, a2, runE_app, runU_runE]
    cases runE h ((allUses h x.1).map fun u => (x.1, x.2, u)) s with
    | error w => rfl
    | ok s' => exact runR_runE h rows s'
theorem useStep_eq (h : H3) (e : Ev) (s : List Fk) : useStep h e.1 e.2.1 s e.2.2 = if badM h e.1 e.2.2 = true then .error [(e.2.1, e.2.2)] else if toldM h e.1 e.2.2 = true then (match first? (fun x : Fk => decide (x.1 = e.2.2) && crossed (forkM h (modsOf e.1) e.2.2) x.2.1) s with | some x => .error [(x.2.2, x.1), (e.2.1, e.2.2)] | none => .ok (s ++ [fkOf h e])) else .ok s := rfl
def hit (f g : Fk) : Bool := decide (f.1 = g.1) && crossed g.2.1 f.2.1
def toldE (h : H3) (e : Ev) : Bool := toldM h e.1 e.2.2
def fks (h : H3) (es : List Ev) : List Fk := (es.filter (toldE h)).map (fkOf h)
theorem first_none' {A : Type} {f : A → Bool} : ∀ {as : List A}, first? f as = none → ∀ a ∈ as, f a = false
  | [], _, a, h => by cases h
  | b :: as, e, a, h => by
    unfold first? at e
    split at e
    · cases e
    · rename_i z
      rcases List.mem_cons.mp h with rfl | h
      · simpa using z
      · exact first_none' e a h
theorem runE_ok {h : H3} : ∀ {es : List Ev} {s s' : List Fk}, runE h es s = .ok s' → s' = s ++ fks h es ∧ (∀ e ∈ es, badM h e.1 e.2.2 = false) ∧ (s.Pairwise (fun f g => hit f g = false) → s'.Pairwise fun f g => hit f g = false)
  | [], s, s', e => by cases e; exact ⟨by unfold fks; simp, fun e he => (by cases he), id⟩
  | e :: es, s, s', z => by
    unfold runE at z
    rw [useStep_eq] at z
    by_cases hb : badM h e.1 e.2.2 = true
    · rw [if_pos hb] at z; cases z
    · rw [if_neg hb] at z
      have hb' : badM h e.1 e.2.2 = false := by simpa using hb
      by_cases ht : toldM h e.1 e.2.2 = true
      · rw [if_pos ht] at z
        cases hf : first? (fun x : Fk => decide (x.1 = e.2.2) && crossed (forkM h (modsOf e.1) e.2.2) x.2.1) s with
        | some x => rw [hf] at z; cases z
        | none =>
          rw [hf] at z
          obtain ⟨a, b, c⟩ := runE_ok (es := es) z
          have e1 : fks h (e :: es) = fkOf h e :: fks h es := by unfold fks; rw [List.filter_cons_of_pos (show toldE h e = true from ht), List.map_cons]
          refine ⟨by rw [a, e1, List.append_assoc]; rfl, fun x hx => ?_, fun hs => c ?_⟩
          · rcases List.mem_cons.mp hx with rfl | hx
            · exact hb'
            · exact b x hx
          · refine List.pairwise_append.mpr ⟨hs, List.pairwise_singleton _ _, fun f hf' g hg => ?_⟩
            rw [List.mem_singleton.mp hg]
            exact first_none' hf f hf'
      · rw [if_neg ht] at z
        obtain ⟨a, b, c⟩ := runE_ok (es := es) z
        have e1 : fks h (e :: es) = fks h es := by unfold fks; rw [List.filter_cons_of_neg (show ¬ toldE h e = true from ht)]
        refine ⟨by rw [a, e1], fun x hx => ?_, c⟩
        rcases List.mem_cons.mp hx with rfl | hx
        · exact hb'
        · exact b x hx
/-- why a run ends early -/
def WhyE (h : H3) (es : List Ev) (s : List Fk) (w : List Way) : Prop := ∃ e ∈ es, (badM h e.1 e.2.2 = true ∧ w = [(e.2.1, e.2.2)]) ∨ (badM h e.1 e.2.2 = false ∧ toldE h e = true ∧ ∃ f ∈ s ++ fks h es, hit f (fkOf h e) = true ∧ (f ∈ s ∨ ∃ e' ∈ es, badM h e'.1 e'.2.2 = false ∧ toldE h e' = true ∧ f = fkOf h e') ∧ w = [(f.2.2, f.1), (e.2.1, e.2.2)])
theorem runE_err {h : H3} : ∀ {es : List Ev} {s : List Fk} {w : List Way}, runE h es s = .error w → WhyE h es s w
  | [], s, w, z => by cases z
  | e :: es, s, w, z => by
    unfold runE at z
    rw [useStep_eq] at z
    by_cases hb : badM h e.1 e.2.2 = true
    · rw [if_pos hb] at z
      cases z
      exact ⟨e, List.mem_cons_self, .inl ⟨hb, rfl⟩⟩
    · rw [if_neg hb] at z
      have hb' : badM h e.1 e.2.2 = false := by simpa using hb
      by_cases ht : toldM h e.1 e.2.2 = true
      · rw [if_pos ht] at z
        cases hf : first? (fun x : Fk => decide (x.1 = e.2.2) && crossed (forkM h (modsOf e.1) e.2.2) x.2.1) s with
        | some x =>
          rw [hf] at z
          cases z
          obtain ⟨x1, x2⟩ := first_some hf
          exact ⟨e, List.mem_cons_self, .inr ⟨hb', ht, x, List.mem_append_left _ x1, x2, .inl x1, rfl⟩⟩
        | none =>
          rw [hf] at z
          have e1 : fks h (e :: es) = fkOf h e :: fks h es := by unfold fks; rw [List.filter_cons_of_pos (show toldE h e = true from ht), List.map_cons]
          obtain ⟨e', he', c⟩ := runE_err (es := es) z
          refine ⟨e', List.mem_cons_of_mem _ he', c.imp id fun ⟨c1, c2, f, c3, c4, c5, c6⟩ => ⟨c1, c2, f, ?_, c4, ?_, c6⟩⟩
          · rw [e1]; rw [List.append_assoc] at c3; exact c3
          · rcases c5 with c5 | ⟨g, hg, c7, c8, c9⟩
            · rcases List.mem_append.mp c5 with c5 | c5
              · exact .inl c5
              · exact .inr ⟨e, List.mem_cons_self, hb', ht, List.mem_singleton.mp c5⟩
            · exact .inr ⟨g, List.mem_cons_of_mem _ hg, c7, c8, c9⟩
      · rw [if_neg ht] at z
        have e1 : fks h (e :: es) = fks h es := by unfold fks; rw [List.filter_cons_of_neg (show ¬ toldE h e = true from ht)]
        obtain ⟨e', he', c⟩ := runE_err (es := es) z
        refine ⟨e', List.mem_cons_of_mem _ he', c.imp id fun ⟨c1, c2, f, c3, c4, c5, c6⟩ => ⟨c1, c2, f, by rw [e1]; exact c3, c4, c5.imp id fun ⟨g, hg, c7⟩ => ⟨g, List.mem_cons_of_mem _ hg, c7⟩, c6⟩⟩
theorem crossed_symm (f g : Fork) : crossed f g = crossed g f := by
  unfold crossed
  rw [show decide (f.1 = g.1) = decide (g.1 = f.1) from by simp only [eq_comm], show decide (f.2 = g.2) = decide (g.2 = f.2) from by simp only [eq_comm]]
theorem crossed_self (f : Fork) : crossed f f = false := by
  unfold crossed
  rw [decide_eq_true rfl, decide_eq_true rfl]; rfl
/-- nothing tells apart at these pairs -/
structure Calm (h : H3) (S : Option Pr → Prop) : Prop where
  good : ∀ q, S q → ∀ u, u ∈ (usesAt h q).1 ∨ u ∈ (usesAt h q).2 → badM h q u = false
  flat : ∀ q q', S q → S q' → ∀ u, u ∈ (usesAt h q).1 ∨ u ∈ (usesAt h q).2 → u ∈ (usesAt h q').1 ∨ u ∈ (usesAt h q').2 → toldM h q u = true → toldM h q' u = true → crossed (forkM h (modsOf q) u) (forkM h (modsOf q') u) = false
theorem allUses_mem {h : H3} {q : Option Pr} {u : Use} : u ∈ allUses h q ↔ u ∈ (usesAt h q).1 ∨ u ∈ (usesAt h q).2 := by
  unfold allUses
  rw [srt_mem, dd_mem, List.mem_append]
theorem evs_mem {h : H3} {rows : Rows} {e : Ev} : e ∈ evs h rows ↔ (e.1, e.2.1) ∈ rows ∧ e.2.2 ∈ allUses h e.1 := by
  unfold evs
  rw [List.mem_flatMap]
  constructor
  · rintro ⟨x, hx, he⟩
    obtain ⟨u, hu, rfl⟩ := List.mem_map.mp he
    exact ⟨hx, hu⟩
  · rintro ⟨a, b⟩
    exact ⟨(e.1, e.2.1), a, List.mem_map.mpr ⟨e.2.2, b, rfl⟩⟩
theorem keysR_mem {rows : Rows} {q : Option Pr} : q ∈ keysR rows ↔ ∃ p, (q, p) ∈ rows := by
  unfold keysR
  rw [List.mem_map]
  exact ⟨fun ⟨x, hx, e⟩ => ⟨x.2, e ▸ hx⟩, fun ⟨p, hp⟩ => ⟨_, hp, rfl⟩⟩
theorem apartM_none {h : H3} {rows : Rows} : apartM h rows = none ↔ Calm h fun q => q ∈ keysR rows := by
  unfold apartM
  rw [runR_runE]
  cases z : runE h (evs h rows) [] with
  | ok s =>
    refine ⟨fun _ => ?_, fun _ => rfl⟩
    obtain ⟨a, b, c⟩ := runE_ok z
    rw [List.nil_append] at a
    subst a
    have pw := c List.Pairwise.nil
    have flat : ∀ f ∈ fks h (evs h rows), ∀ g ∈ fks h (evs h rows), hit f g = false := fun f hf g hg => by
      have sym : ∀ f g : Fk, hit f g = hit g f := fun f g => by
        unfold hit
        rw [crossed_symm, show decide (f.1 = g.1) = decide (g.1 = f.1) from by simp only [eq_comm]]
      have self : ∀ f : Fk, hit f f = false := fun f => by
        unfold hit
        rw [crossed_self, Bool.and_false]
      obtain ⟨i, hi⟩ := List.mem_iff_getElem?.mp hf
      obtain ⟨j, hj⟩ := List.mem_iff_getElem?.mp hg
      obtain ⟨li, ei⟩ := List.getElem?_eq_some_iff.mp hi
      obtain ⟨lj, ej⟩ := List.getElem?_eq_some_iff.mp hj
      rw [List.pairwise_iff_getElem] at pw
      rcases Nat.lt_trichotomy i j with l | l | l
      · have := pw i j li lj l
        rwa [ei, ej] at this
      · subst l
        rw [hi] at hj
        rw [Option.some.inj hj]; exact self g
      · have := pw j i lj li l
        rw [ei, ej] at this
        rw [sym]; exact this
    refine ⟨fun q hq u hu => ?_, fun q q' hq hq' u hu hu' ht ht' => ?_⟩
    · obtain ⟨p, hp⟩ := keysR_mem.mp hq
      exact b (q, p, u) (evs_mem.mpr ⟨hp, allUses_mem.mpr hu⟩)
    · obtain ⟨p, hp⟩ := keysR_mem.mp hq
      obtain ⟨p', hp'⟩ := keysR_mem.mp hq'
      have m : fkOf h (q, p, u) ∈ fks h (evs h rows) := List.mem_map.mpr ⟨(q, p, u), List.mem_filter.mpr ⟨evs_mem.mpr ⟨hp, allUses_mem.mpr hu⟩, ht⟩, rfl⟩
      have m' : fkOf h (q', p', u) ∈ fks h (evs h rows) := List.mem_map.mpr ⟨(q', p', u), List.mem_filter.mpr ⟨evs_mem.mpr ⟨hp', allUses_mem.mpr hu'⟩, ht'⟩, rfl⟩
      have := flat _ m' _ m
      have e : hit (fkOf h (q', p', u)) (fkOf h (q, p, u)) = (decide (u = u) && crossed (forkM h (modsOf q) u) (forkM h (modsOf q') u)) := rfl
      rw [e, decide_eq_true rfl, Bool.true_and] at this
      exact this
  | error w =>
    refine ⟨fun e => (by cases e), fun c => ?_⟩
    exfalso
    obtain ⟨e, he, hw⟩ := runE_err z
    obtain ⟨a1, a2⟩ := evs_mem.mp he
    have kq : e.1 ∈ keysR rows := keysR_mem.mpr ⟨_, a1⟩
    rcases hw with ⟨b, _⟩ | ⟨b1, b2, f, b3, b4, b5, b6⟩
    · rw [c.good e.1 kq e.2.2 (allUses_mem.mp a2)] at b; cases b
    · rcases b5 with b5 | ⟨g, hg, c1, c2, c3⟩
      · cases b5
      · subst c3
        obtain ⟨g1, g2⟩ := evs_mem.mp hg
        have kg : g.1 ∈ keysR rows := keysR_mem.mpr ⟨_, g1⟩
        have b4 : (decide (g.2.2 = e.2.2) && crossed (forkM h (modsOf e.1) e.2.2) (forkM h (modsOf g.1) g.2.2)) = true := b4
        rw [Bool.and_eq_true, decide_eq_true_eq] at b4
        obtain ⟨d1, d2⟩ := b4
        have d3 : toldM h g.1 e.2.2 = true := by rw [← d1]; exact c2
        have := c.flat e.1 g.1 kq kg e.2.2 (allUses_mem.mp a2) (by rw [← d1]; exact allUses_mem.mp g2) b2 d3
        rw [← d1] at this d2
        rw [this] at d2; cases d2
theorem usesL_mem {h : H3} (k : OkH h) {q : Option Pr} {u : Use} : u ∈ usesL h q ↔ u ∈ (usesAt h q).1 ∨ u ∈ (usesAt h q).2 := by
  unfold usesL
  rw [List.mem_append, (words_iff k q u).1, (words_iff k q u).2]
theorem badL_eq {h : H3} (k : OkH h) (q : Option Pr) (u : Use) : badL h q u = badM h q u := by
  have e1 : decide (u ∈ (wordsM h q).1) = decide (u ∈ (usesAt h q).1) := decide_eq_decide.mpr (words_iff k q u).1
  have e2 : decide (u ∈ (wordsM h q).2) = decide (u ∈ (usesAt h q).2) := decide_eq_decide.mpr (words_iff k q u).2
  unfold badL badM isEven
  rw [e1, e2, Bool.not_or]
theorem clash_eq (x y : SeenT) : clash x y = (decide (x.1 = y.1) && crossed x.2 y.2) := by
  unfold clash crossed
  cases decide (x.2.1 = y.2.1) <;> cases decide (x.2.2 = y.2.2) <;> rfl
theorem seenQ_mem {h : H3} {q : Option Pr} {x : SeenT} : x ∈ seenQ h q ↔ x.1 ∈ usesL h q ∧ toldL h q x.1 = true ∧ x.2 = forkM h (modsOf q) x.1 := by
  unfold seenQ
  rw [List.mem_flatMap]
  constructor
  · rintro ⟨u, hu, hx⟩
    unfold seenU at hx
    split at hx
    · rename_i t
      obtain rfl := List.mem_singleton.mp hx
      exact ⟨hu, t, rfl⟩
    · cases hx
  · rintro ⟨a, b, c⟩
    refine ⟨x.1, a, ?_⟩
    unfold seenU
    rw [if_pos b, List.mem_singleton]
    exact Prod.ext rfl c
theorem apartL_false {h : H3} (k : OkH h) {ps : List Pr} : apartL h ps = false ↔ Calm h fun q => q ∈ pairsL ps := by
  unfold apartL
  rw [Bool.or_eq_false_iff, List.any_eq_false, List.any_eq_false]
  constructor
  · rintro ⟨a, b⟩
    refine ⟨fun q hq u hu => ?_, fun q q' hq hq' u hu hu' ht ht' => ?_⟩
    · have := a q hq
      rw [Bool.not_eq_true, List.any_eq_false] at this
      have := this u ((usesL_mem k).mpr hu)
      rw [badL_eq k] at this
      simpa using this
    · have m : ((u, forkM h (modsOf q) u) : SeenT) ∈ seenL h ps := List.mem_flatMap.mpr ⟨q, hq, seenQ_mem.mpr ⟨(usesL_mem k).mpr hu, ht, rfl⟩⟩
      have m' : ((u, forkM h (modsOf q') u) : SeenT) ∈ seenL h ps := List.mem_flatMap.mpr ⟨q', hq', seenQ_mem.mpr ⟨(usesL_mem k).mpr hu', ht', rfl⟩⟩
      have := b _ m
      rw [Bool.not_eq_true, List.any_eq_false] at this
      have := this _ m'
      rw [clash_eq, decide_eq_true rfl, Bool.true_and] at this
      simpa using this
  · intro c
    refine ⟨fun q hq => ?_, fun x hx => ?_⟩
    · rw [Bool.not_eq_true, List.any_eq_false]
      intro u hu
      rw [badL_eq k, c.good q hq u ((usesL_mem k).mp hu)]
      exact Bool.false_ne_true
    · rw [Bool.not_eq_true, List.any_eq_false]
      intro y hy
      obtain ⟨q, hq, hx⟩ := List.mem_flatMap.mp hx
      obtain ⟨q', hq', hy⟩ := List.mem_flatMap.mp hy
      obtain ⟨a1, a2, a3⟩ := seenQ_mem.mp hx
      obtain ⟨b1, b2, b3⟩ := seenQ_mem.mp hy
      rw [clash_eq]
      by_cases e : x.1 = y.1
      · have := c.flat q q' hq hq' x.1 ((usesL_mem k).mp a1) ((usesL_mem k).mp (e ▸ b1)) a2 (by rw [e]; exact b2)
        rw [a3, b3, ← e, this, Bool.and_false]
        exact Bool.false_ne_true
      · rw [decide_eq_false e, Bool.false_and]
        exact Bool.false_ne_true
theorem Calm.iff {h : H3} {S T : Option Pr → Prop} (e : ∀ q, S q ↔ T q) : Calm h S ↔ Calm h T := ⟨fun c => ⟨fun q hq => c.good q ((e q).mpr hq), fun q q' hq hq' => c.flat q q' ((e q).mpr hq) ((e q').mpr hq')⟩, fun c => ⟨fun q hq => c.good q ((e q).mp hq), fun q q' hq hq' => c.flat q q' ((e q).mp hq) ((e q').mp hq')⟩⟩
theorem pairsL_mem {ps : List Pr} {q : Option Pr} : q ∈ pairsL ps ↔ q = none ∨ ∃ r ∈ ps, q = some r := by
  unfold pairsL
  rw [List.mem_cons, List.mem_map]
  exact or_congr Iff.rfl ⟨fun ⟨r, a, b⟩ => ⟨r, a, b.symm⟩, fun ⟨r, a, b⟩ => ⟨r, a, b.symm⟩⟩
/-- the law's own look and the program's agree -/
theorem apart_iff {h : H3} (k : OkH h) : apartL h (throughM h) = false ↔ apartM h (reachM h) = none := by
  rw [apartL_false k, apartM_none]
  refine Calm.iff fun q => ?_
  rw [pairsL_mem]
  cases q with
  | none => exact ⟨fun _ => (reach_shut k).1, fun _ => .inl rfl⟩
  | some r =>
    rw [← through_iff k]
    exact ⟨fun z => z.elim (fun e => by cases e) fun ⟨r', a, b⟩ => by cases b; exact a, fun a => .inr ⟨r, a, rfl⟩⟩
end Cal
set_option Elab.async false
set_option linter.all false
set_option maxRecDepth 100000
set_option maxHeartbeats 4000000
namespace Cal
/-! ### rows of names -/
theorem next_form {h : H3} {q : Option Pr} {r : Pr} (hr : r ∈ nextsM h q) : nextOf h q (("call" : PySem.Str), r.1) = some r := by
  obtain ⟨u, _, _, c, e⟩ := callsM_mem.mp hr
  have e2 : u.2 = r.1 := by
    have : (if areMods (forkM h (modsOf q) u) = true then some (u.2, plcN (forkM h (modsOf q) u).1, plcN (forkM h (modsOf q) u).2) else none) = some r := e
    split at this
    · rw [← Option.some.inj this]
    · cases this
  have z : u = ((("call" : PySem.Str), r.1) : Use) := Prod.ext c e2
  rw [z] at e; exact e
theorem next_uniq {h : H3} {q : Option Pr} {r r' : Pr} (h1 : r ∈ nextsM h q) (h2 : r' ∈ nextsM h q) (e : r.1 = r'.1) : r = r' := by
  have a := next_form h1
  rw [e, next_form h2] at a
  exact (Option.some.inj a).symm
theorem endF_step (h : H3) (q : Option Pr) (n : Nat) (r : List Nat) : endF h q (n :: r) = match ((nextsM h q).filter fun l => decide (l.1 = n)).head? with | none => none | some l => endF h (some l) r := by
  have e : endF h q (n :: r) = match (nextsM h q).filter fun l => decide (l.1 = n) with | [] => none | l :: _ => endF h (some l) r := rfl
  rw [e]
  cases (nextsM h q).filter fun l => decide (l.1 = n) <;> rfl
theorem endL_step (h : H3) (q : Option Pr) (n : Nat) (r : List Nat) : endL h q (n :: r) = match ((nextsL h q).filter fun l => decide (l.1 = n)).head? with | none => none | some l => endL h (some l) r := by
  have e : endL h q (n :: r) = match (nextsL h q).filter fun l => decide (l.1 = n) with | [] => none | l :: _ => endL h (some l) r := rfl
  rw [e]
  cases (nextsL h q).filter fun l => decide (l.1 = n) <;> rfl
theorem head_same {A : Type} {as bs : List A} (e : ∀ a, a ∈ as ↔ a ∈ bs) (u : ∀ a ∈ as, ∀ b ∈ as, a = b) : as.head? = bs.head? := by
  cases as with
  | nil =>
    cases bs with
    | nil => rfl
    | cons b bs => exact absurd ((e b).mpr List.mem_cons_self) (by simp)
  | cons a as =>
    cases bs with
    | nil => exact absurd ((e a).mp List.mem_cons_self) (by simp)
    | cons b bs => exact congrArg some (u a List.mem_cons_self b ((e b).mpr List.mem_cons_self))
theorem heads_eq {h : H3} (k : OkH h) (q : Option Pr) (n : Nat) : ((nextsL h q).filter fun l => decide (l.1 = n)).head? = ((nextsM h q).filter fun l => decide (l.1 = n)).head? := by
  refine head_same (fun a => ?_) fun a ha b hb => ?_
  · rw [List.mem_filter, List.mem_filter, nexts_iff k]
  · rw [List.mem_filter, decide_eq_true_eq] at ha hb
    exact next_uniq ((nexts_iff k).mp ha.1) ((nexts_iff k).mp hb.1) (ha.2.trans hb.2.symm)
theorem endL_eq {h : H3} (k : OkH h) : ∀ (r : List Nat) (q : Option Pr), endL h q r = endF h q r
  | [], q => rfl
  | n :: r, q => by
    rw [endL_step, endF_step, heads_eq k]
    cases ((nextsM h q).filter fun l => decide (l.1 = n)).head? with
    | none => rfl
    | some l => exact endL_eq k r (some l)
theorem endF_snoc (h : H3) (l : Pr) : ∀ (r : List Nat) (q q' : Option Pr), endF h q r = some q' → l ∈ nextsM h q' → endF h q (r ++ [l.1]) = some (some l)
  | [], q, q', e, hl => by
    have e := Option.some.inj (show some q = some q' from e)
    subst e
    show endF h q (l.1 :: []) = _
    rw [endF_step]
    have : ((nextsM h q).filter fun x => decide (x.1 = l.1)).head? = some l := by
      have m : l ∈ (nextsM h q).filter fun x => decide (x.1 = l.1) := List.mem_filter.mpr ⟨hl, decide_eq_true rfl⟩
      cases z : (nextsM h q).filter fun x => decide (x.1 = l.1) with
      | nil => rw [z] at m; cases m
      | cons a as =>
        have ha : a ∈ (nextsM h q).filter fun x => decide (x.1 = l.1) := by rw [z]; exact List.mem_cons_self
        rw [List.mem_filter, decide_eq_true_eq] at ha
        exact congrArg some (next_uniq ha.1 hl ha.2)
    rw [this]; rfl
  | n :: r, q, q', e, hl => by
    rw [endF_step] at e
    show endF h q (n :: (r ++ [l.1])) = _
    rw [endF_step]
    cases z : ((nextsM h q).filter fun l => decide (l.1 = n)).head? with
    | none => rw [z] at e; cases e
    | some x =>
      rw [z] at e
      exact endF_snoc h l r (some x) q' e hl
def Paths (h : H3) (rows : Rows) : Prop := ∀ x ∈ rows, endF h none x.2 = some x.1
theorem fold_paths {h : H3} {q : Option Pr} : ∀ (ls : List Pr) (s : RS), q ∈ keysR s.1 → Paths h s.1 → (∀ l ∈ ls, l ∈ nextsM h q) → Paths h (ls.foldl (addLate q) s).1
  | [], s, _, p, _ => p
  | l :: ls, s, hq, p, hl => by
    rw [List.foldl_cons]
    refine fold_paths ls _ ?_ ?_ fun x hx => hl x (List.mem_cons_of_mem _ hx)
    · exact (fold_keys q [l] s q).mpr (.inl hq)
    · unfold addLate
      split
      · exact p
      · intro x hx
        rcases List.mem_append.mp hx with hx | hx
        · exact p x hx
        · rw [List.mem_singleton.mp hx]
          obtain ⟨pp, p1, p2⟩ := lookup_mem hq
          have := p _ p2
          show endF h none (pathOf s.1 q ++ [l.1]) = some (some l)
          unfold pathOf
          rw [p1]
          exact endF_snoc h l pp none q this (hl l List.mem_cons_self)
theorem reachF_paths {h : H3} (k : OkH h) : ∀ (n : Nat) (s : RS), RInv h s → Paths h s.1 → Paths h (reachF h n s).1
  | 0, s, _, p => p
  | n + 1, (rows, []), _, p => p
  | n + 1, (rows, q :: w), r, p => by
    have hqk : q ∈ keysR rows := r.wt q List.mem_cons_self
    have r0 : RInv h (rows, w) := ⟨r.nd, r.ok, fun p hp => r.wt p (List.mem_cons_of_mem _ hp), r.pl⟩
    have r1 := fold_inv (nextsM h q) (rows, w) r0 hqk fun l hl => nextsM_ok k (r.ok q hqk) hl
    exact reachF_paths k n ((nextsM h q).foldl (addLate q) (rows, w)) r1 (fold_paths (nextsM h q) (rows, w) hqk p fun l hl => hl)
theorem reach_paths {h : H3} (k : OkH h) : Paths h (reachM h) := reachF_paths k 100 _ (start_inv h) fun x hx => by rw [List.mem_singleton.mp hx]; rfl
/-! ### ways -/
theorem rowL_iff {h : H3} (k : OkH h) (w : Way) : (rowL h w = none ∧ (forkOf h w).1 = 0) ∨ ∃ b f, rowL h w = some (w.2, b, f) ∧ forkOf h w = (if b = true then 2 else 1, some f) := by
  unfold rowL forkOf
  rw [endL_eq k]
  cases endF h none w.1 with
  | none => exact .inl ⟨rfl, rfl⟩
  | some q =>
    have e1 := words_iff k q w.2
    show ((if (!decide (w.2 ∈ (wordsM h q).1) && !decide (w.2 ∈ (wordsM h q).2)) = true then none else some (w.2, decide (w.2 ∈ (wordsM h q).1) && decide (w.2 ∈ (wordsM h q).2), forkM h (modsOf q) w.2)) = none ∧ ((if w.2 ∈ (usesAt h q).1 then 1 else 0) + (if w.2 ∈ (usesAt h q).2 then 1 else 0)) = 0) ∨ _
    by_cases a : w.2 ∈ (usesAt h q).1 <;> by_cases b : w.2 ∈ (usesAt h q).2
    · exact .inr ⟨true, forkM h (modsOf q) w.2, by simp [a, b, e1.1, e1.2], by simp [a, b, e1.1, e1.2]⟩
    · exact .inr ⟨false, forkM h (modsOf q) w.2, by simp [a, b, e1.1, e1.2], by simp [a, b, e1.1, e1.2]⟩
    · exact .inr ⟨false, forkM h (modsOf q) w.2, by simp [a, b, e1.1, e1.2], by simp [a, b, e1.1, e1.2]⟩
    · exact .inl ⟨by simp [a, b, e1.1, e1.2], by simp [a, b, e1.1, e1.2]⟩
theorem told_iff {ss : List PySem.Str} {u : Use} (ok : OkUse ss u) : decide (u.1 ∈ told2) = !decide (u.1 = ("call" : PySem.Str)) := by
  have h := ok.1
  unfold words3 at h
  unfold told2
  rcases List.mem_cons.mp h with h | h
  · rw [h]; decide
  · rcases List.mem_cons.mp h with h | h
    · rw [h]; decide
    · rw [List.mem_singleton.mp h]; decide
theorem crossed_eq (f g : Fork) : crossed f g = !decide (decide (f.1 = g.1) = decide (f.2 = g.2)) := by
  unfold crossed
  cases decide (f.1 = g.1) <;> cases decide (f.2 = g.2) <;> rfl
theorem waysL_eq {h : H3} (k : OkH h) (ws : List Way) (hu : ∀ w ∈ ws, OkUse h.1.1.1 w.2) : waysL h ws = areWays h ws := by
  unfold waysL
  match ws, hu with
  | [], _ => rfl
  | [w], hu =>
    show ((rowL h w).isSome && true && judge ([w].filterMap (rowL h))) = oneOrBoth (forkOf h w)
    rcases rowL_iff k w with ⟨a, b⟩ | ⟨b, f, a1, a2⟩
    · rw [a]
      unfold oneOrBoth
      rw [b]; rfl
    · rw [a1, a2, List.filterMap_cons, a1]
      unfold oneOrBoth isEven
      cases b with
      | true =>
        show (true && true && (!true || (!decide (f.1 = f.2) && !areMods f))) = (decide (2 = 1) || (decide (2 = 2) && !(decide (f.1 = f.2) || areMods f)))
        cases decide (f.1 = f.2) <;> cases areMods f <;> rfl
      | false => rfl
  | [w, v], hu =>
    show ((rowL h w).isSome && ((rowL h v).isSome && true) && judge ([w, v].filterMap (rowL h))) = ((decide (w.2 = v.2) && decide (w.2.1 ∈ told2)) && ((both (forkOf h w) && both (forkOf h v)) && match (forkOf h w).2, (forkOf h v).2 with | some f, some g => crossed f g | _, _ => false))
    rcases rowL_iff k w with ⟨a, b⟩ | ⟨b, f, a1, a2⟩
    · have : both (forkOf h w) = false := by unfold both; rw [b]; rfl
      rw [a, this, Bool.false_and, Bool.false_and, Bool.and_false]; rfl
    · rcases rowL_iff k v with ⟨c, d⟩ | ⟨d, g, c1, c2⟩
      · have : both (forkOf h v) = false := by unfold both; rw [d]; rfl
        rw [c, this, Bool.and_false, Bool.false_and, Bool.and_false, a1]; rfl
      · rw [a1, c1, a2, c2, List.filterMap_cons, a1, List.filterMap_cons, c1, told_iff (hu w List.mem_cons_self)]
        have e1 : both (if b = true then 2 else 1, some f) = (b && areMods f) := by cases b <;> rfl
        have e2 : both (if d = true then 2 else 1, some g) = (d && areMods g) := by cases d <;> rfl
        rw [e1, e2]
        show (true && (true && true) && (!(!decide (w.2 = v.2) || decide (w.2.1 = ("call" : PySem.Str))) && (((b && areMods f) && (d && areMods g)) && !decide (decide (f.1 = g.1) = decide (f.2 = g.2))))) = ((decide (w.2 = v.2) && !decide (w.2.1 = ("call" : PySem.Str))) && (((b && areMods f) && (d && areMods g)) && crossed f g))
        rw [crossed_eq]
        generalize decide (w.2 = v.2) = p1
        generalize decide (w.2.1 = ("call" : PySem.Str)) = p2
        generalize (!decide (decide (f.1 = g.1) = decide (f.2 = g.2))) = p3
        generalize (b && areMods f) = p4
        generalize (d && areMods g) = p5
        cases p1 <;> cases p2 <;> cases p3 <;> cases p4 <;> cases p5 <;> rfl
  | w :: v :: x :: ws, hu =>
    show _ = false
    cases z : ((w :: v :: x :: ws).all fun w => (rowL h w).isSome) with
    | false => rfl
    | true =>
      have all := List.all_eq_true.mp z
      have ex : ∀ y ∈ w :: v :: x :: ws, ∃ r, rowL h y = some r := fun y hy => Option.isSome_iff_exists.mp (all y hy)
      obtain ⟨r1, e1⟩ := ex w (by simp)
      obtain ⟨r2, e2⟩ := ex v (by simp)
      obtain ⟨r3, e3⟩ := ex x (by simp)
      rw [List.filterMap_cons, e1, List.filterMap_cons, e2, List.filterMap_cons, e3]; rfl
theorem forkOf_at {h : H3} {row : List Nat} {q : Option Pr} {u : Use} (e : endF h none row = some q) : forkOf h (row, u) = ((if u ∈ (usesAt h q).1 then 1 else 0) + (if u ∈ (usesAt h q).2 then 1 else 0), some (forkM h (modsOf q) u)) := by
  unfold forkOf
  show (match endF h none row with | none => _ | some q => _) = _
  rw [e]
/-- what is told parts -/
theorem apart_ways {h : H3} (k : OkH h) {ws : List Way} (e : apartM h (reachM h) = some ws) : areWays h ws = true ∧ (ws.length = 1 ∨ ws.length = 2) ∧ ∀ w ∈ ws, OkUse h.1.1.1 w.2 := by
  unfold apartM at e
  rw [runR_runE] at e
  cases z : runE h (evs h (reachM h)) [] with
  | ok s => rw [z] at e; cases e
  | error w =>
    rw [z] at e
    cases e
    obtain ⟨ev, he, hw⟩ := runE_err z
    obtain ⟨a1, a2⟩ := evs_mem.mp he
    have pe := reach_paths k _ a1
    have qe : OkPO h ev.1 := (reachM_inv k).ok _ (keysR_mem.mpr ⟨_, a1⟩)
    have ue := usesAt_ok k qe (allUses_mem.mp a2)
    have fe := forkOf_at (u := ev.2.2) pe
    rcases hw with ⟨b, rfl⟩ | ⟨b1, b2, f, b3, b4, b5, rfl⟩
    · refine ⟨?_, .inl rfl, fun w hw => by rw [List.mem_singleton.mp hw]; exact ue⟩
      show oneOrBoth (forkOf h (ev.2.1, ev.2.2)) = true
      rw [fe]
      unfold badM at b
      unfold oneOrBoth
      rcases allUses_mem.mp a2 with m | m
      · by_cases m2 : ev.2.2 ∈ (usesAt h ev.1).2
        · rw [decide_eq_true m, decide_eq_true m2] at b
          rw [if_pos m, if_pos m2]
          simpa using b
        · rw [if_pos m, if_neg m2]; rfl
      · by_cases m2 : ev.2.2 ∈ (usesAt h ev.1).1
        · rw [decide_eq_true m, decide_eq_true m2] at b
          rw [if_pos m, if_pos m2]
          simpa using b
        · rw [if_pos m, if_neg m2]; rfl
    · rcases b5 with b5 | ⟨g, hg, c1, c2, rfl⟩
      · cases b5
      · obtain ⟨g1, g2⟩ := evs_mem.mp hg
        have pg := reach_paths k _ g1
        have fg := forkOf_at (u := g.2.2) pg
        have qg : OkPO h g.1 := (reachM_inv k).ok _ (keysR_mem.mpr ⟨_, g1⟩)
        have ug := usesAt_ok k qg (allUses_mem.mp g2)
        have cnt : ∀ {q : Option Pr} {u : Use}, badM h q u = false → u ∈ (usesAt h q).1 ∧ u ∈ (usesAt h q).2 := fun {q u} hb => by
          unfold badM at hb
          rw [Bool.or_eq_false_iff, Bool.or_eq_false_iff, Bool.not_eq_false', Bool.not_eq_false', decide_eq_true_eq, decide_eq_true_eq] at hb
          exact ⟨hb.1, hb.2.1⟩
        obtain ⟨m1, m2⟩ := cnt b1
        obtain ⟨n1, n2⟩ := cnt c1
        have b4 : (decide (g.2.2 = ev.2.2) && crossed (forkM h (modsOf ev.1) ev.2.2) (forkM h (modsOf g.1) g.2.2)) = true := b4
        rw [Bool.and_eq_true, decide_eq_true_eq] at b4
        have b2 : (decide (ev.2.2.1 ∈ told2) && areMods (forkM h (modsOf ev.1) ev.2.2)) = true := b2
        have c2 : (decide (g.2.2.1 ∈ told2) && areMods (forkM h (modsOf g.1) g.2.2)) = true := c2
        rw [Bool.and_eq_true] at b2 c2
        refine ⟨?_, .inr rfl, fun w hw => ?_⟩
        · show ((decide (g.2.2 = ev.2.2) && decide (g.2.2.1 ∈ told2)) && ((both (forkOf h (g.2.1, g.2.2)) && both (forkOf h (ev.2.1, ev.2.2))) && match (forkOf h (g.2.1, g.2.2)).2, (forkOf h (ev.2.1, ev.2.2)).2 with | some f, some g => crossed f g | _, _ => false)) = true
          rw [fe, fg, if_pos m1, if_pos m2, if_pos n1, if_pos n2, decide_eq_true b4.1, c2.1]
          have e1 : both (1 + 1, some (forkM h (modsOf g.1) g.2.2)) = true := by show (decide (2 = 2) && areMods _) = true; rw [c2.2]; rfl
          have e2 : both (1 + 1, some (forkM h (modsOf ev.1) ev.2.2)) = true := by show (decide (2 = 2) && areMods _) = true; rw [b2.2]; rfl
          rw [e1, e2]
          show crossed (forkM h (modsOf g.1) g.2.2) (forkM h (modsOf ev.1) ev.2.2) = true
          rw [crossed_symm]; exact b4.2
        · rcases List.mem_cons.mp hw with rfl | hw
          · exact ug
          · rw [List.mem_singleton.mp hw]; exact ue
end Cal
set_option Elab.async false
set_option linter.all false
set_option maxRecDepth 100000
set_option maxHeartbeats 4000000
namespace Cal
/-! ### the pairs at a lot -/
def psOf (h : H3) : List Pr := srt ePr (pairsR (reachM h))
theorem pairsR_mem {r : Rows} {p : Pr} : p ∈ pairsR r ↔ some p ∈ keysR r := by
  unfold pairsR
  rw [List.mem_filterMap]
  exact ⟨fun ⟨q, hq, e⟩ => (show q = some p from e) ▸ hq, fun hq => ⟨_, hq, rfl⟩⟩
theorem psOf_mem {h : H3} {p : Pr} : p ∈ psOf h ↔ some p ∈ keysR (reachM h) := by
  unfold psOf
  rw [srt_mem, pairsR_mem]
theorem filterMap_nodup {A : Type} : ∀ {l : List (Option A)}, l.Nodup → (l.filterMap id).Nodup
  | [], _ => List.nodup_nil
  | none :: l, nd => by
    have := filterMap_nodup (l := l) (List.nodup_cons.mp nd).2
    exact this
  | some a :: l, nd => by
    show (a :: l.filterMap id).Nodup
    refine List.nodup_cons.mpr ⟨fun z => ?_, filterMap_nodup (List.nodup_cons.mp nd).2⟩
    obtain ⟨x, hx, e⟩ := List.mem_filterMap.mp z
    exact (List.nodup_cons.mp nd).1 ((show x = some a from e) ▸ hx)
theorem psOf_ok {h : H3} (k : OkH h) : OkPs h (psOf h) := by
  refine ⟨fun q hq => ?_, srt_asc srt_pr (filterMap_nodup (reachM_inv k).nd)⟩
  exact throughM_ok k ((through_iff k).mpr (psOf_mem.mp hq))
theorem OkPs.sub {h : H3} {ps qs : List Pr} (o : OkPs h ps) (s : qs.Sublist ps) : OkPs h qs := ⟨fun q hq => o.ok q (s.subset hq), o.asc.sublist s⟩
theorem right_true {h : H3} (k : OkH h) (e : apartM h (reachM h) = none) : rightM h (psOf h) = true := by
  have ke : ∀ q, q ∈ keysR (rows0 (psOf h)) ↔ q ∈ keysR (reachM h) := fun q => by
    rw [keys_rows0, List.mem_cons, List.mem_map]
    constructor
    · rintro (rfl | ⟨p, hp, rfl⟩)
      · exact (reach_shut k).1
      · exact psOf_mem.mp hp
    · intro hq
      cases q with
      | none => exact .inl rfl
      | some p => exact .inr ⟨p, psOf_mem.mpr hq, rfl⟩
  unfold rightM
  rw [Bool.and_eq_true, decide_eq_true_eq]
  refine ⟨?_, apartM_none.mpr ((Calm.iff ke).mpr (apartM_none.mp e))⟩
  unfold closed
  rw [List.all_eq_true]
  intro q hq
  rw [List.all_eq_true]
  intro l hl
  rw [decide_eq_true_eq, psOf_mem]
  exact (reach_shut k).2 q ((ke q).mp (by rw [keys_rows0]; exact hq)) l hl
theorem right_less {h : H3} (k : OkH h) {ps : List Pr} {r : Pr} (hr : r ∈ throughM h) (hn : r ∉ ps) : rightM h ps = false := by
  unfold rightM
  rw [Bool.and_eq_false_iff]
  refine .inl ?_
  cases z : closed h ps with
  | false => rfl
  | true =>
    exfalso
    unfold closed at z
    rw [List.all_eq_true] at z
    have sh : Shut h fun q => q ∈ (none :: ps.map some : List (Option Pr)) := by
      refine ⟨List.mem_cons_self, fun q hq l hl => ?_⟩
      have := List.all_eq_true.mp (z q hq) l hl
      rw [decide_eq_true_eq] at this
      exact List.mem_cons_of_mem _ (List.mem_map_of_mem this)
    have := reach_least k sh ((through_iff k).mp hr)
    rcases List.mem_cons.mp this with e | e
    · cases e
    · obtain ⟨p, hp, e⟩ := List.mem_map.mp e
      exact hn (Option.some.inj e ▸ hp)
/-! ### compare -/
def allT (b1 b2 : Bld) (ls : List Lot) : Told := ls.map fun l => (l, psOf (b1, b2, l))
def apartsL (b1 b2 : Bld) : List Lot := (lotsM b1.1.1.length).filter fun l => apartL (b1, b2, l) (throughM (b1, b2, l))
theorem compF_ok {b1 b2 : Bld} : ∀ {ls : List Lot} {t t' : Told}, compF b1 b2 ls t = .ok t' → t' = t ++ allT b1 b2 ls ∧ ∀ l ∈ ls, apartM (b1, b2, l) (reachM (b1, b2, l)) = none
  | [], t, t', e => by
    have e : Except.ok (ε := Lot × List Way) t = .ok t' := e
    cases e
    exact ⟨(List.append_nil _).symm, fun l hl => by cases hl⟩
  | l :: ls, t, t', e => by
    have e : (match apartM (b1, b2, l) (reachM (b1, b2, l)) with | some w => .error (l, w) | none => compF b1 b2 ls (t ++ [(l, psOf (b1, b2, l))])) = Except.ok t' := e
    cases z : apartM (b1, b2, l) (reachM (b1, b2, l)) with
    | some w => rw [z] at e; cases e
    | none =>
      rw [z] at e
      obtain ⟨a, b⟩ := compF_ok (ls := ls) e
      refine ⟨by rw [a, List.append_assoc]; rfl, fun m hm => ?_⟩
      rcases List.mem_cons.mp hm with rfl | hm
      · exact z
      · exact b m hm
theorem compF_err {b1 b2 : Bld} : ∀ {ls : List Lot} {t : Told} {x : Lot × List Way}, compF b1 b2 ls t = .error x → ∃ pre post, ls = pre ++ x.1 :: post ∧ apartM (b1, b2, x.1) (reachM (b1, b2, x.1)) = some x.2 ∧ ∀ l ∈ pre, apartM (b1, b2, l) (reachM (b1, b2, l)) = none
  | [], t, x, e => by
    have e : Except.ok (ε := Lot × List Way) t = .error x := e
    cases e
  | l :: ls, t, x, e => by
    have e : (match apartM (b1, b2, l) (reachM (b1, b2, l)) with | some w => .error (l, w) | none => compF b1 b2 ls (t ++ [(l, psOf (b1, b2, l))])) = Except.error x := e
    cases z : apartM (b1, b2, l) (reachM (b1, b2, l)) with
    | some w =>
      rw [z] at e
      cases e
      exact ⟨[], ls, rfl, z, fun l hl => by cases hl⟩
    | none =>
      rw [z] at e
      obtain ⟨pre, post, a, b, c⟩ := compF_err (ls := ls) e
      refine ⟨l :: pre, post, by rw [a]; rfl, b, fun m hm => ?_⟩
      rcases List.mem_cons.mp hm with rfl | hm
      · exact z
      · exact c m hm
section
variable {b1 b2 : Bld} (o : Ok2 (b1, b2)) (hn : b1.1.1.length = 2 ∨ b1.1.1.length = 3)
include o
theorem lot_ok {l : Lot} (h : l ∈ lotsM b1.1.1.length) : OkH (b1, b2, l) := okH_of o (lotsM_mem.mp h)
theorem comp_ok {t : Told} (e : compareM b1 b2 = .ok t) : t = allT b1 b2 (lotsM b1.1.1.length) ∧ (∀ l ∈ lotsM b1.1.1.length, apartM (b1, b2, l) (reachM (b1, b2, l)) = none) ∧ apartsL b1 b2 = [] := by
  obtain ⟨a, b⟩ := compF_ok e
  refine ⟨a, b, ?_⟩
  unfold apartsL
  rw [List.filter_eq_nil_iff]
  intro l hl
  rw [(apart_iff (lot_ok o hl)).mpr (b l hl)]
  exact Bool.false_ne_true
theorem comp_err {x : Lot × List Way} (e : compareM b1 b2 = .error x) : x.1 ∈ lotsM b1.1.1.length ∧ (apartsL b1 b2).head? = some x.1 ∧ areWays (b1, b2, x.1) x.2 = true ∧ (x.2.length = 1 ∨ x.2.length = 2) ∧ ∀ w ∈ x.2, OkUse b1.1.1 w.2 := by
  obtain ⟨pre, post, a, b, c⟩ := compF_err e
  have hx : x.1 ∈ lotsM b1.1.1.length := by rw [a]; simp
  have k := lot_ok o hx
  refine ⟨hx, ?_, apart_ways k b⟩
  unfold apartsL
  rw [a, List.filter_append]
  have e1 : (pre.filter fun l => apartL (b1, b2, l) (throughM (b1, b2, l))) = [] := by
    rw [List.filter_eq_nil_iff]
    intro l hl
    rw [(apart_iff (lot_ok o (by rw [a]; exact List.mem_append_left _ hl))).mpr (c l hl)]
    exact Bool.false_ne_true
  have e2 : apartL (b1, b2, x.1) (throughM (b1, b2, x.1)) = true := by
    cases z : apartL (b1, b2, x.1) (throughM (b1, b2, x.1)) with
    | true => rfl
    | false => rw [(apart_iff k).mp z] at b; cases b
  rw [e1, List.nil_append, List.filter_cons_of_pos (p := fun l => apartL (b1, b2, l) (throughM (b1, b2, l))) e2]; rfl
theorem comp_due : (apartsL b1 b2).head? = aheadOf (compareM b1 b2) := by
  cases z : compareM b1 b2 with
  | ok t => rw [(comp_ok o z).2.2]; rfl
  | error x => exact (comp_err o z).2.1
theorem comp_alike : isOkE (compareM b1 b2) = decide ((apartsL b1 b2).head? = none) := by
  rw [comp_due o]
  cases compareM b1 b2 <;> rfl
/-! ### what is told, also altered -/
theorem allT_keys (ls : List Lot) : (allT b1 b2 ls).map (·.1) = ls := by
  unfold allT
  rw [List.map_map]
  exact List.map_id _
include hn
theorem show_all {ls : List Lot} (s : ls.Sublist (lotsM b1.1.1.length)) : OkShow b1 b2 (allT b1 b2 ls) := by
  refine ⟨o, hn, ⟨hn, fun x hx => ?_, ?_⟩, fun x hx => ?_⟩
  · obtain ⟨l, hl, rfl⟩ := List.mem_map.mp hx
    exact lotsM_mem.mp (s.subset hl)
  · rw [allT_keys o]; exact (lotsM_nd hn).sublist s
  · obtain ⟨l, hl, rfl⟩ := List.mem_map.mp hx
    exact psOf_ok (lot_ok o (s.subset hl))
theorem pairs_all {ls : List Lot} {l : Lot} (h : l ∈ ls) : pairsOf (allT b1 b2 ls) l = psOf (b1, b2, l) := by
  unfold pairsOf allT
  induction ls with
  | nil => cases h
  | cons a ls ih =>
    rw [List.map_cons, List.lookup_cons]
    by_cases z : l = a
    · subst z; simp
    · rw [show (l == a) = false from beq_false_of_ne z]
      rcases List.mem_cons.mp h with e | e
      · exact absurd e z
      · exact ih e
theorem shows_all (e : ∀ l ∈ lotsM b1.1.1.length, apartM (b1, b2, l) (reachM (b1, b2, l)) = none) : showsA b1 b2 (allT b1 b2 (lotsM b1.1.1.length)) = true := by
  unfold showsA
  rw [Bool.and_eq_true, Bool.and_eq_true, decide_eq_true_eq, List.all_eq_true, List.all_eq_true, allT_keys o]
  refine ⟨⟨?_, fun l hl => decide_eq_true hl⟩, fun l hl => ?_⟩
  · unfold allT; rw [List.length_map]
  · rw [pairs_all o hn hl]; exact right_true (lot_ok o hl) (e l hl)
theorem shows_short {t : Told} (h : t.length < (lotsM b1.1.1.length).length) : showsA b1 b2 t = false := by
  unfold showsA
  rw [decide_eq_false (by omega)]; rfl
end
/-- the pairs at one lot told otherwise -/
def setT (t : Told) (l : Lot) (ps : List Pr) : Told := t.map fun x => (x.1, if x.1 = l then ps else x.2)
theorem setT_keys (t : Told) (l : Lot) (ps : List Pr) : (setT t l ps).map (·.1) = t.map (·.1) := by
  unfold setT
  rw [List.map_map]; rfl
theorem setT_ks (t : Told) (l : Lot) (ps : List Pr) (h : l ∈ t.map (·.1)) : dsK (ksT t) (kLot l) = ksT (setT t l ps) := by
  unfold dsK
  rw [if_pos (ksT_mem.mpr h)]
  unfold ksT setT
  rw [List.map_map]; rfl
theorem setT_none {t : Told} {l : Lot} (ps : List Pr) (h : l ∉ t.map (·.1)) : setT t l ps = t := by
  unfold setT
  conv => rhs; rw [← List.map_id t]
  refine List.map_congr_left fun x hx => ?_
  have z : ¬ x.1 = l := fun e => h (by rw [← e]; exact List.mem_map_of_mem hx)
  show (x.1, if x.1 = l then ps else x.2) = x
  rw [if_neg z]
theorem setT_xs : ∀ (t : Told) (l : Lot) (ps : List Pr), (t.map (·.1)).Nodup → l ∈ t.map (·.1) → dsX (ksT t) (xsT t) (kLot l) (.tup (ps.map ePr)) = xsT (setT t l ps)
  | [], l, ps, _, h => by cases h
  | (a, qs) :: t, l, ps, nd, h => by
    rw [List.map_cons, List.nodup_cons] at nd
    unfold dsX
    rw [if_pos (ksT_mem.mpr h)]
    have e1 : ksT ((a, qs) :: t) = kLot a :: ksT t := rfl
    have e2 : xsT ((a, qs) :: t) = .tup (qs.map ePr) :: xsT t := rfl
    have e3 : setT ((a, qs) :: t) l ps = (a, if a = l then ps else qs) :: setT t l ps := rfl
    rw [e1, e2, e3, List.idxOf_cons]
    by_cases z : a = l
    · subst z
      rw [setT_none ps nd.1, if_pos rfl, beq_self_eq_true]; rfl
    · have zk : kLot a ≠ kLot l := fun e => z (kLot_inj.mp e)
      rw [beq_false_of_ne zk, if_neg z]
      have h' : l ∈ t.map (·.1) := by
        rcases List.mem_cons.mp h with e | e
        · exact absurd e.symm z
        · exact e
      have := setT_xs t l ps nd.2 h'
      unfold dsX at this
      rw [if_pos (ksT_mem.mpr h')] at this
      show _ :: (xsT t).set _ _ = _ :: xsT (setT t l ps)
      rw [this]
theorem setT_mem {t : Told} {l : Lot} {ps : List Pr} {x : Lot × List Pr} (h : x ∈ setT t l ps) : (x.1 = l ∧ x.2 = ps) ∨ x ∈ t := by
  unfold setT at h
  obtain ⟨y, hy, rfl⟩ := List.mem_map.mp h
  by_cases z : y.1 = l
  · exact .inl ⟨z, if_pos z⟩
  · refine .inr ?_
    rw [show ((y.1, if y.1 = l then ps else y.2) : Lot × List Pr) = y from by rw [if_neg z]]
    exact hy
theorem OkShow.set {b1 b2 : Bld} {t : Told} (o : OkShow b1 b2 t) {l : Lot} {ps : List Pr} (h : OkPs (b1, b2, l) ps) : OkShow b1 b2 (setT t l ps) := by
  refine ⟨o.two, o.n, ⟨o.n, fun x hx => ?_, ?_⟩, fun x hx => ?_⟩
  · have : x.1 ∈ (setT t l ps).map (·.1) := List.mem_map_of_mem hx
    rw [setT_keys] at this
    obtain ⟨y, hy, e⟩ := List.mem_map.mp this
    have := o.told.lot y hy
    rwa [e] at this
  · rw [setT_keys]; exact o.told.nd
  · rcases setT_mem hx with ⟨e1, e2⟩ | hx
    · rw [e1, e2]; exact h
    · exact o.ps x hx
theorem pairs_set {l : Lot} {ps : List Pr} : ∀ {t : Told}, l ∈ t.map (·.1) → pairsOf (setT t l ps) l = ps
  | [], h => by cases h
  | (a, qs) :: t, h => by
    unfold pairsOf
    have e3 : setT ((a, qs) :: t) l ps = (a, if a = l then ps else qs) :: setT t l ps := rfl
    rw [e3, List.lookup_cons]
    by_cases z : l = a
    · subst z; simp
    · rw [show (l == a) = false from beq_false_of_ne z]
      rcases List.mem_cons.mp h with e | e
      · exact absurd e z
      · exact pairs_set e
theorem shows_set {b1 b2 : Bld} (o : Ok2 (b1, b2)) {t : Told} {l : Lot} {ps : List Pr} {r : Pr} (hl : l ∈ lotsM b1.1.1.length) (hm : l ∈ t.map (·.1)) (hr : r ∈ throughM (b1, b2, l)) (hx : r ∉ ps) : showsA b1 b2 (setT t l ps) = false := by
  unfold showsA
  rw [Bool.and_eq_false_iff]
  refine .inr ?_
  rw [List.all_eq_false]
  refine ⟨l, hl, ?_⟩
  rw [pairs_set hm, right_less (lot_ok o hl) hr hx]
  exact Bool.false_ne_true
/-- an ascending row without one of its own -/
theorem gone {h : H3} {ps : List Pr} (o : OkPs h ps) {i : Nat} {r : Pr} (e : ps[i]? = some r) : r ∉ ps.take i ++ ps.drop (i + 1) := by
  have nd := o.nd
  obtain ⟨hi, e⟩ := List.getElem?_eq_some_iff.mp e
  have s : ps = ps.take i ++ r :: ps.drop (i + 1) := by
    conv => lhs; rw [← List.take_append_drop i ps, List.drop_eq_getElem_cons hi, e]
  rw [s] at nd
  have p := List.perm_middle (a := r) (l₁ := ps.take i) (l₂ := ps.drop (i + 1))
  exact (List.nodup_cons.mp (p.nodup_iff.mp nd)).1
theorem cut_sub (ps : List Pr) (i : Nat) : (ps.take i ++ ps.drop (i + 1)).Sublist ps := by
  conv => rhs; rw [← List.take_append_drop i ps]
  exact (List.Sublist.refl _).append (by rw [show ps.drop (i + 1) = (ps.drop i).drop 1 from by rw [List.drop_drop]]; exact List.drop_sublist _ _)
end Cal
set_option Elab.async false
set_option linter.all false
set_option maxRecDepth 100000
set_option maxHeartbeats 4000000
namespace Cal
open PySem PySem.Spec PyProof.Rows L2
theorem inj_lists {A : Type} {k : Nat} {enc : A → Dat} (ha : Inj k enc) : Inj (k + 1) (fun as : List A => .lst (as.map enc)) := by
  refine ⟨fun p => ?_, fun p => ?_, fun p q => ?_⟩
  · show pls _ = true
    rw [pls_all]; exact ha.all p
  · show PyData.depthAll (pys (p.map enc)) + 1 ≤ k + 1
    exact Nat.succ_le_succ (depthAll_map ha p)
  · show PyData.eqv (.list _) (.list _) = true ↔ _
    rw [show ∀ xs ys : List PyData, PyData.eqv (.list xs) (.list ys) = PyData.eqvAll xs ys from fun xs ys => by rw [PyData.eqv]]
    exact eqvAll_map ha p q
theorem keys_told (t : Told) : (ksT t).map kd = (t.map (·.1)).map eLot := by
  unfold ksT
  rw [List.map_map, List.map_map]
  exact List.map_congr_left fun x _ => kd_lot x.1
theorem items_told : ∀ t : Told, itemsD (ksT t) (xsT t) = t.map fun x => .tup [eLot x.1, .tup (x.2.map ePr)]
  | [] => rfl
  | x :: t => by
    show Dat.tup [kd (kLot x.1), _] :: itemsD (ksT t) (xsT t) = _
    rw [items_told t, kd_lot]; rfl
theorem lots_ne {n : Nat} : lotsM n ≠ [] := by
  intro e
  have h : ∀ n, rawLots n ≠ [] := fun n => by
    induction n with
    | zero => exact fun e => by cases e
    | succ n ih =>
      intro e
      have e : (rawLots n).flatMap (fun l => [l ++ [0], l ++ [1], l ++ [2]]) = [] := e
      cases q : rawLots n with
      | nil => exact ih q
      | cons a as => rw [q, List.flatMap_cons] at e; cases e
  have p := List.mergeSort_perm (rawLots n) (PySem.W.dataLe false keyL)
  have e : (rawLots n).mergeSort (PySem.W.dataLe false keyL) = [] := e
  rw [e] at p
  exact h n p.symm.eq_nil
section
variable {c : Cfg} {CP CH CA CD : Addr} (B : Glb c CP CH CA CD) (L : LotsOf c CP)
include B L
theorem ok_law_alike_right : Has c 13 "_law_alike_right" (spD c (fun a : Bld × Bld => [.lst [eBuild a.1, eBuild a.2], .lst [eBld CP a.1, eBld CP a.2], eAlike CA (allT a.1 a.2 (lotsM a.1.1.1.length)), .lst ((lotsM a.1.1.1.length).map eLot)]) (fun a => Ok2 a ∧ (a.1.1.1.length = 2 ∨ a.1.1.1.length = 3) ∧ ∀ l ∈ lotsM a.1.1.1.length, apartM (a.1, a.2, l) (reachM (a.1, a.2, l)) = none) fun _ d => d = .bl true) :=
  hasD_of B.law_alike_right (fun _ => rfl) (fun ⟨b1, b2⟩ q ⟨o, hn, hc⟩ => by
    have o : Ok2 (b1, b2) := o
    have hn : b1.1.1.length = 2 ∨ b1.1.1.length = 3 := hn
    have hc : ∀ l ∈ lotsM b1.1.1.length, apartM (b1, b2, l) (reachM (b1, b2, l)) = none := hc
    have hll := lotsM_len hn
    have st := show_all o hn (List.Sublist.refl (lotsM b1.1.1.length))
    have sh := shows_all o hn hc
    have ek := allT_keys o (lotsM b1.1.1.length)
    have pa := fun l (hl : l ∈ lotsM b1.1.1.length) => pairs_all o hn hl
    generalize hT : allT b1 b2 (lotsM b1.1.1.length) = t at st sh ek pa
    show DS _ [.dr, .dat (.lst [eBuild b1, eBuild b2]), .dat (.lst [eBld CP b1, eBld CP b2]), .dat (eAlike CA t), .dat (.lst ((lotsM b1.1.1.length).map eLot)), .no, .no, .no, .no, .no, .no] _ _
    refine ds_cons (d1_if (k := false) (dt_w (dw_or (k := false) (k' := false) (dt_not (k := true) (dt_val (de_isiC (x := eAlike CA t) B.b_isinstance B.g_Alike (dv 3 rfl).re B.i_Alike (bne_self CA)))) fun _ => dw_or (k := false) (k' := false) ((dt_cmp (c_neE (inj_lists inj_lot) (ll rfl) (t.map (·.1)) (lotsM b1.1.1.length)) ((le_listD B.b_list (de_fld1 (dv 3 rfl) B.k_Alike B.n_pairs).re).re.is (by rw [keys_told])) (rv 4 rfl)).is (by rw [ek, decide_eq_true rfl]; rfl)) fun _ => dw_or1 (k := false) (dt_cmp (c_isnotB (x := .bl true) (k := true) rfl) ((de_meth (ok_Alike_shows B L) B.k_Alike (dv 3 rfl) (da_cons (de_ixL (d := eBld CP b1) (rv 2 rfl) de_int rfl) (da_cons (de_ixL (d := eBld CP b2) (rv 2 rfl) de_int rfl) da_nil)) (t, b1, b2) rfl st (ll rfl) (fun vs => by cases vs <;> rfl)).is (by rw [show showsA b1 b2 t = true from sh])).re de_bl.re))) (fun e => by cases e) fun _ => ds_nil ?_)
    refine ds_mid (fun G' => ∃ l : Lot, l ∈ lotsM b1.1.1.length ∧ G' = [.dr, .dat (.lst [eBuild b1, eBuild b2]), .dat (.lst [eBld CP b1, eBld CP b2]), .dat (eAlike CA t), .dat (.lst ((lotsM b1.1.1.length).map eLot)), .dat (eLot l), .no, .no, .no, .no, .no]) (d1_set 5 (S := fun s => ∃ l : Lot, l ∈ lotsM b1.1.1.length ∧ s = .dat (eLot l)) (DX.sx (dx_callD rfl (ok_law_pick B) 0 rfl rfl (by first | exact .inl rfl | exact .inr (.inl rfl)) ((lotsM b1.1.1.length).map eLot) (fun z => lots_ne (List.map_eq_nil_iff.mp z)) (ll rfl) (da_cons (dv 4 rfl) da_nil)) fun d hd => by
      obtain ⟨x, hx, e⟩ := List.mem_map.mp hd
      exact ⟨x, hx, by rw [e]⟩) rfl fun s ⟨x, hx, e⟩ => ⟨x, hx, by rw [e]; rfl⟩) fun G' ⟨l, hl, eG⟩ => ?_
    subst eG
    have oh : OkH (b1, b2, l) := lot_ok o hl
    obtain ⟨i0, i1, i2, _⟩ := told_at (t := t) (l := l) (by rw [ek]; exact hl)
    rw [pa l hl] at i2
    have op := psOf_ok oh
    have tin : ∀ r, r ∈ throughM (b1, b2, l) ↔ r ∈ psOf (b1, b2, l) := fun r => (through_iff oh).trans psOf_mem.symm
    generalize hps : psOf (b1, b2, l) = ps at i2 op tin
    have hpl : ps.length ≤ 36 := op.len oh
    have htl := throughM_len oh
    refine ds_cons (d1_asg 6 (d := .lst (ps.map ePr)) (LE.de (le_listT (xs := ps.map ePr) B.b_list (DE.re (de_getD (de_fld1 (dv 3 rfl) B.k_Alike B.n_pairs).re ((dv 5 rfl).is (kd_lot l).symm) (ask_lot l) i1 i2)))) rfl ?_)
    refine ds_cons (d1_if (k := false) (dt_not (k := true) (dt_val ((all1 9 ePr (throughM (b1, b2, l)) (fun r => decide (r ∈ ps)) B.b_all (it_list (de_call (ok_law_through B) (b1, b2, l) oh (ll rfl) (da_cons (dv 1 rfl) (da_cons (dv 5 rfl) da_nil)))) (Nat.le_trans htl (ll rfl)) fun r hr => de_cmp (c_inLE inj_pr (ll rfl) r ps) (rv 9 rfl) (rv 6 rfl)).is (by rw [List.all_eq_true.mpr fun r hr => decide_eq_true ((tin r).mp hr)])))) (fun e => by cases e) fun _ => ds_nil ?_)
    refine ds_cons (d1_for (as := rgN 0 ps.length) (enc := eN) (fun rem G => ∃ (done : List Nat) (G7 G8 : Slot), rgN 0 ps.length = done ++ rem ∧ G = [.dr, .dat (.lst [eBuild b1, eBuild b2]), .dat (.lst [eBld CP b1, eBld CP b2]), .dat (eAlike CA t), .dat (.lst ((lotsM b1.1.1.length).map eLot)), .dat (eLot l), .dat (.lst (ps.map ePr)), G7, G8, .no, .no]) ((it_rng1 ((de_lenL B.b_len (rv 6 rfl)).is (by rw [List.length_map])) B.b_range (by omega)).is (rgD_nat 0 _)) ⟨[], _, _, rfl, rfl⟩ (fun i rem G ⟨done, G7, G8, e1, e2⟩ => ?_) (fun G ⟨done, G7, G8, e1, e2⟩ => ?_))
    · subst e2
      refine ⟨_, dn 7, ?_⟩
      have hi : i < ps.length := by
        have := rgN_split e1
        omega
      have er : ps[i]? = some ps[i] := List.getElem?_eq_getElem hi
      have gn := gone op er
      have osub := op.sub (cut_sub ps i)
      have hsz : (ps.take i ++ ps.drop (i + 1)).length ≤ 36 := Nat.le_trans (cut_sub ps i).length_le hpl
      generalize ps[i] = r at er gn
      generalize hqs : ps.take i ++ ps.drop (i + 1) = qs at gn osub hsz
      refine ds_cons (d1_set 8 (S := fun s => s = .owd (ksT t) (xsT t)) (led_copy B.b_dict (de_fld1 (dv 3 rfl) B.k_Alike B.n_pairs).re (fun k hk => ?_) (st.told.apart _) ?_).sx rfl (fun s hs => ?_))
      · obtain ⟨x, _, rfl⟩ := List.mem_map.mp hk
        exact ⟨_, rfl⟩
      · unfold ksT; rw [List.length_map]; exact Nat.le_trans st.told.len (ll rfl)
      subst hs
      refine ds_cons (d1_setD (k := kLot l) (d := .tup (qs.map ePr)) 8 rfl rfl (by first | exact .inl rfl | exact .inr (.inl rfl)) ((de_tupL B.b_tuple (le_cat (le_slL (rv 6 rfl) dp_none (dp_some (dv 7 rfl))).re (le_slL (rv 6 rfl) (dp_some ((de_add (dv 7 rfl) de_int).is (y := eN (i + 1)) rfl)) dp_none).re ?_).re).is ?_) ((dv 5 rfl).is (kd_lot l).symm) (ask_lot l) ?_ ?_)
      · rw [cutTake _ (by rw [List.length_map]; omega), cutDrop _ (by rw [List.length_map]; omega), List.length_take, List.length_drop, List.length_map]
        omega
      · rw [cutTake _ (by rw [List.length_map]; omega), cutDrop _ (by rw [List.length_map]; omega), ← List.map_take, ← List.map_drop, ← List.map_append, hqs]
      · unfold ksT; rw [List.length_map]; exact Nat.le_trans st.told.len (ll rfl)
      have hm : l ∈ t.map (·.1) := by rw [ek]; exact hl
      rw [setT_ks t l qs hm, setT_xs t l qs st.told.nd hm]
      refine ds_freezeD 8 rfl ?_
      have s2 := st.set (l := l) osub
      refine ds_cons (d1_if (k := decide (r ∈ throughM (b1, b2, l)) && false) (dt_w (dw_and (k := decide (r ∈ throughM (b1, b2, l))) (k' := false) (dt_cmp (c_inLE inj_pr (ll rfl) r (throughM (b1, b2, l))) (de_ixL (rv 6 rfl) (dv 7 rfl) (atI_map er)).re (de_call (ok_law_through B) (b1, b2, l) oh (ll rfl) (da_cons (dv 1 rfl) (da_cons (dv 5 rfl) da_nil))).re) fun hk => dw_and1 (k := false) (dt_cmp (c_isnotB (x := .bl false) (k := false) rfl) ((de_meth (ok_Alike_shows B L) B.k_Alike (de_make (ok_Alike B) (b1.1.1.length, setT t l qs) s2.told (ll rfl) (da_cons (dv 8 rfl) da_nil)) (da_cons (de_ixL (d := eBld CP b1) (rv 2 rfl) de_int rfl) (da_cons (de_ixL (d := eBld CP b2) (rv 2 rfl) de_int rfl) da_nil)) (setT t l qs, b1, b2) rfl s2 (ll rfl) (fun vs => by cases vs <;> rfl)).is (by rw [show showsA b1 b2 (setT t l qs) = false from shows_set o hl hm (of_decide_eq_true hk) gn])).re de_bl.re))) (fun e => by rw [Bool.and_false] at e; cases e) fun _ => ds_nil (ds_nil ⟨_, Wk.refl, done ++ [i], _, _, by rw [e1, List.append_assoc]; rfl, rfl⟩))
    · subst e2
      have s1 := show_all o hn (List.drop_sublist 1 (lotsM b1.1.1.length))
      have sf : showsA b1 b2 (allT b1 b2 ((lotsM b1.1.1.length).drop 1)) = false := shows_short o hn (by
        unfold allT
        rw [List.length_map, List.length_drop]
        have := List.length_pos_iff.mpr (lots_ne (n := b1.1.1.length))
        omega)
      have pd : ∀ l ∈ (lotsM b1.1.1.length).drop 1, l ∈ lotsM b1.1.1.length := fun l hl => List.mem_of_mem_drop hl
      refine ds_cons (d1_set 8 (S := fun s => s = .owd (ksT (allT b1 b2 ((lotsM b1.1.1.length).drop 1))) (xsT (allT b1 b2 ((lotsM b1.1.1.length).drop 1)))) (led_pairs B.b_dict ((le_map1 10 eLot ((lotsM b1.1.1.length).drop 1) (fun l => .tup [eLot l, .tup ((psOf (b1, b2, l)).map ePr)]) (it_list ((LE.de (le_slL (rv 4 rfl) (dp_some de_int) dp_none)).is (by rw [cut1, ← List.map_drop]))) (by rw [List.length_drop]; omega) fun m hm => ?_).re.is ?_) (fun k hk => ?_) (fun k hk => ?_) ?_ ?_ ?_).sx rfl (fun s hs => ?_))
      · obtain ⟨i0, i1, i2, _⟩ := told_at (t := t) (l := m) (by rw [ek]; exact pd m hm)
        rw [pa m (pd m hm)] at i2
        exact de_tup (da_cons (dv 10 rfl) (da_cons (de_getD (de_fld1 (dv 3 rfl) B.k_Alike B.n_pairs).re ((dv 10 rfl).is (kd_lot m).symm) (ask_lot m) i1 i2) da_nil)) (ll rfl)
      · rw [items_told]
        unfold allT
        rw [List.map_map]; rfl
      · obtain ⟨x, _, rfl⟩ := List.mem_map.mp hk
        exact ⟨_, rfl⟩
      · obtain ⟨x, _, rfl⟩ := List.mem_map.mp hk
        exact (ask_lot x.1).2
      · unfold ksT
        exact List.pairwise_map.mpr ((List.pairwise_map.mp s1.told.nd).imp fun hne e => hne (kLot_inj.mp e))
      · unfold ksT xsT; rw [List.length_map, List.length_map]
      · unfold ksT; rw [List.length_map]; exact Nat.le_trans s1.told.len (ll rfl)
      subst hs
      refine ds_freezeD 8 rfl ?_
      refine ds_cons (d1_ret (de_cmp (c_isB (x := .bl false) (k := false) rfl) ((de_meth (ok_Alike_shows B L) B.k_Alike (de_make (ok_Alike B) (b1.1.1.length, allT b1 b2 ((lotsM b1.1.1.length).drop 1)) s1.told (ll rfl) (da_cons (dv 8 rfl) da_nil)) (da_cons (de_ixL (d := eBld CP b1) (rv 2 rfl) de_int rfl) (da_cons (de_ixL (d := eBld CP b2) (rv 2 rfl) de_int rfl) da_nil)) (allT b1 b2 ((lotsM b1.1.1.length).drop 1), b1, b2) rfl s1 (ll rfl) (fun vs => by cases vs <;> rfl)).is (by rw [show showsA b1 b2 (allT b1 b2 ((lotsM b1.1.1.length).drop 1)) = false from sf])).re de_bl.re) rfl)) (by decide)
end
end Cal
set_option Elab.async false
set_option linter.all false
set_option maxRecDepth 100000
set_option maxHeartbeats 4000000
namespace Cal
open PySem PySem.Spec PyProof.Rows L2
theorem lx_lst {j : J} {G : List Slot} {es : List Expr} {pos : Pos} {S : List Dat → Prop} (h : DAX j G es S) (hl : ∀ ds, S ds → ds.length ≤ 100000) : LX j G (.List es pos) S := by
  intro X hX σ F H q hE hq
  refine we_of (pe_lst wa) (h X hX σ F H _ hE fun vs ds F1 H1 hS i1 g1 => ⟨by rw [← i1.len]; exact Nat.le_trans (hl ds hS) (by decide), fun p hp => ?_⟩)
  exact hq p vs ds F1 _ hS (g1.back hp) (g1.good.back hp) upd_same i1 (g1.trans (Gr.made g1.good hp))
theorem cut63 (xs : List Dat) (h : xs.length ≤ 63) : cutD xs none (some 63) = xs := by
  unfold cutD
  have e1 : HT.sIx xs.length 0 none = 0 := rfl
  have e2 : HT.sIx xs.length xs.length (some 63) = xs.length := by
    show HT.sIx xs.length xs.length (some ((63 : Nat) : Int)) = _
    rw [HT.sIx_nat]
    omega
  rw [e1, e2]
  exact List.take_of_length_le (by simp)
/-- a slice of ways -/
def cutW (ws : List Way) (lo hi : Option Int) : List Way := (ws.drop (HT.sIx ws.length 0 lo)).take (HT.sIx ws.length ws.length hi - HT.sIx ws.length 0 lo)
theorem cutW_map (ws : List Way) (lo hi : Option Int) : cutD (ws.map eWay) lo hi = (cutW ws lo hi).map eWay := by
  unfold cutD cutW
  rw [List.length_map, List.map_take, List.map_drop]
theorem cutW_sub (ws : List Way) (lo hi : Option Int) : (cutW ws lo hi).Sublist ws := (List.take_sublist _ _).trans (List.drop_sublist _ _)
theorem inj_lotO : Inj 1 (eO eLot) := inj_opt inj_lot fun l => deq_non_tup _
theorem head_if (ls : List Lot) : (if (!ls.isEmpty) = true then eO eLot ls.head? else Dat.non) = eO eLot ls.head? := by cases ls <;> rfl
theorem bases_ok : ∀ b ∈ ([1009, 1013, 1000033, 1000037] : List Int), 0 < b ∧ b < 1073741824 := by decide
def three (ws : List Way) : List (List Way) := [cutW ws none (some (-1)), ws ++ cutW ws (some (-1)) none, ws.reverse]
theorem three_ok {ws : List Way} {x : List Way} (h : x ∈ three ws) (hl : ws.length ≤ 2) : x.length ≤ 4 ∧ ∀ w ∈ x, w ∈ ws := by
  unfold three at h
  simp only [List.mem_cons, List.not_mem_nil, or_false] at h
  have s1 := cutW_sub ws none (some (-1))
  have s2 := cutW_sub ws (some (-1)) none
  rcases h with rfl | rfl | rfl
  · exact ⟨Nat.le_trans s1.length_le (by omega), fun w hw => s1.subset hw⟩
  · refine ⟨?_, fun w hw => (List.mem_append.mp hw).elim id fun z => s2.subset z⟩
    have := s2.length_le
    rw [List.length_append]; omega
  · exact ⟨by rw [List.length_reverse]; omega, fun w hw => List.mem_reverse.mp hw⟩
section
variable {c : Cfg} {CP CH CA CD : Addr} (B : Glb c CP CH CA CD) (L : LotsOf c CP) (T : DefT c "_law_lots" st_law_lots N_law_lots ps_law_lots)
include B L T
theorem law_rest (ns : List Int) : DS (jF c N_law st_law 13) [.no, .own (ns.map Dat.int), .no, .no, .no, .no, .no, .no, .no, .no, .no, .no, .no, .no, .no] ((defBody st_law).drop 1) { nx := fun _ => False, rt := fun d => d = .bl true } := by
    show DS _ _ (_ :: _) _
    refine ds_draws 1 rfl rfl (fun k s hk e => ?_) fun q => ?_
    · match k, hk, e with
      | 0, _, e => cases e; rfl
      | 1, hk, _ => exact absurd rfl hk
      | 2, _, e => cases e; rfl
      | 3, _, e => cases e; rfl
      | 4, _, e => cases e; rfl
      | 5, _, e => cases e; rfl
      | 6, _, e => cases e; rfl
      | 7, _, e => cases e; rfl
      | 8, _, e => cases e; rfl
      | 9, _, e => cases e; rfl
      | 10, _, e => cases e; rfl
      | 11, _, e => cases e; rfl
      | 12, _, e => cases e; rfl
      | 13, _, e => cases e; rfl
      | 14, _, e => cases e; rfl
      | k + 15, _, e => cases e
    refine ds_cons (d1_for (as := rgN 0 3) (enc := eN) (fun rem G => ∃ G2 G3 G4 G5 G6 G7 G8 G9 G10 G11 G12 G13 G14 : Slot, G = [.no, .dr, G2, G3, G4, G5, G6, G7, G8, G9, G10, G11, G12, G13, G14]) ((it_rng1 de_int B.b_range (by omega)).is (rgD_nat 0 3)) ⟨_, _, _, _, _, _, _, _, _, _, _, _, _, rfl⟩ (fun t rem G ⟨G2, G3, G4, G5, G6, G7, G8, G9, G10, G11, G12, G13, G14, e2⟩ => ?_) (fun G ⟨G2, G3, G4, G5, G6, G7, G8, G9, G10, G11, G12, G13, G14, e2⟩ => ?_))
    · subst e2
      refine ⟨_, dn 2, ?_⟩
      refine ds_mid (fun G' => ∃ p : Plan, OkP3 p ∧ G' = [.no, .dr, .dat (eN t), .dat (ePlan p), G4, G5, G6, G7, G8, G9, G10, G11, G12, G13, G14]) (d1_set 3 (S := fun s => ∃ p : Plan, OkP3 p ∧ s = .dat (ePlan p)) (DX.sx (dx_callD rfl (ok_law_parts B) 1 rfl rfl (by first | exact .inl rfl | exact .inr (.inl rfl)) () trivial (ll rfl) (da_cons de_int da_nil)) fun d ⟨p, e, hp⟩ => ⟨p, hp, by rw [e]⟩) rfl fun s ⟨p, hp, e⟩ => ⟨p, hp, by rw [e]; rfl⟩) fun G' ⟨p, hp, eG⟩ => ?_
      subst eG
      refine ds_mid (fun G' => ∃ ch : List Cut, OkCh p ch ∧ G' = [.no, .dr, .dat (eN t), .dat (ePlan p), .dat (eCh ch), G5, G6, G7, G8, G9, G10, G11, G12, G13, G14]) (d1_set 4 (S := fun s => ∃ ch : List Cut, OkCh p ch ∧ s = .dat (eCh ch)) (DX.sx (dx_callD rfl (ok_law_choice B) 1 rfl rfl (by first | exact .inl rfl | exact .inr (.inl rfl)) p hp.ok (ll rfl) (da_cons (dv 3 rfl) da_nil)) fun d ⟨ch, e, hc⟩ => ⟨ch, hc, by rw [e]⟩) rfl fun s ⟨ch, hc, e⟩ => ⟨ch, hc, by rw [e]; rfl⟩) fun G' ⟨ch, hc, eG⟩ => ?_
      subst eG
      obtain ⟨b1, hb1⟩ : ∃ b1 : Bld, b1 = (p, ch) := ⟨_, rfl⟩
      have o1 : OkBld b1 := by rw [hb1]; exact ⟨hp.ok, hc⟩
      have eb1 : b1.1 = p := by rw [hb1]
      have hn : b1.1.1.length = 2 ∨ b1.1.1.length = 3 := by rw [eb1]; exact hp.two
      refine ds_mid (fun G' => ∃ b2 : Bld, Ok2 (b1, b2) ∧ G' = [.no, .dr, .dat (eN t), .dat (ePlan p), .dat (eCh ch), .own [eBuild b1, eBuild b2], G6, G7, G8, G9, G10, G11, G12, G13, G14]) (d1_set 5 (S := fun s => ∃ b2 : Bld, Ok2 (b1, b2) ∧ s = .own [eBuild b1, eBuild b2]) (LX.sx (lx_lst (dax_cons (DE.toX (R := fun d => d = eBuild b1) (de_tup (da_cons (dv 3 rfl) (da_cons (dv 4 rfl) da_nil)) (ll rfl)) (by rw [hb1]; rfl)) (dax_cons (dx_callD rfl (ok_law_near B) 1 rfl rfl (by first | exact .inl rfl | exact .inr (.inl rfl)) (p, ch) ⟨hp.ok, hc⟩ (ll rfl) (da_cons (dv 3 rfl) (da_cons (dv 4 rfl) da_nil))) dax_nil)) fun ds ⟨_, _, e, _, _, _, e2, _, e4⟩ => by rw [e, e2, e4]; exact ll rfl) fun ds ⟨d1, r1, g1, g2, d2, r2, g3, ⟨b2, g4, g5, g6⟩, g7⟩ => ⟨b2, ⟨o1, g5, by rw [show ((b1, b2) : Bld × Bld).2.1.1 = p.1 from g6]; show b1.1.1 = p.1; rw [eb1]⟩, by rw [g1, g2, g3, g4, g7]⟩) rfl fun s ⟨b2, o, e⟩ => ⟨b2, o, by rw [e]; rfl⟩) fun G' ⟨b2, o, eG⟩ => ?_
      subst eG
      have pl2 : ∀ b ∈ [b1, b2], OkPlan b.1 := fun b hb => by
        rcases List.mem_cons.mp hb with rfl | hb
        · exact o1.plan
        · rw [List.mem_singleton.mp hb]; exact o.two.plan
      refine ds_freeze 5 rfl ?_
      refine ds_cons (d1_mapT 6 [("_law_one", 13), ("_law_some", 14)] eBuild [b1, b2] (eBld CP) (it_list (dv 5 rfl)) (ll rfl) (fun b hb => ⟨_, dn2 (dn 13) (dn 14), fun k hk => hk, de_tup (da_cons (de_make (ok_Program B) b.1 (pl2 b hb) (ll rfl) (da_cons (de_ixT (d := eSorts b.1.1) (dv 13 rfl) de_int rfl) (da_cons (de_ixT (d := eMods b.1.2) (dv 13 rfl) de_int rfl) da_nil))) (da_cons (dv 14 rfl) da_nil)) (ll rfl)⟩) rfl rfl ?_ (fun env h => sw_true (by rw [h]; rfl) (by rw [h]; rfl) rfl rfl) (by rfl))
      refine ds_freeze 6 rfl ?_
      have hll := lotsM_len hn
      refine ds_cons (d1_asg 7 (d := .lst ((lotsM b1.1.1.length).map eLot)) (de_call (ok_law_lots B T) b1.1.1.length hn (ll rfl) (da_cons ((de_lenT B.b_len (DE.re (de_ixT (d := eSorts p.1) (dv 3 rfl) de_int rfl))).is (y := eN b1.1.1.length) (by rw [List.length_map, eb1]; rfl)) da_nil)) rfl ?_)
      refine ds_cons (d1_comp1 8 12 eLot (lotsM b1.1.1.length) (fun l => apartL (b1, b2, l) (throughM (b1, b2, l))) eLot (it_list (dv 7 rfl)) (Nat.le_trans hll (ll rfl)) (fun l hl => dt_val (de_call (ok_law_are_apart B) ((b1, b2, l), throughM (b1, b2, l)) ⟨lot_ok o hl, throughM_len (lot_ok o hl), fun r hr => (throughM_ok (lot_ok o hl) hr).1⟩ (ll rfl) (da_cons (dv 5 rfl) (da_cons (dv 12 rfl) (da_cons (de_call (ok_law_through B) (b1, b2, l) (lot_ok o hl) (ll rfl) (da_cons (dv 5 rfl) (da_cons (dv 12 rfl) da_nil))) da_nil))))) (fun l hl _ => dv 12 rfl) ?_)
      refine ds_freeze 8 rfl ?_
      have cd := comp_due o
      have ca := comp_alike o
      have eA : (lotsM b1.1.1.length).filter (fun l => apartL (b1, b2, l) (throughM (b1, b2, l))) = apartsL b1 b2 := rfl
      rw [eA]
      generalize apartsL b1 b2 = A at cd ca
      refine ds_cons (d1_par 9 10 (S := fun s => s = .dat (eCmp CA CD (compareM b1 b2))) (T := fun s => s = .dat (eO eLot (aheadOf (compareM b1 b2)))) (DE.sx (de_call (ok_compare B L) (b1, b2) ⟨o, hn⟩ (ll rfl) (da_cons (de_ixL (d := eBld CP b1) (rv 6 rfl) de_int rfl) (da_cons (de_ixL (d := eBld CP b2) (rv 6 rfl) de_int rfl) da_nil)))) (DE.sx ((de_if (d1 := eO eLot A.head?) (d2 := .non) (dt_cmp (c_neNil (inj_lot.all A)) (rv 8 rfl) (LE.re (le_lst da_nil (ll rfl)))) (fun hk => de_ixL (rv 8 rfl) de_int (by
          cases A with
          | nil => cases hk
          | cons a as => exact atI_map (as := a :: as) (n := 0) (a := a) rfl)) fun _ => de_non).is (by rw [← cd]; cases A <;> rfl))) rfl rfl (by decide) (fun s t e1 e2 => ?_) rfl rfl (fun env he => by cases env; cases he; rfl))
      subst e1 e2
      refine ds_cons (d1_if (k := false) (dt_w (dw_or (k := false) (k' := false) ((dt_cmp (c_neE inj_lotO (ll rfl) (aheadOf (compareM b1 b2)) (aheadOf (compareM b1 b2))) (DE.re (de_call (ok_first_parting B L) (b1, b2) ⟨o, hn⟩ (ll rfl) (da_cons (de_ixL (d := eBld CP b1) (rv 6 rfl) de_int rfl) (da_cons (de_ixL (d := eBld CP b2) (rv 6 rfl) de_int rfl) da_nil)))) (rv 10 rfl)).is (by rw [decide_eq_true rfl]; rfl)) fun _ => dw_or1 (k := false) ((dt_cmp (c_neE inj_bl (ll rfl) (isOkE (compareM b1 b2)) (isNon (eO eLot (aheadOf (compareM b1 b2))))) (DE.re (de_call (ok_are_alike B L) (b1, b2) ⟨o, hn⟩ (ll rfl) (da_cons (de_ixL (d := eBld CP b1) (rv 6 rfl) de_int rfl) (da_cons (de_ixL (d := eBld CP b2) (rv 6 rfl) de_int rfl) da_nil)))) (DE.re (de_cmp c_isN (rv 10 rfl) de_non.re))).is (by cases compareM b1 b2 <;> rfl)))) (fun e => by cases e) fun _ => ds_nil ?_)
      cases z : compareM b1 b2 with
      | ok t =>
        obtain ⟨et, hc2, _⟩ := comp_ok o z
        subst et
        refine ds_cons (d1_if (k := false) (dt_w (dw_and (k := true) (k' := false) (dt_cmp c_isN (rv 10 rfl) de_non.re) fun _ => dw_and1 (k := false) (dt_not (k := true) (dt_val (DX.toE (dx_callD rfl (ok_law_alike_right B L) 1 rfl rfl (by first | exact .inl rfl | exact .inr (.inl rfl)) (b1, b2) ⟨o, hn, hc2⟩ (ll rfl) (da_cons (dv 5 rfl) (da_cons (dv 6 rfl) (da_cons (dv 9 rfl) (da_cons (dv 7 rfl) da_nil)))))))))) (fun e => by cases e) fun _ => ds_nil ?_)
        refine ds_cons (d1_if (k := false) (dt_cmp c_notN (rv 10 rfl) de_non.re) (fun e => by cases e) fun _ => ds_nil (ds_nil ⟨_, Wk.refl, _, _, _, _, _, _, _, _, _, _, _, _, _, rfl⟩))
      | error x =>
        obtain ⟨hl, _, hw, hlen, huse⟩ := comp_err o z
        obtain ⟨l, ws⟩ := x
        have hl : l ∈ lotsM b1.1.1.length := hl
        have hw : areWays (b1, b2, l) ws = true := hw
        have hlen : ws.length = 1 ∨ ws.length = 2 := hlen
        have huse : ∀ w ∈ ws, OkUse b1.1.1 w.2 := huse
        have oh := lot_ok o hl
        obtain ⟨l0, e0⟩ : ∃ l0, (lotsM b1.1.1.length)[0]? = some l0 := by
          cases q : lotsM b1.1.1.length with
          | nil => exact absurd q lots_ne
          | cons a as => exact ⟨a, rfl⟩
        have hl0 : l0 ∈ lotsM b1.1.1.length := List.mem_of_getElem? e0
        have s0 : OkShow b1 b2 [] := show_all o hn (List.nil_sublist _)
        have f0 : showsA b1 b2 [] = false := shows_short o hn (List.length_pos_iff.mpr lots_ne)
        refine ds_cons (d1_if (k := false) (dt_w (dw_and (k := false) (k' := false) (dt_cmp c_isN (rv 10 rfl) de_non.re) fun e => by cases e)) (fun e => by cases e) fun _ => ds_nil ?_)
        refine ds_cons (d1_if (k := true) (dt_cmp c_notN (rv 10 rfl) de_non.re) (fun _ => ?_) fun e => by cases e)
        refine ds_cons (d1_if (k := false) (dt_w (dw_or (k := false) (k' := false) (dt_not (k := true) (dt_val (de_isiC (x := eParted CD (l, ws)) B.b_isinstance B.g_Parted (dv 9 rfl).re B.i_Parted (bne_self CD)))) fun _ => dw_or1 (k := false) (dt_not (k := true) (dt_val ((de_call (ok_law_ways_right B) ((b1, b2, l), ws) ⟨oh, by show ws.length ≤ 4; omega, huse⟩ (ll rfl) (da_cons (dv 5 rfl) (da_cons (de_fld2 (dv 9 rfl) B.k_Parted B.n_ahead) (da_cons (de_fld2b (dv 9 rfl) (by decide) B.k_Parted B.n_ways) da_nil)))).is (by rw [show waysL (b1, b2, l) ws = true from (waysL_eq oh ws huse).trans hw])))))) (fun e => by cases e) fun _ => ds_nil ?_)
        refine ds_cons (d1_if (k := false) (dt_w (dw_or (k := false) (k' := false) (dt_cmp (c_isnotB (x := .bl true) (k := true) rfl) (DE.re ((de_meth (ok_Parted_shows B L) B.k_Parted (dv 9 rfl) (da_cons (de_ixL (d := eBld CP b1) (rv 6 rfl) de_int rfl) (da_cons (de_ixL (d := eBld CP b2) (rv 6 rfl) de_int rfl) da_nil)) ((l, ws), b1, b2) rfl ⟨oh, by show ws.length ≤ 4; omega, huse⟩ (ll rfl) (fun vs => by cases vs with | nil => rfl | cons v r => cases r <;> rfl)).is (by rw [show areWays (b1, b2, l) ws = true from hw]))) de_bl.re) fun _ => dw_or1 (k := false) (dt_cmp (c_isnotB (x := .bl false) (k := false) rfl) (DE.re ((de_meth (ok_Alike_shows B L) B.k_Alike (de_make (ok_Alike B) (b1.1.1.length, ([] : Told)) s0.told (ll rfl) (da_cons (LED.de (led_pairs (ks := []) (xs := []) B.b_dict (LE.re (le_lst da_nil (ll rfl))) (fun k hk => (by cases hk)) (fun k hk => (by cases hk)) List.nodup_nil rfl (ll rfl))) da_nil)) (da_cons (de_ixL (d := eBld CP b1) (rv 6 rfl) de_int rfl) (da_cons (de_ixL (d := eBld CP b2) (rv 6 rfl) de_int rfl) da_nil)) (([] : Told), b1, b2) rfl s0 (ll rfl) (fun vs => by cases vs <;> rfl)).is (by rw [show showsA b1 b2 [] = false from f0]))) de_bl.re))) (fun e => by cases e) fun _ => ds_nil ?_)
        refine ds_cons (d1_for (as := three ws) (enc := eWays) (fun rem G => ∃ (done : List (List Way)) (G11 G12 : Slot), three ws = done ++ rem ∧ G = [.no, .dr, .dat (eN t), .dat (ePlan p), .dat (eCh ch), .dat (.lst [eBuild b1, eBuild b2]), .dat (.lst [eBld CP b1, eBld CP b2]), .dat (.lst ((lotsM b1.1.1.length).map eLot)), .dat (.lst (A.map eLot)), .dat (eParted CD (l, ws)), .dat (eLot l), G11, G12, G13, G14]) (it_tup ((de_tup (da_cons (de_slT (xs := ws.map eWay) (de_fld2b (dv 9 rfl) (by decide) B.k_Parted B.n_ways) dp_none (dp_some (de_neg de_int))) (da_cons (de_catT (xs := ws.map eWay) (de_fld2b (dv 9 rfl) (by decide) B.k_Parted B.n_ways) (de_slT (xs := ws.map eWay) (de_fld2b (dv 9 rfl) (by decide) B.k_Parted B.n_ways) (dp_some (de_neg de_int)) dp_none) ?_) (da_cons (de_revT (xs := ws.map eWay) (de_fld2b (dv 9 rfl) (by decide) B.k_Parted B.n_ways)) da_nil))) (ll rfl)).is ?_)) ⟨[], _, _, rfl, rfl⟩ (fun v rem G ⟨done, G11, G12, e1, e2⟩ => ?_) (fun G ⟨done, G11, G12, e1, e2⟩ => ?_))
        · rw [cutW_map, List.length_map, List.length_map]
          have := (cutW_sub ws (some (-1)) none).length_le
          omega
        · rw [cutW_map, cutW_map, ← List.map_append, ← List.map_reverse]; rfl
        · subst e2
          refine ⟨_, dn 11, ?_⟩
          obtain ⟨v1, v2⟩ := three_ok (ws := ws) (x := v) (by rw [e1]; simp) (by omega)
          have vu : ∀ w ∈ v, OkUse b1.1.1 w.2 := fun w hw => huse w (v2 w hw)
          refine ds_cons (d1_for (as := [l, l0]) (enc := eLot) (fun rem G => ∃ (done2 : List Lot) (G12 : Slot), [l, l0] = done2 ++ rem ∧ G = [.no, .dr, .dat (eN t), .dat (ePlan p), .dat (eCh ch), .dat (.lst [eBuild b1, eBuild b2]), .dat (.lst [eBld CP b1, eBld CP b2]), .dat (.lst ((lotsM b1.1.1.length).map eLot)), .dat (.lst (A.map eLot)), .dat (eParted CD (l, ws)), .dat (eLot l), .dat (eWays v), G12, G13, G14]) (it_tup (de_tup (da_cons (de_fld2 (d := eLot l) (dv 9 rfl) B.k_Parted B.n_ahead) (da_cons (de_ixL (d := eLot l0) (rv 7 rfl) de_int (atI_map e0)) da_nil)) (ll rfl))) ⟨[], _, rfl, rfl⟩ (fun m rem2 G ⟨done2, G12, f1, f2⟩ => ?_) (fun G ⟨done2, G12, f1, f2⟩ => ?_))
          · subst f2
            refine ⟨_, dn 12, ?_⟩
            have hm : m ∈ lotsM b1.1.1.length := by
              have : m ∈ [l, l0] := by rw [f1]; simp
              rcases List.mem_cons.mp this with rfl | this
              · exact hl
              · rw [List.mem_singleton.mp this]; exact hl0
            have om := lot_ok o hm
            refine ds_cons (d1_if (k := false) ((dt_cmp (c_neE inj_bl (ll rfl) (areWays (b1, b2, m) v) (waysL (b1, b2, m) v)) (DE.re (de_meth (ok_Parted_shows B L) B.k_Parted (de_make (ok_Parted B) (m, v) trivial (ll rfl) (da_cons (dv 12 rfl) (da_cons (dv 11 rfl) da_nil))) (da_cons (de_ixL (d := eBld CP b1) (rv 6 rfl) de_int rfl) (da_cons (de_ixL (d := eBld CP b2) (rv 6 rfl) de_int rfl) da_nil)) ((m, v), b1, b2) rfl ⟨om, v1, vu⟩ (ll rfl) (fun vs => by cases vs with | nil => rfl | cons v r => cases r <;> rfl))) (DE.re (de_call (ok_law_ways_right B) ((b1, b2, m), v) ⟨om, v1, vu⟩ (ll rfl) (da_cons (dv 5 rfl) (da_cons (dv 12 rfl) (da_cons (dv 11 rfl) da_nil)))))).is (by rw [waysL_eq om v vu, decide_eq_true rfl]; rfl)) (fun e => by cases e) fun _ => ds_nil (ds_nil ⟨_, Wk.refl, done2 ++ [m], _, by rw [f1, List.append_assoc]; rfl, rfl⟩))
          · subst f2
            exact ds_nil ⟨_, Wk.refl, done ++ [v], _, _, by rw [e1, List.append_assoc]; rfl, rfl⟩
        · subst e2
          exact ds_nil (ds_nil ⟨_, Wk.refl, _, _, _, _, _, _, _, _, _, _, _, _, _, rfl⟩)
    · subst e2
      exact ds_cons (d1_ret de_bl rfl)
end
end Cal
set_option Elab.async false
set_option linter.all false
set_option maxRecDepth 100000
set_option maxHeartbeats 4000000
namespace Cal
open PySem PySem.Spec PyProof.Rows L2
theorem sqL_ext {F F' : Hp} {K : PySem.W.Frag} {a : Addr} {xs : List V} (e : Ext F F') (h : SqL K F a xs) : SqL K F' a xs := by
  rcases h with (h | ⟨o, h⟩) | h
  · exact .inl (.inl (e _ _ h))
  · exact .inl (.inr ⟨o, e _ _ h⟩)
  · exact .inr h
/-- the law's promise: a list of ints that only stands to be read -/
def spLaw (c : Cfg) : Sp := fun vs H Q _ => ∃ a ns, vs = [.ref a] ∧ OkS ns ∧ LamX.Tabs c.T H ∧ SqL c.K H a (ns.map V.int) ∧ ∀ H', Q (.bl true) H'
def no15 : List Slot := [.no, .no, .no, .no, .no, .no, .no, .no, .no, .no, .no, .no, .no, .no, .no]
theorem no15_all {i : Nat} {s : Slot} (h : no15[i]? = some s) : s = .no := by
  have := List.mem_of_getElem? h
  unfold no15 at this
  simpa using this
section
variable {c : Cfg} {CP CH CA CD : Addr} (B : Glb c CP CH CA CD) (L : LotsOf c CP) (T : DefT c "_law_lots" st_law_lots N_law_lots ps_law_lots)
include B L T
theorem law_ok {nm qual : Str} {t : Addr} {fd : FuncData} (hF : L2.Fun c.K nm qual st_law t fd) (hS0 : FnScope N_law ps_law (defScope st_law)) : FnOk c.P c.w c.K c.mg c.base CX0 14 t fd ["_law_script"] (spLaw c) := by
  refine hF.ok hS0 (fun vs H Q E ⟨a, ns, e, _⟩ => by rw [e]; rfl) fun cdv A outer s H vs Q E hr ⟨a, ns, ev, hs, hT, hS, hQ⟩ => ?_
  subst ev
  refine ⟨_, wss, ?_⟩
  obtain ⟨F, eF, oF, sF⟩ : ∃ F : Hp, Ext F H ∧ (∀ p ∈ c.T, F p.1 = none) ∧ SqL c.K F a (ns.map V.int) := by
    rcases hS with h | h
    · refine ⟨fun b => if b = a then H a else none, fun b o e => ?_, fun p hp => ?_, .inl ?_⟩
      · by_cases z : b = a
        · have e2 : H a = some o := (if_pos z).symm.trans e
          rw [z]; exact e2
        · cases (if_neg z).symm.trans e
      · have : p.1 ≠ a := fun z => by
          obtain ⟨ps, e1, _⟩ := hT p hp
          rw [z] at e1
          rcases h with h | ⟨o, h⟩ <;> (rw [e1] at h; cases h)
        exact if_neg this
      · rcases h with h | ⟨o, h⟩
        · exact .inl ((if_pos rfl).trans h)
        · exact .inr ⟨o, (if_pos rfl).trans h⟩
    · exact ⟨fun _ => none, fun b o e => (by cases e), fun _ _ => rfl, .inr h⟩
  have g0 : Good c no F H := ⟨eF, hT, oF, fun _ z => z.elim⟩
  have hX := at_body (c := c) (H := H) (qual := qual) (t := t) (cdv := cdv) (outer := outer) (Ex := E) (CX := CX0) hS0 13 no hr
  have r0 : SR (jF c N_law st_law 13) F H F F H (L2.start N_law [.ref a]) no15 := ⟨⟨g0, rfl, fun i s hs => (by rw [no15_all hs]; trivial), fun i k s t p _ hs _ os => (by rw [no15_all hs] at os; cases os)⟩, Gr.refl g0, fun i s p hs os => (by rw [no15_all hs] at os; cases os), Ext.refl _⟩
  have rest := law_rest B L T (poolM ns [1009, 1013, 1000033, 1000037])
  obtain ⟨tp, p1, p2, p3⟩ := (ok_law_pool B).ex
  obtain ⟨h1, h2⟩ := hX.stores (x := "_law_draws") (.inr rfl)
  obtain ⟨tl, pl, kl⟩ := (dp_none : DP (jF c N_law st_law 13) no15 none none) _ hX
  obtain ⟨th, ph, kh⟩ := (dp_some de_int : DP (jF c N_law st_law 13) no15 (some (.Constant (.int 63) _ _)) (some 63)) _ hX
  refine wss_of (pss_cons ws wss) (ws_of (ps_set (i := 1) hX.nodup (by rw [hX.N]; rfl) h1 we (by rfl) h2) ?_)
  refine we_of (pe_callR (fnR_at hX p3) (hX.room.mono (ll rfl)) (hX.gl rfl) (by rw [hX.mg]; exact p1) (by rw [hX.K]; exact p2) (pa_cons we wa (by rfl)) (by decide) (by rfl) (by rfl)) ?_
  refine we_of (pe_slice sl_list (pe_var (i := 0) (by rw [hX.N]; rfl) (by rw [hX.sc]; exact .inl rfl) (by decide) (by decide)) pl ph) ⟨_, rfl, kl _ F H _ r0.env fun F2 H2 g2 => kh _ F2 H2 _ (r0.env.gr g2) fun F3 H3 g3 => ?_⟩
  have g13 := g2.trans g3
  refine ⟨a, ns.map V.int, rfl, by rw [hX.K]; exact sqL_ext g3.good.ext (sqL_ext g13.ext sF), fun r hr => ?_⟩
  have n0 := g13.back hr
  have n1 := g3.good.back hr
  have gm : Gr c no F H (upd F3 r (.lst (cutV (ns.map V.int) none (some 63)))) (upd H3 r (.lst (cutV (ns.map V.int) none (some 63)))) := (g13.trans (Gr.made g3.good hr)).froze n0 n1 upd_same fun _ z => (by cases z)
  have il : Is c (upd F3 r (.lst (cutV (ns.map V.int) none (some 63)))) (eSc ns) (.ref r) := is_lst.mpr ⟨r, _, rfl, upd_same, by
    have := (IsL.ints (c := c) (F := upd F3 r (.lst (cutV (ns.map V.int) none (some 63)))) ns).cut none (some 63)
    rwa [cut63 _ (by rw [List.length_map]; exact hs.len)] at this⟩
  refine (da_cons (de_tup (da_cons de_int (da_cons de_int (da_cons de_int (da_cons de_int da_nil)))) (ll rfl)) da_nil : DA (jF c N_law st_law 13) no15 _ [.tup ([1009, 1013, 1000033, 1000037].map Dat.int)]) _ hX _ _ _ _ (r0.env.gr gm) fun vs F5 H5 i5 g5 => ?_
  refine ⟨(ns, [1009, 1013, 1000033, 1000037]), F5, ⟨hs, (by decide : (4 : Nat) ≤ 4), bases_ok⟩, g5.good.toNo, IsL.cons (Is.mono g5.ext _ _ il) i5, fun p us F6 H6 m1 m2 m3 i6 g6 => ?_⟩
  have g16 := gm.trans (g5.trans g6)
  refine rest _ hX _ F H F F6 H6 _ (SR.put (i := 1) (s := .own ((poolM ns [1009, 1013, 1000033, 1000037]).map Dat.int)) r0 g16 ⟨p, us, rfl, m3, ⟨m2, id⟩, i6⟩ fun p' _ z => by cases z; exact (gm.trans g5).back m1) ⟨fun σ F H G h r => h.elim, fun v d F H hd hi g => ?_, fun p vs xs F H z => z.elim⟩
  rw [show d = .bl true from hd] at hi
  rw [is_bl.mp hi]; exact hQ H
end
end Cal
set_option Elab.async false
set_option linter.all false
set_option maxRecDepth 100000
set_option maxHeartbeats 4000000
namespace Hd
open PySem PySem.Spec PyProof.Rows L2
theorem fun_ok {K : PySem.W.Frag} {x qual : Str} {st : Stmt} {t : Addr} {fd : FuncData} (F : FunD K x qual (defArgs st) (defBody st) (defScope st) [] [] t fd) : L2.Fun K x qual st t fd := by
  obtain ⟨oc, od, dV, kV, doc, pm, an, cdv, ct, osl, e, lk, hcd, hD, _⟩ := F.ex
  rcases hD with ⟨_, rfl⟩ | ⟨z, _⟩
  · exact ⟨⟨oc, od, kV, doc, pm, an, cdv, ct, osl, e, lk, hcd⟩, F.kp⟩
  · exact absurd rfl z
abbrev Bnd (x qual : Str) (st : Stmt) (ps : List Str) : Prop := ∀ (kV doc pm : Value) (an : Option Addr) (cdv ct : Value) (us : List Value), us.length = ps.length → bindArgs (PySem.W.fnOf x qual (defArgs st) (defBody st) (defScope st) .none kV doc pm an cdv ct) ⟨us, []⟩ = pure (ps.zip us)
section
variable {c : Cal.Cfg} {f x qual : Str} {st : Stmt} {N ps : List Str} {t C : Addr} {fd : FuncData}
theorem def_ok (F : FunD c.K x qual (defArgs st) (defBody st) (defScope st) [] [] t fd) (hm : c.mg f = some (.ref t)) (hb : Bnd x qual st ps) (hs : C8.scC N ps (defScope st) = true) : Cal.Def c f st N ps := ⟨⟨x, qual, t, fd, fun_ok F, hm, F.bindsN hb⟩, C8.fnScope_by hs⟩
theorem defM_ok (F : FunD c.K x qual (defArgs st) (defBody st) (defScope st) [] [] t fd) (hm : Meth c.K C f t) (hb : Bnd x qual st ps) (hs : C8.scC N ps (defScope st) = true) : Cal.DefM c C f st N ps := ⟨⟨x, qual, t, fd, fun_ok F, hm, F.bindsN hb⟩, C8.fnScope_by hs⟩
theorem defI_ok (F : FunD c.K x qual (defArgs st) (defBody st) (defScope st) [] [] t fd) (hk : Mk c.K C t) (hm : c.mg f = some (.ref C)) (hb : Bnd x qual st ps) (hs : C8.scC N ps (defScope st) = true) : Cal.DefI c f C st N ps := ⟨⟨x, qual, t, fd, fun_ok F, hk, F.bindsN hb, hm⟩, C8.fnScope_by hs⟩
theorem eqO_eq {a b : Option (Option Value)} (h : He.eqO a b = true) : a = b := of_decide_eq_true h
theorem prop_ok (hp : propB c.K C f qual = true) (hw : getW c.K C f = some (x, qual, defArgs st, .stmts (defBody st), defScope st, mainGlobals, [], builtinsNs)) (hb : Bnd x qual st ["self"]) (hs : C8.scC N ["self"] (defScope st) = true) : Cal.DefP c C f st N := by
  unfold propB at hp
  obtain ⟨a1, hp⟩ := He.ba hp
  obtain ⟨a2, hp⟩ := He.ba hp
  obtain ⟨a3, hp⟩ := He.ba hp
  obtain ⟨a4, hp⟩ := He.ba hp
  obtain ⟨a5, a6⟩ := He.ba hp
  have ho : ∃ rest, PySem.W.recIn c.K (atC c.K C f) "property" = some (.ref (getA c.K C f) :: rest) := by
    unfold recB at a4
    unfold getA
    split at a4
    · rename_i g r e
      rw [e]; exact ⟨r, rfl⟩
    · cases a4
  have pr : PropOf c.K C f (atC c.K C f) (getA c.K C f) := ⟨eqO_eq a1, eqO_eq a2, of_decide_eq_true a3, ho⟩
  unfold getW at hw
  cases lk : c.K.lookup (getA c.K C f) with
  | none => rw [lk] at a6; cases a6
  | some o =>
    obtain ⟨oc, od, dt, osl⟩ := o
    rw [lk] at a6 hw
    cases dt with
    | func fd =>
      obtain ⟨n1, n2, n3, n4, n5, n6, n7, n8, n9, n10, n11, n12, n13, n14, n15⟩ := fd
      have e2 : (some (n1, n2, n3, n4, n5, n6, n7, n15) : He.FnW) = some (x, qual, defArgs st, .stmts (defBody st), defScope st, mainGlobals, [], builtinsNs) := hw
      simp only [Option.some.injEq, Prod.mk.injEq] at e2
      obtain ⟨h1, h2, h3, h4, h5, h6, h7, h8⟩ := e2
      subst h1 h2 h3 h4 h5 h6 h7 h8
      obtain ⟨b1, b2⟩ := He.ba (show (PySem.W.codeIn c.K n13 n2 && decide (n8 = .none)) = true from a6)
      have b2 := of_decide_eq_true b2
      subst b2
      have F : L2.Fun c.K n1 n2 st (getA c.K C f) _ := ⟨⟨oc, od, n9, n10, n11, n12, n13, n14, osl, rfl, lk, b1⟩, a5⟩
      exact ⟨⟨n1, n2, _, _, _, F, pr, F.binds hb⟩, C8.fnScope_by hs⟩
    | _ => cases a6
end
/-! ### data of the top -/
theorem relAll_strs {c : Cal.Cfg} (F : Hp) : ∀ xs : List Str, Cal.IsL c F (xs.map Cal.Dat.str) (xs.map V.str) := fun xs => Cal.isL_strs xs
theorem tupA_sq {K : PySem.W.Frag} {a : Addr} {xs : List Str} (h : tupA K a xs = true) (F : Hp) : SqT K F a (xs.map V.str) := by
  unfold tupA at h
  cases lk : K.lookup a with
  | none => rw [lk] at h; cases h
  | some o =>
    rw [lk] at h
    obtain ⟨oc, od, dt, osl⟩ := o
    cases dt with
    | seq its n =>
      obtain ⟨h1, h2⟩ := He.ba (show (decide (oc = .type "tuple") && (decide (its.size ≤ sizeLine) && He.relAll (xs.map V.str) its.toList)) = true from h)
      obtain ⟨h3, h4⟩ := He.ba h2
      exact .inr ⟨_, its, n, lk, of_decide_eq_true h1, rfl, of_decide_eq_true h3, He.relAll_ok h4⟩
    | _ => cases h
theorem tupA_is {c : Cal.Cfg} {a : Addr} {xs : List Str} (h : tupA c.K a xs = true) (F : Hp) : Cal.Is c F (.tup (xs.map Cal.Dat.str)) (.ref a) := Cal.is_tup.mpr ⟨a, xs.map V.str, rfl, tupA_sq h F, relAll_strs F xs⟩
theorem scls_ok {K : PySem.W.Frag} {C : Addr} (h : sclsB K C = true) : SlX.SCls K C := by
  obtain ⟨h1, h⟩ := He.ba h
  obtain ⟨h2, h⟩ := He.ba h
  obtain ⟨h3, h4⟩ := He.ba h
  exact ⟨h1, h2, h3, eqO_eq h4⟩
theorem slot_ok {K : PySem.W.Frag} {C : Addr} {f : Str} {i : Nat} (h : slotB K C f i = true) (hi : i < 1000) : ∃ q, SlX.Slot1 K C f q i := by
  obtain ⟨h1, h⟩ := He.ba h
  obtain ⟨h2, h⟩ := He.ba h
  obtain ⟨h3, h⟩ := He.ba h
  obtain ⟨h4, h5⟩ := He.ba h
  exact ⟨_, eqO_eq h1, eqO_eq h2, of_decide_eq_true h3, of_decide_eq_true h4, of_decide_eq_true h5, hi⟩
theorem icls_ok {K : PySem.W.Frag} {C : Addr} (hc : Cls K C) (h : iclsB K C = true) : Cal.ICls K C := by
  obtain ⟨h1, h⟩ := He.ba h
  obtain ⟨h2, h⟩ := He.ba h
  obtain ⟨h3, h4⟩ := He.ba h
  exact ⟨hc, eqO_eq h1, eqO_eq h2, of_decide_eq_true h3, of_decide_eq_true h4⟩
theorem keyZ_eq : keyZ = Cal.keyS := by
  funext v
  cases v <;> rfl
section
variable {P : Program} {w : World} {K : PySem.W.Frag} {mg : Str → Option Value} {base : Heap} {T : List (Addr × Str)} {h : Heap} (s : SaysZ w h K) (X : K.In h) (G : h.Ns mainGlobals mg)
abbrev cf (P : Program) (w : World) (K : PySem.W.Frag) (mg : Str → Option Value) (base : Heap) (T : List (Addr × Str)) : Cal.Cfg := ⟨P, w, K, mg, base, T⟩
include s in
theorem chk_at (i : Nat) {b : PySem.W.Frag → Bool} (e : (chk K)[i]? = some (b K) := by rfl) : b K = true := List.all_eq_true.mp s.x.more _ (List.mem_of_getElem? e)
include s X G
theorem c_is_number : Cal.Def (cf P w K mg base T) "is_number" Cal.st_is_number Cal.N_is_number Cal.ps_is_number := by
  obtain ⟨fd, F⟩ := s.x.t.d.def_ 0 (d := d_is_number) rfl
  exact def_ok (st := Cal.st_is_number) F (He.glo_ok X G (s.x.t.d.fact 0 (f := .glo "is_number") rfl)) (fun _ _ _ _ _ _ us hl => match us, hl with | [_, _, _], _ => rfl) (by rfl)
theorem c_is_word : Cal.Def (cf P w K mg base T) "is_word" Cal.st_is_word Cal.N_is_word Cal.ps_is_word := by
  obtain ⟨fd, F⟩ := s.x.t.d.def_ 1 (d := d_is_word) rfl
  exact def_ok (st := Cal.st_is_word) F (He.glo_ok X G (s.x.t.d.fact 1 (f := .glo "is_word") rfl)) (fun _ _ _ _ _ _ us hl => match us, hl with | [_, _], _ => rfl) (by rfl)
theorem c_are_sorts : Cal.Def (cf P w K mg base T) "are_sorts" Cal.st_are_sorts Cal.N_are_sorts Cal.ps_are_sorts := by
  obtain ⟨fd, F⟩ := s.x.t.d.def_ 2 (d := d_are_sorts) rfl
  exact def_ok (st := Cal.st_are_sorts) F (He.glo_ok X G (s.x.t.d.fact 2 (f := .glo "are_sorts") rfl)) (fun _ _ _ _ _ _ us hl => match us, hl with | [_], _ => rfl) (by rfl)
theorem c_can_use : Cal.Def (cf P w K mg base T) "can_use" Cal.st_can_use Cal.N_can_use Cal.ps_can_use := by
  obtain ⟨fd, F⟩ := s.x.t.d.def_ 3 (d := d_can_use) rfl
  exact def_ok (st := Cal.st_can_use) F (He.glo_ok X G (s.x.t.d.fact 3 (f := .glo "can_use") rfl)) (fun _ _ _ _ _ _ us hl => match us, hl with | [_, _, _], _ => rfl) (by rfl)
theorem c_is_definition : Cal.Def (cf P w K mg base T) "is_definition" Cal.st_is_definition Cal.N_is_definition Cal.ps_is_definition := by
  obtain ⟨fd, F⟩ := s.x.t.d.def_ 4 (d := d_is_definition) rfl
  exact def_ok (st := Cal.st_is_definition) F (He.glo_ok X G (s.x.t.d.fact 4 (f := .glo "is_definition") rfl)) (fun _ _ _ _ _ _ us hl => match us, hl with | [_, _], _ => rfl) (by rfl)
theorem c_is_module : Cal.Def (cf P w K mg base T) "is_module" Cal.st_is_module Cal.N_is_module Cal.ps_is_module := by
  obtain ⟨fd, F⟩ := s.x.t.d.def_ 5 (d := d_is_module) rfl
  exact def_ok (st := Cal.st_is_module) F (He.glo_ok X G (s.x.t.d.fact 5 (f := .glo "is_module") rfl)) (fun _ _ _ _ _ _ us hl => match us, hl with | [_, _], _ => rfl) (by rfl)
theorem c_are_modules_programs : Cal.Def (cf P w K mg base T) "are_modules_programs" Cal.st_are_modules_programs Cal.N_are_modules_programs Cal.ps_are_modules_programs := by
  obtain ⟨fd, F⟩ := s.x.t.d.def_ 6 (d := d_are_modules_programs) rfl
  exact def_ok (st := Cal.st_are_modules_programs) F (He.glo_ok X G (s.x.t.d.fact 6 (f := .glo "are_modules_programs") rfl)) (fun _ _ _ _ _ _ us hl => match us, hl with | [_, _], _ => rfl) (by rfl)
theorem c_Program_init : Cal.DefI (cf P w K mg base T) "Program" (He.ga K "Program") Cal.st_Program_init Cal.N_Program_init Cal.ps_Program_init := by
  obtain ⟨fd, F⟩ := s.x.t.d.def_ 7 (d := d_Program_init) rfl
  exact defI_ok (st := Cal.st_Program_init) F (He.mkr_ok (s.x.t.d.fact 79 (f := .mkr "Program") rfl)) (He.glo_ok X G (s.x.t.d.fact 7 (f := .glo "Program") rfl)) (fun _ _ _ _ _ _ us hl => match us, hl with | [_, _, _], _ => rfl) (by rfl)
theorem c_Program_sorts : Cal.DefP (cf P w K mg base T) (He.ga K "Program") "sorts" Cal.st_Program_sorts Cal.N_Program_sorts := prop_ok (x := "sorts") (qual := "Program.sorts") (chk_at s 16 (b := fun K => propB K (He.ga K "Program") "sorts" "Program.sorts")) s.sorts (fun _ _ _ _ _ _ us hl => match us, hl with | [_], _ => rfl) (by rfl)
theorem c_Program_modules : Cal.DefP (cf P w K mg base T) (He.ga K "Program") "modules" Cal.st_Program_modules Cal.N_Program_modules := prop_ok (x := "modules") (qual := "Program.modules") (chk_at s 17 (b := fun K => propB K (He.ga K "Program") "modules" "Program.modules")) s.modules (fun _ _ _ _ _ _ us hl => match us, hl with | [_], _ => rfl) (by rfl)
theorem c_Program_len : Cal.DefM (cf P w K mg base T) (He.ga K "Program") "__len__" Cal.st_Program_len Cal.N_Program_len Cal.ps_Program_len := by
  obtain ⟨fd, F⟩ := s.x.t.d.def_ 8 (d := d_Program_len) rfl
  exact defM_ok (st := Cal.st_Program_len) F (He.meth_ok (s.x.t.d.fact 88 (f := .meth "Program" "__len__") rfl)) (fun _ _ _ _ _ _ us hl => match us, hl with | [_], _ => rfl) (by rfl)
theorem c_Program_found : Cal.DefM (cf P w K mg base T) (He.ga K "Program") "found" Cal.st_Program_found Cal.N_Program_found Cal.ps_Program_found := by
  obtain ⟨fd, F⟩ := s.x.t.d.def_ 9 (d := d_Program_found) rfl
  exact defM_ok (st := Cal.st_Program_found) F (He.meth_ok (s.x.t.d.fact 86 (f := .meth "Program" "found") rfl)) (fun _ _ _ _ _ _ us hl => match us, hl with | [_, _, _], _ => rfl) (by rfl)
theorem c_Program_show_of : Cal.DefM (cf P w K mg base T) (He.ga K "Program") "show_of" Cal.st_Program_show_of Cal.N_Program_show_of Cal.ps_Program_show_of := by
  obtain ⟨fd, F⟩ := s.x.t.d.def_ 10 (d := d_Program_show_of) rfl
  exact defM_ok (st := Cal.st_Program_show_of) F (He.meth_ok (s.x.t.d.fact 87 (f := .meth "Program" "show_of") rfl)) (fun _ _ _ _ _ _ us hl => match us, hl with | [_, _, _], _ => rfl) (by rfl)
theorem c_outer_uses : Cal.Def (cf P w K mg base T) "outer_uses" Cal.st_outer_uses Cal.N_outer_uses Cal.ps_outer_uses := by
  obtain ⟨fd, F⟩ := s.x.t.d.def_ 11 (d := d_outer_uses) rfl
  exact def_ok (st := Cal.st_outer_uses) F (He.glo_ok X G (s.x.t.d.fact 8 (f := .glo "outer_uses") rfl)) (fun _ _ _ _ _ _ us hl => match us, hl with | [_], _ => rfl) (by rfl)
theorem c_can_shorten : Cal.Def (cf P w K mg base T) "can_shorten" Cal.st_can_shorten Cal.N_can_shorten Cal.ps_can_shorten := by
  obtain ⟨fd, F⟩ := s.x.t.d.def_ 12 (d := d_can_shorten) rfl
  exact def_ok (st := Cal.st_can_shorten) F (He.glo_ok X G (s.x.t.d.fact 9 (f := .glo "can_shorten") rfl)) (fun _ _ _ _ _ _ us hl => match us, hl with | [_, _], _ => rfl) (by rfl)
theorem c_is_choice : Cal.Def (cf P w K mg base T) "is_choice" Cal.st_is_choice Cal.N_is_choice Cal.ps_is_choice := by
  obtain ⟨fd, F⟩ := s.x.t.d.def_ 13 (d := d_is_choice) rfl
  exact def_ok (st := Cal.st_is_choice) F (He.glo_ok X G (s.x.t.d.fact 10 (f := .glo "is_choice") rfl)) (fun _ _ _ _ _ _ us hl => match us, hl with | [_, _], _ => rfl) (by rfl)
theorem c_is_lot : Cal.Def (cf P w K mg base T) "is_lot" Cal.st_is_lot Cal.N_is_lot Cal.ps_is_lot := by
  obtain ⟨fd, F⟩ := s.x.t.d.def_ 14 (d := d_is_lot) rfl
  exact def_ok (st := Cal.st_is_lot) F (He.glo_ok X G (s.x.t.d.fact 11 (f := .glo "is_lot") rfl)) (fun _ _ _ _ _ _ us hl => match us, hl with | [_, _], _ => rfl) (by rfl)
theorem c_is_build : Cal.Def (cf P w K mg base T) "is_build" Cal.st_is_build Cal.N_is_build Cal.ps_is_build := by
  obtain ⟨fd, F⟩ := s.x.t.d.def_ 17 (d := d_is_build) rfl
  exact def_ok (st := Cal.st_is_build) F (He.glo_ok X G (s.x.t.d.fact 14 (f := .glo "is_build") rfl)) (fun _ _ _ _ _ _ us hl => match us, hl with | [_], _ => rfl) (by rfl)
theorem c_check_two : Cal.Def (cf P w K mg base T) "check_two" Cal.st_check_two Cal.N_check_two Cal.ps_check_two := by
  obtain ⟨fd, F⟩ := s.x.t.d.def_ 18 (d := d_check_two) rfl
  exact def_ok (st := Cal.st_check_two) F (He.glo_ok X G (s.x.t.d.fact 15 (f := .glo "check_two") rfl)) (fun _ _ _ _ _ _ us hl => match us, hl with | [_, _], _ => rfl) (by rfl)
theorem c_uses_of : Cal.Def (cf P w K mg base T) "uses_of" Cal.st_uses_of Cal.N_uses_of Cal.ps_uses_of := by
  obtain ⟨fd, F⟩ := s.x.t.d.def_ 19 (d := d_uses_of) rfl
  exact def_ok (st := Cal.st_uses_of) F (He.glo_ok X G (s.x.t.d.fact 16 (f := .glo "uses_of") rfl)) (fun _ _ _ _ _ _ us hl => match us, hl with | [_, _, _], _ => rfl) (by rfl)
theorem c_Held_init : Cal.DefI (cf P w K mg base T) "Held" (He.ga K "Held") Cal.st_Held_init Cal.N_Held_init Cal.ps_Held_init := by
  obtain ⟨fd, F⟩ := s.x.t.d.def_ 20 (d := d_Held_init) rfl
  exact defI_ok (st := Cal.st_Held_init) F (He.mkr_ok (s.x.t.d.fact 84 (f := .mkr "Held") rfl)) (He.glo_ok X G (s.x.t.d.fact 17 (f := .glo "Held") rfl)) (fun _ _ _ _ _ _ us hl => match us, hl with | [_, _, _, _], _ => rfl) (by rfl)
theorem c_Held_fork : Cal.DefM (cf P w K mg base T) (He.ga K "Held") "fork" Cal.st_Held_fork Cal.N_Held_fork Cal.ps_Held_fork := by
  obtain ⟨fd, F⟩ := s.x.t.d.def_ 21 (d := d_Held_fork) rfl
  exact defM_ok (st := Cal.st_Held_fork) F (He.meth_ok (s.x.t.d.fact 89 (f := .meth "Held" "fork") rfl)) (fun _ _ _ _ _ _ us hl => match us, hl with | [_, _, _], _ => rfl) (by rfl)
theorem c_Held_uses_at : Cal.DefM (cf P w K mg base T) (He.ga K "Held") "uses_at" Cal.st_Held_uses_at Cal.N_Held_uses_at Cal.ps_Held_uses_at := by
  obtain ⟨fd, F⟩ := s.x.t.d.def_ 22 (d := d_Held_uses_at) rfl
  exact defM_ok (st := Cal.st_Held_uses_at) F (He.meth_ok (s.x.t.d.fact 90 (f := .meth "Held" "uses_at") rfl)) (fun _ _ _ _ _ _ us hl => match us, hl with | [_, _], _ => rfl) (by rfl)
theorem c_Held_modules_of : Cal.DefM (cf P w K mg base T) (He.ga K "Held") "modules_of" Cal.st_Held_modules_of Cal.N_Held_modules_of Cal.ps_Held_modules_of := by
  obtain ⟨fd, F⟩ := s.x.t.d.def_ 23 (d := d_Held_modules_of) rfl
  exact defM_ok (st := Cal.st_Held_modules_of) F (He.meth_ok (s.x.t.d.fact 91 (f := .meth "Held" "modules_of") rfl)) (fun _ _ _ _ _ _ us hl => match us, hl with | [_, _], _ => rfl) (by rfl)
theorem c_Held_nexts : Cal.DefM (cf P w K mg base T) (He.ga K "Held") "nexts" Cal.st_Held_nexts Cal.N_Held_nexts Cal.ps_Held_nexts := by
  obtain ⟨fd, F⟩ := s.x.t.d.def_ 24 (d := d_Held_nexts) rfl
  exact defM_ok (st := Cal.st_Held_nexts) F (He.meth_ok (s.x.t.d.fact 92 (f := .meth "Held" "nexts") rfl)) (fun _ _ _ _ _ _ us hl => match us, hl with | [_, _], _ => rfl) (by rfl)
theorem c_Held_reach : Cal.DefM (cf P w K mg base T) (He.ga K "Held") "reach" Cal.st_Held_reach Cal.N_Held_reach Cal.ps_Held_reach := by
  obtain ⟨fd, F⟩ := s.x.t.d.def_ 25 (d := d_Held_reach) rfl
  exact defM_ok (st := Cal.st_Held_reach) F (He.meth_ok (s.x.t.d.fact 93 (f := .meth "Held" "reach") rfl)) (fun _ _ _ _ _ _ us hl => match us, hl with | [_], _ => rfl) (by rfl)
theorem c_Held_apart_by : Cal.DefM (cf P w K mg base T) (He.ga K "Held") "apart_by" Cal.st_Held_apart_by Cal.N_Held_apart_by Cal.ps_Held_apart_by := by
  obtain ⟨fd, F⟩ := s.x.t.d.def_ 26 (d := d_Held_apart_by) rfl
  exact defM_ok (st := Cal.st_Held_apart_by) F (He.meth_ok (s.x.t.d.fact 94 (f := .meth "Held" "apart_by") rfl)) (fun _ _ _ _ _ _ us hl => match us, hl with | [_, _], _ => rfl) (by rfl)
theorem c_are_modules_alike : Cal.Def (cf P w K mg base T) "are_modules_alike" Cal.st_are_modules_alike Cal.N_are_modules_alike Cal.ps_are_modules_alike := by
  obtain ⟨fd, F⟩ := s.x.t.d.def_ 27 (d := d_are_modules_alike) rfl
  exact def_ok (st := Cal.st_are_modules_alike) F (He.glo_ok X G (s.x.t.d.fact 18 (f := .glo "are_modules_alike") rfl)) (fun _ _ _ _ _ _ us hl => match us, hl with | [_], _ => rfl) (by rfl)
theorem c_is_even : Cal.Def (cf P w K mg base T) "is_even" Cal.st_is_even Cal.N_is_even Cal.ps_is_even := by
  obtain ⟨fd, F⟩ := s.x.t.d.def_ 28 (d := d_is_even) rfl
  exact def_ok (st := Cal.st_is_even) F (He.glo_ok X G (s.x.t.d.fact 19 (f := .glo "is_even") rfl)) (fun _ _ _ _ _ _ us hl => match us, hl with | [_], _ => rfl) (by rfl)
theorem c_are_crossed : Cal.Def (cf P w K mg base T) "are_crossed" Cal.st_are_crossed Cal.N_are_crossed Cal.ps_are_crossed := by
  obtain ⟨fd, F⟩ := s.x.t.d.def_ 29 (d := d_are_crossed) rfl
  exact def_ok (st := Cal.st_are_crossed) F (He.glo_ok X G (s.x.t.d.fact 20 (f := .glo "are_crossed") rfl)) (fun _ _ _ _ _ _ us hl => match us, hl with | [_, _], _ => rfl) (by rfl)
theorem c_is_pair : Cal.Def (cf P w K mg base T) "is_pair" Cal.st_is_pair Cal.N_is_pair Cal.ps_is_pair := by
  obtain ⟨fd, F⟩ := s.x.t.d.def_ 30 (d := d_is_pair) rfl
  exact def_ok (st := Cal.st_is_pair) F (He.glo_ok X G (s.x.t.d.fact 21 (f := .glo "is_pair") rfl)) (fun _ _ _ _ _ _ us hl => match us, hl with | [_, _], _ => rfl) (by rfl)
theorem c_are_right : Cal.Def (cf P w K mg base T) "are_right" Cal.st_are_right Cal.N_are_right Cal.ps_are_right := by
  obtain ⟨fd, F⟩ := s.x.t.d.def_ 31 (d := d_are_right) rfl
  exact def_ok (st := Cal.st_are_right) F (He.glo_ok X G (s.x.t.d.fact 22 (f := .glo "are_right") rfl)) (fun _ _ _ _ _ _ us hl => match us, hl with | [_, _], _ => rfl) (by rfl)
theorem c_end_of : Cal.Def (cf P w K mg base T) "end_of" Cal.st_end_of Cal.N_end_of Cal.ps_end_of := by
  obtain ⟨fd, F⟩ := s.x.t.d.def_ 32 (d := d_end_of) rfl
  exact def_ok (st := Cal.st_end_of) F (He.glo_ok X G (s.x.t.d.fact 23 (f := .glo "end_of") rfl)) (fun _ _ _ _ _ _ us hl => match us, hl with | [_, _], _ => rfl) (by rfl)
theorem c_fork_of : Cal.Def (cf P w K mg base T) "fork_of" Cal.st_fork_of Cal.N_fork_of Cal.ps_fork_of := by
  obtain ⟨fd, F⟩ := s.x.t.d.def_ 33 (d := d_fork_of) rfl
  exact def_ok (st := Cal.st_fork_of) F (He.glo_ok X G (s.x.t.d.fact 24 (f := .glo "fork_of") rfl)) (fun _ _ _ _ _ _ us hl => match us, hl with | [_, _], _ => rfl) (by rfl)
theorem c_are_ways : Cal.Def (cf P w K mg base T) "are_ways" Cal.st_are_ways Cal.N_are_ways Cal.ps_are_ways := by
  obtain ⟨fd, F⟩ := s.x.t.d.def_ 34 (d := d_are_ways) rfl
  exact def_ok (st := Cal.st_are_ways) F (He.glo_ok X G (s.x.t.d.fact 25 (f := .glo "are_ways") rfl)) (fun _ _ _ _ _ _ us hl => match us, hl with | [_, _], _ => rfl) (by rfl)
theorem c_Alike_init : Cal.DefI (cf P w K mg base T) "Alike" (He.ga K "Alike") Cal.st_Alike_init Cal.N_Alike_init Cal.ps_Alike_init := by
  obtain ⟨fd, F⟩ := s.x.t.d.def_ 35 (d := d_Alike_init) rfl
  exact defI_ok (st := Cal.st_Alike_init) F (He.mkr_ok (s.x.t.d.fact 81 (f := .mkr "Alike") rfl)) (He.glo_ok X G (s.x.t.d.fact 26 (f := .glo "Alike") rfl)) (fun _ _ _ _ _ _ us hl => match us, hl with | [_, _], _ => rfl) (by rfl)
theorem c_Alike_shows : Cal.DefM (cf P w K mg base T) (He.ga K "Alike") "shows" Cal.st_Alike_shows Cal.N_Alike_shows Cal.ps_Alike_shows := by
  obtain ⟨fd, F⟩ := s.x.t.d.def_ 36 (d := d_Alike_shows) rfl
  exact defM_ok (st := Cal.st_Alike_shows) F (He.meth_ok (s.x.t.d.fact 95 (f := .meth "Alike" "shows") rfl)) (fun _ _ _ _ _ _ us hl => match us, hl with | [_, _, _], _ => rfl) (by rfl)
theorem c_Parted_init : Cal.DefI (cf P w K mg base T) "Parted" (He.ga K "Parted") Cal.st_Parted_init Cal.N_Parted_init Cal.ps_Parted_init := by
  obtain ⟨fd, F⟩ := s.x.t.d.def_ 37 (d := d_Parted_init) rfl
  exact defI_ok (st := Cal.st_Parted_init) F (He.mkr_ok (s.x.t.d.fact 83 (f := .mkr "Parted") rfl)) (He.glo_ok X G (s.x.t.d.fact 27 (f := .glo "Parted") rfl)) (fun _ _ _ _ _ _ us hl => match us, hl with | [_, _, _], _ => rfl) (by rfl)
theorem c_Parted_shows : Cal.DefM (cf P w K mg base T) (He.ga K "Parted") "shows" Cal.st_Parted_shows Cal.N_Parted_shows Cal.ps_Parted_shows := by
  obtain ⟨fd, F⟩ := s.x.t.d.def_ 38 (d := d_Parted_shows) rfl
  exact defM_ok (st := Cal.st_Parted_shows) F (He.meth_ok (s.x.t.d.fact 96 (f := .meth "Parted" "shows") rfl)) (fun _ _ _ _ _ _ us hl => match us, hl with | [_, _, _], _ => rfl) (by rfl)
theorem c_compare : Cal.Def (cf P w K mg base T) "compare" Cal.st_compare Cal.N_compare Cal.ps_compare := by
  obtain ⟨fd, F⟩ := s.x.t.d.def_ 39 (d := d_compare) rfl
  exact def_ok (st := Cal.st_compare) F (He.glo_ok X G (s.x.t.d.fact 28 (f := .glo "compare") rfl)) (fun _ _ _ _ _ _ us hl => match us, hl with | [_, _], _ => rfl) (by rfl)
theorem c_are_alike : Cal.Def (cf P w K mg base T) "are_alike" Cal.st_are_alike Cal.N_are_alike Cal.ps_are_alike := by
  obtain ⟨fd, F⟩ := s.x.t.d.def_ 40 (d := d_are_alike) rfl
  exact def_ok (st := Cal.st_are_alike) F (He.glo_ok X G (s.x.t.d.fact 29 (f := .glo "are_alike") rfl)) (fun _ _ _ _ _ _ us hl => match us, hl with | [_, _], _ => rfl) (by rfl)
theorem c_first_parting : Cal.Def (cf P w K mg base T) "first_parting" Cal.st_first_parting Cal.N_first_parting Cal.ps_first_parting := by
  obtain ⟨fd, F⟩ := s.x.t.d.def_ 41 (d := d_first_parting) rfl
  exact def_ok (st := Cal.st_first_parting) F (He.glo_ok X G (s.x.t.d.fact 30 (f := .glo "first_parting") rfl)) (fun _ _ _ _ _ _ us hl => match us, hl with | [_, _], _ => rfl) (by rfl)
theorem c_law_draw : Cal.Def (cf P w K mg base T) "_law_draw" Cal.st_law_draw Cal.N_law_draw Cal.ps_law_draw := by
  obtain ⟨fd, F⟩ := s.x.t.d.def_ 42 (d := d_law_draw) rfl
  exact def_ok (st := Cal.st_law_draw) F (He.glo_ok X G (s.x.t.d.fact 31 (f := .glo "_law_draw") rfl)) (fun _ _ _ _ _ _ us hl => match us, hl with | [_, _, _], _ => rfl) (by rfl)
theorem c_law_cell_at : Cal.Def (cf P w K mg base T) "_law_cell_at" Cal.st_law_cell_at Cal.N_law_cell_at Cal.ps_law_cell_at := by
  obtain ⟨fd, F⟩ := s.x.t.d.def_ 43 (d := d_law_cell_at) rfl
  exact def_ok (st := Cal.st_law_cell_at) F (He.glo_ok X G (s.x.t.d.fact 32 (f := .glo "_law_cell_at") rfl)) (fun _ _ _ _ _ _ us hl => match us, hl with | [_, _], _ => rfl) (by rfl)
theorem c_law_digits : Cal.Def (cf P w K mg base T) "_law_digits" Cal.st_law_digits Cal.N_law_digits Cal.ps_law_digits := by
  obtain ⟨fd, F⟩ := s.x.t.d.def_ 44 (d := d_law_digits) rfl
  exact def_ok (st := Cal.st_law_digits) F (He.glo_ok X G (s.x.t.d.fact 33 (f := .glo "_law_digits") rfl)) (fun _ _ _ _ _ _ us hl => match us, hl with | [_, _, _, _], _ => rfl) (by rfl)
theorem c_law_take : Cal.Def (cf P w K mg base T) "_law_take" Cal.st_law_take Cal.N_law_take Cal.ps_law_take := by
  obtain ⟨fd, F⟩ := s.x.t.d.def_ 45 (d := d_law_take) rfl
  exact def_ok (st := Cal.st_law_take) F (He.glo_ok X G (s.x.t.d.fact 34 (f := .glo "_law_take") rfl)) (fun _ _ _ _ _ _ us hl => match us, hl with | [_, _], _ => rfl) (by rfl)
theorem c_law_pool : Cal.Def (cf P w K mg base T) "_law_pool" Cal.st_law_pool Cal.N_law_pool Cal.ps_law_pool := by
  obtain ⟨fd, F⟩ := s.x.t.d.def_ 46 (d := d_law_pool) rfl
  exact def_ok (st := Cal.st_law_pool) F (He.glo_ok X G (s.x.t.d.fact 35 (f := .glo "_law_pool") rfl)) (fun _ _ _ _ _ _ us hl => match us, hl with | [_, _], _ => rfl) (by rfl)
theorem c_law_pick : Cal.Def (cf P w K mg base T) "_law_pick" Cal.st_law_pick Cal.N_law_pick Cal.ps_law_pick := by
  obtain ⟨fd, F⟩ := s.x.t.d.def_ 47 (d := d_law_pick) rfl
  exact def_ok (st := Cal.st_law_pick) F (He.glo_ok X G (s.x.t.d.fact 36 (f := .glo "_law_pick") rfl)) (fun _ _ _ _ _ _ us hl => match us, hl with | [_, _], _ => rfl) (by rfl)
theorem c_law_uses : Cal.Def (cf P w K mg base T) "_law_uses" Cal.st_law_uses Cal.N_law_uses Cal.ps_law_uses := by
  obtain ⟨fd, F⟩ := s.x.t.d.def_ 48 (d := d_law_uses) rfl
  exact def_ok (st := Cal.st_law_uses) F (He.glo_ok X G (s.x.t.d.fact 37 (f := .glo "_law_uses") rfl)) (fun _ _ _ _ _ _ us hl => match us, hl with | [_, _, _], _ => rfl) (by rfl)
theorem c_law_parts : Cal.Def (cf P w K mg base T) "_law_parts" Cal.st_law_parts Cal.N_law_parts Cal.ps_law_parts := by
  obtain ⟨fd, F⟩ := s.x.t.d.def_ 49 (d := d_law_parts) rfl
  exact def_ok (st := Cal.st_law_parts) F (He.glo_ok X G (s.x.t.d.fact 38 (f := .glo "_law_parts") rfl)) (fun _ _ _ _ _ _ us hl => match us, hl with | [_, _], _ => rfl) (by rfl)
theorem c_law_row : Cal.Def (cf P w K mg base T) "_law_row" Cal.st_law_row Cal.N_law_row Cal.ps_law_row := by
  obtain ⟨fd, F⟩ := s.x.t.d.def_ 50 (d := d_law_row) rfl
  exact def_ok (st := Cal.st_law_row) F (He.glo_ok X G (s.x.t.d.fact 39 (f := .glo "_law_row") rfl)) (fun _ _ _ _ _ _ us hl => match us, hl with | [_, _, _], _ => rfl) (by rfl)
theorem c_law_how : Cal.Def (cf P w K mg base T) "_law_how" Cal.st_law_how Cal.N_law_how Cal.ps_law_how := by
  obtain ⟨fd, F⟩ := s.x.t.d.def_ 51 (d := d_law_how) rfl
  exact def_ok (st := Cal.st_law_how) F (He.glo_ok X G (s.x.t.d.fact 40 (f := .glo "_law_how") rfl)) (fun _ _ _ _ _ _ us hl => match us, hl with | [_, _, _], _ => rfl) (by rfl)
theorem c_law_makeable : Cal.Def (cf P w K mg base T) "_law_makeable" Cal.st_law_makeable Cal.N_law_makeable Cal.ps_law_makeable := by
  obtain ⟨fd, F⟩ := s.x.t.d.def_ 52 (d := d_law_makeable) rfl
  exact def_ok (st := Cal.st_law_makeable) F (He.glo_ok X G (s.x.t.d.fact 41 (f := .glo "_law_makeable") rfl)) (fun _ _ _ _ _ _ us hl => match us, hl with | [_], _ => rfl) (by rfl)
theorem c_law_choice : Cal.Def (cf P w K mg base T) "_law_choice" Cal.st_law_choice Cal.N_law_choice Cal.ps_law_choice := by
  obtain ⟨fd, F⟩ := s.x.t.d.def_ 53 (d := d_law_choice) rfl
  exact def_ok (st := Cal.st_law_choice) F (He.glo_ok X G (s.x.t.d.fact 42 (f := .glo "_law_choice") rfl)) (fun _ _ _ _ _ _ us hl => match us, hl with | [_, _], _ => rfl) (by rfl)
theorem c_law_met : Cal.Def (cf P w K mg base T) "_law_met" Cal.st_law_met Cal.N_law_met Cal.ps_law_met := by
  obtain ⟨fd, F⟩ := s.x.t.d.def_ 55 (d := d_law_met) rfl
  exact def_ok (st := Cal.st_law_met) F (He.glo_ok X G (s.x.t.d.fact 44 (f := .glo "_law_met") rfl)) (fun _ _ _ _ _ _ us hl => match us, hl with | [_, _, _, _], _ => rfl) (by rfl)
theorem c_law_outer : Cal.Def (cf P w K mg base T) "_law_outer" Cal.st_law_outer Cal.N_law_outer Cal.ps_law_outer := by
  obtain ⟨fd, F⟩ := s.x.t.d.def_ 56 (d := d_law_outer) rfl
  exact def_ok (st := Cal.st_law_outer) F (He.glo_ok X G (s.x.t.d.fact 45 (f := .glo "_law_outer") rfl)) (fun _ _ _ _ _ _ us hl => match us, hl with | [_], _ => rfl) (by rfl)
theorem c_law_inner : Cal.Def (cf P w K mg base T) "_law_inner" Cal.st_law_inner Cal.N_law_inner Cal.ps_law_inner := by
  obtain ⟨fd, F⟩ := s.x.t.d.def_ 57 (d := d_law_inner) rfl
  exact def_ok (st := Cal.st_law_inner) F (He.glo_ok X G (s.x.t.d.fact 46 (f := .glo "_law_inner") rfl)) (fun _ _ _ _ _ _ us hl => match us, hl with | [_, _], _ => rfl) (by rfl)
theorem c_law_two : Cal.Def (cf P w K mg base T) "_law_two" Cal.st_law_two Cal.N_law_two Cal.ps_law_two := by
  obtain ⟨fd, F⟩ := s.x.t.d.def_ 58 (d := d_law_two) rfl
  exact def_ok (st := Cal.st_law_two) F (He.glo_ok X G (s.x.t.d.fact 47 (f := .glo "_law_two") rfl)) (fun _ _ _ _ _ _ us hl => match us, hl with | [_, _, _, _], _ => rfl) (by rfl)
theorem c_law_words : Cal.Def (cf P w K mg base T) "_law_words" Cal.st_law_words Cal.N_law_words Cal.ps_law_words := by
  obtain ⟨fd, F⟩ := s.x.t.d.def_ 59 (d := d_law_words) rfl
  exact def_ok (st := Cal.st_law_words) F (He.glo_ok X G (s.x.t.d.fact 48 (f := .glo "_law_words") rfl)) (fun _ _ _ _ _ _ us hl => match us, hl with | [_, _], _ => rfl) (by rfl)
theorem c_law_are_modules : Cal.Def (cf P w K mg base T) "_law_are_modules" Cal.st_law_are_modules Cal.N_law_are_modules Cal.ps_law_are_modules := by
  obtain ⟨fd, F⟩ := s.x.t.d.def_ 60 (d := d_law_are_modules) rfl
  exact def_ok (st := Cal.st_law_are_modules) F (He.glo_ok X G (s.x.t.d.fact 49 (f := .glo "_law_are_modules") rfl)) (fun _ _ _ _ _ _ us hl => match us, hl with | [_], _ => rfl) (by rfl)
theorem c_law_nexts : Cal.Def (cf P w K mg base T) "_law_nexts" Cal.st_law_nexts Cal.N_law_nexts Cal.ps_law_nexts := by
  obtain ⟨fd, F⟩ := s.x.t.d.def_ 61 (d := d_law_nexts) rfl
  exact def_ok (st := Cal.st_law_nexts) F (He.glo_ok X G (s.x.t.d.fact 50 (f := .glo "_law_nexts") rfl)) (fun _ _ _ _ _ _ us hl => match us, hl with | [_, _, _], _ => rfl) (by rfl)
theorem c_law_through : Cal.Def (cf P w K mg base T) "_law_through" Cal.st_law_through Cal.N_law_through Cal.ps_law_through := by
  obtain ⟨fd, F⟩ := s.x.t.d.def_ 62 (d := d_law_through) rfl
  exact def_ok (st := Cal.st_law_through) F (He.glo_ok X G (s.x.t.d.fact 51 (f := .glo "_law_through") rfl)) (fun _ _ _ _ _ _ us hl => match us, hl with | [_, _], _ => rfl) (by rfl)
theorem c_law_are_apart : Cal.Def (cf P w K mg base T) "_law_are_apart" Cal.st_law_are_apart Cal.N_law_are_apart Cal.ps_law_are_apart := by
  obtain ⟨fd, F⟩ := s.x.t.d.def_ 63 (d := d_law_are_apart) rfl
  exact def_ok (st := Cal.st_law_are_apart) F (He.glo_ok X G (s.x.t.d.fact 52 (f := .glo "_law_are_apart") rfl)) (fun _ _ _ _ _ _ us hl => match us, hl with | [_, _, _], _ => rfl) (by rfl)
theorem c_law_end : Cal.Def (cf P w K mg base T) "_law_end" Cal.st_law_end Cal.N_law_end Cal.ps_law_end := by
  obtain ⟨fd, F⟩ := s.x.t.d.def_ 64 (d := d_law_end) rfl
  exact def_ok (st := Cal.st_law_end) F (He.glo_ok X G (s.x.t.d.fact 53 (f := .glo "_law_end") rfl)) (fun _ _ _ _ _ _ us hl => match us, hl with | [_, _, _], _ => rfl) (by rfl)
theorem c_law_ways_right : Cal.Def (cf P w K mg base T) "_law_ways_right" Cal.st_law_ways_right Cal.N_law_ways_right Cal.ps_law_ways_right := by
  obtain ⟨fd, F⟩ := s.x.t.d.def_ 65 (d := d_law_ways_right) rfl
  exact def_ok (st := Cal.st_law_ways_right) F (He.glo_ok X G (s.x.t.d.fact 54 (f := .glo "_law_ways_right") rfl)) (fun _ _ _ _ _ _ us hl => match us, hl with | [_, _, _], _ => rfl) (by rfl)
theorem c_law_near : Cal.Def (cf P w K mg base T) "_law_near" Cal.st_law_near Cal.N_law_near Cal.ps_law_near := by
  obtain ⟨fd, F⟩ := s.x.t.d.def_ 66 (d := d_law_near) rfl
  exact def_ok (st := Cal.st_law_near) F (He.glo_ok X G (s.x.t.d.fact 55 (f := .glo "_law_near") rfl)) (fun _ _ _ _ _ _ us hl => match us, hl with | [_, _, _], _ => rfl) (by rfl)
theorem c_law_alike_right : Cal.Def (cf P w K mg base T) "_law_alike_right" Cal.st_law_alike_right Cal.N_law_alike_right Cal.ps_law_alike_right := by
  obtain ⟨fd, F⟩ := s.x.t.d.def_ 67 (d := d_law_alike_right) rfl
  exact def_ok (st := Cal.st_law_alike_right) F (He.glo_ok X G (s.x.t.d.fact 56 (f := .glo "_law_alike_right") rfl)) (fun _ _ _ _ _ _ us hl => match us, hl with | [_, _, _, _, _], _ => rfl) (by rfl)
theorem c_law : Cal.Def (cf P w K mg base T) "law" Cal.st_law Cal.N_law Cal.ps_law := by
  obtain ⟨fd, F⟩ := s.x.t.d.def_ 68 (d := d_law) rfl
  exact def_ok (st := Cal.st_law) F (He.glo_ok X G (s.x.t.d.fact 57 (f := .glo "law") rfl)) (fun _ _ _ _ _ _ us hl => match us, hl with | [_], _ => rfl) (by rfl)
theorem c_met : Cal.DefN (cf P w K mg base T) "met" Cal.st_met Cal.N_met Cal.ps_met := by
  obtain ⟨fd, F⟩ := s.x.t.d.def_ 16 (d := d_met) rfl
  have F : FunD K "met" "met" (defArgs Cal.st_met) (defBody Cal.st_met) (defScope Cal.st_met) [.non] [] (He.fAd K d_met.at_) fd := F
  obtain ⟨ds, v1, v2⟩ := FunD.binds1 (ps := Cal.ps_met) F 4 0 (by simp) (by rfl) fun _ _ _ _ _ _ _ us its hl hi => match us, its, hl, hi with | [_, _, _, _], [_], _, _ => ⟨_, rfl, rfl⟩
  exact ⟨⟨"met", "met", _, fd, ds, F, (He.glo_ok X G (s.x.t.d.fact 13 (f := .glo "met") rfl)), v1, v2⟩, C8.fnScope_by (by rfl)⟩
theorem c_SORTS : ∃ a, mg "SORTS" = some (.ref a) ∧ ∀ F, Cal.Is (cf P w K mg base T) F (.tup ((["call", "cell"] : List Str).map Cal.Dat.str)) (.ref a) := by
  obtain ⟨h1, h2⟩ := He.ba (chk_at s 0 (b := fun K => (He.Fa.glo "SORTS").ok K && tupA K (He.ga K "SORTS") ["call", "cell"]))
  exact ⟨_, He.glo_ok X G h1, fun F => tupA_is (c := cf P w K mg base T) h2 F⟩
theorem c_SHOWS : ∃ a, mg "SHOWS" = some (.ref a) ∧ ∀ F, Cal.Is (cf P w K mg base T) F (.tup ((["shown", "weak", "protected", "hidden"] : List Str).map Cal.Dat.str)) (.ref a) := by
  obtain ⟨h1, h2⟩ := He.ba (chk_at s 1 (b := fun K => (He.Fa.glo "SHOWS").ok K && tupA K (He.ga K "SHOWS") ["shown", "weak", "protected", "hidden"]))
  exact ⟨_, He.glo_ok X G h1, fun F => tupA_is (c := cf P w K mg base T) h2 F⟩
theorem c_KEPT : ∃ a, mg "KEPT" = some (.ref a) ∧ ∀ F, Cal.Is (cf P w K mg base T) F (.tup ((["protected", "hidden"] : List Str).map Cal.Dat.str)) (.ref a) := by
  obtain ⟨h1, h2⟩ := He.ba (chk_at s 2 (b := fun K => (He.Fa.glo "KEPT").ok K && tupA K (He.ga K "KEPT") ["protected", "hidden"]))
  exact ⟨_, He.glo_ok X G h1, fun F => tupA_is (c := cf P w K mg base T) h2 F⟩
theorem c_TOLD : ∃ a, mg "TOLD" = some (.ref a) ∧ ∀ F, Cal.Is (cf P w K mg base T) F (.tup ((["read", "take"] : List Str).map Cal.Dat.str)) (.ref a) := by
  obtain ⟨h1, h2⟩ := He.ba (chk_at s 3 (b := fun K => (He.Fa.glo "TOLD").ok K && tupA K (He.ga K "TOLD") ["read", "take"]))
  exact ⟨_, He.glo_ok X G h1, fun F => tupA_is (c := cf P w K mg base T) h2 F⟩
theorem c_val {x : Str} {xs : List Str} (hl : ∃ es n, K.lookup (He.ga K "SORT_OF") = some ⟨.type "dict", none, .dict es n, #[]⟩ ∧ PySem.W.KeysLit w.params es.toList) (hv : valB K x xs = true) : ∃ v, KDct K w (He.ga K "SORT_OF") x v ∧ ∀ F, Cal.Is (cf P w K mg base T) F (.tup (xs.map Cal.Dat.str)) v := by
  obtain ⟨h1, h2⟩ := He.ba hv
  obtain ⟨es, n, e1, e2⟩ := hl
  exact ⟨.ref (valA K x), ⟨es, n, _, e1, e2, eqO_eq h1, rfl⟩, fun F => tupA_is (c := cf P w K mg base T) h2 F⟩
theorem c_SORT_OF : ∃ D ens n, mg "SORT_OF" = some (.ref D) ∧ K.lookup D = some ⟨.type "dict", none, .dict ens n, #[]⟩ ∧ (D == sysModules) = false ∧ ens.size ≤ sizeLine ∧ ens.toList.map (fun e => Cal.keyS e.key) = (["call", "read", "take"] : List Str).map some ∧
    (∃ v, KDct K w D "call" v ∧ ∀ F, Cal.Is (cf P w K mg base T) F (.tup ((["call"] : List Str).map Cal.Dat.str)) v) ∧ (∃ v, KDct K w D "read" v ∧ ∀ F, Cal.Is (cf P w K mg base T) F (.tup ((["cell"] : List Str).map Cal.Dat.str)) v) ∧ ∃ v, KDct K w D "take" v ∧ ∀ F, Cal.Is (cf P w K mg base T) F (.tup ((["call", "cell"] : List Str).map Cal.Dat.str)) v := by
  obtain ⟨h1, h2⟩ := He.ba (chk_at s 4 (b := fun K => (He.Fa.glo "SORT_OF").ok K && sortB K))
  obtain ⟨es, n, kd⟩ := s.x.t.tab 0 (t := (fun K => He.ga K "SORT_OF", ["call", "read", "take"])) rfl
  have lk : K.lookup (He.ga K "SORT_OF") = some ⟨.type "dict", none, .dict es n, #[]⟩ := kd.at_
  have hl : ∃ es n, K.lookup (He.ga K "SORT_OF") = some ⟨.type "dict", none, .dict es n, #[]⟩ ∧ PySem.W.KeysLit w.params es.toList := ⟨es, n, lk, kd.lit⟩
  unfold sortB at h2
  rw [lk] at h2
  obtain ⟨h3, h4⟩ := He.ba (show (decide (es.size ≤ sizeLine) && decide (es.toList.map (fun e => keyZ e.key) = (["call", "read", "take"] : List Str).map some)) = true from h2)
  have h4 := of_decide_eq_true h4
  rw [keyZ_eq] at h4
  exact ⟨_, es, n, He.glo_ok X G h1, lk, kd.low, of_decide_eq_true h3, h4, c_val s X G hl (chk_at s 5 (b := fun K => valB K "call" ["call"])), c_val s X G hl (chk_at s 6 (b := fun K => valB K "read" ["cell"])), c_val s X G hl (chk_at s 7 (b := fun K => valB K "take" ["call", "cell"]))⟩
theorem glb_ok : Cal.Glb (cf P w K mg base T) (He.ga K "Program") (He.ga K "Held") (He.ga K "Alike") (He.ga K "Parted") where
  is_number := c_is_number s X G
  is_word := c_is_word s X G
  are_sorts := c_are_sorts s X G
  can_use := c_can_use s X G
  is_definition := c_is_definition s X G
  is_module := c_is_module s X G
  are_modules_programs := c_are_modules_programs s X G
  Program_init := c_Program_init s X G
  Program_sorts := c_Program_sorts s X G
  Program_modules := c_Program_modules s X G
  Program_len := c_Program_len s X G
  Program_found := c_Program_found s X G
  Program_show_of := c_Program_show_of s X G
  outer_uses := c_outer_uses s X G
  can_shorten := c_can_shorten s X G
  is_choice := c_is_choice s X G
  is_lot := c_is_lot s X G
  is_build := c_is_build s X G
  check_two := c_check_two s X G
  uses_of := c_uses_of s X G
  Held_init := c_Held_init s X G
  Held_fork := c_Held_fork s X G
  Held_uses_at := c_Held_uses_at s X G
  Held_modules_of := c_Held_modules_of s X G
  Held_nexts := c_Held_nexts s X G
  Held_reach := c_Held_reach s X G
  Held_apart_by := c_Held_apart_by s X G
  are_modules_alike := c_are_modules_alike s X G
  is_even := c_is_even s X G
  are_crossed := c_are_crossed s X G
  is_pair := c_is_pair s X G
  are_right := c_are_right s X G
  end_of := c_end_of s X G
  fork_of := c_fork_of s X G
  are_ways := c_are_ways s X G
  Alike_init := c_Alike_init s X G
  Alike_shows := c_Alike_shows s X G
  Parted_init := c_Parted_init s X G
  Parted_shows := c_Parted_shows s X G
  compare := c_compare s X G
  are_alike := c_are_alike s X G
  first_parting := c_first_parting s X G
  law_draw := c_law_draw s X G
  law_cell_at := c_law_cell_at s X G
  law_digits := c_law_digits s X G
  law_take := c_law_take s X G
  law_pool := c_law_pool s X G
  law_pick := c_law_pick s X G
  law_uses := c_law_uses s X G
  law_parts := c_law_parts s X G
  law_row := c_law_row s X G
  law_how := c_law_how s X G
  law_makeable := c_law_makeable s X G
  law_choice := c_law_choice s X G
  law_met := c_law_met s X G
  law_outer := c_law_outer s X G
  law_inner := c_law_inner s X G
  law_two := c_law_two s X G
  law_words := c_law_words s X G
  law_are_modules := c_law_are_modules s X G
  law_nexts := c_law_nexts s X G
  law_through := c_law_through s X G
  law_are_apart := c_law_are_apart s X G
  law_end := c_law_end s X G
  law_ways_right := c_law_ways_right s X G
  law_near := c_law_near s X G
  law_alike_right := c_law_alike_right s X G
  law := c_law s X G
  met := c_met s X G
  b_isinstance := He.free_ok X G (s.x.t.d.fact 58 (f := .free "isinstance") rfl)
  b_int := He.free_ok X G (s.x.t.d.fact 59 (f := .free "int") rfl)
  b_bool := He.free_ok X G (s.x.t.d.fact 60 (f := .free "bool") rfl)
  b_str := He.free_ok X G (s.x.t.d.fact 61 (f := .free "str") rfl)
  b_tuple := He.free_ok X G (s.x.t.d.fact 62 (f := .free "tuple") rfl)
  b_len := He.free_ok X G (s.x.t.d.fact 63 (f := .free "len") rfl)
  b_all := He.free_ok X G (s.x.t.d.fact 64 (f := .free "all") rfl)
  b_any := He.free_ok X G (s.x.t.d.fact 65 (f := .free "any") rfl)
  b_range := He.free_ok X G (s.x.t.d.fact 66 (f := .free "range") rfl)
  b_list := He.free_ok X G (s.x.t.d.fact 67 (f := .free "list") rfl)
  b_sorted := He.free_ok X G (s.x.t.d.fact 68 (f := .free "sorted") rfl)
  b_zip := He.free_ok X G (s.x.t.d.fact 69 (f := .free "zip") rfl)
  b_enumerate := He.free_ok X G (s.x.t.d.fact 70 (f := .free "enumerate") rfl)
  b_abs := He.free_ok X G (s.x.t.d.fact 71 (f := .free "abs") rfl)
  b_sum := He.free_ok X G (s.x.t.d.fact 72 (f := .free "sum") rfl)
  b_dict := He.free_ok X G (s.x.t.d.fact 73 (f := .free "dict") rfl)
  g_Program := He.glo_ok X G (s.x.t.d.fact 7 (f := .glo "Program") rfl)
  g_Held := He.glo_ok X G (s.x.t.d.fact 17 (f := .glo "Held") rfl)
  g_Alike := He.glo_ok X G (s.x.t.d.fact 26 (f := .glo "Alike") rfl)
  g_Parted := He.glo_ok X G (s.x.t.d.fact 27 (f := .glo "Parted") rfl)
  g_AHEAD := He.int_ok X G (s.x.t.d.fact 74 (f := .int "AHEAD" (-1)) rfl)
  g_MOST_NAMES := He.int_ok X G (s.x.t.d.fact 75 (f := .int "MOST_NAMES" 4) rfl)
  g_MOST_MODULES := He.int_ok X G (s.x.t.d.fact 76 (f := .int "MOST_MODULES" 3) rfl)
  g_MOST_USES := He.int_ok X G (s.x.t.d.fact 77 (f := .int "MOST_USES" 3) rfl)
  g_SORTS := c_SORTS s X G
  g_SHOWS := c_SHOWS s X G
  g_KEPT := c_KEPT s X G
  g_TOLD := c_TOLD s X G
  g_SORT_OF := c_SORT_OF s X G
  k_Program := He.cls_ok (s.x.t.d.fact 78 (f := .cls "Program") rfl)
  k_Alike := He.cls_ok (s.x.t.d.fact 80 (f := .cls "Alike") rfl)
  k_Parted := He.cls_ok (s.x.t.d.fact 82 (f := .cls "Parted") rfl)
  k_Held := scls_ok (chk_at s 8 (b := fun K => sclsB K (He.ga K "Held")))
  s_builds := slot_ok (chk_at s 9 (b := fun K => slotB K (He.ga K "Held") "builds" 0)) (by decide)
  s_lot := slot_ok (chk_at s 10 (b := fun K => slotB K (He.ga K "Held") "lot" 1)) (by decide)
  i_Program := icls_ok (He.cls_ok (s.x.t.d.fact 78 (f := .cls "Program") rfl)) (chk_at s 11 (b := fun K => iclsB K (He.ga K "Program")))
  i_Alike := icls_ok (He.cls_ok (s.x.t.d.fact 80 (f := .cls "Alike") rfl)) (chk_at s 12 (b := fun K => iclsB K (He.ga K "Alike")))
  i_Parted := icls_ok (He.cls_ok (s.x.t.d.fact 82 (f := .cls "Parted") rfl)) (chk_at s 13 (b := fun K => iclsB K (He.ga K "Parted")))
  q_DA := of_decide_eq_true (chk_at s 14 (b := fun K => kitB K (He.ga K "Parted") (He.ga K "Alike")))
  q_AD := of_decide_eq_true (chk_at s 15 (b := fun K => kitB K (He.ga K "Alike") (He.ga K "Parted")))
  n_pair := He.noat_ok (s.x.t.d.fact 97 (f := .noat "Program" "pair") rfl)
  n_pairs := He.noat_ok (s.x.t.d.fact 98 (f := .noat "Alike" "pairs") rfl)
  n_ahead := He.noat_ok (s.x.t.d.fact 99 (f := .noat "Parted" "ahead") rfl)
  n_ways := He.noat_ok (s.x.t.d.fact 100 (f := .noat "Parted" "ways") rfl)
theorem c_lots_of (hb : LamX.TabB base mg (He.cT K ("lots_of", none)).1 (He.cT K ("lots_of", none)).2) (hm : ((He.cT K ("lots_of", none)).2, Str.ofString "lots_of" ++ ".<locals>." ++ "<lambda>") ∈ T) (hu : ∀ p ∈ T, p.1 = (He.cT K ("lots_of", none)).2 → p.2 = Str.ofString "lots_of" ++ ".<locals>." ++ "<lambda>") : Cal.DefT (cf P w K mg base T) "lots_of" Cal.st_lots_of Cal.N_lots_of Cal.ps_lots_of := by
  obtain ⟨fd, F⟩ := s.x.t.d.def_ 15 (d := d_lots_of) rfl
  have F : FunD K "lots_of" "lots_of" (defArgs Cal.st_lots_of) (defBody Cal.st_lots_of) (defScope Cal.st_lots_of) [] [] (He.fAd K ("lots_of", none)) fd := F
  have hB := F.bindsN (ps := Cal.ps_lots_of) (fun _ _ _ _ _ _ us hl => match us, hl with | [_], _ => rfl)
  obtain ⟨oc, od, dV, kV, doc, pm, an, cdv, ct, osl, e, lk, hcd, hD, _⟩ := F.ex
  rcases hD with ⟨_, rfl⟩ | ⟨z, _⟩
  · obtain ⟨co, rfl⟩ := He.codeIn_ref hcd
    subst e
    have ec : (He.cT K ("lots_of", none)).1 = co := He.codeOf_eq lk rfl
    rw [ec] at hb
    exact ⟨⟨"lots_of", "lots_of", _, co, _, oc, od, kV, doc, pm, an, ct, osl, lk, hcd, F.kp, (He.glo_ok X G (s.x.t.d.fact 12 (f := .glo "lots_of") rfl)), hB, hb, hm, hu⟩, C8.fnScope_by (by rfl)⟩
  · exact absurd rfl z
theorem c_law_lots (hb : LamX.TabB base mg (He.cT K ("_law_lots", none)).1 (He.cT K ("_law_lots", none)).2) (hm : ((He.cT K ("_law_lots", none)).2, Str.ofString "_law_lots" ++ ".<locals>." ++ "<lambda>") ∈ T) (hu : ∀ p ∈ T, p.1 = (He.cT K ("_law_lots", none)).2 → p.2 = Str.ofString "_law_lots" ++ ".<locals>." ++ "<lambda>") : Cal.DefT (cf P w K mg base T) "_law_lots" Cal.st_law_lots Cal.N_law_lots Cal.ps_law_lots := by
  obtain ⟨fd, F⟩ := s.x.t.d.def_ 54 (d := d_law_lots) rfl
  have F : FunD K "_law_lots" "_law_lots" (defArgs Cal.st_law_lots) (defBody Cal.st_law_lots) (defScope Cal.st_law_lots) [] [] (He.fAd K ("_law_lots", none)) fd := F
  have hB := F.bindsN (ps := Cal.ps_law_lots) (fun _ _ _ _ _ _ us hl => match us, hl with | [_], _ => rfl)
  obtain ⟨oc, od, dV, kV, doc, pm, an, cdv, ct, osl, e, lk, hcd, hD, _⟩ := F.ex
  rcases hD with ⟨_, rfl⟩ | ⟨z, _⟩
  · obtain ⟨co, rfl⟩ := He.codeIn_ref hcd
    subst e
    have ec : (He.cT K ("_law_lots", none)).1 = co := He.codeOf_eq lk rfl
    rw [ec] at hb
    exact ⟨⟨"_law_lots", "_law_lots", _, co, _, oc, od, kV, doc, pm, an, ct, osl, lk, hcd, F.kp, (He.glo_ok X G (s.x.t.d.fact 43 (f := .glo "_law_lots") rfl)), hB, hb, hm, hu⟩, C8.fnScope_by (by rfl)⟩
  · exact absurd rfl z
end
end Hd
set_option Elab.async false
set_option linter.all false
set_option maxRecDepth 100000
set_option maxHeartbeats 4000000
namespace Hd
open PySem PySem.Spec PyProof.Rows L2
def tabs (K : PySem.W.Frag) : List (Addr × Str) := [((He.cT K ("lots_of", none)).2, Str.ofString "lots_of" ++ ".<locals>." ++ "<lambda>"), ((He.cT K ("_law_lots", none)).2, Str.ofString "_law_lots" ++ ".<locals>." ++ "<lambda>")]
theorem fits_bits {z : Int} (h : Builtin.Int.intBits z ≤ 1048576) : Cal.Fits z 2000000 := ⟨1048576, by decide, PySem.intBits_le_iff.mp h⟩
theorem law_at {w : World} {K : PySem.W.Frag} {mg : Str → Option Value} {h : Heap} {fa : Addr} (s : SaysZ w h K) (X : K.In h) (G : h.Ns mainGlobals mg) (hfa : mg "law" = some (.ref fa)) : LamX.LawAtS PySem.Challenge.rw_laidahead_k03_whole_alike w K CX0 14 63 "_law_script" mg fa h := by
  obtain ⟨fd, F⟩ := s.x.t.d.def_ 68 (d := d_law) rfl
  have F : FunD K "law" "law" (defArgs Cal.st_law) (defBody Cal.st_law) (defScope Cal.st_law) [] [] (He.fAd K ("law", none)) fd := F
  have e := hfa.symm.trans (He.glo_ok X G (s.x.t.d.fact 57 (f := .glo "law") rfl))
  obtain rfl : fa = He.ga K "law" := by cases e; rfl
  have hb := FunD.bindsA (ps := ["_law_script"]) F fun _ _ _ _ _ _ us hl => match us, hl with | [_], _ => rfl
  have ne : (He.cT K ("lots_of", none)).2 ≠ (He.cT K ("_law_lots", none)).2 := of_decide_eq_true (chk_at s 18 (b := fun K => decide ((He.cT K ("lots_of", none)).2 ≠ (He.cT K ("_law_lots", none)).2)))
  refine ⟨fd, tf.map (He.cT K), Cal.spLaw (cf PySem.Challenge.rw_laidahead_k03_whole_alike.prog w K mg h (tabs K)), fun p hp => ?_, fun p hp => ?_, fun p hp => ?_, fun s v => hb s [v] rfl, fun H a ns hl hz hT hS => ⟨a, ns, rfl, ⟨hl, fun z hz2 => fits_bits (hz z hz2)⟩, fun p hp => ?_, hS, fun _ => rfl⟩, fun base Xb Gb hB => ?_⟩
  · obtain ⟨q, hq, rfl⟩ := List.mem_map.mp hp
    exact s.x.empty q hq
  · obtain ⟨q, hq, rfl⟩ := List.mem_map.mp hp
    exact s.x.out q hq
  · obtain ⟨q, hq, rfl⟩ := List.mem_map.mp hp
    exact PySem.W.codeHd_of_K X (s.x.hd q hq)
  · have hp : p ∈ tabs K := hp
    unfold tabs at hp
    have m1 : He.cT K ("lots_of", none) ∈ tf.map (He.cT K) := List.mem_cons_self
    have m2 : He.cT K ("_law_lots", none) ∈ tf.map (He.cT K) := List.mem_cons_of_mem _ List.mem_cons_self
    rcases List.mem_cons.mp hp with rfl | hp
    · exact LamX.TabS.nil (hT _ m1)
    · rw [List.mem_singleton.mp hp]
      exact LamX.TabS.nil (hT _ m2)
  · have m1 : He.cT K ("lots_of", none) ∈ tf.map (He.cT K) := List.mem_cons_self
    have m2 : He.cT K ("_law_lots", none) ∈ tf.map (He.cT K) := List.mem_cons_of_mem _ List.mem_cons_self
    have B := glb_ok (P := PySem.Challenge.rw_laidahead_k03_whole_alike.prog) (base := base) (T := tabs K) s X G
    have T1 := c_lots_of (P := PySem.Challenge.rw_laidahead_k03_whole_alike.prog) (T := tabs K) s X G (hB _ m1) List.mem_cons_self fun p hp e => by
      rcases List.mem_cons.mp hp with rfl | hp
      · rfl
      · rw [List.mem_singleton.mp hp] at e
        exact absurd e.symm ne
    have T2 := c_law_lots (P := PySem.Challenge.rw_laidahead_k03_whole_alike.prog) (T := tabs K) s X G (hB _ m2) (List.mem_cons_of_mem _ List.mem_cons_self) fun p hp e => by
      rcases List.mem_cons.mp hp with rfl | hp
      · exact absurd e ne
      · rw [List.mem_singleton.mp hp]
    exact Cal.law_ok B (Cal.ok_lots_of B T1) T2 (fun_ok F) B.law.sc
end Hd
open PySem PySem.W PySem.Calls PyProof.Rows
theorem PySem.Challenge.cw_laidahead_k03_whole_alike_holds : PySem.Challenge.rw_laidahead_k03_whole_alike.Holds := by
  w_on; o_law
  refine HandSHeadRun.head_any (r := OpenLaw.row PySem.Challenge.rw_laidahead_k03_whole_alike) (q := Hd.qv) (H := Hd.hk) (ob := Hd.ob) (M := 30000) (loose := Hd.names) (d := HandSHeadRun.topDef (OpenLaw.row PySem.Challenge.rw_laidahead_k03_whole_alike).prog 83) (kwd := []) Hd.ob_eq
    (by kernel_rfl) (fun s => by kernel_rfl) (byRow2 "special-get-raises" Hd.run0 Hd.run1) (by kernel_rfl) (by kernel_rfl) (by kernel_rfl) (by rfl) (by first | assumption | decide +kernel) (by decide +kernel) ⟨rfl, rfl, rfl, rfl, rfl, by decide +kernel⟩ ?hw ?hc
  case hw => w_witness2
  case hc =>
    refine LamX.walk_ofTsE (l := PySem.Challenge.rw_laidahead_k03_whole_alike) (n := 63) (k := 14) (x := "_law_script") (CX := fun _ => L2.CX0) rfl (by decide) (by kernel_rfl) ⟨rfl, by decide, by decide⟩ ?F (fun _ _ _ _ _ z => z)
    intro w mg fa h Y G hmg0
    obtain ⟨K, KX, c⟩ := Y
    have hmg : mg ("law" : PySem.Str) = some (.ref fa) := by
      have e : (HandSHeadRun.topDef (OpenLaw.row PySem.Challenge.rw_laidahead_k03_whole_alike).prog 83).name = ("law" : PySem.Str) := by kernel_rfl
      rw [← e]
      exact hmg0
    exact ⟨K, KX, Hd.law_at c KX G hmg⟩
