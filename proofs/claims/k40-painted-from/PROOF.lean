import PyProof.Rows.All
import Wide.All
import OpenK.AllK
import Wide.FinOn
import KE.KStateDown
import KE.DatumOrd
import HandS.ForMost
import HandS.Walk
import HandS.Defaults
import HandS.Star
import HandS.Property
import HandS.IsInst
import HandS.DictTup
import HandS.DictComp
import HandS.Lambda
import HandS.Nested
import HandS.CallLocal
import HandS.Codes
import HandS.SortKw
import HandS.Wide
import HandS.WideBits
import HandS.TupAny
import HandS.Steps
import HandS.EndTab
import HandS.HeadWalk
import HandS.Head2
import HandS.HeadHook4
import HandS.RaiseMore
import HandS.Flow
import HandS.Conv
import HandS.More
import HandS.ClsMeth
import PySem.Challenge.RW_paintposts_k40_whole_painted_from_both_w
import KE.GoesEnum
import KE.GoesMore
import KE.KStar
import KE.KOpsOwn
import KE.KDictList
import KE.SortData
import KE.KLam
import KE.KNest
import HandS.Style
section
set_option Elab.async false
set_option linter.all false
set_option maxRecDepth 100000
set_option maxHeartbeats 4000000
namespace PK
open PySem PySem.Spec PyProof.Rows L2
abbrev prog : Program := PySem.Challenge.pw_paintposts_k40_whole_painted_from_both_w
/-- the i-th statement of the top -/
def top (i : Nat) : Stmt := prog.main.body.getD i (.Pass ⟨0, 0, 0, 0⟩)
end PK
end
namespace PK
open PySem PySem.Spec PyProof.Rows L2
abbrev s_is_integer : Stmt := top 18
abbrev s_is_between : Stmt := top 19
abbrev s_need_post : Stmt := top 20
abbrev s_need_day : Stmt := top 21
abbrev s_need_day_or_none : Stmt := top 22
abbrev s_greatest_divisor : Stmt := top 26
abbrev s_inverse : Stmt := top 25
abbrev s_least_fit : Stmt := top 27
abbrev s_Crossing___init__ : Stmt := inClass (top 28) 0
abbrev s_is_name : Stmt := top 47
abbrev s_Painter___init__ : Stmt := inClass (top 55) 3
abbrev s_Painter_name : Stmt := inClass (top 55) 6
abbrev s_Painter_day : Stmt := inClass (top 55) 7
abbrev s_Painter_post : Stmt := inClass (top 55) 8
abbrev s_Painter_stride : Stmt := inClass (top 55) 9
abbrev s_Painter_way : Stmt := inClass (top 55) 10
abbrev s_need_count : Stmt := top 23
abbrev s_Painter_post_after : Stmt := inClass (top 55) 12
abbrev s_Painter_count_at : Stmt := inClass (top 55) 13
abbrev s_Fence___init__ : Stmt := inClass (top 57) 0
abbrev s_Fence_painters : Stmt := inClass (top 57) 2
abbrev s_Fence_names : Stmt := inClass (top 57) 3
abbrev s_Fence___add__ : Stmt := inClass (top 57) 12
abbrev s_Crossing_number : Stmt := inClass (top 28) 1
abbrev s_Crossing_bounds : Stmt := inClass (top 28) 4
abbrev s_Crossing_first_block : Stmt := inClass (top 28) 5
abbrev s_Blocks_crossing : Stmt := inClass (top 30) 1
abbrev s_Blocks_look : Stmt := inClass (top 30) 2
abbrev s_Blocks_first_of : Stmt := inClass (top 30) 3
abbrev s_Blocks_next_stop : Stmt := inClass (top 30) 4
abbrev s_Blocks_settle : Stmt := inClass (top 30) 5
abbrev s_Blocks_all_stops : Stmt := inClass (top 30) 6
abbrev s_Blocks___init__ : Stmt := inClass (top 30) 0
abbrev s_History___init__ : Stmt := inClass (top 32) 0
abbrev s_numbers_between : Stmt := top 36
abbrev s_painted_in : Stmt := top 37
abbrev s_opposite : Stmt := top 39
abbrev s_end_of_piece : Stmt := top 41
abbrev s_least_true : Stmt := top 2
abbrev s_painted_post_from : Stmt := top 42
abbrev s_History_fence : Stmt := inClass (top 32) 1
abbrev s_pieces : Stmt := top 35
abbrev s_History_painter_at : Stmt := inClass (top 32) 8
abbrev s_History___call__ : Stmt := inClass (top 32) 9
abbrev s_painter_of : Stmt := top 59
abbrev s_history : Stmt := top 33
abbrev s_found_from : Stmt := top 43
abbrev s_painted_from : Stmt := top 44
abbrev s__law_pen : Stmt := top 61
abbrev s__law_draw : Stmt := top 62
abbrev s__law_pick : Stmt := top 63
abbrev s__law_around : Stmt := top 64
abbrev s__law_power : Stmt := top 65
abbrev s__law_great : Stmt := top 66
abbrev s__law_names : Stmt := top 67
abbrev s__law_gcd : Stmt := top 69
abbrev s__law_inverse : Stmt := top 68
abbrev s__law_common : Stmt := top 70
abbrev s__law_first : Stmt := top 71
abbrev s__law_pairs : Stmt := top 72
abbrev s__law_next : Stmt := top 73
abbrev s__law_history : Stmt := top 79
abbrev s__law_opposite : Stmt := top 82
abbrev s__law_is_whole : Stmt := top 83
abbrev s__law_back : Stmt := top 87
abbrev s__law_far_date : Stmt := top 77
abbrev s__law_walked : Stmt := top 78
abbrev s__law_fence : Stmt := top 74
abbrev s__law_small : Stmt := top 88
abbrev s__law_small_right : Stmt := top 90
abbrev s__law_is_painted : Stmt := top 80
abbrev s__law_number : Stmt := top 81
abbrev s__law_bound : Stmt := top 84
abbrev s__law_is_right : Stmt := top 91
abbrev s__law_aimed : Stmt := top 75
abbrev s__law_lined : Stmt := top 89
abbrev s__law_crowd : Stmt := top 76
abbrev s__law_mark : Stmt := top 85
abbrev s__law_moment : Stmt := top 86
abbrev s_law : Stmt := top 92
end PK
section
set_option Elab.async false
set_option linter.all false
set_option maxRecDepth 100000
set_option maxHeartbeats 0
/-! ### what the top leaves: getters too -/
namespace PK
open PySem PySem.Spec PyProof.Rows L2
/-- the object that a class holds under a name -/
def holdAt (K : PySem.W.Frag) (cls prop : Str) : Addr := He.ma K (He.ga K cls) prop
/-- the getter of a property -/
def getterAt (K : PySem.W.Frag) (cls prop : Str) : Addr := match PySem.W.recIn K (holdAt K cls prop) "property" with
  | some (.ref g :: _) => g
  | _ => 0
def propOk (K : PySem.W.Frag) (cls prop : Str) : Bool :=
  decide (PySem.W.findIn K (.ref (He.ga K cls)) prop = some (some (.ref (holdAt K cls prop)))) &&
  (decide (PySem.W.specialIn K (.ref (holdAt K cls prop)) "__get__" = some (some (.builtin "property.__get__"))) &&
  (decide (PySem.W.takesIn K (.ref (holdAt K cls prop)) = some true) &&
  (match PySem.W.recIn K (holdAt K cls prop) "property" with
    | some (.ref _ :: _) => true
    | _ => false)))
/-- a getter, as the text has it -/
structure GtD where
  cls : Str
  prop : Str
  name : Str
  qual : Str
  params : Arguments
  body : List Stmt
  scope : Scope
/-- what a function object tells -/
def fnTell (fd : FuncData) : He.FnW := some (fd.name, fd.qualname, fd.params, fd.body, fd.scope, fd.globals, fd.closure, fd.builtins)
def gtTell (K : PySem.W.Frag) (d : GtD) : He.FnW := match (K.lookup (getterAt K d.cls d.prop)).map Obj.data with
  | some (.func fd) => fnTell fd
  | _ => none
def GtD.told (d : GtD) : He.FnW := some (d.name, d.qual, d.params, .stmts d.body, d.scope, mainGlobals, [], builtinsNs)
def GtD.good (K : PySem.W.Frag) (d : GtD) : Bool := PySem.W.keepIn K (.ref (getterAt K d.cls d.prop)) && match (K.lookup (getterAt K d.cls d.prop)).map Obj.data with
  | some (.func fd) => PySem.W.codeIn K fd.code d.qual && He.dflB K fd.defaults []
  | _ => false
def insB (K : PySem.W.Frag) (x : Str) : Bool :=
  decide (PySem.W.findIn K (.ref (He.ga K x)) "__class__" = some (some (.builtin "object.__class__"))) &&
  (decide (PySem.W.specialIn K (.builtin "object.__class__") "__get__" = some (some (.builtin "getset_descriptor.__get__"))) &&
  (decide (PySem.W.takesIn K (.builtin "object.__class__") = some true) &&
  (decide (PySem.W.mroIn K (He.ga K x) (.type "object") = some true) && decide (PySem.W.kitOne K (.ref (He.ga K x)) (.ref (He.ga K x)) = some true))))
def addB (K : PySem.W.Frag) (x y : Str) : Bool :=
  decide (He.ga K x ≠ He.ga K y) && (PySem.W.selfFirst K (He.ga K x) && (PySem.W.selfFirst K (He.ga K y) &&
  (decide (PySem.W.findIn K (.ref (He.ga K x)) (PySem.dunder "add") = some (some (.ref (holdAt K x "__add__")))) && (decide (PySem.W.findIn K (.ref (He.ga K y)) (PySem.dunder "add") = some (some (.ref (holdAt K y "__add__")))) &&
  (decide (PySem.W.findIn K (.ref (He.ga K x)) (dunderR "add") = some none) && (decide (PySem.W.findIn K (.ref (He.ga K y)) (dunderR "add") = some none) &&
  (PySem.W.isFn K (.ref (holdAt K x "__add__")) && decide (PySem.W.subIn K (.ref (He.ga K y)) (.ref (He.ga K x)) = some false))))))))
def callB (K : PySem.W.Frag) (x : Str) : Bool :=
  decide (PySem.W.findIn K (.ref (He.ga K x)) "__call__" = some (some (.ref (holdAt K x "__call__")))) && (PySem.W.isFn K (.ref (holdAt K x "__call__")) && PySem.W.fnIn K (holdAt K x "__call__"))
/-! ### the head of the claim: its data -/
def noB (K : PySem.W.Frag) (x : Str) (ns : List Str) : Bool := ns.all fun f => decide (PySem.W.findIn K (.ref (He.ga K x)) f = some none)
def d0 : He.DefD := ⟨("numbers_between", none), "numbers_between", "numbers_between", defArgs s_numbers_between, defBody s_numbers_between, defScope s_numbers_between, [], []⟩
def d1 : He.DefD := ⟨("is_integer", none), "is_integer", "is_integer", defArgs s_is_integer, defBody s_is_integer, defScope s_is_integer, [], []⟩
def d2 : He.DefD := ⟨("is_between", none), "is_between", "is_between", defArgs s_is_between, defBody s_is_between, defScope s_is_between, [], []⟩
def d3 : He.DefD := ⟨("need_post", none), "need_post", "need_post", defArgs s_need_post, defBody s_need_post, defScope s_need_post, [], []⟩
def d4 : He.DefD := ⟨("need_day", none), "need_day", "need_day", defArgs s_need_day, defBody s_need_day, defScope s_need_day, [], []⟩
def d5 : He.DefD := ⟨("need_day_or_none", none), "need_day_or_none", "need_day_or_none", defArgs s_need_day_or_none, defBody s_need_day_or_none, defScope s_need_day_or_none, [], []⟩
def d6 : He.DefD := ⟨("greatest_divisor", none), "greatest_divisor", "greatest_divisor", defArgs s_greatest_divisor, defBody s_greatest_divisor, defScope s_greatest_divisor, [], []⟩
def d7 : He.DefD := ⟨("inverse", none), "inverse", "inverse", defArgs s_inverse, defBody s_inverse, defScope s_inverse, [], []⟩
def d8 : He.DefD := ⟨("least_fit", none), "least_fit", "least_fit", defArgs s_least_fit, defBody s_least_fit, defScope s_least_fit, [], []⟩
def d9 : He.DefD := ⟨("Crossing", some "__init__"), "__init__", "Crossing.__init__", defArgs s_Crossing___init__, defBody s_Crossing___init__, defScope s_Crossing___init__, [], []⟩
def d10 : He.DefD := ⟨("Crossing", some "number"), "number", "Crossing.number", defArgs s_Crossing_number, defBody s_Crossing_number, defScope s_Crossing_number, [], []⟩
def d11 : He.DefD := ⟨("Crossing", some "bounds"), "bounds", "Crossing.bounds", defArgs s_Crossing_bounds, defBody s_Crossing_bounds, defScope s_Crossing_bounds, [.adr (He.dflAt ("Crossing", some "bounds") 0)], []⟩
def d12 : He.DefD := ⟨("Crossing", some "first_block"), "first_block", "Crossing.first_block", defArgs s_Crossing_first_block, defBody s_Crossing_first_block, defScope s_Crossing_first_block, [], []⟩
def d13 : He.DefD := ⟨("is_name_names", none), "is_name", "is_name", defArgs s_is_name, defBody s_is_name, defScope s_is_name, [], []⟩
def d14 : He.DefD := ⟨("Painter", some "__init__"), "__init__", "Painter.__init__", defArgs s_Painter___init__, defBody s_Painter___init__, defScope s_Painter___init__, [], []⟩
def d15 : He.DefD := ⟨("need_count", none), "need_count", "need_count", defArgs s_need_count, defBody s_need_count, defScope s_need_count, [.int (10 ^ 80)], []⟩
def d16 : He.DefD := ⟨("Painter", some "post_after"), "post_after", "Painter.post_after", defArgs s_Painter_post_after, defBody s_Painter_post_after, defScope s_Painter_post_after, [], []⟩
def d17 : He.DefD := ⟨("Painter", some "count_at"), "count_at", "Painter.count_at", defArgs s_Painter_count_at, defBody s_Painter_count_at, defScope s_Painter_count_at, [], []⟩
def d18 : He.DefD := ⟨("Fence", some "__init__"), "__init__", "Fence.__init__", defArgs s_Fence___init__, defBody s_Fence___init__, defScope s_Fence___init__, [], []⟩
def d19 : He.DefD := ⟨("Fence", some "__add__"), "__add__", "Fence.__add__", defArgs s_Fence___add__, defBody s_Fence___add__, defScope s_Fence___add__, [], []⟩
def d20 : He.DefD := ⟨("Blocks", some "crossing"), "crossing", "Blocks.crossing", defArgs s_Blocks_crossing, defBody s_Blocks_crossing, defScope s_Blocks_crossing, [], []⟩
def d21 : He.DefD := ⟨("Blocks", some "look"), "look", "Blocks.look", defArgs s_Blocks_look, defBody s_Blocks_look, defScope s_Blocks_look, [], []⟩
def d22 : He.DefD := ⟨("Blocks", some "first_of"), "first_of", "Blocks.first_of", defArgs s_Blocks_first_of, defBody s_Blocks_first_of, defScope s_Blocks_first_of, [], []⟩
def d23 : He.DefD := ⟨("Blocks", some "next_stop"), "next_stop", "Blocks.next_stop", defArgs s_Blocks_next_stop, defBody s_Blocks_next_stop, defScope s_Blocks_next_stop, [], []⟩
def d24 : He.DefD := ⟨("Blocks", some "settle"), "settle", "Blocks.settle", defArgs s_Blocks_settle, defBody s_Blocks_settle, defScope s_Blocks_settle, [], []⟩
def d25 : He.DefD := ⟨("Blocks", some "all_stops"), "all_stops", "Blocks.all_stops", defArgs s_Blocks_all_stops, defBody s_Blocks_all_stops, defScope s_Blocks_all_stops, [], []⟩
def d26 : He.DefD := ⟨("Blocks", some "__init__"), "__init__", "Blocks.__init__", defArgs s_Blocks___init__, defBody s_Blocks___init__, defScope s_Blocks___init__, [], []⟩
def d27 : He.DefD := ⟨("History", some "__init__"), "__init__", "History.__init__", defArgs s_History___init__, defBody s_History___init__, defScope s_History___init__, [], []⟩
def d28 : He.DefD := ⟨("painted_in", none), "painted_in", "painted_in", defArgs s_painted_in, defBody s_painted_in, defScope s_painted_in, [], []⟩
def d29 : He.DefD := ⟨("opposite", none), "opposite", "opposite", defArgs s_opposite, defBody s_opposite, defScope s_opposite, [], []⟩
def d30 : He.DefD := ⟨("end_of_piece", none), "end_of_piece", "end_of_piece", defArgs s_end_of_piece, defBody s_end_of_piece, defScope s_end_of_piece, [], []⟩
def d31 : He.DefD := ⟨("painted_post_from", none), "painted_post_from", "painted_post_from", defArgs s_painted_post_from, defBody s_painted_post_from, defScope s_painted_post_from, [], []⟩
def d32 : He.DefD := ⟨("least_true", none), "least_true", "least_true", defArgs s_least_true, defBody s_least_true, defScope s_least_true, [], []⟩
def d33 : He.DefD := ⟨("pieces", none), "pieces", "pieces", defArgs s_pieces, defBody s_pieces, defScope s_pieces, [.non], []⟩
def d34 : He.DefD := ⟨("History", some "painter_at"), "painter_at", "History.painter_at", defArgs s_History_painter_at, defBody s_History_painter_at, defScope s_History_painter_at, [], []⟩
def d35 : He.DefD := ⟨("History", some "__call__"), "__call__", "History.__call__", defArgs s_History___call__, defBody s_History___call__, defScope s_History___call__, [.non], []⟩
def d36 : He.DefD := ⟨("painter_of", none), "painter_of", "painter_of", defArgs s_painter_of, defBody s_painter_of, defScope s_painter_of, [], [("day", .non)]⟩
def d37 : He.DefD := ⟨("history", none), "history", "history", defArgs s_history, defBody s_history, defScope s_history, [], []⟩
def d38 : He.DefD := ⟨("found_from", none), "found_from", "found_from", defArgs s_found_from, defBody s_found_from, defScope s_found_from, [], []⟩
def d39 : He.DefD := ⟨("painted_from", none), "painted_from", "painted_from", defArgs s_painted_from, defBody s_painted_from, defScope s_painted_from, [], [("day", .non), ("left", .bl false)]⟩
def d40 : He.DefD := ⟨("_law_pen", none), "_law_pen", "_law_pen", defArgs s__law_pen, defBody s__law_pen, defScope s__law_pen, [], []⟩
def d41 : He.DefD := ⟨("_law_draw", none), "_law_draw", "_law_draw", defArgs s__law_draw, defBody s__law_draw, defScope s__law_draw, [], []⟩
def d42 : He.DefD := ⟨("_law_pick", none), "_law_pick", "_law_pick", defArgs s__law_pick, defBody s__law_pick, defScope s__law_pick, [], []⟩
def d43 : He.DefD := ⟨("_law_around", none), "_law_around", "_law_around", defArgs s__law_around, defBody s__law_around, defScope s__law_around, [], []⟩
def d44 : He.DefD := ⟨("_law_power", none), "_law_power", "_law_power", defArgs s__law_power, defBody s__law_power, defScope s__law_power, [], []⟩
def d45 : He.DefD := ⟨("_law_great", none), "_law_great", "_law_great", defArgs s__law_great, defBody s__law_great, defScope s__law_great, [], []⟩
def d46 : He.DefD := ⟨("_law_names", none), "_law_names", "_law_names", defArgs s__law_names, defBody s__law_names, defScope s__law_names, [], []⟩
def d47 : He.DefD := ⟨("_law_gcd", none), "_law_gcd", "_law_gcd", defArgs s__law_gcd, defBody s__law_gcd, defScope s__law_gcd, [], []⟩
def d48 : He.DefD := ⟨("_law_inverse", none), "_law_inverse", "_law_inverse", defArgs s__law_inverse, defBody s__law_inverse, defScope s__law_inverse, [], []⟩
def d49 : He.DefD := ⟨("_law_common", none), "_law_common", "_law_common", defArgs s__law_common, defBody s__law_common, defScope s__law_common, [], []⟩
def d50 : He.DefD := ⟨("_law_first", none), "_law_first", "_law_first", defArgs s__law_first, defBody s__law_first, defScope s__law_first, [], []⟩
def d51 : He.DefD := ⟨("_law_pairs", none), "_law_pairs", "_law_pairs", defArgs s__law_pairs, defBody s__law_pairs, defScope s__law_pairs, [], []⟩
def d52 : He.DefD := ⟨("_law_next", none), "_law_next", "_law_next", defArgs s__law_next, defBody s__law_next, defScope s__law_next, [], []⟩
def d53 : He.DefD := ⟨("_law_history", none), "_law_history", "_law_history", defArgs s__law_history, defBody s__law_history, defScope s__law_history, [], []⟩
def d54 : He.DefD := ⟨("_law_fence", none), "_law_fence", "_law_fence", defArgs s__law_fence, defBody s__law_fence, defScope s__law_fence, [], []⟩
def d55 : He.DefD := ⟨("_law_opposite", none), "_law_opposite", "_law_opposite", defArgs s__law_opposite, defBody s__law_opposite, defScope s__law_opposite, [], []⟩
def d56 : He.DefD := ⟨("_law_is_whole", none), "_law_is_whole", "_law_is_whole", defArgs s__law_is_whole, defBody s__law_is_whole, defScope s__law_is_whole, [], []⟩
def d57 : He.DefD := ⟨("_law_back", none), "_law_back", "_law_back", defArgs s__law_back, defBody s__law_back, defScope s__law_back, [], []⟩
def d58 : He.DefD := ⟨("_law_far_date", none), "_law_far_date", "_law_far_date", defArgs s__law_far_date, defBody s__law_far_date, defScope s__law_far_date, [], []⟩
def d59 : He.DefD := ⟨("_law_is_painted", none), "_law_is_painted", "_law_is_painted", defArgs s__law_is_painted, defBody s__law_is_painted, defScope s__law_is_painted, [], []⟩
def d60 : He.DefD := ⟨("_law_number", none), "_law_number", "_law_number", defArgs s__law_number, defBody s__law_number, defScope s__law_number, [], []⟩
def d61 : He.DefD := ⟨("_law_bound", none), "_law_bound", "_law_bound", defArgs s__law_bound, defBody s__law_bound, defScope s__law_bound, [], []⟩
def d62 : He.DefD := ⟨("_law_is_right", none), "_law_is_right", "_law_is_right", defArgs s__law_is_right, defBody s__law_is_right, defScope s__law_is_right, [], []⟩
def d63 : He.DefD := ⟨("_law_walked", none), "_law_walked", "_law_walked", defArgs s__law_walked, defBody s__law_walked, defScope s__law_walked, [], []⟩
def d64 : He.DefD := ⟨("_law_small", none), "_law_small", "_law_small", defArgs s__law_small, defBody s__law_small, defScope s__law_small, [], []⟩
def d65 : He.DefD := ⟨("_law_aimed", none), "_law_aimed", "_law_aimed", defArgs s__law_aimed, defBody s__law_aimed, defScope s__law_aimed, [], []⟩
def d66 : He.DefD := ⟨("_law_lined", none), "_law_lined", "_law_lined", defArgs s__law_lined, defBody s__law_lined, defScope s__law_lined, [], []⟩
def d67 : He.DefD := ⟨("_law_crowd", none), "_law_crowd", "_law_crowd", defArgs s__law_crowd, defBody s__law_crowd, defScope s__law_crowd, [], []⟩
def d68 : He.DefD := ⟨("_law_mark", none), "_law_mark", "_law_mark", defArgs s__law_mark, defBody s__law_mark, defScope s__law_mark, [], []⟩
def d69 : He.DefD := ⟨("_law_moment", none), "_law_moment", "_law_moment", defArgs s__law_moment, defBody s__law_moment, defScope s__law_moment, [], []⟩
def d70 : He.DefD := ⟨("_law_small_right", none), "_law_small_right", "_law_small_right", defArgs s__law_small_right, defBody s__law_small_right, defScope s__law_small_right, [], []⟩
def d71 : He.DefD := ⟨("law", none), "law", "law", defArgs s_law, defBody s_law, defScope s_law, [], []⟩
def g0 : GtD := ⟨"Painter", "name", "name", "Painter.name", defArgs s_Painter_name, defBody s_Painter_name, defScope s_Painter_name⟩
def g1 : GtD := ⟨"Painter", "day", "day", "Painter.day", defArgs s_Painter_day, defBody s_Painter_day, defScope s_Painter_day⟩
def g2 : GtD := ⟨"Painter", "post", "post", "Painter.post", defArgs s_Painter_post, defBody s_Painter_post, defScope s_Painter_post⟩
def g3 : GtD := ⟨"Painter", "stride", "stride", "Painter.stride", defArgs s_Painter_stride, defBody s_Painter_stride, defScope s_Painter_stride⟩
def g4 : GtD := ⟨"Painter", "way", "way", "Painter.way", defArgs s_Painter_way, defBody s_Painter_way, defScope s_Painter_way⟩
def g5 : GtD := ⟨"Fence", "painters", "painters", "Fence.painters", defArgs s_Fence_painters, defBody s_Fence_painters, defScope s_Fence_painters⟩
def g6 : GtD := ⟨"Fence", "names", "names", "Fence.names", defArgs s_Fence_names, defBody s_Fence_names, defScope s_Fence_names⟩
def g7 : GtD := ⟨"History", "fence", "fence", "History.fence", defArgs s_History_fence, defBody s_History_fence, defScope s_History_fence⟩
def fa0 : List He.Fa := [.glo "numbers_between", .free "max", .free "min", .glo "is_integer", .free "isinstance", .free "int", .free "bool", .glo "is_between", .glo "need_post", .int "MAX_ARGUMENT" (10 ^ 80), .glo "need_day", .glo "need_day_or_none", .glo "greatest_divisor", .free "abs", .glo "inverse", .glo "least_fit", .mkr "Crossing", .glo "Crossing", .free "divmod", .meth "Crossing" "number", .meth "Crossing" "bounds", .meth "Crossing" "first_block", .glo "is_name_names", .free "str", .free "len", .free "all", .int "MAX_NAME" 8, .str "LETTERS" "abcdefghijklmnopqrstuvwxyz", .mkr "Painter", .glo "Painter"]
def fa1 : List He.Fa := [.glo "need_count", .meth "Painter" "post_after", .meth "Painter" "count_at", .mkr "Fence", .glo "Fence", .int "MAX_PAINTERS" 40, .free "enumerate", .free "tuple", .meth "Blocks" "crossing", .meth "Blocks" "look", .meth "Blocks" "first_of", .meth "Blocks" "next_stop", .meth "Blocks" "settle", .meth "Blocks" "all_stops", .mkr "Blocks", .glo "Blocks", .mkr "History", .glo "History", .glo "painted_in", .glo "opposite", .glo "end_of_piece", .glo "painted_post_from", .glo "least_true", .glo "pieces", .meth "History" "painter_at", .glo "painter_of", .glo "history", .glo "found_from", .glo "painted_from", .glo "_law_pen"]
def fa2 : List He.Fa := [.free "list", .glo "_law_draw", .glo "_law_pick", .glo "_law_around", .glo "_law_power", .free "range", .glo "_law_great", .glo "_law_names", .glo "_law_gcd", .glo "_law_inverse", .glo "_law_common", .glo "_law_first", .glo "_law_pairs", .glo "_law_next", .glo "_law_history", .glo "_law_fence", .glo "_law_opposite", .glo "_law_is_whole", .glo "_law_back", .glo "_law_far_date", .glo "_law_is_painted", .glo "_law_number", .glo "_law_bound", .glo "_law_is_right", .glo "_law_walked", .free "dict", .glo "_law_small", .glo "_law_aimed", .glo "_law_lined", .glo "_law_crowd"]
def fa3 : List He.Fa := [.glo "_law_mark", .glo "_law_moment", .glo "_law_small_right", .free "repr", .cls "Crossing", .cls "Painter", .cls "Fence", .cls "Blocks", .cls "History", .glo "law"]
def fa : List He.Fa := fa0 ++ fa1 ++ fa2 ++ fa3
def fn0 : List He.DefD := [d0, d1, d2, d3, d4, d5, d6, d7, d8, d9, d10, d11, d12, d13, d14, d15, d16, d17, d18, d19, d20, d21, d22, d23, d24, d25, d26, d27, d28, d29]
def fn1 : List He.DefD := [d30, d31, d32, d33, d34, d35, d36, d37, d38, d39, d40, d41, d42, d43, d44, d45, d46, d47, d48, d49, d50, d51, d52, d53, d54, d55, d56, d57, d58, d59]
def fn2 : List He.DefD := [d60, d61, d62, d63, d64, d65, d66, d67, d68, d69, d70, d71]
def fn : List He.DefD := fn0 ++ fn1 ++ fn2
def gs : List GtD := [g0, g1, g2, g3, g4, g5, g6, g7]
def exL (K : PySem.W.Frag) : List Bool := [propOk K "Painter" "name", propOk K "Painter" "day", propOk K "Painter" "post", propOk K "Painter" "stride", propOk K "Painter" "way", propOk K "Fence" "painters", propOk K "Fence" "names", propOk K "History" "fence", noB K "Crossing" ["one", "other", "is_empty", "step", "other_step", "start", "other_start"], noB K "Painter" ["parts"], noB K "Fence" ["listed", "places"], noB K "Blocks" ["walkers", "limits", "firsts", "crossings"], noB K "History" ["painted", "limits", "halts"], insB K "Painter", addB K "Fence" "Painter", callB K "History", He.conB K "Painter" "MAX_DAY" (.int (10 ^ 30)), He.conB K "Painter" "MAX_POST" (.int (10 ^ 30)), He.conB K "Painter" "MAX_STRIDE" (.int (10 ^ 18)), gs.all (fun d => d.good K)]
def exB (K : PySem.W.Frag) : Bool := (exL K).all id
def tf : List He.Defn := [("painted_post_from", none)]
end PK
/-! ### the hook by written addresses -/
namespace PK
open PySem PySem.Spec PyProof.Rows L2
/-- where the looks go -/
def spots : List Addr := [3, 28, 233, 240, 247, 254, 261, 269, 276, 283, 290, 344, 403, 516, 527, 535, 542, 549, 554, 561, 566, 573, 581, 586, 731, 883, 895, 902, 909, 916, 923, 930, 937, 942, 949, 956, 963, 970, 977, 984, 991, 998, 1005, 1010, 1015, 1020, 1027, 1034, 1039, 1046, 1053, 1060, 1067, 1074, 1081, 1088, 1093, 1100, 1107, 27, 232, 239, 246, 253, 260, 268, 262, 275, 282, 289, 343, 402, 515, 526, 534, 528, 541, 548, 553, 560, 565, 572, 580, 574, 585, 730, 882, 894, 888, 901, 908, 915, 922, 929, 936, 941, 948, 955, 962, 969, 976, 983, 990, 997, 1004, 1009, 1014, 1019, 1026, 1033, 1038, 1045, 1052, 1059, 1066, 1073, 1080, 1087, 1092, 1099, 1106, 304, 311, 334, 341, 360, 367, 374, 379, 386, 393, 400, 419, 427, 477, 485, 618, 646, 654, 662, 670, 678, 693, 700, 747, 765, 773, 835, 303, 310, 333, 327, 340, 359, 366, 373, 378, 385, 392, 399, 418, 426, 476, 484, 478, 617, 645, 653, 661, 669, 677, 692, 699, 746, 764, 772, 834, 425, 644, 652, 660, 668, 676, 763, 771]
/-- the looks: facts, defs, the own Bools, a table left empty, the getters -/
def lookZ (g : Addr → Option Obj) : (He.AlT × Bool) × List He.FnW := ((He.obsT fa fn [] (He.frT g spots), exB (He.frT g spots) && He.tabsB g tf (He.frT g spots)), gs.map (gtTell (He.frT g spots)))
/-- what a state says that was so looked at -/
def SaysZ (w : World) (h : Heap) (K : PySem.W.Frag) : Prop := He.SaysX fa fn [] tf exB w h K ∧ gs.map (gtTell K) = gs.map GtD.told
theorem saysZ_of {w : World} {h : Heap} (e : lookZ h.get? = ((He.valT fn [] w, true), gs.map GtD.told)) : SaysZ w h (He.frT h.get? spots) := by
  unfold lookZ at e
  generalize hK : He.frT h.get? spots = K at e ⊢
  obtain ⟨e1, e2⟩ := Prod.mk.inj e
  obtain ⟨e3, e4⟩ := Prod.mk.inj e1
  obtain ⟨e5, e6⟩ := Bool.and_eq_true_iff.mp e4
  have tab : ∀ p ∈ tf, PySem.W.codeHdIn K (He.cT K p).1 (He.cT K p).2 = true ∧ ∃ u, h.get? (He.cT K p).2 = some u ∧ He.emptyTab u = true := by
    intro p hp
    obtain ⟨e7, e8⟩ := Bool.and_eq_true_iff.mp (List.all_eq_true.mp e6 p hp)
    refine ⟨e7, ?_⟩
    split at e8
    · rename_i u hu
      exact ⟨u, hu, e8⟩
    · cases e8
  refine ⟨⟨e3, e5, fun p hp => (tab p hp).1, ?_, ?_⟩, e2⟩
  · intro p hp
    obtain ⟨_, u, hu, hz⟩ := tab p hp
    have z := He.frT_none (as := spots) hu hz
    rw [hK] at z
    exact z
  · intro p hp
    obtain ⟨_, u, hu, hz⟩ := tab p hp
    rw [hu, He.emptyTab_eq hz]
def hookZ : PySem.W.Hook where
  α := (He.AlT × Bool) × List He.FnW
  obs := fun s => lookZ s.heap.get?
  val := fun w => ((He.valT fn [] w, true), gs.map GtD.told)
  says := fun w h => ∃ K : PySem.W.Frag, K.In h ∧ SaysZ w h K
  of := fun w s q => ⟨He.frT s.heap.get? spots, He.frT_in, saysZ_of q⟩
  keeps := fun w h h' z k => by
    obtain ⟨K, i, z1, z2⟩ := z
    exact ⟨K, PySem.W.Frag.In.keeps i k, ⟨z1.t, z1.more, z1.hd, z1.out, fun p hp => k _ _ (z1.empty p hp)⟩, z2⟩
theorem lookZ_eq {g : Addr → Option Obj} {s : Shared} (q : ∀ a, g a = s.heap.get? a) : lookZ g = hookZ.obs s := by
  have q2 : g = s.heap.get? := funext q
  subst q2
  rfl
end PK
namespace PH
open PySem PySem.W PySem.Calls PyProof.Rows
/-! ### the head -/
abbrev R : OpenRow := OpenLaw.row PySem.Challenge.rw_paintposts_k40_whole_painted_from_both_w
abbrev qv : Program := view R.prog [92]
def names : List PySem.Str := (["_wall", "__name__", "least_true", "InvalidPainter", "InvalidFence", "DuplicateName", "InvalidPost", "InvalidDay", "InvalidCount", "ParseError", "UnknownName", "TooMany", "MAX_PAINTERS", "MAX_ARGUMENT", "MAX_NAME", "MAX_DIGITS", "is_integer", "is_between", "need_post", "need_day", "need_day_or_none", "need_count", "inverse", "greatest_divisor", "least_fit", "Crossing", "Blocks", "History", "history", "pieces"] : List PySem.Str) ++ (["numbers_between", "painted_in", "opposite", "end_of_piece", "painted_post_from", "found_from", "painted_from", "LETTERS", "is_name", "is_name_names", "DIGITS", "integer_in", "painter_line", "painter_parts", "Painter", "Fence", "painter_of", "_law_pen", "_law_draw", "_law_pick", "_law_around", "_law_power", "_law_great", "_law_names", "_law_inverse", "_law_gcd", "_law_common", "_law_first", "_law_pairs", "_law_next"] : List PySem.Str) ++ (["_law_fence", "_law_aimed", "_law_crowd", "_law_far_date", "_law_walked", "_law_history", "_law_is_painted", "_law_number", "_law_opposite", "_law_is_whole", "_law_bound", "_law_mark", "_law_moment", "_law_back", "_law_small", "_law_lined", "_law_small_right", "_law_is_right"] : List PySem.Str)
def ob (s : PySem.W.SharedT) : PK.hookZ.α := PK.lookZ (HandSHeadRun.getT s)
theorem ob_eq (s : PySem.W.SharedT) : ob s = PK.hookZ.obs s.abs := PK.lookZ_eq (HandSHeadRun.getT_eq s)
theorem run (w : World) : HandSHeadRun.RunEq R qv PK.hookZ ob 8400 names w := by
  intro os
  kernel_rfl
end PH
end
section
set_option Elab.async false
set_option linter.all false
set_option maxRecDepth 100000
set_option maxHeartbeats 4000000
namespace PK
open PySem PySem.Spec PyProof.Rows L2
/-! ### numbers of a bounded size -/
def Bd (i : Int) : Prop := -(10 ^ 250) ≤ i ∧ i ≤ 10 ^ 250
theorem Bd.log {i : Int} (h : Bd i) : i.natAbs.log2 < 1400 := by
  have h1 : i.natAbs < 2 ^ 1400 := by
    have h2 : i.natAbs ≤ 10 ^ 250 := by have := h.1; have := h.2; omega
    exact Nat.lt_of_le_of_lt h2 (by decide)
  exact PySem.Flt.log2_lt_of (by decide) h1
def CMulB (i j : Int) : Prop := Bd i ∧ Bd j
def CDivB (i j : Int) : Prop := j ≠ 0 ∧ Bd j
def CDivP (i j : Int) : Prop := 0 < j ∧ Bd j
section
variable {X : Cx}
theorem op_mulB : OpR X (binaryOp .Mult) (rI CMulB fun i j => .int (i * j)) := opI fun _ _ _ _ _ _ _ hc q => mul_int q (CMulW.ok (by
  have h1 := hc.1.log
  have h2 := hc.2.log
  unfold CMulW
  omega))
theorem op_fdivG : OpR X (binaryOp .FloorDiv) (rI CDivB fun i j => .int (i.fdiv j)) := opI fun i j _ _ _ _ _ hc q => by
  have h2 := hc.2.log
  exact floordiv_int hc.1 q (.inl (PyProof.noPylong_of_log2 (by omega)))
theorem op_fdivP : OpR X (binaryOp .FloorDiv) (rI CDivP fun i j => .int (i / j)) := opI fun i j _ _ _ _ _ hc q => by
  have h2 := hc.2.log
  have h1 : (0 : Int) < j := hc.1
  exact floordiv_int (by omega) (by rw [Int.fdiv_eq_ediv_of_nonneg i (by omega)]; exact q) (.inl (PyProof.noPylong_of_log2 (by omega)))
/-- divmod of any divisor but 0: a new tuple -/
theorem call_divmodG : CallR X (.builtin "divmod") (fun xs H Q => ∃ i j, xs = [.int i, .int j] ∧ CDivB i j ∧ ∀ p, H p = none → Q (.ref p) (upd H p (.tup [.int (i.fdiv j), .int (i.fmod j)]))) := by
  intro pins s σ H xs us Q I r h
  obtain ⟨i, j, rfl, ⟨h1, h2⟩, q⟩ := h
  obtain ⟨u, w', rfl, ⟨t, rfl⟩, ⟨t', rfl⟩⟩ := vals2 r
  have h3 := h2.log
  refine divmod_int h1 ?_ (.inl (PyProof.noPylong_of_log2 (by omega)))
  have hn : H s.heap.objs.size = none := I.hok.fresh (Nat.le_refl _)
  refine ⟨.ref s.heap.objs.size, _, ?_, rfl, q _ hn⟩
  refine I.laid (fun b o e => Heap.get?_push_of_some _ e) (Nat.le_refl _) ⟨by simp only [List.length_cons, List.length_nil]; rw [sizeLine_eq]; decide, [.int (i.fdiv j) s.toks, .int (i.fmod j) (s.toks + 1)], .cons ⟨_, rfl⟩ (.cons ⟨_, rfl⟩ .nil), ?_⟩
  exact ⟨_, Heap.get?_push_size s.heap rfl, rfl, 0, rfl⟩
end
/-! ### defs of the text -/
/-- a def as it stands behind the top -/
abbrev DF (K : PySem.W.Frag) (x qual : Str) (st : Stmt) (f : Addr) : Prop := ∃ fd, FunD K x qual (defArgs st) (defBody st) (defScope st) [] [] f fd
section
variable {P : Program} {w : World} {K : PySem.W.Frag} {mg : Str → Option Value} {base : Heap}
theorem funD_ok {x qual : Str} {st : Stmt} {f : Addr} {fd : FuncData} {dvs : List V} {kws : List (Str × V)} {N ps : List Str} {k : Nat} {sp : Sp} (F : FunD K x qual (defArgs st) (defBody st) (defScope st) dvs kws f fd) (S : FnScope N ps (defScope st)) (len : ∀ vs H Q E, sp vs H Q E → vs.length = ps.length)
    (hbody : ∀ (cdv : Value) (A : Around) (outer : List Env) (s : Shared) (H : Hp) (vs : List V) (Q : VK) (E : XK), Room k (A.deeper (envOfC qual (defScope st) s.heap.objs.size f cdv)) → sp vs H Q E →
      ∃ t, PSs (cxOf CX0 P w K mg base N qual (defScope st) f cdv A outer s H E).nox (defBody st) t ∧ t { nx := fun _ H' => Q .non H', rt := Q } (start N vs) H) : FnOk P w K mg base CX0 (k + 1) f fd ps sp := by
  refine F.ok S len fun cdv A outer s H vs Q E hr hsp => ?_
  obtain ⟨t, h, q⟩ := hbody cdv A outer s H vs Q E hr hsp
  exact ⟨t, h.nox, q⟩
/-- a def under its name, no defaults -/
theorem cal_of {x : Str} {st : Stmt} {f : Addr} {N ps : List Str} {k : Nat} {sp : Sp} (F : DF K x x st f) (hm : mg x = some (.ref f)) (S : FnScope N ps (defScope st))
    (hb : ∀ (kV doc pm : Value) (an : Option Addr) (cdv ct : Value) (us : List Value), us.length = ps.length → bindArgs (PySem.W.fnOf x x (defArgs st) (defBody st) (defScope st) .none kV doc pm an cdv ct) ⟨us, []⟩ = pure (ps.zip us))
    (len : ∀ vs H Q E, sp vs H Q E → vs.length = ps.length)
    (hbody : ∀ (cdv : Value) (A : Around) (outer : List Env) (s : Shared) (H : Hp) (vs : List V) (Q : VK) (E : XK), Room k (A.deeper (envOfC x (defScope st) s.heap.objs.size f cdv)) → sp vs H Q E →
      ∃ t, PSs (cxOf CX0 P w K mg base N x (defScope st) f cdv A outer s H E).nox (defBody st) t ∧ t { nx := fun _ H' => Q .non H', rt := Q } (start N vs) H) : C8.Cal P w K mg base (k + 1) x sp [] := by
  obtain ⟨fd, F⟩ := F
  exact ⟨f, fd, ps, [], funD_ok F S len hbody, hm, F.kp, F.bindsN hb, .nil⟩
/-- a method, no defaults -/
theorem met_of {m qual : Str} {C : Addr} {st : Stmt} {f : Addr} {N ps : List Str} {k : Nat} {sp : Sp} (c : Cls K C) (me : Meth K C m f) (F : DF K m qual st f) (S : FnScope N ps (defScope st))
    (hb : ∀ (kV doc pm : Value) (an : Option Addr) (cdv ct : Value) (us : List Value), us.length = ps.length → bindArgs (PySem.W.fnOf m qual (defArgs st) (defBody st) (defScope st) .none kV doc pm an cdv ct) ⟨us, []⟩ = pure (ps.zip us))
    (len : ∀ vs H Q E, sp vs H Q E → vs.length = ps.length)
    (hbody : ∀ (cdv : Value) (A : Around) (outer : List Env) (s : Shared) (H : Hp) (vs : List V) (Q : VK) (E : XK), Room k (A.deeper (envOfC qual (defScope st) s.heap.objs.size f cdv)) → sp vs H Q E →
      ∃ t, PSs (cxOf CX0 P w K mg base N qual (defScope st) f cdv A outer s H E).nox (defBody st) t ∧ t { nx := fun _ H' => Q .non H', rt := Q } (start N vs) H) : C8.Met P w K mg base (k + 1) C m sp [] := by
  obtain ⟨fd, F⟩ := F
  exact ⟨f, fd, ps, [], c, me, funD_ok F S len hbody, F.bindsN hb, .nil⟩
/-- the same with defaults and keyword-only parameters, by a binding -/
theorem cal_ofB {x y : Str} {st : Stmt} {f : Addr} {fd : FuncData} {dvs dvs' : List V} {kws : List (Str × V)} {N ps : List Str} {k : Nat} {sp : Sp} (F : FunD K y y (defArgs st) (defBody st) (defScope st) dvs kws f fd) (b : ∃ ds, Vals dvs' ds ∧ Binds K fd ps ds) (hm : mg x = some (.ref f)) (S : FnScope N ps (defScope st))
    (len : ∀ vs H Q E, sp vs H Q E → vs.length = ps.length)
    (hbody : ∀ (cdv : Value) (A : Around) (outer : List Env) (s : Shared) (H : Hp) (vs : List V) (Q : VK) (E : XK), Room k (A.deeper (envOfC y (defScope st) s.heap.objs.size f cdv)) → sp vs H Q E →
      ∃ t, PSs (cxOf CX0 P w K mg base N y (defScope st) f cdv A outer s H E).nox (defBody st) t ∧ t { nx := fun _ H' => Q .non H', rt := Q } (start N vs) H) : C8.Cal P w K mg base (k + 1) x sp dvs' := by
  obtain ⟨ds, d, b⟩ := b
  exact ⟨f, fd, ps, ds, funD_ok F S len hbody, hm, F.kp, b, d⟩
theorem met_ofB {m qual : Str} {C : Addr} {st : Stmt} {f : Addr} {fd : FuncData} {dvs dvs' : List V} {kws : List (Str × V)} {N ps : List Str} {k : Nat} {sp : Sp} (c : Cls K C) (me : Meth K C m f) (F : FunD K m qual (defArgs st) (defBody st) (defScope st) dvs kws f fd) (b : ∃ ds, Vals dvs' ds ∧ Binds K fd ps ds) (S : FnScope N ps (defScope st))
    (len : ∀ vs H Q E, sp vs H Q E → vs.length = ps.length)
    (hbody : ∀ (cdv : Value) (A : Around) (outer : List Env) (s : Shared) (H : Hp) (vs : List V) (Q : VK) (E : XK), Room k (A.deeper (envOfC qual (defScope st) s.heap.objs.size f cdv)) → sp vs H Q E →
      ∃ t, PSs (cxOf CX0 P w K mg base N qual (defScope st) f cdv A outer s H E).nox (defBody st) t ∧ t { nx := fun _ H' => Q .non H', rt := Q } (start N vs) H) : C8.Met P w K mg base (k + 1) C m sp dvs' := by
  obtain ⟨ds, d, b⟩ := b
  exact ⟨f, fd, ps, ds, c, me, funD_ok F S len hbody, b, d⟩
/-- a def with defaults, each given -/
abbrev DFd (K : PySem.W.Frag) (x qual : Str) (st : Stmt) (dvs : List V) (kws : List (Str × V)) (f : Addr) : Prop := ∃ fd, FunD K x qual (defArgs st) (defBody st) (defScope st) dvs kws f fd
/-- a class's making -/
theorem mak_of {x qual : Str} {C : Addr} {st : Stmt} {f : Addr} {N ps : List Str} {k : Nat} {sp : Sp} (M : Mk K C f) (hm : mg x = some (.ref C)) (F : DF K "__init__" qual st f) (S : FnScope N ps (defScope st))
    (hb : ∀ (kV doc pm : Value) (an : Option Addr) (cdv ct : Value) (us : List Value), us.length = ps.length → bindArgs (PySem.W.fnOf "__init__" qual (defArgs st) (defBody st) (defScope st) .none kV doc pm an cdv ct) ⟨us, []⟩ = pure (ps.zip us))
    (len : ∀ vs H Q E, sp vs H Q E → vs.length = ps.length)
    (hbody : ∀ (cdv : Value) (A : Around) (outer : List Env) (s : Shared) (H : Hp) (vs : List V) (Q : VK) (E : XK), Room k (A.deeper (envOfC qual (defScope st) s.heap.objs.size f cdv)) → sp vs H Q E →
      ∃ t, PSs (cxOf CX0 P w K mg base N qual (defScope st) f cdv A outer s H E).nox (defBody st) t ∧ t { nx := fun _ H' => Q .non H', rt := Q } (start N vs) H) : C8.Mak P w K mg base (k + 1) x C sp [] := by
  obtain ⟨fd, F⟩ := F
  exact ⟨f, fd, ps, [], M, funD_ok F S len hbody, hm, F.bindsN hb, .nil⟩
end
/-! ### properties -/
structure Prp (P : Program) (w : World) (K : PySem.W.Frag) (mg : Str → Option Value) (base : Heap) (k : Nat) (C : Addr) (m : Str) (sp : Sp) : Prop where
  ex : ∃ (p f : Addr) (fd : FuncData) (ps : List Str), Cls K C ∧ PropOf K C m p f ∧ FnOk P w K mg base CX0 k f fd ps sp ∧ Binds K fd ps []
section
variable {X : Cx} {k j : Nat} {C : Addr} {m : Str} {sp : Sp} {pos : Pos} {e : Expr} {ta : TE}
theorem pe_pr (c : Prp X.prog X.w X.K X.mg X.base k C m sp) (hr : Room j X.A) (hk : k + 1 ≤ j) (he : PE X e ta) (hab : attributeBase e m X.env (eval e X.env) = eval e X.env) : PE X (.Attribute e m pos) (tProp C sp [] E0 ta) := by
  obtain ⟨p, f, fd, ps, hc, hp, F, b⟩ := c.ex
  exact pe_prop he hc hp F (hr.mono hk) b .nil (fun _ _ _ _ _ _ _ h => h.elim) hab
end
/-! ### data -/
@[reducible] def optV : Option Int → V
  | none => .non
  | some i => .int i
theorem _root_.L2.Same.sqt {K : PySem.W.Frag} {H H' : Hp} {a : Addr} {xs : List V} (e : Same H H') (h : SqT K H a xs) : SqT K H' a xs := by
  rcases h with (h | ⟨o, h⟩) | h
  · exact .inl (.inl (e _ _ h))
  · exact .inl (.inr ⟨o, e _ _ h⟩)
  · exact .inr h
theorem _root_.L2.Same.new {H : Hp} {p : Addr} {o : HO} (h : H p = none) : Same H (upd H p o) := fun b u q => by
  rw [upd_ne (ne_of_none q h)]; exact q
/-- a list of tuples -/
def LT (K : PySem.W.Frag) (H : Hp) (a : Addr) (xss : List (List V)) : Prop := ∃ rs : List Addr, SqL K H a (rs.map V.ref) ∧ Paired (fun r xs => SqT K H r xs) rs xss
theorem _root_.L2.Same.paired {K : PySem.W.Frag} {H H' : Hp} (e : Same H H') : ∀ {rs : List Addr} {xss : List (List V)}, Paired (fun r xs => SqT K H r xs) rs xss → Paired (fun r xs => SqT K H' r xs) rs xss
  | _, _, .nil => .nil
  | _, _, .cons a b => .cons (e.sqt a) (L2.Same.paired e b)
theorem _root_.L2.Same.lt {K : PySem.W.Frag} {H H' : Hp} {a : Addr} {xss : List (List V)} (e : Same H H') (h : LT K H a xss) : LT K H' a xss := by
  obtain ⟨rs, h1, h2⟩ := h
  exact ⟨rs, e.seq h1, e.paired h2⟩
theorem pair_at {K : PySem.W.Frag} {H : Hp} : ∀ {rs : List Addr} {xss : List (List V)} {i : Nat} {x : V}, Paired (fun r xs => SqT K H r xs) rs xss → (rs.map V.ref)[i]? = some x → ∃ r xs, x = .ref r ∧ rs[i]? = some r ∧ xss[i]? = some xs ∧ SqT K H r xs
  | _, _, i, x, .nil, e => by simp at e
  | r :: rs, xs :: xss, 0, x, .cons a b, e => by
    simp only [List.map_cons, List.getElem?_cons_zero, Option.some.injEq] at e
    exact ⟨r, xs, e.symm, rfl, rfl, a⟩
  | r :: rs, xs :: xss, i + 1, x, .cons a b, e => by
    simp only [List.map_cons, List.getElem?_cons_succ] at e
    obtain ⟨r', xs', h1, h2, h3, h4⟩ := pair_at b e
    exact ⟨r', xs', h1, by simpa using h2, by simpa using h3, h4⟩
theorem paired_len {α β : Type} {F : α → β → Prop} : ∀ {l : List α} {m : List β}, Paired F l m → l.length = m.length
  | _, _, .nil => rfl
  | _, _, .cons _ t => by rw [List.length_cons, List.length_cons, paired_len t]
theorem iteD {c A B : Prop} [Decidable c] (h1 : c → A) (h2 : ¬ c → B) : if decide c = true then A else B := by
  by_cases h : c
  · rw [decide_eq_true h, if_pos rfl]
    exact h1 h
  · rw [decide_eq_false h, if_neg Bool.false_ne_true]
    exact h2 h
theorem iteND {c A B : Prop} [Decidable c] (h1 : ¬ c → A) (h2 : c → B) : if (!decide c) = true then A else B := by
  by_cases h : c
  · rw [decide_eq_true h]
    exact iteF (h2 h)
  · rw [decide_eq_false h]
    exact iteT (h1 h)
theorem iteB {c : Bool} {A B : Prop} (h1 : c = true → A) (h2 : c = false → B) : if c = true then A else B := by
  cases c with
  | true => exact iteT (h1 rfl)
  | false => exact iteF (h2 rfl)
theorem ifTT {A B : Prop} (h : A) : if true = true then A else B := iteT h
theorem ifFT {A B : Prop} (h : B) : if false = true then A else B := iteF h
theorem ifnT {A B : Prop} (h : B) : if (!true) = true then A else B := iteF h
theorem ifnF {A B : Prop} (h : A) : if (!false) = true then A else B := iteT h
theorem ifNN {A B : Prop} (h : A) : if decide (V.non = V.non) = true then A else B := by
  rw [decide_eq_true rfl, if_pos rfl]
  exact h
theorem ifIN {i : Int} {A B : Prop} (h : B) : if decide (V.int i = V.non) = true then A else B := by
  rw [decide_eq_false (fun z => nomatch z), if_neg Bool.false_ne_true]
  exact h
theorem ifRN {i : Addr} {A B : Prop} (h : B) : if decide (V.ref i = V.non) = true then A else B := by
  rw [decide_eq_false (fun z => nomatch z), if_neg Bool.false_ne_true]
  exact h
theorem ifnNN {A B : Prop} (h : B) : if (!decide (V.non = V.non)) = true then A else B := by
  rw [decide_eq_true rfl]
  exact iteF h
theorem ifnIN {i : Int} {A B : Prop} (h : A) : if (!decide (V.int i = V.non)) = true then A else B := by
  rw [decide_eq_false (fun z => nomatch z)]
  exact iteT h
theorem ifnRN {i : Addr} {A B : Prop} (h : A) : if (!decide (V.ref i = V.non)) = true then A else B := by
  rw [decide_eq_false (fun z => nomatch z)]
  exact iteT h
theorem drop_at {α : Type} {l : List α} {i : Nat} {x : α} (h : l[i]? = some x) : l.drop i = x :: l.drop (i + 1) := by
  obtain ⟨h1, h2⟩ := List.getElem?_eq_some_iff.mp h
  rw [List.drop_eq_getElem_cons h1, h2]
theorem map_at {α β : Type} {f : α → β} {l : List α} {i : Nat} {y : β} (h : (l.map f)[i]? = some y) : ∃ x, l[i]? = some x ∧ y = f x := by
  rw [List.getElem?_map] at h
  cases e : l[i]? with
  | none => rw [e] at h; cases h
  | some x => rw [e] at h; injection h with h; exact ⟨x, rfl, h.symm⟩
theorem len_small {n m : Nat} (e : n = m) (h : m ≤ 100 := by decide) : n ≤ sizeLine := by
  rw [e]
  exact Nat.le_trans h (by decide)
theorem len_le2 : (2 : Nat) ≤ sizeLine := by decide
end PK
end
section
set_option linter.all false
/-! posts of a piece within an interval -/
namespace PM
def nbLo (p s lo hi : Int) : Int := if 0 < s then -((p - lo) / s) else -((hi - p) / (-s))
def nbHi (p s lo hi : Int) : Int := if 0 < s then (hi - p) / s else (p - lo) / (-s)
def pcH (p s : Int) (c : Option Int) (lo hi : Int) : Int := match c with
  | none => nbHi p s lo hi
  | some c => min (nbHi p s lo hi) (c - 1)
/-- how many posts of the piece lie from lo to hi -/
def pc (p s : Int) (c : Option Int) (lo hi : Int) : Int := max 0 (pcH p s c lo hi - max (nbLo p s lo hi) 0 + 1)
end PM
end
section
set_option Elab.async false
set_option linter.all false
set_option maxRecDepth 100000
set_option maxHeartbeats 4000000
namespace PK
open PySem PySem.Spec PyProof.Rows L2 PM
local macro_rules | `(tactic| walk_at "sd") => `(tactic| (first
  | assumption
  | omega
  | (constructor <;> omega)
  | (refine ⟨by omega, ?_⟩; constructor <;> omega)
  | (constructor <;> (first | assumption | omega | (constructor <;> omega)))))
local macro_rules | `(tactic| walk_at "w") => `(tactic| (repeat (first
  | with_reducible refine ifTT ?_
  | with_reducible refine ifFT ?_
  | with_reducible refine ifnT ?_
  | with_reducible refine ifnF ?_
  | with_reducible refine ifIN ?_
  | with_reducible refine ifNN ?_
  | with_reducible refine ifnIN ?_
  | with_reducible refine ifnNN ?_
  | with_reducible refine ifRN ?_
  | with_reducible refine ifnRN ?_
  | ((fail_if_success with_reducible refine iteB ?_ ?_); first
    | refine ⟨_, rfl, ?_⟩
    | refine ⟨_, _, rfl, rfl, ?_⟩
    | refine ⟨_, _, rfl, ?_⟩
    | refine And.intro (a := (_ : Nat) ≤ sizeLine) (by first | exact len_small (m := 2) rfl | exact len_small (m := 1) rfl | exact len_small (m := 4) rfl | exact len_small (m := 3) rfl | exact len_small (m := 0) rfl) ?_
    | refine ⟨rfl, ?_⟩
    | refine And.intro (a := CDivP _ _) (by walk_at "sd") ?_
    | refine And.intro (a := CDivB _ _) (by walk_at "sd") ?_
    | refine And.intro (a := CMulB _ _) (by walk_at "sd") ?_
    | refine And.intro (a := _ ≠ (0 : Int)) (by walk_at "sd") ?_
    | refine And.intro (a := (0 : Int) < _) (by walk_at "sd") ?_
    | refine ⟨_, _, rfl, ‹_›, rfl, ?_⟩
    | refine ⟨_, _, _, _, rfl, rfl, ‹_›, rfl, ?_⟩
    | refine ⟨_, _, _, _, _, _, rfl, ‹_›, ‹_›, rfl, ?_⟩
    | refine ⟨_, _, _, _, _, _, rfl, ‹_›, (by exact KCls.f ‹_› rfl), (by rfl), ?_⟩
    | refine ⟨_, _, _, _, _, _, rfl, upd_same, ‹_›, (by rfl), ?_⟩
    | refine ⟨_, _, _, _, rfl, ‹_›, by decide +kernel, ?_⟩
    | refine ⟨_, _, _, rfl, ‹_›, ?_⟩))))
section
variable {P : Program} {w : World} {K : PySem.W.Frag} {mg : Str → Option Value} {base : Heap}
/-- a constant of the module -/
abbrev GC (mg : Str → Option Value) (x : Str) (v : V) : Prop := ∃ u, mg x = some u ∧ RelV v u
/-! ### checks -/
def spIsInt : Sp := fun vs H Q _ => ∃ i, vs = [.int i] ∧ Q (.bl true) H
theorem sc_is_integer : FnScope ["value"] ["value"] (defScope s_is_integer) := C8.fnScope_by (by decide +kernel)
theorem ok_is_integer {f : Addr} (F : DF K "is_integer" "is_integer" s_is_integer f) (hm : mg "is_integer" = some (.ref f)) (n_isinstance : mg "isinstance" = none) (n_int : mg "int" = none) (n_bool : mg "bool" = none) :
    C8.Cal P w K mg base 1 "is_integer" spIsInt [] := by
  refine cal_of F hm sc_is_integer (fun _ _ _ _ _ _ us hl => match us, hl with | [_], _ => rfl) (fun vs H Q E h => ?_) (fun cdv A outer s H vs Q E hr h => ?_)
  · obtain ⟨i, rfl, _⟩ := h
    rfl
  · obtain ⟨i, rfl, k⟩ := h
    refine ⟨_, (pss_one (ps_ret (pe_and (pe_callB call_isi (by rfl) n_isinstance (by decide +kernel) (pa_cons (pv 0) (pa_cons (pe_bltn (v := .ty "int") (u := .type "int") (by rfl) n_int (by decide +kernel) rfl) pa_nil))) (pe_one (pe_not (pe_callB call_isi (by rfl) n_isinstance (by decide +kernel) (pa_cons (pv 0) (pa_cons (pe_bltn (v := .ty "bool") (u := .type "bool") (by rfl) n_bool (by decide +kernel) rfl) pa_nil)))))))), ?_⟩
    show (_ : TS) _ [some _] _
    walk_at "w"
    refine ⟨_, _, _, _, _, rfl, .ty _, .base (.int _), kit_ty (r := true) (by decide +kernel), ?_⟩
    walk_at "w"
    refine ⟨_, _, _, _, _, rfl, .ty _, .base (.int _), kit_ty (r := false) (by decide +kernel), ?_⟩
    walk_at "w"
    exact k
def spIsBetween : Sp := fun vs H Q _ => ∃ v lo hi, vs = [.int v, .int lo, .int hi] ∧ lo ≤ v ∧ v ≤ hi ∧ Q (.bl true) H
theorem sc_is_between : FnScope ["value", "low", "high"] ["value", "low", "high"] (defScope s_is_between) := C8.fnScope_by (by decide +kernel)
theorem ok_is_between {f : Addr} (F : DF K "is_between" "is_between" s_is_between f) (hm : mg "is_between" = some (.ref f)) (c_is_integer : C8.Cal P w K mg base 1 "is_integer" spIsInt []) :
    C8.Cal P w K mg base 2 "is_between" spIsBetween [] := by
  refine cal_of F hm sc_is_between (fun _ _ _ _ _ _ us hl => match us, hl with | [_, _, _], _ => rfl) (fun vs H Q E h => ?_) (fun cdv A outer s H vs Q E hr h => ?_)
  · obtain ⟨v, lo, hi, rfl, _⟩ := h
    rfl
  · obtain ⟨v, lo, hi, rfl, h1, h2, k⟩ := h
    refine ⟨_, (pss_one (ps_ret (pe_and (C8.pe_c c_is_integer hr (by decide) rfl (pa_cons (pv 0) pa_nil)) (pe_one (pe_chain op_le op_le (pv 1) (pv 0) (pv 2)))))), ?_⟩
    show (_ : TS) _ [some _, some _, some _] _
    walk_at "w"
    refine iteD (fun hc => ?_) (fun hc => absurd h1 hc)
    walk_at "w"
    show Q (.bl (decide (v ≤ hi))) H
    rw [decide_eq_true h2]
    exact k
def spNeedPost : Sp := fun vs H Q _ => ∃ v, vs = [.int v] ∧ -(10 ^ 80) ≤ v ∧ v ≤ 10 ^ 80 ∧ Q .non H
theorem sc_need_post : FnScope ["value"] ["value"] (defScope s_need_post) := C8.fnScope_by (by decide +kernel)
theorem ok_need_post {f : Addr} (F : DF K "need_post" "need_post" s_need_post f) (hm : mg "need_post" = some (.ref f)) (c_is_between : C8.Cal P w K mg base 2 "is_between" spIsBetween []) (g_MAX_ARGUMENT : GC mg "MAX_ARGUMENT" (.int (10 ^ 80))) :
    C8.Cal P w K mg base 3 "need_post" spNeedPost [] := by
  refine cal_of F hm sc_need_post (fun _ _ _ _ _ _ us hl => match us, hl with | [_], _ => rfl) (fun vs H Q E h => ?_) (fun cdv A outer s H vs Q E hr h => ?_)
  · obtain ⟨v, rfl, _⟩ := h
    rfl
  · obtain ⟨v, rfl, h1, h2, k⟩ := h
    refine ⟨_, (pss_one (ps_if (pt_not (pt_val (C8.pe_c c_is_between hr (by decide) rfl (pa_cons (pv 0) (pa_cons (pe_un un_neg (C8.pe_gc rfl g_MAX_ARGUMENT)) (pa_cons (C8.pe_gc rfl g_MAX_ARGUMENT) pa_nil)))))) (pss_one ps_never)
          pss_nil)), ?_⟩
    show (_ : TS) _ [some _] _
    walk_at "w"
    refine ⟨h2, ?_⟩
    walk_at "w"
    exact k
def spNeedDay : Sp := fun vs H Q _ => ∃ v, vs = [.int v] ∧ 0 ≤ v ∧ v ≤ 10 ^ 80 ∧ Q .non H
theorem sc_need_day : FnScope ["value"] ["value"] (defScope s_need_day) := C8.fnScope_by (by decide +kernel)
theorem ok_need_day {f : Addr} (F : DF K "need_day" "need_day" s_need_day f) (hm : mg "need_day" = some (.ref f)) (c_is_between : C8.Cal P w K mg base 2 "is_between" spIsBetween []) (g_MAX_ARGUMENT : GC mg "MAX_ARGUMENT" (.int (10 ^ 80))) :
    C8.Cal P w K mg base 3 "need_day" spNeedDay [] := by
  refine cal_of F hm sc_need_day (fun _ _ _ _ _ _ us hl => match us, hl with | [_], _ => rfl) (fun vs H Q E h => ?_) (fun cdv A outer s H vs Q E hr h => ?_)
  · obtain ⟨v, rfl, _⟩ := h
    rfl
  · obtain ⟨v, rfl, h1, h2, k⟩ := h
    refine ⟨_, (pss_one (ps_if (pt_not (pt_val (C8.pe_c c_is_between hr (by decide) rfl (pa_cons (pv 0) (pa_cons pe_int (pa_cons (C8.pe_gc rfl g_MAX_ARGUMENT) pa_nil)))))) (pss_one ps_never)
          pss_nil)), ?_⟩
    show (_ : TS) _ [some _] _
    walk_at "w"
    refine ⟨h2, ?_⟩
    walk_at "w"
    exact k
/-- a day that may be None -/
def DayOk (d : Option Int) : Prop := ∀ v, d = some v → 0 ≤ v ∧ v ≤ 10 ^ 80
def spNeedDayOrNone : Sp := fun vs H Q _ => ∃ d, vs = [optV d] ∧ DayOk d ∧ Q .non H
theorem sc_need_day_or_none : FnScope ["value"] ["value"] (defScope s_need_day_or_none) := C8.fnScope_by (by decide +kernel)
theorem ok_need_day_or_none {f : Addr} (F : DF K "need_day_or_none" "need_day_or_none" s_need_day_or_none f) (hm : mg "need_day_or_none" = some (.ref f)) (c_need_day : C8.Cal P w K mg base 3 "need_day" spNeedDay []) :
    C8.Cal P w K mg base 4 "need_day_or_none" spNeedDayOrNone [] := by
  refine cal_of F hm sc_need_day_or_none (fun _ _ _ _ _ _ us hl => match us, hl with | [_], _ => rfl) (fun vs H Q E h => ?_) (fun cdv A outer s H vs Q E hr h => ?_)
  · obtain ⟨d, rfl, _⟩ := h
    rfl
  · obtain ⟨d, rfl, hd, k⟩ := h
    refine ⟨_, (pss_one (ps_if (pt_cmpR op_notN (pv 0) pe_non (nomark _)) (pss_one (ps_expr (C8.pe_c c_need_day hr (by decide) rfl (pa_cons (pv 0) pa_nil))))
          pss_nil)), ?_⟩
    show (_ : TS) _ [some _] _
    cases d with
    | none =>
      walk_at "w"
      exact k
    | some v =>
      obtain ⟨h1, h2⟩ := hd v rfl
      walk_at "w"
      exact ⟨h1, h2, k⟩
end
end PK
end
section
set_option linter.all false
/-! painters, hits, the history: plain mathematics -/
namespace PM
structure Pt where
  day : Int
  post : Int
  stride : Int
def Pt.at_ (p : Pt) (k : Int) : Int := p.post + k * p.stride
/-- a is stopped at its number k by b, which paints its first cb posts -/
def HitB (a b : Pt) (early : Bool) (cb : Option Int) (k : Int) : Prop :=
  0 ≤ k ∧ ∃ j, 0 ≤ j ∧ (∀ c, cb = some c → j < c) ∧ a.at_ k = b.at_ j ∧ (b.day + j < a.day + k ∨ (early = true ∧ b.day + j = a.day + k))
/-- the least one, if there is one -/
def FB (a b : Pt) (early : Bool) (cb : Option Int) : Option Int → Prop
  | none => ∀ k, ¬ HitB a b early cb k
  | some k => HitB a b early cb k ∧ ∀ k', HitB a b early cb k' → k ≤ k'
theorem FB.uniq {a b : Pt} {early : Bool} {cb r r' : Option Int} (h : FB a b early cb r) (h' : FB a b early cb r') : r = r' := by
  cases r with
  | none => cases r' with
    | none => rfl
    | some k => exact absurd h'.1 (h k)
  | some k => cases r' with
    | none => exact absurd h.1 (h' k)
    | some k' =>
      have h1 := h.2 k' h'.1
      have h2 := h'.2 k h.1
      have : k = k' := by omega
      rw [this]
section
variable (n : Nat) (p : Nat → Pt) (L : Nat → Option Int)
def Hit (a : Nat) (k : Int) : Prop := ∃ b, b < n ∧ b ≠ a ∧ HitB (p a) (p b) (decide (b < a)) (L b) k
def Least (a : Nat) (k : Int) : Prop := Hit n p L a k ∧ ∀ k', Hit n p L a k' → k ≤ k'
def HistAt (a : Nat) : Prop := match L a with
  | none => ∀ k, ¬ Hit n p L a k
  | some c => Least n p L a c
def IsHist : Prop := ∀ a, a < n → HistAt n p L a
/-- a paints its post with number k -/
def Pa (a : Nat) (k : Int) : Prop := 0 ≤ k ∧ ∀ c, L a = some c → k < c
end
section
variable {n : Nat} {p : Nat → Pt} {L L' : Nat → Option Int}
theorem Hit.nn {a : Nat} {k : Int} (h : Hit n p L a k) : 0 ≤ k := by
  obtain ⟨b, _, _, h, _⟩ := h
  exact h
theorem hit_iff {a : Nat} {k : Int} : Hit n p L a k ↔ 0 ≤ k ∧ ∃ b j, b < n ∧ b ≠ a ∧ Pa L b j ∧ (p a).at_ k = (p b).at_ j ∧ ((p b).day + j < (p a).day + k ∨ (b < a ∧ (p b).day + j = (p a).day + k)) := by
  constructor
  · rintro ⟨b, hb, hn, h0, j, j0, jc, e, t⟩
    refine ⟨h0, b, j, hb, hn, ⟨j0, jc⟩, e, ?_⟩
    rcases t with t | ⟨t1, t2⟩
    · exact .inl t
    · exact .inr ⟨of_decide_eq_true t1, t2⟩
  · rintro ⟨h0, b, j, hb, hn, ⟨j0, jc⟩, e, t⟩
    refine ⟨b, hb, hn, h0, j, j0, jc, e, ?_⟩
    rcases t with t | ⟨t1, t2⟩
    · exact .inl t
    · exact .inr ⟨decide_eq_true t1, t2⟩
theorem pa_iff (h : IsHist n p L) {a : Nat} (ha : a < n) {k : Int} : Pa L a k ↔ 0 ≤ k ∧ ∀ k', k' ≤ k → ¬ Hit n p L a k' := by
  have q := h a ha
  unfold HistAt at q
  constructor
  · rintro ⟨h0, hc⟩
    refine ⟨h0, fun k' hk hh => ?_⟩
    cases e : L a with
    | none =>
      rw [e] at q
      exact q k' hh
    | some c =>
      rw [e] at q
      have h1 := q.2 k' hh
      have h2 := hc c e
      omega
  · rintro ⟨h0, hn⟩
    refine ⟨h0, fun c e => ?_⟩
    rw [e] at q
    have q' : Least n p L a c := q
    have h1 := hn c
    by_cases hk : k < c
    · exact hk
    · exact absurd q'.1 (h1 (by omega))
theorem hist_step (hd : ∀ a, a < n → 0 ≤ (p a).day) (h : IsHist n p L) (h' : IsHist n p L') : ∀ (N : Nat) (a : Nat) (k : Int), a < n → 0 ≤ k → ((p a).day + k).toNat * n + a = N → (Pa L a k ↔ Pa L' a k) := by
  intro N
  induction N using Nat.strongRecOn with
  | ind N ih =>
    intro a k ha h0 hN
    have key : ∀ k', k' ≤ k → (Hit n p L a k' ↔ Hit n p L' a k') := by
      intro k' hk
      have lt : ∀ (b : Nat) (j : Int), b < n → 0 ≤ j → ((p b).day + j < (p a).day + k' ∨ (b < a ∧ (p b).day + j = (p a).day + k')) → ((p b).day + j).toNat * n + b < N := by
        intro b j hb j0 t
        have d1 := hd a ha
        have d2 := hd b hb
        rw [← hN]
        rcases t with t | ⟨t1, t2⟩
        · have h1 : ((p b).day + j).toNat + 1 ≤ ((p a).day + k).toNat := by omega
          have h2 := Nat.mul_le_mul_right n h1
          rw [Nat.add_mul, Nat.one_mul] at h2
          omega
        · have h1 : ((p b).day + j).toNat ≤ ((p a).day + k).toNat := by omega
          have h2 := Nat.mul_le_mul_right n h1
          omega
      rw [hit_iff, hit_iff]
      constructor
      · rintro ⟨z, b, j, hb, hn, pa, e, t⟩
        exact ⟨z, b, j, hb, hn, (ih _ (lt b j hb pa.1 t) b j hb pa.1 rfl).mp pa, e, t⟩
      · rintro ⟨z, b, j, hb, hn, pa, e, t⟩
        exact ⟨z, b, j, hb, hn, (ih _ (lt b j hb pa.1 t) b j hb pa.1 rfl).mpr pa, e, t⟩
    rw [pa_iff h ha, pa_iff h' ha]
    constructor
    · rintro ⟨z, q⟩
      exact ⟨z, fun k' hk hh => q k' hk ((key k' hk).mpr hh)⟩
    · rintro ⟨z, q⟩
      exact ⟨z, fun k' hk hh => q k' hk ((key k' hk).mp hh)⟩
theorem pa_uniq (hd : ∀ a, a < n → 0 ≤ (p a).day) (h : IsHist n p L) (h' : IsHist n p L') {a : Nat} (ha : a < n) {k : Int} : Pa L a k ↔ Pa L' a k := by
  by_cases h0 : 0 ≤ k
  · exact hist_step hd h h' _ a k ha h0 rfl
  · constructor
    · intro q
      exact absurd q.1 h0
    · intro q
      exact absurd q.1 h0
theorem hist_uniq (hd : ∀ a, a < n → 0 ≤ (p a).day) (h : IsHist n p L) (h' : IsHist n p L') {a : Nat} (ha : a < n) : L a = L' a := by
  have q := fun k => pa_uniq hd h h' ha (k := k)
  have nn : ∀ {M : Nat → Option Int} {c : Int}, IsHist n p M → M a = some c → 0 ≤ c := by
    intro M c hM e
    have z := hM a ha
    unfold HistAt at z
    rw [e] at z
    exact Hit.nn (And.left (show Least n p M a c from z))
  cases e : L a with
  | none =>
    cases e' : L' a with
    | none => rfl
    | some c =>
      have h1 := (q c).mp ⟨nn h' e', fun c' z => by rw [e] at z; cases z⟩
      have := h1.2 c e'
      omega
  | some c =>
    cases e' : L' a with
    | none =>
      have h1 := (q c).mpr ⟨nn h e, fun c' z => by rw [e'] at z; cases z⟩
      have := h1.2 c e
      omega
    | some c' =>
      have hc := nn h e
      have hc' := nn h' e'
      by_cases l : c < c'
      · have h1 := (q c).mpr ⟨hc, fun x z => by rw [e'] at z; injection z with z; omega⟩
        have := h1.2 c e
        omega
      · by_cases l' : c' < c
        · have h1 := (q c').mp ⟨hc', fun x z => by rw [e] at z; injection z with z; omega⟩
          have := h1.2 c' e'
          omega
        · have : c = c' := by omega
          rw [this]
/-- no post is painted twice -/
theorem pa_apart (h : IsHist n p L) {a b : Nat} {k j : Int} (ha : a < n) (hb : b < n) (pa : Pa L a k) (pb : Pa L b j) (e : (p a).at_ k = (p b).at_ j) : a = b := by
  have main : ∀ {a b : Nat} {k j : Int}, a < n → b < n → Pa L a k → Pa L b j → (p a).at_ k = (p b).at_ j → a ≠ b → ((p b).day + j < (p a).day + k ∨ (b < a ∧ (p b).day + j = (p a).day + k)) → False := by
    intro a b k j ha hb pa pb e hn t
    exact ((pa_iff h ha).mp pa).2 k (Int.le_refl _) (hit_iff.mpr ⟨pa.1, b, j, hb, fun z => hn z.symm, pb, e, t⟩)
  by_cases hn : a = b
  · exact hn
  · exfalso
    by_cases t : (p b).day + j < (p a).day + k
    · exact main ha hb pa pb e hn (.inl t)
    · by_cases t2 : (p a).day + k < (p b).day + j
      · exact main hb ha pb pa e.symm (fun z => hn z.symm) (.inl t2)
      · have t3 : (p b).day + j = (p a).day + k := by omega
        by_cases l : b < a
        · exact main ha hb pa pb e hn (.inr ⟨l, t3⟩)
        · exact main hb ha pb pa e.symm (fun z => hn z.symm) (.inr ⟨by omega, t3.symm⟩)
end
/-! ### stops settled one after the other -/
section
variable (n : Nat) (p : Nat → Pt)
/-- (day, place) ahead of (day, place) -/
def Bef (d : Int) (a : Nat) (d' : Int) (a' : Nat) : Prop := d < d' ∨ (d = d' ∧ a < a')
/-- the settled ones are least hits, all ahead of what the others may hit -/
structure Sofar (L : Nat → Option Int) : Prop where
  done : ∀ a c, a < n → L a = some c → Least n p L a c
  ahead : ∀ a c b k, a < n → b < n → L a = some c → L b = none → Hit n p L b k → Bef ((p a).day + c) a ((p b).day + k) b
end
section
variable {n : Nat} {p : Nat → Pt} {L : Nat → Option Int}
def setL (L : Nat → Option Int) (a : Nat) (c : Int) : Nat → Option Int := fun b => if b = a then some c else L b
theorem setL_same {a : Nat} {c : Int} : setL L a c a = some c := by unfold setL; rw [if_pos rfl]
theorem setL_ne {a b : Nat} {c : Int} (h : b ≠ a) : setL L a c b = L b := by unfold setL; rw [if_neg h]
theorem Sofar.start : Sofar n p (fun _ => none) := ⟨fun _ _ _ e => (nomatch e), fun _ _ _ _ _ _ e => (nomatch e)⟩
/-- a limit only takes hits away -/
theorem HitB.less {a b : Pt} {early : Bool} {c k : Int} (h : HitB a b early (some c) k) : HitB a b early none k := by
  obtain ⟨h0, j, j0, jc, e, t⟩ := h
  exact ⟨h0, j, j0, (fun c z => by cases z), e, t⟩
theorem Hit.less {a b : Nat} {c k : Int} (hL : L a = none) (h : Hit n p (setL L a c) b k) : Hit n p L b k := by
  obtain ⟨x, hx, hn, h⟩ := h
  refine ⟨x, hx, hn, ?_⟩
  by_cases e : x = a
  · subst e
    rw [setL_same] at h
    rw [hL]
    exact h.less
  · rw [setL_ne e] at h
    exact h
theorem Sofar.step (S : Sofar n p L) {a : Nat} {c : Int} (ha : a < n) (hL : L a = none) (hl : Least n p L a c) (hm : ∀ b k, b < n → b ≠ a → L b = none → Hit n p L b k → Bef ((p a).day + c) a ((p b).day + k) b) : Sofar n p (setL L a c) := by
  refine ⟨fun b d hb e => ?_, fun b d x k hb hx e ex hh => ?_⟩
  · by_cases hba : b = a
    · subst hba
      rw [setL_same] at e
      injection e with e
      subst e
      obtain ⟨⟨y, hy, hyn, hh⟩, q2⟩ := hl
      refine ⟨⟨y, hy, hyn, ?_⟩, fun k' hk => q2 k' (hk.less hL)⟩
      rw [setL_ne hyn]
      exact hh
    · rw [setL_ne hba] at e
      obtain ⟨q1, q2⟩ := S.done b d hb e
      have ord := S.ahead b d a c hb ha e hL hl.1
      refine ⟨?_, fun k' hk => q2 k' (hk.less hL)⟩
      obtain ⟨y, hy, hyn, h0, j, j0, jc, ee, t⟩ := q1
      refine ⟨y, hy, hyn, h0, j, j0, fun c' z => ?_, ee, t⟩
      by_cases hya : y = a
      · subst hya
        rw [setL_same] at z
        injection z with z
        subst z
        have t' : (p y).day + j < (p b).day + d ∨ (y < b ∧ (p y).day + j = (p b).day + d) := by
          rcases t with t | ⟨t1, t2⟩
          · exact .inl t
          · exact .inr ⟨of_decide_eq_true t1, t2⟩
        rcases ord with ord | ⟨o1, o2⟩ <;> rcases t' with t' | ⟨t1, t2⟩ <;> omega
      · rw [setL_ne hya] at z
        exact jc c' z
  · have hxa : x ≠ a := fun z => by
      subst z
      rw [setL_same] at ex
      cases ex
    rw [setL_ne hxa] at ex
    have hh' := hh.less hL
    by_cases hba : b = a
    · subst hba
      rw [setL_same] at e
      injection e with e
      subst e
      exact hm x k hx hxa ex hh'
    · rw [setL_ne hba] at e
      exact S.ahead b d x k hb hx e ex hh'
theorem Sofar.end_ (S : Sofar n p L) (h : ∀ a k, a < n → L a = none → ¬ Hit n p L a k) : IsHist n p L := by
  intro a ha
  unfold HistAt
  cases e : L a with
  | none => exact fun k => h a k ha e
  | some c => exact S.done a c ha e
end
end PM
end
section
set_option linter.all false
/-! least fits, common posts, the first block -/
namespace PM
/-! ### least fits -/
def mi (x : Int) : Option Int → Int
  | none => x
  | some h => min h x
def lfGo : List (Int × Int) → Int → Option Int → Option (Int × Option Int)
  | [], low, high => some (low, high)
  | (b, g) :: r, low, high =>
    if 0 < g then lfGo r (max low (-(b / g))) high
    else if g < 0 then lfGo r low (some (mi (b / (-g)) high))
    else if b < 0 then none else lfGo r low high
theorem lfGo_nil (low : Int) (high : Option Int) : lfGo [] low high = some (low, high) := by unfold lfGo; rfl
theorem lfGo_cons (b g : Int) (r : List (Int × Int)) (low : Int) (high : Option Int) : lfGo ((b, g) :: r) low high =
    if 0 < g then lfGo r (max low (-(b / g))) high
    else if g < 0 then lfGo r low (some (mi (b / (-g)) high))
    else if b < 0 then none else lfGo r low high := by
  conv => lhs; unfold lfGo
/-- what is within low and high and fits all conditions -/
def Fit (cs : List (Int × Int)) (m : Int) : Prop := ∀ q, q ∈ cs → 0 ≤ q.1 + m * q.2
def InLH (low : Int) (high : Option Int) (m : Int) : Prop := low ≤ m ∧ ∀ h, high = some h → m ≤ h
theorem fit_pos {b g m : Int} (h : 0 < g) : 0 ≤ b + m * g ↔ -(b / g) ≤ m := by
  have e1 := Int.emod_add_mul_ediv b g
  have e2 := Int.emod_nonneg b (show g ≠ 0 by omega)
  have e3 := Int.emod_lt_of_pos b h
  generalize b / g = x at *
  generalize b % g = y at *
  constructor
  · intro q
    have h1 : 0 ≤ y + (x + m) * g := by
      have : (x + m) * g = g * x + m * g := by rw [Int.add_mul, Int.mul_comm x g]
      omega
    by_cases hx : 0 ≤ x + m
    · omega
    · have h2 : x + m ≤ -1 := by omega
      have h3 := Int.mul_le_mul_of_nonneg_right h2 (Int.le_of_lt h)
      omega
  · intro q
    have h1 : 0 ≤ x + m := by omega
    have h2 := Int.mul_nonneg h1 (Int.le_of_lt h)
    have : (x + m) * g = g * x + m * g := by rw [Int.add_mul, Int.mul_comm x g]
    omega
theorem fit_neg {b g m : Int} (h : g < 0) : 0 ≤ b + m * g ↔ m ≤ b / (-g) := by
  have e1 := Int.emod_add_mul_ediv b (-g)
  have e2 := Int.emod_nonneg b (show -g ≠ 0 by omega)
  have e3 := Int.emod_lt_of_pos b (show 0 < -g by omega)
  generalize b / (-g) = x at *
  generalize b % (-g) = y at *
  have hh : (x - m) * (-g) = (-g) * x + m * g := by rw [Int.sub_mul, Int.mul_comm x (-g), Int.mul_neg m g]; omega
  constructor
  · intro q
    have h1 : 0 ≤ y + (x - m) * (-g) := by omega
    by_cases hx : 0 ≤ x - m
    · omega
    · have h2 : x - m ≤ -1 := by omega
      have h3 := Int.mul_le_mul_of_nonneg_right h2 (show (0 : Int) ≤ -g by omega)
      omega
  · intro q
    have h1 : 0 ≤ x - m := by omega
    have h2 := Int.mul_nonneg h1 (show (0 : Int) ≤ -g by omega)
    omega
theorem fit_cons {b g : Int} {r : List (Int × Int)} {m : Int} : Fit ((b, g) :: r) m ↔ 0 ≤ b + m * g ∧ Fit r m := by
  constructor
  · intro h
    exact ⟨h (b, g) List.mem_cons_self, fun q hq => h q (List.mem_cons_of_mem _ hq)⟩
  · rintro ⟨h1, h2⟩ q hq
    rcases List.mem_cons.mp hq with e | e
    · rw [e]
      exact h1
    · exact h2 q e
theorem lfGo_spec : ∀ (cs : List (Int × Int)) (low : Int) (high : Option Int), match lfGo cs low high with
    | none => ∀ m, ¬ (InLH low high m ∧ Fit cs m)
    | some (l, h) => ∀ m, InLH l h m ↔ (InLH low high m ∧ Fit cs m)
  | [], low, high => by
    unfold lfGo
    intro m
    exact ⟨fun h => ⟨h, fun q hq => nomatch hq⟩, fun h => h.1⟩
  | (b, g) :: r, low, high => by
    unfold lfGo
    by_cases hg : 0 < g
    · rw [if_pos hg]
      have ih := lfGo_spec r (max low (-(b / g))) high
      have key : ∀ m, InLH (max low (-(b / g))) high m ↔ (InLH low high m ∧ 0 ≤ b + m * g) := by
        intro m
        rw [fit_pos hg]
        unfold InLH
        constructor
        · rintro ⟨h1, h2⟩
          exact ⟨⟨by omega, h2⟩, by omega⟩
        · rintro ⟨⟨h1, h2⟩, h3⟩
          exact ⟨by omega, h2⟩
      cases e : lfGo r (max low (-(b / g))) high with
      | none =>
        rw [e] at ih
        intro m
        rw [fit_cons, ← and_assoc, ← key m]
        exact ih m
      | some z =>
        rw [e] at ih
        obtain ⟨l, h⟩ := z
        intro m
        rw [fit_cons, ← and_assoc, ← key m]
        exact ih m
    · rw [if_neg hg]
      by_cases hg2 : g < 0
      · rw [if_pos hg2]
        have key : ∀ m, InLH low (some (mi (b / (-g)) high)) m ↔ (InLH low high m ∧ 0 ≤ b + m * g) := by
          intro m
          rw [fit_neg hg2]
          unfold InLH
          cases high with
          | none =>
            constructor
            · rintro ⟨h1, h2⟩
              exact ⟨⟨h1, fun h z => nomatch z⟩, h2 _ rfl⟩
            · rintro ⟨⟨h1, h2⟩, h3⟩
              exact ⟨h1, fun h z => by injection z with z; rw [← z]; exact h3⟩
          | some x =>
            constructor
            · rintro ⟨h1, h2⟩
              have h3 : m ≤ min x (b / (-g)) := h2 _ rfl
              exact ⟨⟨h1, fun h z => by injection z with z; omega⟩, by omega⟩
            · rintro ⟨⟨h1, h2⟩, h3⟩
              have h4 := h2 _ rfl
              exact ⟨h1, fun h z => by injection z with z; rw [← z]; show m ≤ min x (b / (-g)); omega⟩
        have ih := lfGo_spec r low (some (mi (b / (-g)) high))
        cases e : lfGo r low (some (mi (b / (-g)) high)) with
        | none =>
          rw [e] at ih
          intro m
          rw [fit_cons, ← and_assoc, ← key m]
          exact ih m
        | some z =>
          rw [e] at ih
          obtain ⟨l, h⟩ := z
          intro m
          rw [fit_cons, ← and_assoc, ← key m]
          exact ih m
      · rw [if_neg hg2]
        have g0 : g = 0 := by omega
        subst g0
        by_cases hb : b < 0
        · rw [if_pos hb]
          rintro m ⟨_, h⟩
          have h1 := (fit_cons.mp h).1
          rw [Int.mul_zero] at h1
          omega
        · rw [if_neg hb]
          have ih := lfGo_spec r low high
          have key : ∀ m, InLH low high m ↔ (InLH low high m ∧ 0 ≤ b + m * 0) := by
            intro m
            rw [Int.mul_zero]
            constructor
            · intro h
              exact ⟨h, by omega⟩
            · intro h
              exact h.1
          cases e : lfGo r low high with
          | none =>
            rw [e] at ih
            intro m
            rw [fit_cons, ← and_assoc, ← key m]
            exact ih m
          | some z =>
            rw [e] at ih
            obtain ⟨l, h⟩ := z
            intro m
            rw [fit_cons, ← and_assoc, ← key m]
            exact ih m
/-- low, if there is one that fits -/
def lowOf (cs : List (Int × Int)) : Option Int := match lfGo cs 0 none with
  | none => none
  | some (l, none) => some l
  | some (l, some h) => if l ≤ h then some l else none
theorem lowOf_spec (cs : List (Int × Int)) : match lowOf cs with
    | none => ∀ m, ¬ (0 ≤ m ∧ Fit cs m)
    | some l => (0 ≤ l ∧ Fit cs l) ∧ ∀ m, 0 ≤ m ∧ Fit cs m → l ≤ m := by
  have s := lfGo_spec cs 0 none
  have nn : ∀ m, InLH 0 none m ↔ 0 ≤ m := fun m => ⟨fun h => h.1, fun h => ⟨h, fun x z => nomatch z⟩⟩
  unfold lowOf
  cases e : lfGo cs 0 none with
  | none =>
    rw [e] at s
    intro m hm
    exact s m ⟨(nn m).mpr hm.1, hm.2⟩
  | some z =>
    obtain ⟨l, h⟩ := z
    rw [e] at s
    cases h with
    | none =>
      have h1 := (s l).mp ⟨Int.le_refl _, fun x z => nomatch z⟩
      refine ⟨⟨(nn l).mp h1.1, h1.2⟩, fun m hm => ?_⟩
      exact ((s m).mpr ⟨(nn m).mpr hm.1, hm.2⟩).1
    | some h =>
      show match (if l ≤ h then some l else none) with
        | none => ∀ m, ¬ (0 ≤ m ∧ Fit cs m)
        | some l => (0 ≤ l ∧ Fit cs l) ∧ ∀ m, 0 ≤ m ∧ Fit cs m → l ≤ m
      by_cases hl : l ≤ h
      · rw [if_pos hl]
        have h1 := (s l).mp ⟨Int.le_refl _, fun x z => by injection z with z; omega⟩
        refine ⟨⟨(nn l).mp h1.1, h1.2⟩, fun m hm => ?_⟩
        exact ((s m).mpr ⟨(nn m).mpr hm.1, hm.2⟩).1
      · rw [if_neg hl]
        intro m hm
        have h1 := (s m).mpr ⟨(nn m).mpr hm.1, hm.2⟩
        have h2 := h1.1
        have h3 := h1.2 h rfl
        omega
/-- low is small -/
theorem lfGo_low : ∀ (cs : List (Int × Int)) (low : Int) (high : Option Int) (B : Int), 0 ≤ B → low ≤ B → (∀ q, q ∈ cs → 0 < q.2 → -B ≤ q.1) → ∀ l h, lfGo cs low high = some (l, h) → l ≤ B
  | [], low, high, B, _, hl, _, l, h, e => by
    unfold lfGo at e
    injection e with e
    injection e with e1 e2
    omega
  | (b, g) :: r, low, high, B, hB, hl, hq, l, h, e => by
    have hr : ∀ q, q ∈ r → 0 < q.2 → -B ≤ q.1 := fun q hm => hq q (List.mem_cons_of_mem _ hm)
    unfold lfGo at e
    by_cases hg : 0 < g
    · rw [if_pos hg] at e
      refine lfGo_low r _ high B hB ?_ hr l h e
      have h1 := hq (b, g) List.mem_cons_self hg
      have h1 : -B ≤ b := h1
      have h2 : -B ≤ b / g := by
        by_cases b0 : 0 ≤ b
        · have := Int.ediv_nonneg b0 (Int.le_of_lt hg)
          omega
        · have h3 : b ≤ b / g := by
            rw [Int.le_ediv_iff_mul_le hg]
            have := Int.mul_le_mul_of_nonpos_left (show b ≤ 0 by omega) (show (1 : Int) ≤ g by omega)
            omega
          omega
      omega
    · rw [if_neg hg] at e
      by_cases hg2 : g < 0
      · rw [if_pos hg2] at e
        exact lfGo_low r low _ B hB hl hr l h e
      · rw [if_neg hg2] at e
        by_cases hb : b < 0
        · rw [if_pos hb] at e
          cases e
        · rw [if_neg hb] at e
          exact lfGo_low r low high B hB hl hr l h e
theorem lowOf_le {cs : List (Int × Int)} {B l : Int} (hB : 0 ≤ B) (hq : ∀ q, q ∈ cs → 0 < q.2 → -B ≤ q.1) (e : lowOf cs = some l) : l ≤ B := by
  unfold lowOf at e
  cases z : lfGo cs 0 none with
  | none =>
    rw [z] at e
    cases e
  | some y =>
    obtain ⟨l', h⟩ := y
    have h1 := lfGo_low cs 0 none B hB hB hq l' h z
    rw [z] at e
    cases h with
    | none =>
      injection e with e
      omega
    | some h =>
      have e : (if l' ≤ h then some l' else none) = some l := e
      by_cases q : l' ≤ h
      · rw [if_pos q] at e
        injection e with e
        omega
      · rw [if_neg q] at e
        cases e
end PM
end
section
set_option linter.all false
namespace PM
/-- all common posts of two ways that go on both ways -/
structure CrOk (p1 s1 p2 s2 : Int) (emp : Bool) (step ostep start ostart : Int) : Prop where
  none_ : emp = true → ∀ k j : Int, p1 + k * s1 ≠ p2 + j * s2
  pos : 0 < step
  lo : 0 ≤ start
  hi : start < step
  all : emp = false → ∀ k j : Int, p1 + k * s1 = p2 + j * s2 ↔ ∃ m : Int, k = start + m * step ∧ j = ostart + m * ostep
def absI (x : Int) : Int := if x < 0 then -x else x
theorem absI_natAbs (x : Int) : absI x = (x.natAbs : Int) := by unfold absI; omega
theorem coprime_dvd {u v x : Int} (h : Int.gcd u v = 1) (d : v ∣ u * x) : v ∣ x := by
  have h1 : v.natAbs ∣ u.natAbs * x.natAbs := by
    rw [← Int.natAbs_mul]
    exact Int.natAbs_dvd_natAbs.mpr d
  have h2 : Nat.Coprime v.natAbs u.natAbs := by
    unfold Nat.Coprime
    rw [Nat.gcd_comm]
    exact h
  exact Int.natAbs_dvd_natAbs.mp (h2.dvd_of_dvd_mul_left h1)
section
variable {p1 s1 p2 s2 : Int}
theorem gcd_pos (h2 : s2 ≠ 0) : (0 : Int) < (Int.gcd s1 s2 : Int) := by
  have : 0 < Int.gcd s1 s2 := Int.gcd_pos_of_ne_zero_right s1 h2
  omega
theorem step_pos (h2 : s2 ≠ 0) : 0 < absI s2 / (Int.gcd s1 s2 : Int) := by
  have hg := gcd_pos (s1 := s1) h2
  have d : (Int.gcd s1 s2 : Int) ∣ absI s2 := by
    have := Int.gcd_dvd_right s1 s2
    rw [absI_natAbs]
    exact Int.dvd_natAbs.mpr this
  have h1 : (Int.gcd s1 s2 : Int) ≤ absI s2 := Int.le_of_dvd (by unfold absI; omega) d
  exact Int.ediv_pos_of_pos_of_dvd (by unfold absI; omega) (Int.le_of_lt hg) d
theorem cr_ok {r : Int} (h2 : s2 ≠ 0) (hr : (s1 / (Int.gcd s1 s2 : Int) * r) % (absI s2 / (Int.gcd s1 s2 : Int)) = 1 % (absI s2 / (Int.gcd s1 s2 : Int))) :
    CrOk p1 s1 p2 s2 (decide ((p2 - p1) % (Int.gcd s1 s2 : Int) ≠ 0)) (absI s2 / (Int.gcd s1 s2 : Int)) (if 0 < s2 then s1 / (Int.gcd s1 s2 : Int) else -(s1 / (Int.gcd s1 s2 : Int)))
      ((p2 - p1) / (Int.gcd s1 s2 : Int) * r % (absI s2 / (Int.gcd s1 s2 : Int)))
      ((p1 + ((p2 - p1) / (Int.gcd s1 s2 : Int) * r % (absI s2 / (Int.gcd s1 s2 : Int))) * s1 - p2).fdiv s2) := by
  have hg := gcd_pos (s1 := s1) h2
  have hst := step_pos (s1 := s1) h2
  obtain ⟨u, hu⟩ := Int.gcd_dvd_left s1 s2
  obtain ⟨v, hv⟩ := Int.gcd_dvd_right s1 s2
  have hcop : Int.gcd u v = 1 := by
    have h := Int.gcd_mul_left (Int.gcd s1 s2 : Int) u v
    rw [← hu, ← hv, Int.natAbs_natCast] at h
    have h0 : 0 < Int.gcd s1 s2 := by omega
    have h1 : Int.gcd s1 s2 * 1 = Int.gcd s1 s2 * Int.gcd u v := by rw [Nat.mul_one]; exact h
    exact (Nat.eq_of_mul_eq_mul_left h0 h1).symm
  generalize hgd : (Int.gcd s1 s2 : Int) = g at *
  have e1 : s1 / g = u := by rw [hu]; exact Int.mul_ediv_cancel_left u (by omega)
  have hv0 : v ≠ 0 := fun z => by rw [z, Int.mul_zero] at hv; exact h2 hv
  have e2 : absI s2 / g = absI v := by
    have : absI s2 = g * absI v := by
      unfold absI
      by_cases q : v < 0
      · have h3 : g * v < 0 := Int.mul_neg_of_pos_of_neg hg q
        rw [if_pos q, if_pos (by rw [hv]; omega), hv, Int.mul_neg]
      · have h3 : 0 ≤ g * v := Int.mul_nonneg (Int.le_of_lt hg) (by omega)
        rw [if_neg q, if_neg (by rw [hv]; omega), hv]
    rw [this]
    exact Int.mul_ediv_cancel_left _ (by omega)
  rw [e1, e2] at hr
  rw [e2] at hst
  rw [e1, e2]
  generalize hS : (p2 - p1) / g * r % absI v = start
  have hs0 : 0 ≤ start := by rw [← hS]; exact Int.emod_nonneg _ (by omega)
  have hs1 : start < absI v := by rw [← hS]; exact Int.emod_lt_of_pos _ hst
  refine ⟨fun he k j q => ?_, hst, hs0, hs1, fun he k j => ?_⟩
  · have he' := of_decide_eq_true he
    apply he'
    apply Int.emod_eq_zero_of_dvd
    refine ⟨k * u - j * v, ?_⟩
    rw [Int.mul_sub]
    have a1 : g * (k * u) = k * s1 := by rw [hu, Int.mul_left_comm]
    have a2 : g * (j * v) = j * s2 := by rw [hv, Int.mul_left_comm]
    omega
  · have he' : ¬ (p2 - p1) % g ≠ 0 := of_decide_eq_false he
    have hd : (p2 - p1) % g = 0 := Decidable.not_not.mp he'
    obtain ⟨gap, hgap⟩ := Int.dvd_of_emod_eq_zero hd
    have e3 : (p2 - p1) / g = gap := by rw [hgap]; exact Int.mul_ediv_cancel_left _ (by omega)
    rw [e3] at hS
    -- v divides start * u - gap
    have dv : absI v ∣ start * u - gap := by
      have m1 : absI v ∣ gap * r - start := by
        rw [← hS]
        exact Int.dvd_self_sub_emod
      have m2 : absI v ∣ u * r - 1 := Int.dvd_of_emod_eq_zero (by
        rw [Int.sub_emod, hr, Int.sub_self, Int.zero_emod])
      have m3 : absI v ∣ gap * (u * r - 1) - u * (gap * r - start) := Int.dvd_sub (Int.dvd_mul_of_dvd_right m2) (Int.dvd_mul_of_dvd_right m1)
      have e4 : gap * (u * r - 1) - u * (gap * r - start) = start * u - gap := by
        rw [Int.mul_sub, Int.mul_sub, Int.mul_one, Int.mul_left_comm gap u r, Int.mul_comm u start]
        omega
      rw [e4] at m3
      exact m3
    have dv' : v ∣ start * u - gap := by
      have h5 : v ∣ absI v := by rw [absI_natAbs]; exact Int.dvd_natAbs_self
      exact Int.dvd_trans h5 dv
    obtain ⟨o, ho⟩ := dv'
    have e5 : (p1 + start * s1 - p2).fdiv s2 = o := by
      have : p1 + start * s1 - p2 = s2 * o := by
        have a1 : start * s1 = g * (start * u) := by rw [hu, Int.mul_left_comm]
        have a2 : s2 * o = g * (start * u - gap) := by rw [ho, hv, Int.mul_assoc]
        rw [a2, Int.mul_sub, a1]
        omega
      rw [this]
      exact Int.mul_fdiv_cancel_left _ h2
    rw [e5]
    have sg : 0 < s2 ↔ 0 < v := by
      rw [hv]
      constructor
      · intro q
        by_cases hh : 0 < v
        · exact hh
        · have := Int.mul_nonpos_of_nonneg_of_nonpos (Int.le_of_lt hg) (show v ≤ 0 by omega)
          omega
      · intro q
        exact Int.mul_pos hg q
    have sys : p1 + k * s1 = p2 + j * s2 ↔ (k - start) * u = (j - o) * v := by
      have a1 : k * s1 = g * (k * u) := by rw [hu, Int.mul_left_comm]
      have a2 : j * s2 = g * (j * v) := by rw [hv, Int.mul_left_comm]
      have a3 : p2 = p1 + g * gap := by omega
      rw [a1, a2, a3]
      constructor
      · intro q
        have q1 : g * (k * u) = g * (gap + j * v) := by rw [Int.mul_add]; omega
        have q2 := Int.eq_of_mul_eq_mul_left (by omega) q1
        rw [Int.sub_mul, Int.sub_mul, Int.mul_comm o v]
        omega
      · intro q
        rw [Int.sub_mul, Int.sub_mul, Int.mul_comm o v] at q
        have q2 : k * u = gap + j * v := by omega
        rw [q2, Int.mul_add]
        omega
    rw [sys]
    constructor
    · intro q
      have d1 : v ∣ u * (k - start) := ⟨j - o, by rw [Int.mul_comm u, q, Int.mul_comm]⟩
      have d2 := coprime_dvd hcop d1
      have d3 : absI v ∣ k - start := by
        rw [absI_natAbs]
        exact Int.natAbs_dvd.mpr d2
      obtain ⟨m, hm⟩ := d3
      refine ⟨m, by rw [Int.mul_comm m]; omega, ?_⟩
      rw [hm] at q
      by_cases hp : 0 < v
      · rw [if_pos (sg.mpr hp)]
        have ea : absI v = v := by unfold absI; rw [if_neg (by omega)]
        rw [ea, Int.mul_assoc, Int.mul_comm (j - o) v] at q
        have := Int.eq_of_mul_eq_mul_left hv0 q
        omega
      · rw [if_neg (fun z => hp (sg.mp z))]
        have ea : absI v = -v := by unfold absI; rw [if_pos (by omega)]
        rw [ea, Int.mul_assoc, Int.mul_comm (j - o) v, Int.neg_mul, ← Int.mul_neg] at q
        have := Int.eq_of_mul_eq_mul_left hv0 q
        rw [Int.mul_neg]
        omega
    · rintro ⟨m, rfl, rfl⟩
      by_cases hp : 0 < v
      · rw [if_pos (sg.mpr hp)]
        have ea : absI v = v := by unfold absI; rw [if_neg (by omega)]
        rw [ea, show start + m * v - start = m * v by omega, show o + m * u - o = m * u by omega, Int.mul_right_comm]
      · rw [if_neg (fun z => hp (sg.mp z))]
        have ea : absI v = -v := by unfold absI; rw [if_pos (by omega)]
        rw [ea, show start + m * -v - start = m * -v by omega, show o + m * -u - o = m * -u by omega, Int.mul_neg, Int.neg_mul, Int.mul_neg, Int.neg_mul, Int.mul_right_comm]
end
/-! ### the least fit as it is told -/
def lfRes (cs : List (Int × Int)) : Int × Option Int := match lfGo cs 0 none with
  | none => (1, some 0)
  | some (l, none) => (l, none)
  | some (l, some h) => if l ≤ h then (l, some h) else (1, some 0)
theorem lowOf_res (cs : List (Int × Int)) : lowOf cs = match (lfRes cs).2 with
    | none => some (lfRes cs).1
    | some h => if (lfRes cs).1 ≤ h then some (lfRes cs).1 else none := by
  unfold lowOf lfRes
  cases e : lfGo cs 0 none with
  | none => rfl
  | some z =>
    obtain ⟨l, h⟩ := z
    cases h with
    | none => rfl
    | some h =>
      show (if l ≤ h then some l else none) = match (if l ≤ h then (l, some h) else (1, some 0)).2 with
        | none => some (if l ≤ h then (l, some h) else (1, some 0)).1
        | some h' => if (if l ≤ h then (l, some h) else (1, some 0)).1 ≤ h' then some (if l ≤ h then (l, some h) else (1, some 0)).1 else none
      by_cases q : l ≤ h
      · rw [if_pos q, if_pos q]
        show some l = if l ≤ h then some l else none
        rw [if_pos q]
      · rw [if_neg q, if_neg q]
        rfl
/-! ### the first block -/
def fbConds (d1 d2 : Int) (step ostep start ostart : Int) (early : Bool) (cb : Option Int) : List (Int × Int) :=
  [(ostart, ostep), (d1 + start - d2 - ostart - (if early = true then 0 else 1), step - ostep)] ++ (match cb with | none => [] | some c => [(c - 1 - ostart, -ostep)])
def fbVal (d1 d2 : Int) (emp : Bool) (step ostep start ostart : Int) (early : Bool) (cb : Option Int) : Option Int :=
  if emp = true then none else (lowOf (fbConds d1 d2 step ostep start ostart early cb)).map fun l => start + l * step
theorem fb_iff {a b : Pt} {emp : Bool} {step ostep start ostart : Int} (C : CrOk a.post a.stride b.post b.stride emp step ostep start ostart) (he : emp = false) {early : Bool} {cb : Option Int} {k : Int} :
    HitB a b early cb k ↔ ∃ m, k = start + m * step ∧ 0 ≤ m ∧ Fit (fbConds a.day b.day step ostep start ostart early cb) m := by
  have fit : ∀ m, Fit (fbConds a.day b.day step ostep start ostart early cb) m ↔ (0 ≤ ostart + m * ostep ∧ 0 ≤ (a.day + start - b.day - ostart - (if early = true then 0 else 1)) + m * (step - ostep)) ∧ ∀ c, cb = some c → 0 ≤ (c - 1 - ostart) + m * (-ostep) := by
    intro m
    unfold fbConds
    rw [List.cons_append, fit_cons, List.cons_append, fit_cons, List.nil_append, ← and_assoc]
    refine and_congr Iff.rfl ?_
    cases cb with
    | none => exact ⟨fun _ c z => (nomatch z), fun _ q hq => (nomatch hq)⟩
    | some c =>
      constructor
      · intro h c' z
        injection z with z
        rw [← z]
        exact h (c - 1 - ostart, -ostep) List.mem_cons_self
      · intro h q hq
        rw [List.mem_singleton.mp hq]
        exact h c rfl
  unfold HitB Pt.at_
  constructor
  · rintro ⟨k0, j, j0, jc, e, t⟩
    obtain ⟨m, hk, hj⟩ := (C.all he k j).mp e
    have hm : 0 ≤ m := by
      by_cases q : 0 ≤ m
      · exact q
      · have h1 := Int.mul_le_mul_of_nonneg_right (show m ≤ -1 by omega) (Int.le_of_lt C.pos)
        have := C.hi
        omega
    refine ⟨m, hk, hm, (fit m).mpr ⟨⟨by omega, ?_⟩, fun c z => ?_⟩⟩
    · rw [Int.mul_sub]
      rcases t with t | ⟨t1, t2⟩
      · split <;> omega
      · rw [if_pos t1]
        omega
    · have := jc c z
      rw [Int.mul_neg]
      omega
  · rintro ⟨m, hk, hm, hf⟩
    obtain ⟨⟨f1, f2⟩, f3⟩ := (fit m).mp hf
    have hms := Int.mul_nonneg hm (Int.le_of_lt C.pos)
    have := C.lo
    refine ⟨by omega, ostart + m * ostep, f1, fun c z => ?_, (C.all he _ _).mpr ⟨m, hk, rfl⟩, ?_⟩
    · have := f3 c z
      rw [Int.mul_neg] at this
      omega
    · rw [Int.mul_sub] at f2
      by_cases q : b.day + (ostart + m * ostep) < a.day + k
      · exact .inl q
      · refine .inr ?_
        cases early with
        | true =>
          rw [if_pos rfl] at f2
          exact ⟨rfl, by omega⟩
        | false =>
          rw [if_neg Bool.false_ne_true] at f2
          omega
theorem fb_ok {a b : Pt} {emp : Bool} {step ostep start ostart : Int} (C : CrOk a.post a.stride b.post b.stride emp step ostep start ostart) {early : Bool} {cb : Option Int} :
    FB a b early cb (fbVal a.day b.day emp step ostep start ostart early cb) := by
  unfold fbVal
  cases he : emp with
  | true =>
    rw [if_pos rfl]
    rintro k ⟨_, j, _, _, e, _⟩
    exact C.none_ he k j e
  | false =>
    rw [if_neg Bool.false_ne_true]
    have s := lowOf_spec (fbConds a.day b.day step ostep start ostart early cb)
    cases z : lowOf (fbConds a.day b.day step ostep start ostart early cb) with
    | none =>
      rw [z] at s
      intro k hk
      obtain ⟨m, _, hm, hf⟩ := (fb_iff C he).mp hk
      exact s m ⟨hm, hf⟩
    | some l =>
      rw [z] at s
      refine ⟨(fb_iff C he).mpr ⟨l, rfl, s.1.1, s.1.2⟩, fun k' hk => ?_⟩
      obtain ⟨m, hm, h0, hf⟩ := (fb_iff C he).mp hk
      have h1 := s.2 m ⟨h0, hf⟩
      have h2 := Int.mul_le_mul_of_nonneg_right h1 (Int.le_of_lt C.pos)
      rw [hm]
      show start + l * step ≤ start + m * step
      omega
/-- numbers of stops are bounded -/
theorem fb_le {d1 d2 : Int} {emp : Bool} {step ostep start ostart k : Int} {early : Bool} {cb : Option Int} (h : fbVal d1 d2 emp step ostep start ostart early cb = some k)
    (h1 : 0 ≤ d1 ∧ d1 ≤ 10 ^ 31) (h2 : 0 ≤ d2 ∧ d2 ≤ 10 ^ 31) (h3 : 0 < step ∧ step ≤ 10 ^ 18) (h4 : 0 ≤ start ∧ start < step) (h5 : -(10 ^ 40) ≤ ostart ∧ ostart ≤ 10 ^ 40) (h6 : ∀ c, cb = some c → 0 ≤ c) : 0 ≤ k ∧ k ≤ 10 ^ 60 := by
  unfold fbVal at h
  cases emp with
  | true =>
    rw [if_pos rfl] at h
    cases h
  | false =>
    rw [if_neg Bool.false_ne_true] at h
    cases z : lowOf (fbConds d1 d2 step ostep start ostart early cb) with
    | none =>
      rw [z] at h
      cases h
    | some l =>
      rw [z] at h
      injection h with h
      have s := lowOf_spec (fbConds d1 d2 step ostep start ostart early cb)
      rw [z] at s
      have hl0 : 0 ≤ l := s.1.1
      have hl : l ≤ 10 ^ 41 := by
        refine lowOf_le (by decide) (fun q hq _ => ?_) z
        unfold fbConds at hq
        rcases List.mem_append.mp hq with hq | hq
        · rcases List.mem_cons.mp hq with e | hq
          · rw [e]
            show -(10 ^ 41) ≤ ostart
            omega
          · rw [List.mem_singleton.mp hq]
            show -(10 ^ 41) ≤ d1 + start - d2 - ostart - (if early = true then 0 else 1)
            split <;> omega
        · cases cb with
          | none => exact nomatch hq
          | some c =>
            rw [List.mem_singleton.mp hq]
            have := h6 c rfl
            show -(10 ^ 41) ≤ c - 1 - ostart
            omega
      have a1 := Int.mul_nonneg hl0 (Int.le_of_lt h3.1)
      have a2 := Int.mul_le_mul hl h3.2 (Int.le_of_lt h3.1) (by decide)
      have : start + l * step = k := h
      have e : (10 : Int) ^ 41 * 10 ^ 18 = 10 ^ 59 := by decide
      omega
end PM
end
section
set_option linter.all false
/-! posts of pieces, counted -/
namespace PM
/-- x is a post of the piece -/
def Mem (p s : Int) (c : Option Int) (x : Int) : Prop := ∃ k, 0 ≤ k ∧ (∀ z, c = some z → k < z) ∧ p + k * s = x
theorem ediv_pred {y s : Int} (hs : 0 < s) : (y - 1) / s = if y % s = 0 then y / s - 1 else y / s := by
  have e1 := Int.emod_add_mul_ediv y s
  have e2 := Int.emod_nonneg y (show s ≠ 0 by omega)
  have e3 := Int.emod_lt_of_pos y hs
  by_cases h : y % s = 0
  · rw [if_pos h]
    have : y - 1 = (s - 1) + s * (y / s - 1) := by rw [Int.mul_sub]; omega
    rw [this, Int.add_mul_ediv_left _ _ (by omega), Int.ediv_eq_zero_of_lt (by omega) (by omega)]
    omega
  · rw [if_neg h]
    have : y - 1 = (y % s - 1) + s * (y / s) := by omega
    rw [this, Int.add_mul_ediv_left _ _ (by omega), Int.ediv_eq_zero_of_lt (by omega) (by omega)]
    omega
theorem mem_pos {p s x : Int} {c : Option Int} (hs : 0 < s) : Mem p s c x ↔ (x - p) % s = 0 ∧ 0 ≤ (x - p) / s ∧ ∀ z, c = some z → (x - p) / s < z := by
  constructor
  · rintro ⟨k, k0, kc, e⟩
    have : x - p = s * k := by rw [Int.mul_comm]; omega
    rw [this, Int.mul_emod_right, Int.mul_ediv_cancel_left _ (by omega)]
    exact ⟨rfl, k0, kc⟩
  · rintro ⟨h1, h2, h3⟩
    refine ⟨(x - p) / s, h2, h3, ?_⟩
    have e1 := Int.emod_add_mul_ediv (x - p) s
    rw [Int.mul_comm]
    omega
theorem mem_neg {p s x : Int} {c : Option Int} (hs : s < 0) : Mem p s c x ↔ (x - p) % (-s) = 0 ∧ 0 ≤ -((x - p) / (-s)) ∧ ∀ z, c = some z → -((x - p) / (-s)) < z := by
  constructor
  · rintro ⟨k, k0, kc, e⟩
    have : x - p = (-s) * (-k) := by rw [Int.neg_mul_neg, Int.mul_comm]; omega
    rw [this, Int.mul_emod_right, Int.mul_ediv_cancel_left _ (by omega), Int.neg_neg]
    exact ⟨rfl, k0, kc⟩
  · rintro ⟨h1, h2, h3⟩
    refine ⟨-((x - p) / (-s)), h2, h3, ?_⟩
    have e1 := Int.emod_add_mul_ediv (x - p) (-s)
    rw [Int.neg_mul]
    rw [Int.neg_mul, Int.mul_comm] at e1
    omega
theorem pc_nn (p s : Int) (c : Option Int) (lo hi : Int) : 0 ≤ pc p s c lo hi := by unfold pc; omega
/-- one more post -/
theorem pc_step {p s : Int} {c : Option Int} {lo x : Int} (hs : s ≠ 0) (hx : lo ≤ x) : (Mem p s c x ∧ pc p s c lo x = pc p s c lo (x - 1) + 1) ∨ (¬ Mem p s c x ∧ pc p s c lo x = pc p s c lo (x - 1)) := by
  by_cases hp : 0 < s
  · have h1 := ediv_pred (y := x - p) hp
    have h2 : x - p - 1 = x - 1 - p := by omega
    rw [h2] at h1
    -- the lowest number
    have hlow : (x - p) / s ≥ -((p - lo) / s) - (if (x - p) % s = 0 then 0 else 1) := by
      have q := (fit_pos (b := p - lo) (m := (x - p) / s + (if (x - p) % s = 0 then 0 else 1)) hp)
      have e1 := Int.emod_add_mul_ediv (x - p) s
      have e2 := Int.emod_nonneg (x - p) (show s ≠ 0 by omega)
      have e3 := Int.emod_lt_of_pos (x - p) hp
      have : 0 ≤ (p - lo) + ((x - p) / s + (if (x - p) % s = 0 then 0 else 1)) * s := by
        rw [Int.add_mul, Int.mul_comm ((x - p) / s)]
        split <;> omega
      have := q.mp this
      omega
    unfold pc pcH nbLo nbHi
    rw [if_pos hp, if_pos hp, if_pos hp, h1, mem_pos hp]
    generalize (x - p) / s = q at *
    generalize -((p - lo) / s) = l at *
    by_cases hr : (x - p) % s = 0
    · rw [if_pos hr] at hlow ⊢
      cases c with
      | none =>
        by_cases h0 : 0 ≤ q
        · exact .inl ⟨⟨hr, h0, fun z e => nomatch e⟩, by simp only; omega⟩
        · exact .inr ⟨fun h => h0 h.2.1, by simp only; omega⟩
      | some c =>
        by_cases h0 : 0 ≤ q ∧ q < c
        · exact .inl ⟨⟨hr, h0.1, fun z e => by injection e with e; omega⟩, by simp only; omega⟩
        · exact .inr ⟨fun h => h0 ⟨h.2.1, h.2.2 c rfl⟩, by simp only; omega⟩
    · rw [if_neg hr] at hlow ⊢
      exact .inr ⟨fun h => hr h.1, by rw [if_pos hp]⟩
  · have hn : s < 0 := by omega
    have h1 := ediv_pred (y := x - p) (s := -s) (by omega)
    have h2 : x - p - 1 = x - 1 - p := by omega
    rw [h2] at h1
    have hlow : -((x - p) / (-s)) ≤ (p - lo) / (-s) + (if (x - p) % (-s) = 0 then 0 else 1) := by
      have q := (fit_neg (b := p - lo) (m := -((x - p) / (-s)) - (if (x - p) % (-s) = 0 then 0 else 1)) hn)
      have e1 := Int.emod_add_mul_ediv (x - p) (-s)
      have e2 := Int.emod_nonneg (x - p) (show -s ≠ 0 by omega)
      have e3 := Int.emod_lt_of_pos (x - p) (show 0 < -s by omega)
      have : 0 ≤ (p - lo) + (-((x - p) / (-s)) - (if (x - p) % (-s) = 0 then 0 else 1)) * s := by
        have e4 : -((x - p) / (-s)) * s = (-s) * ((x - p) / (-s)) := by rw [Int.neg_mul, Int.neg_mul, Int.mul_comm]
        rw [Int.sub_mul, e4]
        split <;> omega
      have := q.mp this
      omega
    unfold pc pcH nbLo nbHi
    rw [if_neg hp, if_neg hp, if_neg hp, h1, mem_neg hn]
    generalize (x - p) / (-s) = q at *
    generalize (p - lo) / (-s) = l at *
    by_cases hr : (x - p) % (-s) = 0
    · rw [if_pos hr] at hlow ⊢
      cases c with
      | none =>
        by_cases h0 : 0 ≤ -q
        · exact .inl ⟨⟨hr, h0, fun z e => nomatch e⟩, by simp only; omega⟩
        · exact .inr ⟨fun h => h0 h.2.1, by simp only; omega⟩
      | some c =>
        by_cases h0 : 0 ≤ -q ∧ -q < c
        · exact .inl ⟨⟨hr, h0.1, fun z e => by injection e with e; omega⟩, by simp only; omega⟩
        · exact .inr ⟨fun h => h0 ⟨h.2.1, h.2.2 c rfl⟩, by simp only; omega⟩
    · rw [if_neg hr] at hlow ⊢
      exact .inr ⟨fun h => hr h.1, by rw [if_neg hp]⟩
theorem pc_empty {p s : Int} {c : Option Int} {lo : Int} (hs : s ≠ 0) : pc p s c lo (lo - 1) = 0 := by
  by_cases hp : 0 < s
  · have h : (lo - 1 - p) / s < -((p - lo) / s) := by
      by_cases q : (lo - 1 - p) / s < -((p - lo) / s)
      · exact q
      · have h1 := (fit_pos (b := p - lo) (m := (lo - 1 - p) / s) hp).mpr (by omega)
        have e1 := Int.emod_add_mul_ediv (lo - 1 - p) s
        have e2 := Int.emod_nonneg (lo - 1 - p) (show s ≠ 0 by omega)
        rw [Int.mul_comm] at h1
        omega
    unfold pc pcH nbLo nbHi
    rw [if_pos hp, if_pos hp]
    cases c <;> simp only <;> omega
  · have hn : s < 0 := by omega
    have h : (p - lo) / (-s) < -((lo - 1 - p) / (-s)) := by
      by_cases q : (p - lo) / (-s) < -((lo - 1 - p) / (-s))
      · exact q
      · have h1 := (fit_neg (b := p - lo) (m := -((lo - 1 - p) / (-s))) hn).mpr (by omega)
        have e1 := Int.emod_add_mul_ediv (lo - 1 - p) (-s)
        have e2 := Int.emod_nonneg (lo - 1 - p) (show -s ≠ 0 by omega)
        have e4 : -((lo - 1 - p) / (-s)) * s = (-s) * ((lo - 1 - p) / (-s)) := by rw [Int.neg_mul, Int.neg_mul, Int.mul_comm]
        rw [e4] at h1
        omega
    unfold pc pcH nbLo nbHi
    rw [if_neg hp, if_neg hp]
    cases c <;> simp only <;> omega
/-! ### sums -/
abbrev Piece := Int × Int × Option Int
def pcs (l : List Piece) (lo hi : Int) : Int := (l.map fun q => pc q.1 q.2.1 q.2.2 lo hi).sum
def AllNZ (l : List Piece) : Prop := ∀ q, q ∈ l → q.2.1 ≠ 0
def MemP (q : Piece) (x : Int) : Prop := Mem q.1 q.2.1 q.2.2 x
/-- no post is in two pieces of the list -/
def Apart (l : List Piece) : Prop := ∀ (i j : Nat) (q r : Piece) (x : Int), l[i]? = some q → l[j]? = some r → MemP q x → MemP r x → i = j
theorem pcs_cons (q : Piece) (l : List Piece) (lo hi : Int) : pcs (q :: l) lo hi = pc q.1 q.2.1 q.2.2 lo hi + pcs l lo hi := by
  unfold pcs
  rw [List.map_cons, List.sum_cons]
theorem pcs_nn (l : List Piece) (lo hi : Int) : 0 ≤ pcs l lo hi := by
  induction l with
  | nil => exact Int.le_refl 0
  | cons q l ih =>
    rw [pcs_cons]
    have := pc_nn q.1 q.2.1 q.2.2 lo hi
    omega
theorem pcs_empty {l : List Piece} (h : AllNZ l) {lo : Int} : pcs l lo (lo - 1) = 0 := by
  induction l with
  | nil => rfl
  | cons q l ih =>
    rw [pcs_cons, ih fun r hr => h r (List.mem_cons_of_mem _ hr), pc_empty (h q List.mem_cons_self)]
    rfl
theorem Apart.tail {q : Piece} {l : List Piece} (h : Apart (q :: l)) : Apart l := fun i j a b x ha hb ma mb => by
  have := h (i + 1) (j + 1) a b x (by simpa using ha) (by simpa using hb) ma mb
  omega
theorem pcs_none {l : List Piece} (h : AllNZ l) {lo x : Int} (hx : lo ≤ x) (hm : ∀ q, q ∈ l → ¬ MemP q x) : pcs l lo x = pcs l lo (x - 1) := by
  induction l with
  | nil => rfl
  | cons q l ih =>
    rw [pcs_cons, pcs_cons, ih (fun r hr => h r (List.mem_cons_of_mem _ hr)) fun r hr => hm r (List.mem_cons_of_mem _ hr)]
    rcases pc_step (c := q.2.2) (p := q.1) (h q List.mem_cons_self) hx with ⟨m, _⟩ | ⟨_, e⟩
    · exact absurd m (hm q List.mem_cons_self)
    · rw [e]
theorem pcs_step {l : List Piece} (h : AllNZ l) (ha : Apart l) {lo x : Int} (hx : lo ≤ x) : ((∃ q, q ∈ l ∧ MemP q x) ∧ pcs l lo x = pcs l lo (x - 1) + 1) ∨ ((∀ q, q ∈ l → ¬ MemP q x) ∧ pcs l lo x = pcs l lo (x - 1)) := by
  induction l with
  | nil => exact .inr ⟨fun q hq => (nomatch hq), rfl⟩
  | cons q l ih =>
    have h' : AllNZ l := fun r hr => h r (List.mem_cons_of_mem _ hr)
    rw [pcs_cons, pcs_cons]
    rcases pc_step (c := q.2.2) (p := q.1) (h q List.mem_cons_self) hx with ⟨m, e⟩ | ⟨m, e⟩
    · have hn : ∀ r, r ∈ l → ¬ MemP r x := fun r hr mr => by
        obtain ⟨j, hj, ej⟩ := List.mem_iff_getElem.mp hr
        have := ha 0 (j + 1) q r x rfl (by simp [List.getElem?_eq_getElem hj, ej]) m mr
        omega
      rw [e, pcs_none h' hx hn]
      exact .inl ⟨⟨q, List.mem_cons_self, m⟩, by omega⟩
    · rw [e]
      rcases ih h' ha.tail with ⟨⟨r, hr, mr⟩, e2⟩ | ⟨hn, e2⟩
      · exact .inl ⟨⟨r, List.mem_cons_of_mem _ hr, mr⟩, by omega⟩
      · refine .inr ⟨fun r hr => ?_, by omega⟩
        rcases List.mem_cons.mp hr with z | z
        · rw [z]
          exact m
        · exact hn r z
theorem pc_mono1 {p s : Int} {c : Option Int} {lo x : Int} (hs : s ≠ 0) (hx : lo ≤ x) : pc p s c lo (x - 1) ≤ pc p s c lo x := by
  rcases pc_step (c := c) (p := p) hs hx with ⟨_, e⟩ | ⟨_, e⟩ <;> omega
theorem pcs_mono1 {l : List Piece} (h : AllNZ l) {lo x : Int} (hx : lo ≤ x) : pcs l lo (x - 1) ≤ pcs l lo x := by
  induction l with
  | nil => exact Int.le_refl _
  | cons q l ih =>
    rw [pcs_cons, pcs_cons]
    have h1 := ih fun r hr => h r (List.mem_cons_of_mem _ hr)
    have h2 := pc_mono1 (c := q.2.2) (p := q.1) (h q List.mem_cons_self) hx
    omega
theorem pcs_mono {l : List Piece} (h : AllNZ l) {lo x y : Int} (hx : lo - 1 ≤ x) (hy : x ≤ y) : pcs l lo x ≤ pcs l lo y := by
  obtain ⟨d, hd⟩ : ∃ d : Nat, y = x + d := ⟨(y - x).toNat, by omega⟩
  subst hd
  induction d with
  | zero => simp
  | succ d ih =>
    have h1 := ih (by omega)
    have h2 := pcs_mono1 h (lo := lo) (x := x + ((d + 1 : Nat) : Int)) (by omega)
    have e : x + ((d + 1 : Nat) : Int) - 1 = x + (d : Int) := by omega
    rw [e] at h2
    omega
theorem pc_mono {p s : Int} {c : Option Int} (hs : s ≠ 0) {lo x y : Int} (hx : lo - 1 ≤ x) (hy : x ≤ y) : pc p s c lo x ≤ pc p s c lo y := by
  have h := pcs_mono (l := [(p, s, c)]) (fun q hq => by rw [List.mem_singleton.mp hq]; exact hs) hx hy
  rw [pcs_cons, pcs_cons] at h
  have e : ∀ z, pcs [] lo z = 0 := fun _ => rfl
  rw [e, e] at h
  simpa using h
theorem pc_le_pcs {l : List Piece} {q : Piece} (hq : q ∈ l) (lo hi : Int) : pc q.1 q.2.1 q.2.2 lo hi ≤ pcs l lo hi := by
  induction l with
  | nil => cases hq
  | cons r l ih =>
    rw [pcs_cons]
    have h1 := pc_nn r.1 r.2.1 r.2.2 lo hi
    have h2 := pcs_nn l lo hi
    rcases List.mem_cons.mp hq with e | e
    · rw [e]
      omega
    · have := ih e
      omega
/-! ### the search -/
/-- the end of the search that a piece asks for -/
def endP (q : Piece) (post index : Int) : Int := match q.2.2 with
  | none => if q.2.1 < 0 then q.1 else (if q.1 > post then q.1 else post) + q.2.1 * (index + 1)
  | some c => q.1 + (if (c - 1) * q.2.1 > 0 then (c - 1) * q.2.1 else 0)
/-- what a search finds -/
def Found (l : List Piece) (post index : Int) : Option Int → Prop
  | none => ∀ E, pcs l post E ≤ index
  | some x => post ≤ x ∧ index < pcs l post x ∧ ∀ y, post ≤ y → y < x → pcs l post y ≤ index
/-- an endless piece to the right is enough -/
theorem endless {p s post index : Int} (hs : 0 < s) (hi : 0 ≤ index) : index < pc p s none post ((if p > post then p else post) + s * (index + 1)) := by
  generalize hm : (if p > post then p else post) = m
  have h1 : p ≤ m := by rw [← hm]; split <;> omega
  have h2 : post ≤ m := by rw [← hm]; split <;> omega
  have h3 : m = p ∨ m = post := by rw [← hm]; split <;> simp
  unfold pc pcH nbLo nbHi
  rw [if_pos hs, if_pos hs]
  simp only
  have a1 := Int.emod_add_mul_ediv (m + s * (index + 1) - p) s
  have a2 := Int.emod_lt_of_pos (m + s * (index + 1) - p) hs
  have a3 : (m + s * (index + 1) - p) / s = (m - p) / s + (index + 1) := by
    rw [show m + s * (index + 1) - p = (m - p) + s * (index + 1) by omega, Int.add_mul_ediv_left _ _ (by omega)]
  rw [a3]
  have a4 : 0 ≤ (m - p) / s := Int.ediv_nonneg (by omega) (by omega)
  have a5 : -((p - post) / s) ≤ (m - p) / s + 1 := by
    refine (fit_pos hs).mp ?_
    have e1 := Int.emod_add_mul_ediv (m - p) s
    have e3 := Int.emod_lt_of_pos (m - p) hs
    rw [Int.add_mul, Int.one_mul, Int.mul_comm]
    omega
  omega
/-- behind its end no other piece has a post -/
theorem behind {q : Piece} {post index x : Int} (hs : q.2.1 ≠ 0) (hn : ¬ (q.2.2 = none ∧ 0 < q.2.1)) (hx : endP q post index < x) : ¬ MemP q x := by
  obtain ⟨p, s, c⟩ := q
  rintro ⟨k, k0, kc, e⟩
  have e : p + k * s = x := e
  have hs : s ≠ 0 := hs
  cases c with
  | none =>
    have hs0 : s < 0 := by
      by_cases h : 0 < s
      · exact absurd ⟨rfl, h⟩ hn
      · omega
    have hx : (if s < 0 then p else (if p > post then p else post) + s * (index + 1)) < x := hx
    rw [if_pos hs0] at hx
    have := Int.mul_nonpos_of_nonneg_of_nonpos k0 (Int.le_of_lt hs0)
    omega
  | some c =>
    have hk := kc c rfl
    have hx : p + (if (c - 1) * s > 0 then (c - 1) * s else 0) < x := hx
    by_cases h : 0 < s
    · have h1 := Int.mul_le_mul_of_nonneg_right (show k ≤ c - 1 by omega) (Int.le_of_lt h)
      split at hx <;> omega
    · have := Int.mul_nonpos_of_nonneg_of_nonpos k0 (show s ≤ 0 by omega)
      split at hx <;> omega
/-- nothing up to the ends: nothing anywhere -/
theorem found_none {l : List Piece} (h : AllNZ l) {post index E : Int} (hi : 0 ≤ index) (hE : post ≤ E) (he : ∀ q, q ∈ l → endP q post index ≤ E) (hn : pcs l post E ≤ index) : Found l post index none ∧ ∀ q, q ∈ l → ¬ (q.2.2 = none ∧ 0 < q.2.1) := by
  have fin : ∀ q, q ∈ l → ¬ (q.2.2 = none ∧ 0 < q.2.1) := by
    rintro q hq ⟨h1, h2⟩
    have e1 := he q hq
    have e2 := endless (p := q.1) (post := post) h2 hi
    have e3 : endP q post index = (if q.1 > post then q.1 else post) + q.2.1 * (index + 1) := by
      unfold endP
      rw [h1]
      show (if q.2.1 < 0 then q.1 else (if q.1 > post then q.1 else post) + q.2.1 * (index + 1)) = _
      rw [if_neg (by omega)]
    rw [e3] at e1
    have e4 := pc_mono (p := q.1) (s := q.2.1) (c := none) (by omega) (lo := post) (x := (if q.1 > post then q.1 else post) + q.2.1 * (index + 1)) (y := E) (by
      have := Int.mul_nonneg (Int.le_of_lt h2) (show 0 ≤ index + 1 by omega)
      split <;> omega) e1
    have e5 := pc_le_pcs hq post E
    rw [h1] at e5
    omega
  refine ⟨fun F => ?_, fin⟩
  by_cases hF : F ≤ E
  · by_cases hp : post - 1 ≤ F
    · have := pcs_mono h hp hF
      omega
    · have e : ∀ q, q ∈ l → pc q.1 q.2.1 q.2.2 post F = 0 := by
        intro q hq
        have z : pc q.1 q.2.1 q.2.2 post F ≤ pc q.1 q.2.1 q.2.2 post (post - 1) := by
          have hs := h q hq
          unfold pc pcH nbLo nbHi
          by_cases hp2 : 0 < q.2.1
          · rw [if_pos hp2, if_pos hp2, if_pos hp2]
            have := Int.ediv_le_ediv hp2 (show F - q.1 ≤ post - 1 - q.1 by omega)
            cases q.2.2 <;> simp only <;> omega
          · rw [if_neg hp2, if_neg hp2, if_neg hp2]
            have := Int.ediv_le_ediv (show 0 < -q.2.1 by omega) (show F - q.1 ≤ post - 1 - q.1 by omega)
            cases q.2.2 <;> simp only <;> omega
        rw [pc_empty (h q hq)] at z
        have := pc_nn q.1 q.2.1 q.2.2 post F
        omega
      have : pcs l post F = 0 := by
        clear he hn fin h
        induction l with
        | nil => rfl
        | cons r l ih =>
          rw [pcs_cons, ih fun q hq => e q (List.mem_cons_of_mem _ hq), e r List.mem_cons_self]
          rfl
      omega
  · obtain ⟨d, hd⟩ : ∃ d : Nat, F = E + d := ⟨(F - E).toNat, by omega⟩
    subst hd
    have : pcs l post (E + (d : Int)) = pcs l post E := by
      clear hF
      induction d with
      | zero => simp
      | succ d ih =>
        rw [← ih, pcs_none h (by omega) fun q hq => behind (post := post) (index := index) (h q hq) (fin q hq) (by have := he q hq; omega)]
        congr 1
        omega
    omega
/-- with pieces apart, the post that is found is a post of theirs, and the count is exact -/
theorem found_some {l : List Piece} (h : AllNZ l) (ha : Apart l) {post index x : Int} (hi : 0 ≤ index) (f : Found l post index (some x)) : (∃ q, q ∈ l ∧ MemP q x) ∧ pcs l post x = index + 1 := by
  obtain ⟨f1, f2, f3⟩ := f
  have h0 : pcs l post (x - 1) ≤ index := by
    by_cases hx : post ≤ x - 1
    · exact f3 (x - 1) hx (by omega)
    · have : x - 1 = post - 1 := by omega
      rw [this, pcs_empty h]
      exact hi
  rcases pcs_step h ha f1 with ⟨m, e⟩ | ⟨m, e⟩
  · exact ⟨m, by omega⟩
  · omega
/-! ### a window of ninety posts -/
/-- which of the first m posts, from one on, are in a piece -/
def winL (P : Int → Bool) (post : Int) (m : Nat) : List Int := (((List.range m).map fun k : Nat => post + ((k : Nat) : Int)).filter P)
theorem winL_succ (P : Int → Bool) (post : Int) (m : Nat) : winL P post (m + 1) = winL P post m ++ (if P (post + (m : Int)) = true then [post + (m : Int)] else []) := by
  unfold winL
  rw [List.range_succ, List.map_append, List.filter_append]
  congr 1
  simp only [List.map_cons, List.map_nil, List.filter_cons, List.filter_nil]
theorem win_len {l : List Piece} (h : AllNZ l) (ha : Apart l) {P : Int → Bool} {post : Int} {M : Nat} (hP : ∀ k : Nat, k < M → (P (post + (k : Int)) = true ↔ ∃ q, q ∈ l ∧ MemP q (post + (k : Int)))) : ∀ m : Nat, m ≤ M → pcs l post (post + (m : Int) - 1) = ((winL P post m).length : Int) := by
  intro m
  induction m with
  | zero =>
    intro _
    rw [show post + ((0 : Nat) : Int) - 1 = post - 1 by simp, pcs_empty h]
    rfl
  | succ m ih =>
    intro hm
    have h1 := ih (by omega)
    have e1 : post + ((m + 1 : Nat) : Int) - 1 = post + (m : Int) := by omega
    rw [winL_succ, List.length_append, e1]
    rcases pcs_step h ha (lo := post) (x := post + (m : Int)) (by omega) with ⟨q, e⟩ | ⟨q, e⟩
    · rw [if_pos ((hP m (by omega)).mpr q)]
      simp only [List.length_cons, List.length_nil]
      omega
    · have : ¬ P (post + (m : Int)) = true := fun z => by
        obtain ⟨r, hr, mr⟩ := (hP m (by omega)).mp z
        exact q r hr mr
      rw [if_neg this]
      simp only [List.length_nil]
      omega
theorem win_get {P : Int → Bool} {post x : Int} {i : Nat} : ∀ {m : Nat}, (winL P post m)[i]? = some x → ∃ k : Nat, k < m ∧ x = post + (k : Int) ∧ P x = true ∧ (winL P post k).length = i
  | 0, e => by
    have : (winL P post 0)[i]? = none := by unfold winL; simp
    rw [this] at e
    cases e
  | m + 1, e => by
    rw [winL_succ] at e
    by_cases hi : i < (winL P post m).length
    · rw [List.getElem?_append_left hi] at e
      obtain ⟨k, hk, r⟩ := win_get e
      exact ⟨k, by omega, r⟩
    · rw [List.getElem?_append_right (by omega)] at e
      by_cases hp : P (post + (m : Int)) = true
      · rw [if_pos hp] at e
        have h0 : i - (winL P post m).length = 0 := by
          have := (List.getElem?_eq_some_iff.mp e).1
          simp only [List.length_cons, List.length_nil] at this
          omega
        rw [h0] at e
        simp only [List.getElem?_cons_zero, Option.some.injEq] at e
        exact ⟨m, by omega, e.symm, by rw [← e]; exact hp, by omega⟩
      · rw [if_neg hp] at e
        simp at e
/-- a small piece with a post behind the window has at least eight within -/
theorem far_piece {q : Piece} {post x : Int} (h1 : -8 ≤ q.1 ∧ q.1 ≤ 8) (h2 : -6 ≤ q.2.1 ∧ q.2.1 ≤ 6 ∧ q.2.1 ≠ 0) (h3 : -12 ≤ post ∧ post ≤ 12) (hx : post + 89 < x) (m : MemP q x) : 8 ≤ pc q.1 q.2.1 q.2.2 post (post + 89) := by
  obtain ⟨p, s, c⟩ := q
  obtain ⟨k, k0, kc, e⟩ := m
  have e : p + k * s = x := e
  have h1 : -8 ≤ p ∧ p ≤ 8 := h1
  have h2 : -6 ≤ s ∧ s ≤ 6 ∧ s ≠ 0 := h2
  have hs : 0 < s := by
    by_cases h : 0 < s
    · exact h
    · have := Int.mul_nonpos_of_nonneg_of_nonpos k0 (show s ≤ 0 by omega)
      omega
  have main : ∀ hh : Int, (post + 89 - p) / s ≤ hh → 8 ≤ max 0 (hh - max (-((p - post) / s)) 0 + 1) := by
    intro hh h
    have : s = 1 ∨ s = 2 ∨ s = 3 ∨ s = 4 ∨ s = 5 ∨ s = 6 := by omega
    rcases this with rfl | rfl | rfl | rfl | rfl | rfl <;> omega
  have hk : (post + 89 - p) / s < k := by
    rw [Int.ediv_lt_iff_lt_mul hs]
    omega
  show 8 ≤ pc p s c post (post + 89)
  unfold pc pcH nbLo nbHi
  rw [if_pos hs, if_pos hs]
  cases c with
  | none => exact main _ (Int.le_refl _)
  | some c =>
    have := kc c rfl
    refine main _ ?_
    show _ ≤ min _ _
    omega
/-- what the window tells is what is found -/
theorem win_found {l : List Piece} (h : AllNZ l) (ha : Apart l) (hl : ∀ q, q ∈ l → (-8 ≤ q.1 ∧ q.1 ≤ 8) ∧ (-6 ≤ q.2.1 ∧ q.2.1 ≤ 6 ∧ q.2.1 ≠ 0)) {P : Int → Bool} {post : Int} (h3 : -12 ≤ post ∧ post ≤ 12)
    (hP : ∀ k : Nat, k < 90 → (P (post + (k : Int)) = true ↔ ∃ q, q ∈ l ∧ MemP q (post + (k : Int)))) {index : Nat} (hi : index < 8) {r : Option Int} (f : Found l post (index : Int) r) : r = (winL P post 90)[index]? := by
  have len := win_len h ha hP
  cases e : (winL P post 90)[index]? with
  | none =>
    have hn : (winL P post 90).length ≤ index := List.getElem?_eq_none_iff.mp e
    have h90 := len 90 (Nat.le_refl _)
    have e2 : post + ((90 : Nat) : Int) - 1 = post + 89 := by omega
    rw [e2] at h90
    cases r with
    | none => rfl
    | some x =>
      exfalso
      obtain ⟨⟨q, hq, mq⟩, _⟩ := found_some h ha (by omega) f
      obtain ⟨f1, f2, f3⟩ := f
      have hx : post + 89 < x := by
        by_cases hh : post + 89 < x
        · exact hh
        · have := pcs_mono h (lo := post) (x := x) (y := post + 89) (by omega) (by omega)
          omega
      have h8 := far_piece (hl q hq).1 (hl q hq).2 h3 hx mq
      have := pc_le_pcs hq post (post + 89)
      omega
  | some x =>
    obtain ⟨k, hk, hx, px, hlen⟩ := win_get e
    have h1 := len k (by omega)
    have h2 := len (k + 1) (by omega)
    rw [winL_succ, List.length_append, ← hx, if_pos px] at h2
    simp only [List.length_cons, List.length_nil] at h2
    have e2 : post + ((k + 1 : Nat) : Int) - 1 = x := by omega
    rw [e2] at h2
    cases r with
    | none =>
      have := f x
      omega
    | some y =>
      obtain ⟨f1, f2, f3⟩ := f
      by_cases hy : y < x
      · exfalso
        have := pcs_mono h (lo := post) (x := y) (y := post + (k : Int) - 1) (by omega) (by omega)
        omega
      · by_cases hy2 : x < y
        · have := f3 x (by omega) hy2
          omega
        · have : y = x := by omega
          rw [this]
end PM
end
section
set_option linter.all false
/-! the pieces of a history; the walk day by day; the inverse -/
namespace PM
/-- the count by a day -/
def cntD (d0 : Int) (c : Option Int) : Option Int → Option Int
  | none => c
  | some d => some (match c with
    | none => max 0 (d - d0 + 1)
    | some c => min c (max 0 (d - d0 + 1)))
def partOf (p : Pt) (c : Option Int) (day : Option Int) : Piece := (p.post, p.stride, cntD p.day c day)
def partsOf (n : Nat) (p : Nat → Pt) (L : Nat → Option Int) (day : Option Int) : List Piece := (List.range n).map fun a => partOf (p a) (L a) day
def oppP (q : Piece) : Piece := (-q.1, -q.2.1, q.2.2)
theorem cntD_iff {d0 : Int} {c day : Option Int} {k : Int} (h0 : 0 ≤ k) : (∀ z, cntD d0 c day = some z → k < z) ↔ ((∀ z, c = some z → k < z) ∧ ∀ d, day = some d → d0 + k ≤ d) := by
  cases day with
  | none => exact ⟨fun h => ⟨h, fun d z => nomatch z⟩, fun h => h.1⟩
  | some d =>
    cases c with
    | none =>
      constructor
      · intro h
        have := h _ rfl
        simp only at this
        exact ⟨fun z e => (nomatch e), fun d' e => by injection e with e; omega⟩
      · rintro ⟨_, h⟩ z e
        have := h d rfl
        have e : max 0 (d - d0 + 1) = z := by injection e
        omega
    | some c =>
      constructor
      · intro h
        have := h _ rfl
        simp only at this
        exact ⟨fun z e => by injection e with e; omega, fun d' e => by injection e with e; omega⟩
      · rintro ⟨h1, h2⟩ z e
        have := h1 c rfl
        have := h2 d rfl
        have e : min c (max 0 (d - d0 + 1)) = z := by injection e
        omega
theorem mem_part {n : Nat} {p : Nat → Pt} {L : Nat → Option Int} {a : Nat} {day : Option Int} {x : Int} : MemP (partOf (p a) (L a) day) x ↔ ∃ k, Pa L a k ∧ (p a).at_ k = x ∧ ∀ d, day = some d → (p a).day + k ≤ d := by
  constructor
  · rintro ⟨k, k0, kc, e⟩
    obtain ⟨h1, h2⟩ := (cntD_iff k0).mp kc
    exact ⟨k, ⟨k0, h1⟩, e, h2⟩
  · rintro ⟨k, ⟨k0, h1⟩, e, h2⟩
    exact ⟨k, k0, (cntD_iff k0).mpr ⟨h1, h2⟩, e⟩
theorem parts_get {n : Nat} {p : Nat → Pt} {L : Nat → Option Int} {day : Option Int} {i : Nat} {q : Piece} (h : (partsOf n p L day)[i]? = some q) : i < n ∧ q = partOf (p i) (L i) day := by
  unfold partsOf at h
  rw [List.getElem?_map] at h
  cases e : (List.range n)[i]? with
  | none =>
    rw [e] at h
    cases h
  | some j =>
    rw [e] at h
    obtain ⟨h1, h2⟩ := List.getElem?_eq_some_iff.mp e
    rw [List.getElem_range] at h2
    subst h2
    rw [List.length_range] at h1
    injection h with h
    exact ⟨h1, h.symm⟩
theorem parts_mem {n : Nat} {p : Nat → Pt} {L : Nat → Option Int} {day : Option Int} {q : Piece} : q ∈ partsOf n p L day ↔ ∃ a, a < n ∧ q = partOf (p a) (L a) day := by
  unfold partsOf
  rw [List.mem_map]
  constructor
  · rintro ⟨a, ha, e⟩
    exact ⟨a, List.mem_range.mp ha, e.symm⟩
  · rintro ⟨a, ha, e⟩
    exact ⟨a, List.mem_range.mpr ha, e.symm⟩
theorem parts_apart {n : Nat} {p : Nat → Pt} {L : Nat → Option Int} (h : IsHist n p L) (day : Option Int) : Apart (partsOf n p L day) := by
  intro i j q r x hq hr mq mr
  obtain ⟨hi, rfl⟩ := parts_get hq
  obtain ⟨hj, rfl⟩ := parts_get hr
  obtain ⟨k, pk, ek, _⟩ := (mem_part (n := n)).mp mq
  obtain ⟨k', pk', ek', _⟩ := (mem_part (n := n)).mp mr
  exact pa_apart h hi hj pk pk' (ek.trans ek'.symm)
theorem mem_opp {q : Piece} {x : Int} : MemP (oppP q) x ↔ MemP q (-x) := by
  obtain ⟨p, s, c⟩ := q
  constructor
  · rintro ⟨k, k0, kc, e⟩
    have e : -p + k * -s = x := e
    refine ⟨k, k0, kc, ?_⟩
    show p + k * s = -x
    rw [Int.mul_neg] at e
    omega
  · rintro ⟨k, k0, kc, e⟩
    have e : p + k * s = -x := e
    refine ⟨k, k0, kc, ?_⟩
    show -p + k * -s = x
    rw [Int.mul_neg]
    omega
theorem opp_apart {l : List Piece} (h : Apart l) : Apart (l.map oppP) := by
  intro i j q r x hq hr mq mr
  rw [List.getElem?_map] at hq hr
  cases e : l[i]? with
  | none =>
    rw [e] at hq
    cases hq
  | some a =>
    cases e' : l[j]? with
    | none =>
      rw [e'] at hr
      cases hr
    | some b =>
      rw [e] at hq
      rw [e'] at hr
      injection hq with hq
      injection hr with hr
      subst hq hr
      exact h i j a b (-x) e e' (mem_opp.mp mq) (mem_opp.mp mr)
/-- the mirrored painters -/
def mirP (p : Pt) : Pt := ⟨p.day, -p.post, -p.stride⟩
theorem parts_mir (n : Nat) (p : Nat → Pt) (L : Nat → Option Int) (day : Option Int) : partsOf n (fun a => mirP (p a)) L day = (partsOf n p L day).map oppP := by
  unfold partsOf
  rw [List.map_map]
  rfl
/-! ### the walk day by day -/
section
variable {n : Nat} {p : Nat → Pt} {L : Nat → Option Int}
theorem sim_hit (h : IsHist n p L) {a : Nat} {T : Int} (ha : a < n) (hs : (p a).stride ≠ 0) (hd : (p a).day ≤ T) (hn : ∀ c, L a = some c → T ≤ (p a).day + c) :
    (∃ b j, b < n ∧ Pa L b j ∧ (p b).at_ j = (p a).at_ (T - (p a).day) ∧ ((p b).day + j < T ∨ (b < a ∧ (p b).day + j = T))) ↔ L a = some (T - (p a).day) := by
  have hh := h a ha
  unfold HistAt at hh
  constructor
  · rintro ⟨b, j, hb, pb, e, t⟩
    have hba : b ≠ a := fun z => by
      subst z
      rcases t with t | t
      · unfold Pt.at_ at e
        have e1 : j * (p b).stride = (T - (p b).day) * (p b).stride := by omega
        have := Int.eq_of_mul_eq_mul_right hs e1
        omega
      · omega
    have hit : Hit n p L a (T - (p a).day) := hit_iff.mpr ⟨by omega, b, j, hb, hba, pb, e.symm, by omega⟩
    cases e1 : L a with
    | none =>
      rw [e1] at hh
      exact absurd hit (hh _)
    | some c =>
      rw [e1] at hh
      have h1 := hh.2 _ hit
      have h2 := hn c e1
      have : c = T - (p a).day := by omega
      rw [this]
  · intro e
    rw [e] at hh
    obtain ⟨h0, b, j, hb, hba, pb, e2, t⟩ := hit_iff.mp (And.left (show Least n p L a _ from hh))
    exact ⟨b, j, hb, pb, e2.symm, by omega⟩
theorem sim_paint {a : Nat} {T : Int} (hd : (p a).day ≤ T) (hn : ∀ c, L a = some c → T ≤ (p a).day + c) (hx : ¬ L a = some (T - (p a).day)) : Pa L a (T - (p a).day) := by
  refine ⟨by omega, fun c e => ?_⟩
  have h1 := hn c e
  by_cases q : T - (p a).day < c
  · exact q
  · have : c = T - (p a).day := by omega
    rw [this] at e
    exact absurd e hx
/-- what is painted on a date before T at the post x -/
def PaintedAt (n : Nat) (p : Nat → Pt) (L : Nat → Option Int) (x d : Int) : Prop := ∃ a k, a < n ∧ Pa L a k ∧ (p a).at_ k = x ∧ (p a).day + k = d
theorem painted_uniq (h : IsHist n p L) (hs : ∀ a, a < n → (p a).stride ≠ 0) {x d d' : Int} (h1 : PaintedAt n p L x d) (h2 : PaintedAt n p L x d') : d = d' := by
  obtain ⟨a, k, ha, pa, e, t⟩ := h1
  obtain ⟨b, j, hb, pb, e', t'⟩ := h2
  have hab := pa_apart h ha hb pa pb (e.trans e'.symm)
  subst hab
  unfold Pt.at_ at e e'
  have e1 : k * (p a).stride = j * (p a).stride := by omega
  have := Int.eq_of_mul_eq_mul_right (hs a ha) e1
  omega
/-- a near post is painted early -/
theorem near_early {x d : Int} (hs : ∀ a, a < n → (p a).stride ≠ 0) (hd : ∀ a, a < n → (p a).day ≤ 6) (hp : ∀ a, a < n → -8 ≤ (p a).post ∧ (p a).post ≤ 8) (hx : -101 ≤ x ∧ x ≤ 101) (h : PaintedAt n p L x d) : d ≤ 119 := by
  obtain ⟨a, k, ha, pa, e, t⟩ := h
  have h1 := hs a ha
  have h2 := hd a ha
  have h3 := hp a ha
  have k0 := pa.1
  unfold Pt.at_ at e
  have : k ≤ 109 := by
    by_cases q : k ≤ 109
    · exact q
    · by_cases s0 : 0 < (p a).stride
      · have := Int.mul_le_mul (show (110 : Int) ≤ k by omega) (show (1 : Int) ≤ (p a).stride by omega) (by decide) (by omega)
        omega
      · have := Int.mul_le_mul (show (110 : Int) ≤ k by omega) (show (1 : Int) ≤ -(p a).stride by omega) (by decide) (by omega)
        rw [Int.mul_neg] at this
        omega
  omega
/-- the post x is painted by the day (if any) -/
theorem painted_parts {x : Int} {day : Option Int} : (∃ q, q ∈ partsOf n p L day ∧ MemP q x) ↔ ∃ d, PaintedAt n p L x d ∧ ∀ z, day = some z → d ≤ z := by
  constructor
  · rintro ⟨q, hq, m⟩
    obtain ⟨a, ha, rfl⟩ := parts_mem.mp hq
    obtain ⟨k, pk, e, t⟩ := (mem_part (n := n)).mp m
    exact ⟨_, ⟨a, k, ha, pk, e, rfl⟩, t⟩
  · rintro ⟨d, ⟨a, k, ha, pk, e, rfl⟩, t⟩
    exact ⟨_, parts_mem.mpr ⟨a, ha, rfl⟩, (mem_part (n := n)).mpr ⟨k, pk, e, t⟩⟩
end
/-! ### gcd and inverse, turn by turn -/
theorem gcd_mod {a b : Int} : Int.gcd (a % b) b = Int.gcd a b := by
  have e : a % b = a - b * (a / b) := by have := Int.emod_add_mul_ediv a b; omega
  rw [e, Int.gcd_sub_mul_left_left]
theorem gcd_step {a b : Int} : Int.gcd b (a % b) = Int.gcd a b := by
  rw [Int.gcd_comm b]
  exact gcd_mod
/-- the inverse's state: a, b the rest of the division, x, y the factors -/
structure IvS (n m a b x y : Int) : Prop where
  a0 : 0 ≤ a
  b0 : 0 ≤ b
  g : Int.gcd a b = 1
  da : m ∣ x * n - a
  db : m ∣ y * n - b
  size : absI x * b + absI y * a ≤ m
  hx : absI x ≤ m
  hy : absI y ≤ m
  am : a ≤ m
  bm : b ≤ m
theorem absI_nn (x : Int) : 0 ≤ absI x := by unfold absI; split <;> omega
theorem absI_sub (x t : Int) : absI (x - t) ≤ absI x + absI t := by unfold absI; repeat' split <;> omega
theorem absI_mul {t y : Int} (ht : 0 ≤ t) : absI (t * y) = t * absI y := by
  unfold absI
  by_cases h : y < 0
  · by_cases h2 : t = 0
    · subst h2
      simp
    · have := Int.mul_neg_of_pos_of_neg (show 0 < t by omega) h
      rw [if_pos this, if_pos h, Int.mul_neg]
  · have := Int.mul_nonneg ht (show 0 ≤ y by omega)
    rw [if_neg (by omega), if_neg h]
theorem IvS.start {n m : Int} (hm : 0 < m) (hg : Int.gcd n m = 1) : IvS n m (n % m) m 1 0 := by
  refine ⟨Int.emod_nonneg _ (by omega), by omega, ?_, ?_, ?_, ?_, ?_, ?_, Int.le_of_lt (Int.emod_lt_of_pos n hm), Int.le_refl _⟩
  · rw [← hg]
    exact gcd_mod
  · rw [Int.one_mul]
    exact Int.dvd_self_sub_emod
  · rw [Int.zero_mul, Int.zero_sub]
    exact ⟨-1, by omega⟩
  · have : absI 1 = 1 := rfl
    have h0 : absI 0 = 0 := rfl
    rw [this, h0]
    omega
  · have : absI 1 = 1 := rfl
    omega
  · have h0 : absI 0 = 0 := rfl
    omega
theorem IvS.step {n m a b x y : Int} (I : IvS n m a b x y) (hb : b ≠ 0) : IvS n m b (a - a / b * b) y (x - a / b * y) ∧ (a - a / b * b).toNat < b.toNat ∧ 0 ≤ a / b ∧ a / b ≤ a := by
  have hb0 : 0 < b := by have := I.b0; omega
  have e1 := Int.emod_add_mul_ediv a b
  have e2 := Int.emod_nonneg a hb
  have e3 := Int.emod_lt_of_pos a hb0
  have e4 : a - a / b * b = a % b := by rw [Int.mul_comm]; omega
  have t0 : 0 ≤ a / b := Int.ediv_nonneg I.a0 (by omega)
  have t1 : a / b ≤ a := Int.ediv_le_self _ I.a0
  have hsize : absI y * (a - a / b * b) + absI (x - a / b * y) * b ≤ m := by
    have h1 := absI_sub x (a / b * y)
    rw [absI_mul t0] at h1
    have h2 := Int.mul_le_mul_of_nonneg_right h1 (Int.le_of_lt hb0)
    rw [Int.add_mul] at h2
    have h3 : absI y * (a - a / b * b) = absI y * a - absI y * (a / b * b) := Int.mul_sub _ _ _
    have h4 : a / b * absI y * b = absI y * (a / b * b) := by rw [Int.mul_comm (a / b) (absI y), Int.mul_assoc]
    have := I.size
    omega
  have bm := I.bm
  refine ⟨⟨by omega, by omega, ?_, I.db, ?_, hsize, I.hy, ?_, bm, by omega⟩, by omega, t0, t1⟩
  · rw [e4, gcd_step]
    exact I.g
  · have h := Int.dvd_sub I.da (Int.dvd_mul_of_dvd_right (b := a / b) I.db)
    have e : x * n - a - a / b * (y * n - b) = (x - a / b * y) * n - (a - a / b * b) := by
      rw [Int.mul_sub, Int.sub_mul, Int.mul_assoc]
      omega
    rw [e] at h
    exact h
  · have h1 := absI_nn (x - a / b * y)
    have h2 := Int.mul_le_mul_of_nonneg_left (show (1 : Int) ≤ b by omega) h1
    have h3 := Int.mul_nonneg (absI_nn y) (show 0 ≤ a - a / b * b by omega)
    omega
theorem IvS.end_ {n m a x y : Int} (I : IvS n m a 0 x y) (hm : 0 < m) : (n * (x % m)) % m = 1 % m := by
  have h1 : a = 1 := by
    have := I.g
    rw [Int.gcd_zero_right] at this
    have := I.a0
    omega
  have h2 := I.da
  rw [h1] at h2
  have h3 : (x * n) % m = 1 % m := Int.emod_eq_emod_iff_emod_sub_eq_zero.mpr (Int.emod_eq_zero_of_dvd h2)
  rw [Int.mul_emod, Int.emod_emod_of_dvd _ (Int.dvd_refl m), ← Int.mul_emod, Int.mul_comm]
  exact h3
end PM
end
section
set_option Elab.async false
set_option linter.all false
set_option maxRecDepth 100000
set_option maxHeartbeats 4000000
namespace PK
open PySem PySem.Spec PyProof.Rows L2 PM
local macro_rules | `(tactic| walk_at "sd") => `(tactic| (first
  | assumption
  | omega
  | (constructor <;> omega)
  | (refine ⟨by omega, ?_⟩; constructor <;> omega)
  | (constructor <;> (first | assumption | omega | (constructor <;> omega)))))
local macro_rules | `(tactic| walk_at "w") => `(tactic| (repeat (first
  | with_reducible refine ifTT ?_
  | with_reducible refine ifFT ?_
  | with_reducible refine ifnT ?_
  | with_reducible refine ifnF ?_
  | with_reducible refine ifIN ?_
  | with_reducible refine ifNN ?_
  | with_reducible refine ifnIN ?_
  | with_reducible refine ifnNN ?_
  | with_reducible refine ifRN ?_
  | with_reducible refine ifnRN ?_
  | ((fail_if_success with_reducible refine iteB ?_ ?_); first
    | refine ⟨_, rfl, ?_⟩
    | refine ⟨_, _, rfl, rfl, ?_⟩
    | refine ⟨_, _, rfl, ?_⟩
    | refine And.intro (a := (_ : Nat) ≤ sizeLine) (by first | exact len_small (m := 2) rfl | exact len_small (m := 1) rfl | exact len_small (m := 4) rfl | exact len_small (m := 3) rfl | exact len_small (m := 0) rfl) ?_
    | refine ⟨rfl, ?_⟩
    | refine And.intro (a := CDivP _ _) (by walk_at "sd") ?_
    | refine And.intro (a := CDivB _ _) (by walk_at "sd") ?_
    | refine And.intro (a := CMulB _ _) (by walk_at "sd") ?_
    | refine And.intro (a := _ ≠ (0 : Int)) (by walk_at "sd") ?_
    | refine And.intro (a := (0 : Int) < _) (by walk_at "sd") ?_
    | refine ⟨_, _, rfl, ‹_›, rfl, ?_⟩
    | refine ⟨_, _, _, _, rfl, rfl, ‹_›, rfl, ?_⟩
    | refine ⟨_, _, _, _, _, _, rfl, ‹_›, ‹_›, rfl, ?_⟩
    | refine ⟨_, _, _, _, _, _, rfl, ‹_›, (by exact KCls.f ‹_› rfl), (by rfl), ?_⟩
    | refine ⟨_, _, _, _, _, _, rfl, upd_same, ‹_›, (by rfl), ?_⟩
    | refine ⟨_, _, _, _, rfl, ‹_›, by decide +kernel, ?_⟩
    | refine ⟨_, _, _, rfl, ‹_›, ?_⟩))))
section
variable {P : Program} {w : World} {K : PySem.W.Frag} {mg : Str → Option Value} {base : Heap}
theorem if_abs (i : Int) : (if i < 0 then -i else i) = absI i := rfl
/-! ### the greatest common divisor -/
def spGcd : Sp := fun vs H Q _ => ∃ i j, vs = [.int i, .int j] ∧ Q (.int (Int.gcd i j)) H
theorem sc_greatest_divisor : FnScope ["one", "other"] ["one", "other"] (defScope s_greatest_divisor) := C8.fnScope_by (by decide +kernel)
theorem ok_greatest_divisor {f : Addr} (F : DF K "greatest_divisor" "greatest_divisor" s_greatest_divisor f) (hm : mg "greatest_divisor" = some (.ref f)) (n_abs : mg "abs" = none) :
    C8.Cal P w K mg base 1 "greatest_divisor" spGcd [] := by
  refine cal_of F hm sc_greatest_divisor (fun _ _ _ _ _ _ us hl => match us, hl with | [_, _], _ => rfl) (fun vs H Q E h => ?_) (fun cdv A outer s H vs Q E hr h => ?_)
  · obtain ⟨i, j, rfl, _⟩ := h
    rfl
  · obtain ⟨i, j, rfl, k⟩ := h
    refine ⟨_, (pss_cons (ps_par (i := 0) (j := 1) rfl sc_greatest_divisor.nd rfl rfl (by decide) rfl rfl (pa_cons (pe_callB call_abs (by rfl) n_abs (by decide +kernel) (pa_cons (pv 0) pa_nil)) (pa_cons (pe_callB call_abs (by rfl) n_abs (by decide +kernel) (pa_cons (pv 1) pa_nil)) pa_nil)) (by rfl))
        (pss_cons (ps_while PassesOwn.never (pt_cmpR op_ne (pv 1) pe_int (nomark _))
           (pss_one (ps_par (i := 0) (j := 1) rfl sc_greatest_divisor.nd rfl rfl (by decide) rfl rfl (pa_cons (pv 1) (pa_cons (pe_op op_mod (pv 0) (pv 1)) pa_nil)) (by rfl))))
        (pss_one (ps_ret (pv 0))))), ?_⟩
    show (_ : TS) _ [some _, some _] _
    walk_at "w"
    refine ⟨fun m σ H' => H' = H ∧ ∃ a b : Int, σ = [some (.int a), some (.int b)] ∧ 0 ≤ a ∧ 0 ≤ b ∧ Int.gcd a b = Int.gcd i j ∧ m = b.toNat, ⟨(absI j).toNat, rfl, absI i, absI j, rfl, absI_nn i, absI_nn j, ?_, rfl⟩, ?_⟩
    · rw [absI_natAbs, absI_natAbs]
      rfl
    rintro m σ H' ⟨rfl, a, b, rfl, a0, b0, g, rfl⟩
    walk_at "w"
    refine iteND (fun hc => ?_) (fun hc => ?_)
    · have hb : b ≠ 0 := fun z => hc (by rw [z])
      refine ⟨fun σ' H2 => ∃ m', m' < b.toNat ∧ (H2 = H' ∧ ∃ a b : Int, σ' = [some (.int a), some (.int b)] ∧ 0 ≤ a ∧ 0 ≤ b ∧ Int.gcd a b = Int.gcd i j ∧ m' = b.toNat), fun _ _ n => n, ?_⟩
      have e2 := Int.emod_nonneg a hb
      have e3 := Int.emod_lt_of_pos a (show 0 < b by omega)
      walk_at "w"
      exact ⟨_, by omega, rfl, _, _, rfl, b0, e2, by rw [gcd_step, g], rfl⟩
    · have hb : b = 0 := by injection hc
      subst hb
      walk_at "w"
      rw [Int.gcd_zero_right] at g
      have e : a = (Int.gcd i j : Int) := by omega
      rw [e]
      exact k
/-! ### the inverse -/
def spInverse : Sp := fun vs H Q _ => ∃ n m, vs = [.int n, .int m] ∧ 0 < m ∧ m ≤ 10 ^ 100 ∧ Int.gcd n m = 1 ∧ ∀ r H', 0 ≤ r → r < m → (n * r) % m = 1 % m → Same H H' → Q (.int r) H'
theorem sc_inverse : FnScope ["number", "modulus", "one", "other", "first", "second", "turns"] ["number", "modulus"] (defScope s_inverse) := C8.fnScope_by (by decide +kernel)
theorem ok_inverse {f : Addr} (F : DF K "inverse" "inverse" s_inverse f) (hm : mg "inverse" = some (.ref f)) :
    C8.Cal P w K mg base 1 "inverse" spInverse [] := by
  refine cal_of F hm sc_inverse (fun _ _ _ _ _ _ us hl => match us, hl with | [_, _], _ => rfl) (fun vs H Q E h => ?_) (fun cdv A outer s H vs Q E hr h => ?_)
  · obtain ⟨i, j, rfl, _⟩ := h
    rfl
  · obtain ⟨n, M, rfl, hM, hM2, hg, k⟩ := h
    refine ⟨_, (pss_cons (ps_asg (pe_tup (pa_cons (pe_op op_mod (pv 0) (pv 1)) (pa_cons (pv 1) (pa_cons pe_int (pa_cons pe_int pa_nil))))) (pg_tup rfl (pgs_cons (pg_name (i := 2) sc_inverse.nd rfl (Or.inl rfl)) (pgs_cons (pg_name (i := 3) sc_inverse.nd rfl (Or.inl rfl)) (pgs_cons (pg_name (i := 4) sc_inverse.nd rfl (Or.inl rfl)) (pgs_cons (pg_name (i := 5) sc_inverse.nd rfl (Or.inl rfl)) pgs_nil))))))
        (pss_cons (ps_while PassesOwn.never (pt_cmpR op_ne (pv 3) pe_int (nomark _))
           (pss_cons (ps_set (i := 6) sc_inverse.nd rfl (Or.inl rfl) (pe_op op_fdivP (pv 2) (pv 3)))
           (pss_cons (ps_par (i := 2) (j := 3) rfl sc_inverse.nd rfl rfl (by decide) rfl rfl (pa_cons (pv 3) (pa_cons (pe_op op_sub (pv 2) (pe_op op_mulB (pv 6) (pv 3))) pa_nil)) (by rfl))
           (pss_one (ps_par (i := 4) (j := 5) rfl sc_inverse.nd rfl rfl (by decide) rfl rfl (pa_cons (pv 5) (pa_cons (pe_op op_sub (pv 4) (pe_op op_mulB (pv 6) (pv 5))) pa_nil)) (by rfl))))))
        (pss_one (ps_ret (pe_op op_mod (pv 4) (pv 1)))))), ?_⟩
    show (_ : TS) _ [some _, some _, none, none, none, none, none] _
    walk_at "w"
    intro t ht
    walk_at "w"
    refine ⟨_, _, rfl, SqT.of upd_same, rfl, ?_⟩
    walk_at "w"
    have hS : Same H (upd H t (.tup [.int (n % M), .int M, .int 1, .int 0])) := Same.new ht
    refine ⟨fun m σ H' => Same H H' ∧ ∃ (a b x y : Int) (o : Option V), σ = [some (.int n), some (.int M), some (.int a), some (.int b), some (.int x), some (.int y), o] ∧ IvS n M a b x y ∧ m = b.toNat, ⟨M.toNat, hS, _, _, _, _, none, rfl, IvS.start hM hg, rfl⟩, ?_⟩
    rintro m σ H' ⟨hS', a, b, x, y, o, rfl, I, rfl⟩
    walk_at "w"
    refine iteND (fun hc => ?_) (fun hc => ?_)
    · have hb : b ≠ 0 := fun z => hc (by rw [z])
      obtain ⟨I2, ht2, t0, t1⟩ := I.step hb
      have b0 := I.b0
      have am := I.am
      have bm := I.bm
      refine ⟨fun σ' H2 => ∃ m', m' < b.toNat ∧ (Same H H2 ∧ ∃ (a b x y : Int) (o : Option V), σ' = [some (.int n), some (.int M), some (.int a), some (.int b), some (.int x), some (.int y), o] ∧ IvS n M a b x y ∧ m' = b.toNat), fun _ _ n => n, ?_⟩
      have hx := I.hx
      have hy := I.hy
      have hx1 : -M ≤ x ∧ x ≤ M := by unfold absI at hx; split at hx <;> omega
      have hy1 : -M ≤ y ∧ y ≤ M := by unfold absI at hy; split at hy <;> omega
      walk_at "w"
      exact ⟨_, ht2, hS', _, _, _, _, _, rfl, I2, rfl⟩
    · have hb : b = 0 := by injection hc
      subst hb
      walk_at "w"
      exact k _ _ (Int.emod_nonneg _ (by omega)) (Int.emod_lt_of_pos _ hM) (I.end_ hM) hS'
end
end PK
end
section
set_option Elab.async false
set_option linter.all false
set_option maxRecDepth 100000
set_option maxHeartbeats 4000000
namespace PK
open PySem PySem.Spec PyProof.Rows L2 PM
local macro_rules | `(tactic| walk_at "sd") => `(tactic| (first
  | assumption
  | omega
  | (constructor <;> omega)
  | (refine ⟨by omega, ?_⟩; constructor <;> omega)
  | (constructor <;> (first | assumption | omega | (constructor <;> omega)))))
local macro_rules | `(tactic| walk_at "w") => `(tactic| (repeat (first
  | with_reducible refine ifTT ?_
  | with_reducible refine ifFT ?_
  | with_reducible refine ifnT ?_
  | with_reducible refine ifnF ?_
  | with_reducible refine ifIN ?_
  | with_reducible refine ifNN ?_
  | with_reducible refine ifnIN ?_
  | with_reducible refine ifnNN ?_
  | with_reducible refine ifRN ?_
  | with_reducible refine ifnRN ?_
  | ((fail_if_success with_reducible refine iteB ?_ ?_); first
    | refine ⟨_, rfl, ?_⟩
    | refine ⟨_, _, rfl, rfl, ?_⟩
    | refine ⟨_, _, rfl, ?_⟩
    | refine And.intro (a := (_ : Nat) ≤ sizeLine) (by first | exact len_small (m := 2) rfl | exact len_small (m := 1) rfl | exact len_small (m := 4) rfl | exact len_small (m := 3) rfl | exact len_small (m := 0) rfl) ?_
    | refine ⟨rfl, ?_⟩
    | refine And.intro (a := CDivP _ _) (by walk_at "sd") ?_
    | refine And.intro (a := CDivB _ _) (by walk_at "sd") ?_
    | refine And.intro (a := CMulB _ _) (by walk_at "sd") ?_
    | refine And.intro (a := _ ≠ (0 : Int)) (by walk_at "sd") ?_
    | refine And.intro (a := (0 : Int) < _) (by walk_at "sd") ?_
    | refine ⟨_, _, rfl, ‹_›, rfl, ?_⟩
    | refine ⟨_, _, _, _, rfl, rfl, ‹_›, rfl, ?_⟩
    | refine ⟨_, _, _, _, _, _, rfl, ‹_›, ‹_›, rfl, ?_⟩
    | refine ⟨_, _, _, _, _, _, rfl, ‹_›, (by exact KCls.f ‹_› rfl), (by rfl), ?_⟩
    | refine ⟨_, _, _, _, _, _, rfl, upd_same, ‹_›, (by rfl), ?_⟩
    | refine ⟨_, _, _, _, rfl, ‹_›, by decide +kernel, ?_⟩
    | refine ⟨_, _, _, rfl, ‹_›, ?_⟩))))
section
variable {P : Program} {w : World} {K : PySem.W.Frag} {mg : Str → Option Value} {base : Heap}
/-! ### the least fit -/
def pairV (q : Int × Int) : List V := [.int q.1, .int q.2]
def spLeastFit (K : PySem.W.Frag) : Sp := fun vs H Q _ => ∃ a cs, vs = [.ref a] ∧ LT K H a (cs.map pairV) ∧ (∀ q, q ∈ cs → Bd q.2) ∧ ∀ t H', Same H H' → SqT K H' t [.int (lfRes cs).1, optV (lfRes cs).2] → Q (.ref t) H'
theorem sc_least_fit : FnScope ["conditions", "low", "high", "base", "growth", "bound"] ["conditions"] (defScope s_least_fit) := C8.fnScope_by (by decide +kernel)
theorem ok_least_fit {f : Addr} (F : DF K "least_fit" "least_fit" s_least_fit f) (hm : mg "least_fit" = some (.ref f)) (n_max : mg "max" = none) (n_min : mg "min" = none) :
    C8.Cal P w K mg base 1 "least_fit" (spLeastFit K) [] := by
  refine cal_of F hm sc_least_fit (fun _ _ _ _ _ _ us hl => match us, hl with | [_], _ => rfl) (fun vs H Q E h => ?_) (fun cdv A outer s H vs Q E hr h => ?_)
  · obtain ⟨a, cs, rfl, _⟩ := h
    rfl
  · obtain ⟨a, cs, rfl, ⟨rs, hL, hP⟩, hB, k⟩ := h
    refine ⟨_, (pss_cons (ps_asg (pe_tup (pa_cons pe_int (pa_cons pe_non pa_nil))) (pg_tup rfl (pgs_cons (pg_name (i := 1) sc_least_fit.nd rfl (Or.inl rfl)) (pgs_cons (pg_name (i := 2) sc_least_fit.nd rfl (Or.inl rfl)) pgs_nil))))
        (pss_cons (ps_for PassesOwn.never rfl (pi_list (pv 0)) (pg_tup rfl (pgs_cons (pg_name (i := 3) sc_least_fit.nd rfl (Or.inl rfl)) (pgs_cons (pg_name (i := 4) sc_least_fit.nd rfl (Or.inl rfl)) pgs_nil)))
           (pss_one (ps_if (pt_cmpR op_gt (pv 4) pe_int (nomark _)) (pss_one (ps_set (i := 1) sc_least_fit.nd rfl (Or.inl rfl) (pe_callB (call_max2 rfl) (by rfl) n_max (by decide +kernel) (pa_cons (pv 1) (pa_cons (pe_un un_neg (pe_op op_fdivP (pv 3) (pv 4))) pa_nil)))))
             (pss_one (ps_if (pt_cmpR op_lt (pv 4) pe_int (nomark _)) (pss_cons (ps_set (i := 5) sc_least_fit.nd rfl (Or.inl rfl) (pe_op op_fdivP (pv 3) (pe_un un_neg (pv 4))))
               (pss_one (ps_set (i := 2) sc_least_fit.nd rfl (Or.inl rfl) (pe_ifExp (pt_cmpR op_isN (pv 2) pe_non (nomark _)) (pv 5) (pe_callB (call_min2 rfl) (by rfl) n_min (by decide +kernel) (pa_cons (pv 2) (pa_cons (pv 5) pa_nil)))))))
               (pss_one (ps_if (pt_cmpR op_lt (pv 3) pe_int (nomark _)) (pss_one (ps_ret (pe_tup (pa_cons pe_int (pa_cons pe_int pa_nil)))))
                 pss_nil)))))))
        (pss_one (ps_ret (pe_ifExp (PW.pt (pw_or (pt_cmpR op_isN (pv 2) pe_non (nomark _)) (pw_or1 (pt_cmpR op_le (pv 1) (pv 2) (nomark _))))) (pe_tup (pa_cons (pv 1) (pa_cons (pv 2) pa_nil))) (pe_tup (pa_cons pe_int (pa_cons pe_int pa_nil)))))))), ?_⟩
    show (_ : TS) _ [some _, none, none, none, none, none] _
    walk_at "w"
    intro t0 ht0
    walk_at "w"
    refine ⟨_, _, rfl, SqT.of upd_same, rfl, ?_⟩
    walk_at "w"
    have hS : Same H (upd H t0 (.tup [.int 0, .non])) := Same.new ht0
    refine ⟨⟨_, hS.seq hL⟩, for_list (K := K) (a := a) (xs := rs.map V.ref) (fun i σ H' => Same H H' ∧ ∃ (low : Int) (high : Option Int) (o1 o2 o3 : Option V), σ = [some (.ref a), some (.int low), some (optV high), o1, o2, o3] ∧ lfGo cs 0 none = lfGo (cs.drop i) low high)
      ⟨hS, 0, none, none, none, none, rfl, rfl⟩ (fun i σ H' _ p => p.1.seq hL) ?_ ?_⟩
    · rintro i x σ H' hx ⟨hS', low, high, o1, o2, o3, rfl, hgo⟩
      obtain ⟨r, xs, rfl, h1, h2, h3⟩ := pair_at hP hx
      obtain ⟨⟨b, g⟩, hq, rfl⟩ := map_at h2
      have h3' : SqT K H' r [.int b, .int g] := hS'.sqt h3
      have hg : Bd g := hB _ (List.mem_iff_getElem?.mpr ⟨i, hq⟩)
      obtain ⟨hg1, hg2⟩ := hg
      rw [drop_at hq, lfGo_cons] at hgo
      walk_at "w"
      refine iteD (fun hc => ?_) (fun hc => ?_)
      · rw [if_pos hc] at hgo
        walk_at "w"
        refine ⟨hS', _, high, _, _, _, rfl, ?_⟩
        rw [hgo]
        congr 1
        show max low (-(b / g)) = if -(b / g) > low then -(b / g) else low
        split <;> omega
      · rw [if_neg hc] at hgo
        walk_at "w"
        refine iteD (fun hd => ?_) (fun hd => ?_)
        · rw [if_pos hd] at hgo
          cases high with
          | none =>
            walk_at "w"
            exact ⟨hS', low, some _, _, _, _, rfl, hgo⟩
          | some hh =>
            walk_at "w"
            refine ⟨hS', low, some _, _, _, _, rfl, ?_⟩
            rw [hgo]
            congr 2
            show min hh (b / -g) = if b / -g < hh then b / -g else hh
            split <;> omega
        · rw [if_neg hd] at hgo
          walk_at "w"
          refine iteD (fun he => ?_) (fun he => ?_)
          · rw [if_pos he] at hgo
            walk_at "w"
            intro t ht
            refine k t _ (hS'.trans (Same.new ht)) ?_
            have e : lfRes cs = (1, some 0) := by unfold lfRes; rw [hgo]
            rw [e]
            exact SqT.of upd_same
          · rw [if_neg he] at hgo
            exact ⟨hS', low, high, _, _, _, rfl, hgo⟩
    · rintro σ H' ⟨hS', low, high, o1, o2, o3, rfl, hgo⟩
      have hlen : (rs.map V.ref).length = cs.length := by
        rw [List.length_map, paired_len hP, List.length_map]
      rw [hlen, List.drop_length, lfGo_nil] at hgo
      cases high with
      | none =>
        walk_at "w"
        intro t ht
        refine k t _ (hS'.trans (Same.new ht)) ?_
        have e : lfRes cs = (low, none) := by unfold lfRes; rw [hgo]
        rw [e]
        exact SqT.of upd_same
      | some hh =>
        walk_at "w"
        refine iteD (fun he => ?_) (fun he => ?_)
        · walk_at "w"
          intro t ht
          refine k t _ (hS'.trans (Same.new ht)) ?_
          have e : lfRes cs = (low, some hh) := by unfold lfRes; rw [hgo]; exact if_pos he
          rw [e]
          exact SqT.of upd_same
        · walk_at "w"
          intro t ht
          refine k t _ (hS'.trans (Same.new ht)) ?_
          have e : lfRes cs = (1, some 0) := by unfold lfRes; rw [hgo]; exact if_neg he
          rw [e]
          exact SqT.of upd_same
end
end PK
end
section
set_option Elab.async false
set_option linter.all false
set_option maxRecDepth 100000
set_option maxHeartbeats 4000000
namespace PK
open PySem PySem.Spec PyProof.Rows L2 PM
/-! ### attributes by names and values -/
theorem lk_none {ns : List Str} {vs : List V} {m : Str} (h : m ∉ ns) : (ns.zip vs).lookup m = none := by
  induction ns generalizing vs with
  | nil => rfl
  | cons n ns ih =>
    cases vs with
    | nil => rfl
    | cons v vs =>
      show (match m == n with | true => some v | false => (ns.zip vs).lookup m) = none
      have h1 : (m == n) = false := beq_eq_false_iff_ne.mpr fun z => h (by rw [z]; exact List.mem_cons_self)
      rw [h1]
      exact ih fun z => h (List.mem_cons_of_mem _ z)
theorem lk_some {ns : List Str} {vs : List V} {i : Nat} {m : Str} {v : V} (nd : ns.Nodup) (h1 : ns[i]? = some m) (h2 : vs[i]? = some v) : (ns.zip vs).lookup m = some v := by
  induction ns generalizing vs i with
  | nil => simp at h1
  | cons n ns ih =>
    cases vs with
    | nil => simp at h2
    | cons u vs =>
      obtain ⟨n1, n2⟩ := List.nodup_cons.mp nd
      show (match m == n with | true => some u | false => (ns.zip vs).lookup m) = some v
      cases i with
      | zero =>
        simp only [List.getElem?_cons_zero, Option.some.injEq] at h1 h2
        rw [← h1, beq_self_eq_true]
        exact congrArg some h2
      | succ i =>
        simp only [List.getElem?_cons_succ] at h1 h2
        have h3 : (m == n) = false := beq_eq_false_iff_ne.mpr fun z => n1 (by
          rw [← z]
          exact List.mem_of_getElem? h1)
        rw [h3]
        exact ih n2 h1 h2
theorem putF_zip {ns : List Str} {vs : List V} {f : Str} {y : V} (h : f ∉ ns) (hl : ns.length = vs.length) : putF f y (ns.zip vs) = (ns ++ [f]).zip (vs ++ [y]) := by
  induction ns generalizing vs with
  | nil =>
    cases vs with
    | nil => rfl
    | cons v vs => simp at hl
  | cons n ns ih =>
    cases vs with
    | nil => simp at hl
    | cons v vs =>
      show (if n = f then (n, y) :: ns.zip vs else (n, v) :: putF f y (ns.zip vs)) = (n, v) :: (ns ++ [f]).zip (vs ++ [y])
      rw [if_neg fun z => h (by rw [← z]; exact List.mem_cons_self), ih (fun z => h (List.mem_cons_of_mem _ z)) (by simpa using hl)]
/-- a store to an attribute that is there -/
theorem putF_set {ns : List Str} {vs : List V} {i : Nat} {f : Str} {y : V} (nd : ns.Nodup) (h1 : ns[i]? = some f) (hl : ns.length = vs.length) : putF f y (ns.zip vs) = ns.zip (vs.set i y) := by
  induction ns generalizing vs i with
  | nil => simp at h1
  | cons n ns ih =>
    cases vs with
    | nil => simp at hl
    | cons v vs =>
      obtain ⟨n1, n2⟩ := List.nodup_cons.mp nd
      show (if n = f then (n, y) :: ns.zip vs else (n, v) :: putF f y (ns.zip vs)) = _
      cases i with
      | zero =>
        simp only [List.getElem?_cons_zero, Option.some.injEq] at h1
        rw [if_pos h1]
        rfl
      | succ i =>
        simp only [List.getElem?_cons_succ] at h1
        rw [if_neg fun z => n1 (by rw [z]; exact List.mem_of_getElem? h1), ih n2 h1 (by simpa using hl)]
        rfl
/-- the i-th attribute may be read -/
structure FOk (K : PySem.W.Frag) (C : Addr) (ns : List Str) (i : Nat) (f : Str) : Prop where
  cl : Cls K C
  no : NoAttr K C f
  nd : ns.Nodup
  ix : ns[i]? = some f
/-- one more attribute may be stored -/
structure GOk (K : PySem.W.Frag) (C : Addr) (ns : List Str) (f : Str) : Prop where
  cl : Cls K C
  no : NoAttr K C f
  out : f ∉ ns
  few : ns.length < 1000
/-- a class whose objects have these attributes, in this order -/
structure KCls (K : PySem.W.Frag) (C : Addr) (ns : List Str) : Prop where
  cl : Cls K C
  no : ∀ f, f ∈ ns → NoAttr K C f
  nd : ns.Nodup
  few : ns.length < 1000
theorem KCls.f {K : PySem.W.Frag} {C : Addr} {ns : List Str} (c : KCls K C ns) {i : Nat} {f : Str} (h : ns[i]? = some f) : FOk K C ns i f := ⟨c.cl, c.no f (List.mem_of_getElem? h), c.nd, h⟩
theorem KCls.g {K : PySem.W.Frag} {C : Addr} {ns : List Str} (c : KCls K C ns) {i : Nat} {f : Str} (h : ns[i]? = some f) : GOk K C (ns.take i) f := by
  obtain ⟨h1, h2⟩ := List.getElem?_eq_some_iff.mp h
  refine ⟨c.cl, c.no f (List.mem_of_getElem? h), fun z => ?_, by rw [List.length_take]; have := c.few; omega⟩
  obtain ⟨j, hj, e⟩ := List.mem_iff_getElem.mp z
  rw [List.length_take] at hj
  rw [List.getElem_take] at e
  have := (List.getElem_inj c.nd).mp (e.trans h2.symm)
  omega
theorem KCls.ft {K : PySem.W.Frag} {C : Addr} {ns : List Str} (c : KCls K C ns) {i m : Nat} {f : Str} (h : ns[i]? = some f) (hm : i < m) : FOk K C (ns.take m) i f :=
  ⟨c.cl, c.no f (List.mem_of_getElem? h), c.nd.sublist (List.take_sublist _ _), by rw [List.getElem?_take_of_lt hm]; exact h⟩
def tFldN (K : PySem.W.Frag) (i : Nat) (ta : TE) (f : Str) : TE := fun σ H Q => ta σ H fun x H1 => ∃ a C dx ns vs v, x = .ref a ∧ H1 a = some (.ins C dx (ns.zip vs)) ∧ FOk K C ns i f ∧ vs[i]? = some v ∧ Q v H1
def sFldN (K : PySem.W.Frag) (ta tv : TE) (f : Str) : TS := fun D σ H => tv σ H fun y H1 => ta σ H1 fun x H2 => ∃ a C dx ns vs, x = .ref a ∧ H2 a = some (.ins C dx (ns.zip vs)) ∧ GOk K C ns f ∧ ns.length = vs.length ∧ D.nx σ (upd H2 a (.ins C dx ((ns ++ [f]).zip (vs ++ [y]))))
section
variable {X : Cx}
/-- a reading that is enough -/
theorem PE.of {e : Expr} {t : TE} (h : PE X e t) {t' : TE} (i : ∀ σ H Q, t' σ H Q → t σ H Q) : PE X e t' := ⟨fun pins s σ H Q I q => h.run pins s σ H Q I (i σ H Q q)⟩
theorem PS.of {st : Stmt} {t : TS} (h : PS X st t) {t' : TS} (i : ∀ D σ H, t' D σ H → t D σ H) : PS X st t' := ⟨fun pins s σ H D I q => h.run pins s σ H D I (i D σ H q)⟩
/-- a reading in the place of an equal statement of it that holds whatever follows -/
def Mono (t : TE) : Prop := ∀ σ H Q Q', (∀ v H', Q v H' → Q' v H') → t σ H Q → t σ H Q'
theorem pe_fldN {e : Expr} {f : Str} {pos : Pos} {ta : TE} (i : Nat) (he : PE X e ta) (hb : attributeBase e f X.env (eval e X.env) = eval e X.env) : PE X (.Attribute e f pos) (tFldN X.K i ta f) := by
  refine ⟨fun pins s σ H Q I h => ?_⟩
  refine attr_of hb (thn (he.run pins s σ H _ I h) fun u s1 ⟨x, H1, I1, rx, a, C, dx, ns, vs, v, ex, ea, ok, hv, q⟩ => ?_)
  subst ex
  obtain rfl : u = Value.ref a := rx
  exact getattr_ok I1 ea ok.cl ok.no (lk_some ok.nd ok.ix hv) fun u' s' I' r' => ⟨v, H1, I', r', q⟩
theorem ps_fldN {o value : Expr} {f : Str} {pos pos' : Pos} {ta tv : TE} (ha : PE X o ta) (hv : PE X value tv) (hs : swapsWith value (some (.Attribute o f pos')) pos.line X.env = pure false) : PS X (.Assign [.Attribute o f pos'] value pos) (sFldN X.K ta tv f) := by
  refine ⟨fun pins s σ H D I h => ?_⟩
  refine plainObj_wpAny_Assign_Attribute (thn (hv.run pins s σ H _ I h) fun u s1 ⟨y, H1, I1, ry, q⟩ => thn (ha.run pins s1 σ H1 _ I1 q) fun ov s2 ⟨x, H2, I2, rx, a, C, dx, ns, vs, ex, ea, ok, hl, q2⟩ => ?_) hs
  subst ex
  obtain rfl : ov = Value.ref a := rx
  refine setattr_ok I2 ea ok.cl ok.no (by have h1 := ok.few; rw [List.length_zip]; omega) ry fun s3 I3 => ⟨σ, _, I3, ?_⟩
  rw [putF_zip ok.out hl]
  exact q2
/-- o.m(..) of an object told by names and values -/
def tMethN (C : Addr) (m : Str) (sp : Sp) (dvs : List V) (ta : TE) (t : TA) : TE := fun σ H Q => ta σ H fun x H1 => ∃ (a dx : Addr) (ns : List Str) (vs : List V), x = .ref a ∧ H1 a = some (.ins C dx (ns.zip vs)) ∧ m ∉ ns ∧ t σ H1 fun us H2 => sp (x :: (us ++ dvs)) H2 Q E0
theorem pe_mtN {k j : Nat} {C : Addr} {m : Str} {sp : Sp} {dvs : List V} {pos apos : Pos} {e o : Expr} {es : List Expr} {ta : TE} {t : TA} {pl : Sem Bool} (c : C8.Met X.prog X.w X.K X.mg X.base k C m sp dvs) (hr : Room j X.A) (hk : k ≤ j) (he : PE X o ta) (ha : PA X (e :: es) t)
    (hst : starEach (e :: es) X.env = (false, eval e X.env) :: starEach es X.env := by rfl) (hpl : (backTo pos (starEach es X.env)).any (·.1) = false := by rfl)
    (ht : eval (.Call (.Attribute o m apos) (e :: es) [] pos) X.env = (do
      let ov ← eval o X.env
      standAt apos.atName
      let (f, first) ← holding [ov] (getMethod ov m pl)
      callWith pos f first (backTo pos (starEach (e :: es) X.env)) (backToKw pos (keywordEach [] X.env))) := by rfl) :
    PE X (.Call (.Attribute o m apos) (e :: es) [] pos) (tMethN C m sp dvs ta t) := by
  obtain ⟨f, fd, ps, ds, hc, hm, F, b, d⟩ := c.ex
  refine ⟨fun pins s σ H Q I h => ?_⟩
  refine PySem.W.methodCall_KW (pl := pl) (thn (he.run pins s σ H _ I h) fun u s1 ⟨x, H1, I1, rx, a, dx, ns, vs, ex, ea, l, q⟩ => ?_) ht
  subst ex
  obtain rfl : u = Value.ref a := rx
  refine getmeth_ok I1 ea hc hm (lk_none l) ?_
  refine PySem.W.callWith_K (first := [.ref a]) (h₀ := X.base) I.ok.mod.kin hm.kp (thn (ha.run pos pins s1 σ H1 _ I1 q) fun us s2 ⟨ws, H2, I2, r, q2⟩ => ⟨I2.kIn, ?_⟩) hst hpl
  exact run_fn (us := .ref a :: us) (vs := .ref a :: ws) F (hr.mono hk) b d C8.pass0 I2 (.cons rfl r) q2
theorem pe_mtN0 {k j : Nat} {C : Addr} {m : Str} {sp : Sp} {dvs : List V} {pos apos : Pos} {o : Expr} {ta : TE} {pl : Sem Bool} (c : C8.Met X.prog X.w X.K X.mg X.base k C m sp dvs) (hr : Room j X.A) (hk : k ≤ j) (he : PE X o ta)
    (ht : eval (.Call (.Attribute o m apos) [] [] pos) X.env = (do
      let ov ← eval o X.env
      standAt apos.atName
      let (f, first) ← holding [ov] (getMethod ov m pl)
      callWith pos f first (backTo pos (starEach [] X.env)) (backToKw pos (keywordEach [] X.env))) := by rfl) :
    PE X (.Call (.Attribute o m apos) [] [] pos) (tMethN C m sp dvs ta tNil) := by
  refine ⟨fun pins s σ H Q I h => ?_⟩
  obtain ⟨f, fd, ps, ds, hc, hm, F, b, d⟩ := c.ex
  refine PySem.W.methodCall_KW (pl := pl) (thn (he.run pins s σ H _ I h) fun u s1 ⟨x, H1, I1, rx, a, dx, ns, vs, ex, ea, l, q⟩ => ?_) ht
  subst ex
  obtain rfl : u = Value.ref a := rx
  refine getmeth_ok I1 ea hc hm (lk_none l) ?_
  have q : sp ([.ref a] ++ dvs) H1 Q E0 := q
  exact PySem.W.callWith_K0 (first := [.ref a]) I1.kIn hm.kp (run_fn (us := [.ref a]) (vs := [.ref a]) F (hr.mono hk) b d C8.pass0 I1 (.cons rfl .nil) q)
end
theorem _root_.L2.Same.put {H H' : Hp} {l : Addr} {o : HO} (hl : H l = none) (s : Same H H') : Same H (upd H' l o) := fun b u e => by
  rw [upd_ne (ne_of_none e hl)]
  exact s b u e
theorem tyL {K : PySem.W.Frag} {H : Hp} {p : Addr} {xs : List V} (h : H p = some (.lst xs)) : tyV K "list" (.ref p) H := .inl ⟨rfl, _, SqL.of h⟩
theorem tyD {K : PySem.W.Frag} {H : Hp} {p : Addr} {xs : List (Key × V)} (h : H p = some (.dK xs)) : tyV K "dict" (.ref p) H := .inr (.inr (.inl ⟨rfl, .inl ⟨_, h⟩⟩))
theorem lt_line {n m : Nat} (e : n ≤ m) (h : m < 1000 := by decide) : n < sizeLine := by
  refine Nat.lt_of_le_of_lt e (Nat.lt_of_lt_of_le h (by decide))
/-! ### what is kept but at one place -/
def SB (x : Addr) (H H' : Hp) : Prop := ∀ b o, H b = some o → b ≠ x → H' b = some o
theorem SB.refl (x : Addr) (H : Hp) : SB x H H := fun _ _ h _ => h
theorem SB.set {x : Addr} {H H' : Hp} {o : HO} (h : SB x H H') : SB x H (upd H' x o) := fun b u e n => by
  rw [upd_ne n]
  exact h b u e n
theorem SB.new {x p : Addr} {H H' : Hp} {o : HO} (h : SB x H H') (hp : H' p = none) : SB x H (upd H' p o) := fun b u e n => by
  have h1 := h b u e n
  rw [upd_ne (ne_of_none h1 hp)]
  exact h1
theorem SB.same {x : Addr} {H H' H2 : Hp} (h : SB x H H') (s : Same H' H2) : SB x H H2 := fun b u e n => s b u (h b u e n)
theorem SB.of {x : Addr} {H H' : Hp} (s : Same H H') : SB x H H' := fun b u e _ => s b u e
/-- a new instance and its making -/
theorem SB.made {H H1 : Hp} {x dx C : Addr} (nx : H x = none) (nd : H dx = none) (k : SB x (upd (upd H dx (.own x)) x (.ins C dx [])) H1) : Same H H1 := fun b o e =>
  k b o (by rw [upd_ne (ne_of_none e nx), upd_ne (ne_of_none e nd)]; exact e) (ne_of_none e nx)
theorem SB.sqt {K : PySem.W.Frag} {x a : Addr} {H H' : Hp} {xs : List V} {C dx : Addr} {fs : List (Str × V)} (h : SB x H H') (hx : H x = some (.ins C dx fs)) (q : SqT K H a xs) : SqT K H' a xs := by
  rcases q with (q | ⟨o, q⟩) | q
  · exact .inl (.inl (h _ _ q (ne_of q hx (by intro z; cases z))))
  · exact .inl (.inr ⟨o, h _ _ q (ne_of q hx (by intro z; cases z))⟩)
  · exact .inr q
/-! ### a comprehension: the heap grows, but at its list -/
theorem lc_acc {J : It} {n : Nat} {G : Hp → Prop} {Y : Nat → Hp → V → Hp → Prop} (w : Walk J n G Y) {g : TG} {tt : TT} {te : TE} {vs : List Nat} {σ : L2.St} {H1 : Hp} {D : Addr} {Qd : Hp → Prop} (hD : H1 D = none) (hn : n < 1000) (A : Nat → List V → Hp → Prop)
    (h0 : A 0 [] (upd H1 D (.lst []))) (hG : ∀ i acc H, Same H1 H → A i acc H → G H)
    (hs : ∀ i x acc H H' (Nx : Hp → Prop), i < n → Same H1 H → H D = some (.lst acc) → A i acc H → Y i H x H' →
      (∀ y H4, H4 D = some (.lst acc) → Same H1 H4 → A (i + 1) (acc ++ [y]) (upd H4 D (.lst (acc ++ [y]))) → ∃ acc, H4 D = some (.lst acc) ∧ acc.length < sizeLine ∧ Nx (upd H4 D (.lst (acc ++ [y])))) →
      (∀ H3, H3 D = some (.lst acc) → Same H1 H3 → A (i + 1) acc H3 → Nx H3) →
      g x (wipe σ vs) H' fun σ2 H2 => wipe σ2 vs = wipe σ vs ∧ tt σ2 H2 fun b H3 =>
        if b = true then te σ2 H3 fun y H4 => ∃ acc, H4 D = some (.lst acc) ∧ acc.length < sizeLine ∧ Nx (upd H4 D (.lst (acc ++ [y]))) else Nx H3)
    (hd : ∀ acc H, Same H1 H → H D = some (.lst acc) → A n acc H → Qd H) :
    ∃ W : Nat → Nat → Hp → Prop, (∃ m, W 0 m (upd H1 D (.lst []))) ∧ ∀ i m H, W i m H →
      (J.stop i H ∧ Qd H) ∨ (J.go i H ∧ ∃ Nx : Hp → Prop, (∀ H', Nx H' → ∃ m', m' < m ∧ W (i + 1) m' H') ∧ ∀ x H', J.yld i H x H' → g x (wipe σ vs) H' fun σ2 H2 => wipe σ2 vs = wipe σ vs ∧ tt σ2 H2 fun b H3 =>
        if b = true then te σ2 H3 fun y H4 => ∃ acc, H4 D = some (.lst acc) ∧ acc.length < sizeLine ∧ Nx (upd H4 D (.lst (acc ++ [y]))) else Nx H3) := by
  refine lc_it w (fun i H => Same H1 H ∧ ∃ acc, acc.length ≤ i ∧ H D = some (.lst acc) ∧ A i acc H) ⟨Same.new hD, [], Nat.le_refl _, upd_same, h0⟩ (fun i H _ p => ?_) (fun i x H H' hi p y => ?_) (fun H p => ?_)
  · obtain ⟨p1, acc, _, _, p2⟩ := p
    exact hG i acc H p1 p2
  · obtain ⟨p1, acc, p2, p3, p4⟩ := p
    refine hs i x acc H H' _ hi p1 p3 p4 y (fun z H4 q1 q2 q3 => ?_) (fun H3 q1 q2 q3 => ⟨q2, acc, by omega, q1, q3⟩)
    refine ⟨acc, q1, lt_line (m := i) p2 (by omega), Same.put hD q2, acc ++ [z], ?_, upd_same, q3⟩
    rw [List.length_append]
    show acc.length + 1 ≤ i + 1
    omega
  · obtain ⟨p1, acc, _, p3, p4⟩ := p
    exact hd acc H p1 p3 p4
end PK
end
section
set_option Elab.async false
set_option linter.all false
set_option maxRecDepth 100000
set_option maxHeartbeats 4000000
namespace PK
open PySem PySem.Spec PyProof.Rows L2 PM
theorem dc_acc {J : It} {n : Nat} {G : Hp → Prop} {Y : Nat → Hp → V → Hp → Prop} (w : Walk J n G Y) {g : TG} {tt : TT} {tk tv : TE} {vs : List Nat} {σ : L2.St} {H1 : Hp} {D : Addr} {Qd : Hp → Prop} (hD : H1 D = none) (hn : n < 1000) (A : Nat → List (Key × V) → Hp → Prop)
    (h0 : A 0 [] (upd H1 D (.dK []))) (hG : ∀ i acc H, Same H1 H → A i acc H → G H)
    (hs : ∀ i x acc H H' (Nx : Hp → Prop), i < n → Same H1 H → H D = some (.dK acc) → A i acc H → Y i H x H' →
      (∀ k z H4, H4 D = some (.dK acc) → Same H1 H4 → A (i + 1) (putK acc k z) (upd H4 D (.dK (putK acc k z))) → ∃ kvs k', kV k = kV k' ∧ H4 D = some (.dK kvs) ∧ kvs.length < sizeLine ∧ Nx (upd H4 D (.dK (putK kvs k' z)))) →
      (∀ H3, H3 D = some (.dK acc) → Same H1 H3 → A (i + 1) acc H3 → Nx H3) →
      g x (wipe σ vs) H' fun σ2 H2 => wipe σ2 vs = wipe σ vs ∧ tt σ2 H2 fun b H3 =>
        if b = true then tk σ2 H3 fun y H4 => tv σ2 H4 fun z H5 => ∃ kvs k, y = kV k ∧ H5 D = some (.dK kvs) ∧ kvs.length < sizeLine ∧ Nx (upd H5 D (.dK (putK kvs k z))) else Nx H3)
    (hd : ∀ acc H, Same H1 H → H D = some (.dK acc) → A n acc H → Qd H) :
    ∃ W : Nat → Nat → Hp → Prop, (∃ m, W 0 m (upd H1 D (.dK []))) ∧ ∀ i m H, W i m H →
      (J.stop i H ∧ Qd H) ∨ (J.go i H ∧ ∃ Nx : Hp → Prop, (∀ H', Nx H' → ∃ m', m' < m ∧ W (i + 1) m' H') ∧ ∀ x H', J.yld i H x H' → g x (wipe σ vs) H' fun σ2 H2 => wipe σ2 vs = wipe σ vs ∧ tt σ2 H2 fun b H3 =>
        if b = true then tk σ2 H3 fun y H4 => tv σ2 H4 fun z H5 => ∃ kvs k, y = kV k ∧ H5 D = some (.dK kvs) ∧ kvs.length < sizeLine ∧ Nx (upd H5 D (.dK (putK kvs k z))) else Nx H3) := by
  let Pv : Nat → Hp → Prop := fun i H => Same H1 H ∧ ∃ acc, acc.length ≤ i ∧ H D = some (.dK acc) ∧ A i acc H
  refine ⟨fun i m H => m = n - i ∧ i ≤ n ∧ Pv i H, ⟨n, by simp, Nat.zero_le _, Same.new hD, [], Nat.le_refl _, upd_same, h0⟩, ?_⟩
  rintro i m H ⟨rfl, hi, p⟩
  have q : G H := by
    obtain ⟨p1, acc, _, _, p2⟩ := p
    exact hG i acc H p1 p2
  by_cases hlt : i < n
  · refine .inr ⟨w.goes i H hlt q, Pv (i + 1), fun H' p' => ⟨n - (i + 1), by omega, rfl, hlt, p'⟩, fun x H' y => ?_⟩
    obtain ⟨p1, acc, p2, p3, p4⟩ := p
    refine hs i x acc H H' _ hlt p1 p3 p4 (w.yields i H x H' hlt q y) (fun k z H4 q1 q2 q3 => ?_) (fun H3 q1 q2 q3 => ⟨q2, acc, by omega, q1, q3⟩)
    refine ⟨acc, k, rfl, q1, lt_line (m := i) p2 (by omega), Same.put hD q2, putK acc k z, ?_, upd_same, q3⟩
    have := length_putK acc k z
    omega
  · have e : i = n := by omega
    subst e
    obtain ⟨p1, acc, _, p3, p4⟩ := p
    exact .inl ⟨w.stops H q, hd acc H p1 p3 p4⟩
theorem cutV_to (xs : List V) (i : Nat) (h : i ≤ xs.length) : cutV xs none (some (i : Int)) = xs.take i := by
  unfold cutV
  have e1 : HT.sIx xs.length 0 none = 0 := rfl
  have e2 : HT.sIx xs.length xs.length (some (i : Int)) = i := by
    rw [HT.sIx_nat]
    omega
  rw [e1, e2]
  rfl
theorem atI_nat {α : Type} (xs : List α) (i : Nat) : atI xs (i : Int) = xs[i]? := by
  unfold atI ixN
  rw [if_pos (by omega)]
  by_cases h : i < xs.length
  · rw [if_pos (by omega)]
    show xs[(i : Int).toNat]? = _
    rw [Int.toNat_natCast]
  · rw [if_neg (by omega), List.getElem?_eq_none (by omega)]
    rfl
/-- a fact that the walker leaves as it is -/
structure Tk (p : Prop) : Prop where
  h : p
theorem tk {p : Prop} (h : p) : Tk p := ⟨h⟩
/-- f i for the first n -/
def firsts {α : Type} (f : Nat → α) (n : Nat) : List α := (List.range n).map f
theorem firsts_succ {α : Type} (f : Nat → α) (n : Nat) : firsts f (n + 1) = firsts f n ++ [f n] := by
  unfold firsts
  rw [List.range_succ, List.map_append]
  rfl
theorem firsts_len {α : Type} (f : Nat → α) (n : Nat) : (firsts f n).length = n := by simp [firsts]
theorem firsts_get {α : Type} {f : Nat → α} {n i : Nat} (h : i < n) : (firsts f n)[i]? = some (f i) := by simp [firsts, h]
theorem firsts_at {α : Type} {f : Nat → α} {n i : Nat} {v : α} (h : (firsts f n)[i]? = some v) : i < n ∧ v = f i := by
  have hi := (List.getElem?_eq_some_iff.mp h).1
  rw [firsts_len] at hi
  rw [firsts_get hi] at h
  injection h with h
  exact ⟨hi, h.symm⟩
theorem firsts_take {α : Type} {f : Nat → α} {n i : Nat} (h : i ≤ n) : (firsts f n).take i = firsts f i := by
  unfold firsts
  rw [← List.map_take, List.take_range, Nat.min_eq_left h]
theorem firsts_mem {α : Type} {f : Nat → α} {n : Nat} {x : α} : x ∈ firsts f n ↔ ∃ i, i < n ∧ x = f i := by
  unfold firsts
  rw [List.mem_map]
  constructor
  · rintro ⟨i, hi, e⟩
    exact ⟨i, List.mem_range.mp hi, e.symm⟩
  · rintro ⟨i, hi, e⟩
    exact ⟨i, List.mem_range.mpr hi, e.symm⟩
theorem firsts_congr {α : Type} {f g : Nat → α} {n : Nat} (h : ∀ i, i < n → f i = g i) : firsts f n = firsts g n := by
  unfold firsts
  exact List.map_congr_left fun i hi => h i (List.mem_range.mp hi)
theorem map_firsts {α β : Type} (g : α → β) (f : Nat → α) (n : Nat) : (firsts f n).map g = firsts (fun i => g (f i)) n := by
  unfold firsts
  rw [List.map_map]
  rfl
theorem valV_out {κ : Type} [DecidableEq κ] {kvs : List (κ × V)} {x : κ} (h : ∀ p, p ∈ kvs → p.1 ≠ x) : valV kvs x = none := by
  induction kvs with
  | nil => rfl
  | cons p r ih =>
    rw [valV_neg (h p List.mem_cons_self)]
    exact ih fun q hq => h q (List.mem_cons_of_mem _ hq)
theorem valV_firsts_none {κ : Type} [DecidableEq κ] {k : Nat → κ} {v : Nat → V} {n : Nat} {x : κ} (h : ∀ i, i < n → k i ≠ x) : valV (firsts (fun i => (k i, v i)) n) x = none := by
  refine valV_out fun p hp => ?_
  obtain ⟨i, hi, rfl⟩ := firsts_mem.mp hp
  exact h i hi
theorem valV_firsts {κ : Type} [DecidableEq κ] {k : Nat → κ} {v : Nat → V} {n i : Nat} (hd : ∀ a b, a < n → b < n → k a = k b → a = b) (hi : i < n) : valV (firsts (fun i => (k i, v i)) n) (k i) = some (v i) := by
  induction n with
  | zero => omega
  | succ n ih =>
    have h1 : valV (firsts (fun i => (k i, v i)) n) (k n) = none := valV_firsts_none fun j hj e => by
      have := hd j n (by omega) (by omega) e
      omega
    rw [firsts_succ, valV_snoc _ _ _ _ h1]
    by_cases e : i = n
    · subst e
      rw [if_pos rfl]
    · rw [if_neg (fun z => e (hd i n hi (by omega) z))]
      exact ih (fun a b ha hb => hd a b (by omega) (by omega)) (by omega)
theorem putK_firsts {κ : Type} [DecidableEq κ] {k : Nat → κ} {v : Nat → V} {n : Nat} (h : ∀ i, i < n → k i ≠ k n) : putK (firsts (fun i => (k i, v i)) n) (k n) (v n) = firsts (fun i => (k i, v i)) (n + 1) := by
  rw [putK_new _ (valV_firsts_none h), firsts_succ]
section
variable {X : Cx} {x y z : Str} {i j l k : Nat} {p1 p2 p3 pos : Pos} {K : PySem.W.Frag}
theorem pg_tup2 (hK : X.K = K) (hc : X.calm = true) (hN : X.N.Nodup) (hi : X.N[i]? = some x) (hx : Loc X.env.scope x) (hj : X.N[j]? = some y) (hy : Loc X.env.scope y)
    (hf : X.fn x = true ∨ X.env.scope.names.lookup x = some .local := by first | exact .inl rfl | exact .inr rfl | assumption) (hg : X.fn y = true ∨ X.env.scope.names.lookup y = some .local := by first | exact .inl rfl | exact .inr rfl | assumption) :
    PG X (.Tuple [.Name x p1, .Name y p2] k pos) (gTup K 2 (gCons (gName i) (gCons (gName j) gNil))) := hK ▸ pg_tup hc (pgs_cons (pg_name hN hi hx hf) (pgs_cons (pg_name hN hj hy hg) pgs_nil))
theorem pg_tup3 (hK : X.K = K) (hc : X.calm = true) (hN : X.N.Nodup) (hi : X.N[i]? = some x) (hx : Loc X.env.scope x) (hj : X.N[j]? = some y) (hy : Loc X.env.scope y) (hl : X.N[l]? = some z) (hz : Loc X.env.scope z)
    (hf : X.fn x = true ∨ X.env.scope.names.lookup x = some .local := by first | exact .inl rfl | exact .inr rfl | assumption) (hg : X.fn y = true ∨ X.env.scope.names.lookup y = some .local := by first | exact .inl rfl | exact .inr rfl | assumption) (hh : X.fn z = true ∨ X.env.scope.names.lookup z = some .local := by first | exact .inl rfl | exact .inr rfl | assumption) :
    PG X (.Tuple [.Name x p1, .Name y p2, .Name z p3] k pos) (gTup K 3 (gCons (gName i) (gCons (gName j) (gCons (gName l) gNil)))) := hK ▸ pg_tup hc (pgs_cons (pg_name hN hi hx hf) (pgs_cons (pg_name hN hj hy hg) (pgs_cons (pg_name hN hl hz hh) pgs_nil)))
end
end PK
end
section
set_option Elab.async false
set_option linter.all false
set_option maxRecDepth 100000
set_option maxHeartbeats 4000000
namespace PK
open PySem PySem.Spec PyProof.Rows L2 PM
local macro_rules | `(tactic| walk_at "sd") => `(tactic| (first
  | assumption
  | omega
  | (constructor <;> omega)
  | (refine ⟨by omega, ?_⟩; constructor <;> omega)
  | (constructor <;> (first | assumption | omega | (constructor <;> omega)))))
local macro_rules | `(tactic| walk_at "w") => `(tactic| (repeat (first
  | with_reducible refine ifTT ?_
  | with_reducible refine ifFT ?_
  | with_reducible refine ifnT ?_
  | with_reducible refine ifnF ?_
  | with_reducible refine ifIN ?_
  | with_reducible refine ifNN ?_
  | with_reducible refine ifnIN ?_
  | with_reducible refine ifnNN ?_
  | with_reducible refine ifRN ?_
  | with_reducible refine ifnRN ?_
  | ((fail_if_success with_reducible refine iteB ?_ ?_); first
    | refine ⟨_, rfl, ?_⟩
    | refine ⟨_, _, rfl, rfl, ?_⟩
    | refine ⟨_, _, rfl, ?_⟩
    | refine And.intro (a := (_ : Nat) ≤ sizeLine) (by first | exact len_small (m := 2) rfl | exact len_small (m := 1) rfl | exact len_small (m := 4) rfl | exact len_small (m := 3) rfl | exact len_small (m := 0) rfl) ?_
    | refine ⟨rfl, ?_⟩
    | refine And.intro (a := CDivP _ _) (by walk_at "sd") ?_
    | refine And.intro (a := CDivB _ _) (by walk_at "sd") ?_
    | refine And.intro (a := CMulB _ _) (by walk_at "sd") ?_
    | refine And.intro (a := _ ≠ (0 : Int)) (by walk_at "sd") ?_
    | refine And.intro (a := (0 : Int) < _) (by walk_at "sd") ?_
    | refine ⟨_, _, rfl, ‹_›, rfl, ?_⟩
    | refine ⟨_, _, _, _, rfl, rfl, ‹_›, rfl, ?_⟩
    | refine ⟨_, _, _, _, rfl, rfl, by assumption, by assumption, ?_⟩
    | refine ⟨_, _, _, _, _, _, rfl, ‹_›, ‹_›, rfl, ?_⟩
    | refine ⟨_, _, _, _, _, _, rfl, ‹_›, (by exact KCls.f ‹_› rfl), (by rfl), ?_⟩
    | refine ⟨_, _, _, _, _, _, rfl, upd_same, ‹_›, (by rfl), ?_⟩
    | refine ⟨_, _, _, _, _, _, rfl, ‹_›, ‹Cls _ _›, ‹_›, rfl, ?_⟩
    | refine ⟨_, _, _, _, rfl, ‹_›, by decide +kernel, ?_⟩
    | refine ⟨_, _, _, rfl, ‹_›, ?_⟩
    | refine And.intro (by assumption) ?_))))
section
variable {P : Program} {w : World} {K : PySem.W.Frag} {mg : Str → Option Value} {base : Heap} {C : Addr}
/-! ### crossings -/
abbrev crN : List Str := ["one", "other", "is_empty", "step", "other_step", "start", "other_start"]
def wayV (p : Pt) : List V := [.int p.day, .int p.post, .int p.stride]
structure PtOk (p : Pt) : Prop where
  d0 : 0 ≤ p.day
  d1 : p.day ≤ 10 ^ 30
  p0 : -(10 ^ 30) ≤ p.post
  p1 : p.post ≤ 10 ^ 30
  s0 : -(10 ^ 18) ≤ p.stride
  s1 : p.stride ≤ 10 ^ 18
  nz : p.stride ≠ 0
structure CrB (step ostep start ostart : Int) : Prop where
  a : step ≤ 10 ^ 18
  b : -(10 ^ 18) ≤ ostep ∧ ostep ≤ 10 ^ 18
  c : -(10 ^ 40) ≤ ostart ∧ ostart ≤ 10 ^ 40
def CrAt (K : PySem.W.Frag) (C : Addr) (H : Hp) (c : Addr) (a b : Pt) : Prop := ∃ (dx o t : Addr) (emp : Bool) (step ostep start ostart : Int),
  H c = some (.ins C dx (crN.zip [.ref o, .ref t, .bl emp, .int step, .int ostep, .int start, .int ostart])) ∧ SqT K H o (wayV a) ∧ SqT K H t (wayV b) ∧ CrOk a.post a.stride b.post b.stride emp step ostep start ostart ∧ CrB step ostep start ostart
theorem CrAt.same {H H' : Hp} {c : Addr} {a b : Pt} (e : Same H H') (h : CrAt K C H c a b) : CrAt K C H' c a b := by
  obtain ⟨dx, o, t, emp, step, ostep, start, ostart, h1, h2, h3, h4⟩ := h
  exact ⟨dx, o, t, emp, step, ostep, start, ostart, e _ _ h1, e.sqt h2, e.sqt h3, h4⟩
theorem ediv_small {x g : Int} {N : Int} (hg : 0 < g) (h1 : -N ≤ x) (h2 : x ≤ N) (h0 : 0 ≤ N) : -N ≤ x / g ∧ x / g ≤ N := by
  constructor
  · rw [Int.le_ediv_iff_mul_le hg]
    have := Int.mul_le_mul_of_nonneg_left (show (1 : Int) ≤ g by omega) h0
    rw [Int.neg_mul]
    omega
  · have : x / g < N + 1 := by
      rw [Int.ediv_lt_iff_lt_mul hg, Int.add_mul]
      have := Int.mul_le_mul_of_nonneg_left (show (1 : Int) ≤ g by omega) h0
      omega
    omega
theorem fdiv_small {x s N : Int} (hs : s ≠ 0) (h1 : -N ≤ x) (h2 : x ≤ N) (h0 : 0 ≤ N) : -N ≤ x.fdiv s ∧ x.fdiv s ≤ N := by
  by_cases h : 0 < s
  · rw [Int.fdiv_eq_ediv_of_nonneg x (by omega)]
    exact ediv_small h h1 h2 h0
  · have e : x.fdiv s = (-x) / (-s) := by
      rw [← Int.fdiv_eq_ediv_of_nonneg (-x) (show 0 ≤ -s by omega), Int.neg_fdiv_neg]
    rw [e]
    exact ediv_small (by omega) (by omega) (by omega) h0
theorem mul_small {x y N M : Int} (hx : -N ≤ x ∧ x ≤ N) (hy : -M ≤ y ∧ y ≤ M) : -(N * M) ≤ x * y ∧ x * y ≤ N * M := by
  have hN : 0 ≤ N := by omega
  have hM : 0 ≤ M := by omega
  have h1 := Int.mul_nonneg (show 0 ≤ N - x by omega) (show 0 ≤ M + y by omega)
  have h2 := Int.mul_nonneg (show 0 ≤ N + x by omega) (show 0 ≤ M - y by omega)
  have h3 := Int.mul_nonneg (show 0 ≤ N - x by omega) (show 0 ≤ M - y by omega)
  have h4 := Int.mul_nonneg (show 0 ≤ N + x by omega) (show 0 ≤ M + y by omega)
  simp only [Int.sub_mul, Int.add_mul, Int.mul_add, Int.mul_sub] at h1 h2 h3 h4
  omega
section
variable {a b : Pt}
theorem cr_bounds {r : Int} (ha : PtOk a) (hb : PtOk b) (h0 : 0 ≤ r) (h1 : r < absI b.stride / (Int.gcd a.stride b.stride : Int)) :
    CrB (absI b.stride / (Int.gcd a.stride b.stride : Int)) (if 0 < b.stride then a.stride / (Int.gcd a.stride b.stride : Int) else -(a.stride / (Int.gcd a.stride b.stride : Int))) ((b.post - a.post) / (Int.gcd a.stride b.stride : Int) * r % (absI b.stride / (Int.gcd a.stride b.stride : Int))) ((a.post + (b.post - a.post) / (Int.gcd a.stride b.stride : Int) * r % (absI b.stride / (Int.gcd a.stride b.stride : Int)) * a.stride - b.post).fdiv b.stride) := by
  obtain ⟨a1, a2, a3, a4, a5, a6, a7⟩ := ha
  obtain ⟨b1, b2, b3, b4, b5, b6, b7⟩ := hb
  have hg := gcd_pos (s1 := a.stride) b7
  generalize (Int.gcd a.stride b.stride : Int) = g at *
  have hs2 : -(10 ^ 18) ≤ absI b.stride ∧ absI b.stride ≤ 10 ^ 18 := by unfold absI; split <;> omega
  have e1 := ediv_small hg hs2.1 hs2.2 (by decide)
  have e2 := ediv_small hg a5 a6 (by decide)
  generalize absI b.stride / g = st at *
  have hst : 0 < st := by omega
  have e3 := Int.emod_nonneg ((b.post - a.post) / g * r) (show st ≠ 0 by omega)
  have e4 := Int.emod_lt_of_pos ((b.post - a.post) / g * r) hst
  generalize (b.post - a.post) / g * r % st = start at *
  refine ⟨e1.2, ?_, ?_⟩
  · split <;> omega
  · have h5 := mul_small (N := 10 ^ 18) (M := 10 ^ 18) (x := start) (y := a.stride) ⟨by omega, by omega⟩ ⟨a5, a6⟩
    have e : (10 : Int) ^ 18 * 10 ^ 18 = 10 ^ 36 := by decide
    rw [e] at h5
    exact fdiv_small b7 (by omega) (by omega) (by decide)
theorem gcd_unit (h : b.stride ≠ 0) : Int.gcd (a.stride / (Int.gcd a.stride b.stride : Int)) (absI b.stride / (Int.gcd a.stride b.stride : Int)) = 1 := by
  have hg := gcd_pos (s1 := a.stride) h
  have d1 := Int.gcd_dvd_left a.stride b.stride
  have d2 := Int.gcd_dvd_right a.stride b.stride
  have d3 : (Int.gcd a.stride b.stride : Int) ∣ absI b.stride := by
    rw [absI_natAbs]
    exact Int.dvd_natAbs.mpr d2
  have e : Int.gcd a.stride (absI b.stride) = Int.gcd a.stride b.stride := by
    rw [absI_natAbs]
    simp [Int.gcd]
  have h := Int.gcd_ediv (a := a.stride) (b := absI b.stride) (c := (Int.gcd a.stride b.stride : Int)) d1 d3
  rw [h, e, Int.natAbs_natCast]
  exact Nat.div_self (by omega)
end
theorem dec_int {i j : Int} : decide (i ≠ j) = !decide (V.int i = V.int j) := by
  by_cases h : i = j
  · rw [decide_eq_false (fun z => z h), decide_eq_true (congrArg V.int h)]
    rfl
  · rw [decide_eq_true h, decide_eq_false (fun z => h (by injection z))]
    rfl
def spCrossInit (K : PySem.W.Frag) (C : Addr) : Sp := fun vs H Q _ => ∃ (x dx o t : Addr) (a b : Pt), vs = [.ref x, .ref o, .ref t] ∧ H x = some (.ins C dx []) ∧ SqT K H o (wayV a) ∧ SqT K H t (wayV b) ∧ PtOk a ∧ PtOk b ∧ ∀ H', SB x H H' → CrAt K C H' x a b → Q .non H'
theorem sc_Crossing___init__ : FnScope ["self", "one", "other", "stride", "other_stride", "divisor", "gap", "rest"] ["self", "one", "other"] (defScope s_Crossing___init__) := C8.fnScope_by (by decide +kernel)
theorem ok_Crossing {f : Addr} (kc : KCls K C crN) (M : Mk K C f) (hm : mg "Crossing" = some (.ref C)) (F : DF K "__init__" "Crossing.__init__" s_Crossing___init__ f) (c_greatest_divisor : C8.Cal P w K mg base 1 "greatest_divisor" spGcd []) (c_inverse : C8.Cal P w K mg base 1 "inverse" spInverse []) (n_abs : mg "abs" = none) (n_divmod : mg "divmod" = none) :
    C8.Mak P w K mg base 2 "Crossing" C (spCrossInit K C) [] := by
  refine mak_of M hm F sc_Crossing___init__ (fun _ _ _ _ _ _ us hl => match us, hl with | [_, _, _], _ => rfl) (fun vs H Q E h => ?_) (fun cdv A outer s H vs Q E hr h => ?_)
  · obtain ⟨x, dx, o, t, a, b, rfl, _⟩ := h
    rfl
  · obtain ⟨x, dx, o, t, a, b, rfl, hx, ho, ht, ha, hb, k⟩ := h
    refine ⟨_, (pss_cons (ps_par (i := 3) (j := 4) rfl sc_Crossing___init__.nd rfl rfl (by decide) rfl rfl (pa_cons (pe_ix ix_tup (pv 1) pe_int (fun _ _ => rfl)) (pa_cons (pe_ix ix_tup (pv 2) pe_int (fun _ _ => rfl)) pa_nil)) (by rfl))
        (pss_cons (ps_set (i := 5) sc_Crossing___init__.nd rfl (Or.inl rfl) (C8.pe_c c_greatest_divisor hr (by decide) rfl (pa_cons (pv 3) (pa_cons (pv 4) pa_nil))))
        (pss_cons (ps_asg (pe_callB call_divmodG (by rfl) n_divmod (by decide +kernel) (pa_cons (pe_op op_sub (pe_ix ix_tup (pv 2) pe_int (fun _ _ => rfl)) (pe_ix ix_tup (pv 1) pe_int (fun _ _ => rfl))) (pa_cons (pv 5) pa_nil))) (pg_tup rfl (pgs_cons (pg_name (i := 6) sc_Crossing___init__.nd rfl (Or.inl rfl)) (pgs_cons (pg_name (i := 7) sc_Crossing___init__.nd rfl (Or.inl rfl)) pgs_nil))))
        (pss_cons (ps_fldN (pv 0) (pv 1) rfl)
        (pss_cons (ps_fldN (pv 0) (pv 2) rfl)
        (pss_cons (ps_fldN (pv 0) (pe_cmpR op_ne (pv 7) pe_int (nomark _)) rfl)
        (pss_cons (ps_fldN (pv 0) (pe_op op_fdivP (pe_callB call_abs (by rfl) n_abs (by decide +kernel) (pa_cons (pv 4) pa_nil)) (pv 5)) rfl)
        (pss_cons (ps_fldN (pv 0) (pe_ifExp (pt_cmpR op_gt (pv 4) pe_int (nomark _)) (pe_op op_fdivP (pv 3) (pv 5)) (pe_un un_neg (pe_op op_fdivP (pv 3) (pv 5)))) rfl)
        (pss_cons (ps_fldN (pv 0) (pe_op op_mod (pe_op op_mulB (pv 6) (C8.pe_c c_inverse hr (by decide) rfl (pa_cons (pe_op op_fdivP (pv 3) (pv 5)) (pa_cons (pe_fldN 3 (pv 0) rfl) pa_nil)))) (pe_fldN 3 (pv 0) rfl)) rfl)
        (pss_one (ps_fldN (pv 0) (pe_op op_fdivG (pe_op op_sub (pe_op op_add (pe_ix ix_tup (pv 1) pe_int (fun _ _ => rfl)) (pe_op op_mulB (pe_fldN 5 (pv 0) rfl) (pv 3))) (pe_ix ix_tup (pv 2) pe_int (fun _ _ => rfl))) (pv 4)) rfl))))))))))), ?_⟩
    show (_ : TS) _ [some _, some _, some _, none, none, none, none, none] _
    have g0 : GOk K C [] "one" := kc.g (i := 0) rfl
    have g1 : GOk K C ["one"] "other" := kc.g (i := 1) rfl
    have g2 : GOk K C ["one", "other"] "is_empty" := kc.g (i := 2) rfl
    have g3 : GOk K C ["one", "other", "is_empty"] "step" := kc.g (i := 3) rfl
    have g4 : GOk K C ["one", "other", "is_empty", "step"] "other_step" := kc.g (i := 4) rfl
    have g5 : GOk K C ["one", "other", "is_empty", "step", "other_step"] "start" := kc.g (i := 5) rfl
    have g6 : GOk K C ["one", "other", "is_empty", "step", "other_step", "start"] "other_start" := kc.g (i := 6) rfl
    have hg := gcd_pos (s1 := a.stride) hb.nz
    have hst := step_pos (s1 := a.stride) hb.nz
    obtain ⟨a1, a2, a3, a4, a5, a6, a7⟩ := id ha
    obtain ⟨b1, b2, b3, b4, b5, b6, b7⟩ := id hb
    have hs2 : -(10 ^ 18) ≤ absI b.stride ∧ absI b.stride ≤ 10 ^ 18 := by unfold absI; split <;> omega
    have hg2 : (Int.gcd a.stride b.stride : Int) ≤ 10 ^ 18 := by
      have d3 : (Int.gcd a.stride b.stride : Int) ∣ absI b.stride := by
        rw [absI_natAbs]
        exact Int.dvd_natAbs.mpr (Int.gcd_dvd_right a.stride b.stride)
      have := Int.le_of_dvd (by unfold absI; omega) d3
      omega
    have hgB : Bd (Int.gcd a.stride b.stride : Int) := ⟨by omega, by omega⟩
    have e1 := ediv_small hg hs2.1 hs2.2 (by decide)
    have e2 := ediv_small hg a5 a6 (by decide)
    have e3 := ediv_small hg (show -(10 ^ 31) ≤ b.post - a.post by omega) (show b.post - a.post ≤ 10 ^ 31 by omega) (by decide)
    walk_at "w"
    intro t0 ht0
    rw [Int.fdiv_eq_ediv_of_nonneg _ (Int.le_of_lt hg), Int.fmod_eq_emod_of_nonneg _ (Int.le_of_lt hg)]
    have hS1 : Same H (upd H t0 (.tup [.int ((b.post - a.post) / (Int.gcd a.stride b.stride : Int)), .int ((b.post - a.post) % (Int.gcd a.stride b.stride : Int))])) := Same.new ht0
    refine ⟨_, _, rfl, SqT.of upd_same, rfl, ?_⟩
    walk_at "w"
    refine ⟨x, C, dx, [], [], rfl, hS1 _ _ hx, g0, rfl, ?_⟩
    walk_at "w"
    refine ⟨_, _, _, _, _, rfl, upd_same, g1, rfl, ?_⟩
    walk_at "w"
    refine ⟨_, _, _, _, _, rfl, upd_same, g2, rfl, ?_⟩
    walk_at "w"
    refine ⟨_, _, _, _, _, rfl, upd_same, g3, rfl, ?_⟩
    walk_at "w"
    have hs2g : absI b.stride / (Int.gcd a.stride b.stride : Int) ≤ 10 ^ 100 := by omega
    have f3 : FOk K C ["one", "other", "is_empty", "step", "other_step"] 3 "step" := kc.ft (i := 3) (m := 5) rfl (by decide)
    refine iteD (fun hc => ?_) (fun hc => ?_)
    · skip
      walk_at "w"
      refine ⟨_, _, _, _, _, rfl, upd_same, g4, rfl, ?_⟩
      walk_at "w"
      refine ⟨gcd_unit hb.nz, fun r H2 r0 r1 hr hS2 => ?_⟩
      have hx2 := hS2 _ _ upd_same
      replace r1 : r < absI b.stride / (Int.gcd a.stride b.stride : Int) := r1
      have cB := cr_bounds ha hb r0 r1
      have cO := cr_ok (p1 := a.post) (p2 := b.post) hb.nz hr
      rw [if_pos hc] at cB cO
      have rB : Bd r := ⟨by omega, by omega⟩
      have gB : Bd ((b.post - a.post) / (Int.gcd a.stride b.stride : Int)) := ⟨by omega, by omega⟩
      walk_at "w"
      have e4 := Int.emod_nonneg ((b.post - a.post) / (Int.gcd a.stride b.stride : Int) * r) (show absI b.stride / (Int.gcd a.stride b.stride : Int) ≠ 0 by omega)
      have e5 := Int.emod_lt_of_pos ((b.post - a.post) / (Int.gcd a.stride b.stride : Int) * r) hst
      have SB2 : SB x H H2 := ((((((SB.of hS1).set).set).set).set).set).same hS2
      refine ⟨x, C, dx, ["one", "other", "is_empty", "step", "other_step"], [_, _, _, _, _], rfl, hx2, g5, rfl, ?_⟩
      have ho2 := SB2.sqt hx ho
      have ht2 := SB2.sqt hx ht
      have stB : Bd ((b.post - a.post) / (Int.gcd a.stride b.stride : Int) * r % (absI b.stride / (Int.gcd a.stride b.stride : Int))) := ⟨by omega, by omega⟩
      have aB : Bd a.stride := ⟨by omega, by omega⟩
      have bB : Bd b.stride := ⟨by omega, by omega⟩
      have ho3 : ∀ u, SqT K (upd H2 x u) o (wayV a) := fun u => (SB.set SB2).sqt hx ho
      have ht3 : ∀ u, SqT K (upd H2 x u) t (wayV b) := fun u => (SB.set SB2).sqt hx ht
      have f5 : FOk K C ["one", "other", "is_empty", "step", "other_step", "start"] 5 "start" := kc.ft (i := 5) (m := 6) rfl (by decide)
      walk_at "w"
      refine ⟨_, _, _, _, rfl, rfl, ho3 _, rfl, ?_⟩
      walk_at "w"
      refine ⟨_, _, _, _, rfl, rfl, ht3 _, rfl, ?_⟩
      walk_at "w"
      refine ⟨_, _, _, _, _, rfl, upd_same, g6, rfl, ?_⟩
      rw [dec_int] at cO
      exact k _ ((SB2.set).set) ⟨dx, o, t, _, _, _, _, _, upd_same, (SB.set (SB.set SB2)).sqt hx ho, (SB.set (SB.set SB2)).sqt hx ht, cO, cB⟩
    · skip
      walk_at "w"
      refine ⟨_, _, _, _, _, rfl, upd_same, g4, rfl, ?_⟩
      walk_at "w"
      refine ⟨gcd_unit hb.nz, fun r H2 r0 r1 hr hS2 => ?_⟩
      have hx2 := hS2 _ _ upd_same
      replace r1 : r < absI b.stride / (Int.gcd a.stride b.stride : Int) := r1
      have cB := cr_bounds ha hb r0 r1
      have cO := cr_ok (p1 := a.post) (p2 := b.post) hb.nz hr
      rw [if_neg hc] at cB cO
      have rB : Bd r := ⟨by omega, by omega⟩
      have gB : Bd ((b.post - a.post) / (Int.gcd a.stride b.stride : Int)) := ⟨by omega, by omega⟩
      walk_at "w"
      have e4 := Int.emod_nonneg ((b.post - a.post) / (Int.gcd a.stride b.stride : Int) * r) (show absI b.stride / (Int.gcd a.stride b.stride : Int) ≠ 0 by omega)
      have e5 := Int.emod_lt_of_pos ((b.post - a.post) / (Int.gcd a.stride b.stride : Int) * r) hst
      have SB2 : SB x H H2 := ((((((SB.of hS1).set).set).set).set).set).same hS2
      refine ⟨x, C, dx, ["one", "other", "is_empty", "step", "other_step"], [_, _, _, _, _], rfl, hx2, g5, rfl, ?_⟩
      have ho2 := SB2.sqt hx ho
      have ht2 := SB2.sqt hx ht
      have stB : Bd ((b.post - a.post) / (Int.gcd a.stride b.stride : Int) * r % (absI b.stride / (Int.gcd a.stride b.stride : Int))) := ⟨by omega, by omega⟩
      have aB : Bd a.stride := ⟨by omega, by omega⟩
      have bB : Bd b.stride := ⟨by omega, by omega⟩
      have ho3 : ∀ u, SqT K (upd H2 x u) o (wayV a) := fun u => (SB.set SB2).sqt hx ho
      have ht3 : ∀ u, SqT K (upd H2 x u) t (wayV b) := fun u => (SB.set SB2).sqt hx ht
      have f5 : FOk K C ["one", "other", "is_empty", "step", "other_step", "start"] 5 "start" := kc.ft (i := 5) (m := 6) rfl (by decide)
      walk_at "w"
      refine ⟨_, _, _, _, rfl, rfl, ho3 _, rfl, ?_⟩
      walk_at "w"
      refine ⟨_, _, _, _, rfl, rfl, ht3 _, rfl, ?_⟩
      walk_at "w"
      refine ⟨_, _, _, _, _, rfl, upd_same, g6, rfl, ?_⟩
      rw [dec_int] at cO
      exact k _ ((SB2.set).set) ⟨dx, o, t, _, _, _, _, _, upd_same, (SB.set (SB.set SB2)).sqt hx ho, (SB.set (SB.set SB2)).sqt hx ht, cO, cB⟩
end
end PK
end
section
set_option Elab.async false
set_option linter.all false
set_option maxRecDepth 100000
set_option maxHeartbeats 4000000
namespace PK
open PySem PySem.Spec PyProof.Rows L2 PM
local macro_rules | `(tactic| walk_at "sd") => `(tactic| (first
  | assumption
  | omega
  | (constructor <;> omega)
  | (refine ⟨by omega, ?_⟩; constructor <;> omega)
  | (constructor <;> (first | assumption | omega | (constructor <;> omega)))))
local macro_rules | `(tactic| walk_at "w") => `(tactic| (repeat (first
  | with_reducible refine ifTT ?_
  | with_reducible refine ifFT ?_
  | with_reducible refine ifnT ?_
  | with_reducible refine ifnF ?_
  | with_reducible refine ifIN ?_
  | with_reducible refine ifNN ?_
  | with_reducible refine ifnIN ?_
  | with_reducible refine ifnNN ?_
  | with_reducible refine ifRN ?_
  | with_reducible refine ifnRN ?_
  | ((fail_if_success with_reducible refine iteB ?_ ?_); first
    | refine ⟨_, rfl, ?_⟩
    | refine ⟨_, _, rfl, rfl, ?_⟩
    | refine ⟨_, _, rfl, ?_⟩
    | refine And.intro (a := (_ : Nat) ≤ sizeLine) (by first | exact len_small (m := 2) rfl | exact len_small (m := 1) rfl | exact len_small (m := 4) rfl | exact len_small (m := 3) rfl | exact len_small (m := 0) rfl) ?_
    | refine ⟨rfl, ?_⟩
    | refine And.intro (a := CDivP _ _) (by walk_at "sd") ?_
    | refine And.intro (a := CDivB _ _) (by walk_at "sd") ?_
    | refine And.intro (a := CMulB _ _) (by walk_at "sd") ?_
    | refine And.intro (a := _ ≠ (0 : Int)) (by walk_at "sd") ?_
    | refine And.intro (a := (0 : Int) < _) (by walk_at "sd") ?_
    | refine ⟨_, _, rfl, ‹_›, rfl, ?_⟩
    | refine ⟨_, _, _, _, rfl, rfl, ‹_›, rfl, ?_⟩
    | refine ⟨_, _, _, _, rfl, rfl, by assumption, by assumption, ?_⟩
    | refine ⟨_, _, _, _, _, _, rfl, ‹_›, ‹_›, rfl, ?_⟩
    | refine ⟨_, _, _, _, _, _, rfl, ‹_›, (by exact KCls.f ‹_› rfl), (by rfl), ?_⟩
    | refine ⟨_, _, _, _, _, _, rfl, upd_same, ‹_›, (by rfl), ?_⟩
    | refine ⟨_, _, _, _, _, _, rfl, ‹_›, ‹Cls _ _›, ‹_›, rfl, ?_⟩
    | refine ⟨_, _, _, _, rfl, ‹_›, by decide +kernel, ?_⟩
    | refine ⟨_, _, _, rfl, ‹_›, ?_⟩
    | refine And.intro (by assumption) ?_))))
section
variable {P : Program} {w : World} {K : PySem.W.Frag} {mg : Str → Option Value} {base : Heap} {C : Addr}
theorem len_of {n m : Nat} (e : n ≤ m) (h : m ≤ 1000 := by decide) : n ≤ sizeLine := Nat.le_trans e (Nat.le_trans h (by decide))
/-! ### names -/
abbrev abc : Str := "abcdefghijklmnopqrstuvwxyz"
def inLet (c : Nat) : Bool := !(Builtin.Str.occurrences abc ⟨#[c]⟩ 0 abc.length 1).isEmpty
structure NameOk (z : Str) : Prop where
  lo : 1 ≤ z.length
  hi : z.length ≤ 8
  all : ∀ c, c ∈ z.cps.toList → inLet c = true
def spIsName : Sp := fun vs H Q _ => ∃ z, vs = [.str z] ∧ NameOk z ∧ ∀ H', Same H H' → Q (.bl true) H'
theorem all_true (l : List Bool) (h : ∀ b, b ∈ l → b = true) : l.all id = true := List.all_eq_true.mpr h
theorem sc_is_name : FnScope ["value", "letter"] ["value"] (defScope s_is_name) := C8.fnScope_by (by decide +kernel)
theorem ok_is_name {f : Addr} (F : DF K "is_name" "is_name" s_is_name f) (hm : mg "is_name_names" = some (.ref f)) (n_isinstance : mg "isinstance" = none) (n_str : mg "str" = none) (n_len : mg "len" = none) (n_all : mg "all" = none) (g_MAX_NAME : GC mg "MAX_NAME" (.int 8)) (g_LETTERS : GC mg "LETTERS" (.str abc)) :
    C8.Cal P w K mg base 1 "is_name_names" spIsName [] := by
  obtain ⟨fd, F⟩ := F
  refine cal_ofB F ⟨[], .nil, F.bindsN (fun _ _ _ _ _ _ us hl => match us, hl with | [_], _ => rfl)⟩ hm sc_is_name (fun vs H Q E h => ?_) (fun cdv A outer s H vs Q E hr h => ?_)
  · obtain ⟨z, rfl, _⟩ := h
    rfl
  · obtain ⟨z, rfl, hz, k⟩ := h
    refine ⟨_, (pss_cons (ps_if (PW.pt (pw_or (pt_not (pt_val (pe_callB call_isi (by rfl) n_isinstance (by decide +kernel) (pa_cons (pv 0) (pa_cons (pe_bltn (v := .ty "str") (u := .type "str") (by rfl) n_str (by decide +kernel) rfl) pa_nil))))) (pw_or1 (pt_not (pt_chain op_le op_le pe_int (pe_callB call_len_str (by rfl) n_len (by decide +kernel) (pa_cons (pv 0) pa_nil)) (C8.pe_gc rfl g_MAX_NAME)))))) (pss_one (ps_ret pe_bl))
           pss_nil)
        (pss_one (ps_ret (pe_callB (cr_all rfl) (by rfl) n_all (by decide +kernel) (pa_cons (pe_lc (own := [("letter", 1)]) rfl sc_is_name.nd (pi_str (pv 0)) (blkOk_by (N := ["value", "letter"]) (sc := defScope s_is_name) (own := [("letter", 1)]) (by decide +kernel)) (fun _ _ _ _ _ => (pg_name (i := 1) sc_is_name.nd rfl (Or.inl rfl))) (fun _ _ _ _ _ => pts_nil) (fun _ _ _ _ _ => (pe_cmpR op_in_str (pv 1) (C8.pe_gc rfl g_LETTERS) (by rfl)))) pa_nil))))), ?_⟩
    show (_ : TS) _ [some _, none] _
    walk_at "w"
    refine ⟨_, _, _, _, _, rfl, .ty _, .base (.str _), kit_ty (r := true) (by decide +kernel), ?_⟩
    have h1 := hz.lo
    have h2 := hz.hi
    refine ⟨true, rfl, ?_⟩
    walk_at "w"
    refine ⟨len_of h2, ?_⟩
    walk_at "w"
    refine iteD (fun _ => ?_) (fun hc => absurd (show (1 : Int) ≤ z.length by omega) hc)
    walk_at "w"
    refine iteND (fun hc => absurd (show (z.length : Int) ≤ 8 by omega) hc) (fun _ => ?_)
    walk_at "w"
    intro D hD
    refine lc_acc walk_str hD (by have : z.cps.size = z.length := rfl; omega) (fun i acc _ => ∃ bs : List Bool, acc = bs.map V.bl ∧ ∀ b, b ∈ bs → b = true) ⟨[], rfl, fun _ h => nomatch h⟩ (fun _ _ _ _ _ => trivial) ?_ ?_
    · rintro i x acc H1 H2 Nx hi hS hD1 ⟨bs, rfl, hbs⟩ ⟨rfl, c, hc, rfl⟩ fin _
      walk_at "w"
      refine fin _ _ hD1 hS ⟨bs ++ [_], by rw [List.map_append]; rfl, fun b hb => ?_⟩
      rcases List.mem_append.mp hb with h | h
      · exact hbs b h
      · rw [List.mem_singleton.mp h]
        exact hz.all c (by
          rw [← Array.getElem?_toList] at hc
          exact List.mem_of_getElem? hc)
    · rintro acc H1 hS hD1 ⟨bs, rfl, hbs⟩
      refine ⟨D, bs, rfl, SqL.of hD1, ?_⟩
      rw [all_true bs hbs]
      exact k _ hS
/-! ### painters -/
abbrev paN : List Str := ["parts"]
def parV (z : Str) (p : Pt) : List V := [.str z, .int p.day, .int p.post, .int p.stride]
def PnAt (K : PySem.W.Frag) (C : Addr) (H : Hp) (x : Addr) (z : Str) (p : Pt) : Prop := ∃ dx t, H x = some (.ins C dx (paN.zip [.ref t])) ∧ SqT K H t (parV z p)
theorem PnAt.same {H H' : Hp} {x : Addr} {z : Str} {p : Pt} (e : Same H H') (h : PnAt K C H x z p) : PnAt K C H' x z p := by
  obtain ⟨dx, t, h1, h2⟩ := h
  exact ⟨dx, t, e _ _ h1, e.sqt h2⟩
def spPainterInit (K : PySem.W.Frag) (C : Addr) : Sp := fun vs H Q _ => ∃ (x dx : Addr) (z : Str) (p : Pt), vs = [.ref x, .str z, .int p.day, .int p.post, .int p.stride] ∧ H x = some (.ins C dx []) ∧ NameOk z ∧ PtOk p ∧ ∀ H', SB x H H' → PnAt K C H' x z p → Q .non H'
/-- the class's numbers -/
structure PaC (K : PySem.W.Frag) (C : Addr) : Prop where
  d : ∃ u, Con K C "MAX_DAY" (.int (10 ^ 30)) u
  p : ∃ u, Con K C "MAX_POST" (.int (10 ^ 30)) u
  s : ∃ u, Con K C "MAX_STRIDE" (.int (10 ^ 18)) u
theorem sc_Painter___init__ : FnScope ["self", "name", "day", "post", "stride"] ["self", "name", "day", "post", "stride"] (defScope s_Painter___init__) := C8.fnScope_by (by decide +kernel)
theorem ok_Painter {f : Addr} (kc : KCls K C paN) (pc : PaC K C) (M : Mk K C f) (hm : mg "Painter" = some (.ref C)) (F : DF K "__init__" "Painter.__init__" s_Painter___init__ f) (c_is_name_names : C8.Cal P w K mg base 1 "is_name_names" spIsName []) (c_is_between : C8.Cal P w K mg base 2 "is_between" spIsBetween []) :
    C8.Mak P w K mg base 3 "Painter" C (spPainterInit K C) [] := by
  refine mak_of M hm F sc_Painter___init__ (fun _ _ _ _ _ _ us hl => match us, hl with | [_, _, _, _, _], _ => rfl) (fun vs H Q E h => ?_) (fun cdv A outer s H vs Q E hr h => ?_)
  · obtain ⟨x, dx, z, p, rfl, _⟩ := h
    rfl
  · obtain ⟨x, dx, z, p, rfl, hx, hz, ⟨d0, d1, p0, p1, s0, s1, nz⟩, k⟩ := h
    refine ⟨_, (pss_cons (ps_if (pt_not (pt_val (C8.pe_c c_is_name_names hr (by decide) rfl (pa_cons (pv 1) pa_nil)))) (pss_one ps_never)
           pss_nil)
        (pss_cons (ps_if (pt_not (pt_val (C8.pe_c c_is_between hr (by decide) rfl (pa_cons (pv 2) (pa_cons pe_int (pa_cons (pe_con (pv 0) rfl) pa_nil)))))) (pss_one ps_never)
           pss_nil)
        (pss_cons (ps_if (pt_not (pt_val (C8.pe_c c_is_between hr (by decide) rfl (pa_cons (pv 3) (pa_cons (pe_un un_neg (pe_con (pv 0) rfl)) (pa_cons (pe_con (pv 0) rfl) pa_nil)))))) (pss_one ps_never)
           pss_nil)
        (pss_cons (ps_if (PW.pt (pw_or (pt_not (pt_val (C8.pe_c c_is_between hr (by decide) rfl (pa_cons (pv 4) (pa_cons (pe_un un_neg (pe_con (pv 0) rfl)) (pa_cons (pe_con (pv 0) rfl) pa_nil)))))) (pw_or1 (pt_cmpR op_eq (pv 4) pe_int (nomark _))))) (pss_one ps_never)
           pss_nil)
        (pss_one (ps_fldN (pv 0) (pe_tup (pa_cons (pv 1) (pa_cons (pv 2) (pa_cons (pv 3) (pa_cons (pv 4) pa_nil))))) rfl)))))), ?_⟩
    show (_ : TS) _ [some _, some _, some _, some _, some _] _
    obtain ⟨ud, cd⟩ := pc.d
    obtain ⟨up, cp⟩ := pc.p
    obtain ⟨us, cs⟩ := pc.s
    have hcl := kc.cl
    have hf0 : FOk K C ["parts"] 0 "parts" := kc.f rfl
    walk_at "w"
    intro H1 hS1
    have hx1 := hS1 _ _ hx
    walk_at "w"
    refine iteD (fun hc => absurd (by injection hc) nz) (fun _ => ?_)
    walk_at "w"
    intro t ht
    have g0 : GOk K C [] "parts" := kc.g (i := 0) rfl
    walk_at "w"
    refine ⟨x, C, dx, [], [], rfl, Same.new ht _ _ hx1, g0, rfl, ?_⟩
    refine k _ (((SB.of hS1).new ht).set) ⟨dx, t, upd_same, ?_⟩
    refine SqT.of ?_
    rw [upd_ne (ne_of (upd_same (H := H1) (o := HO.tup (parV z p))) (Same.new ht _ _ hx1) (by intro z; cases z))]
    exact upd_same
theorem prp_of {m qual : Str} {C : Addr} {st : Stmt} {p f : Addr} {N ps : List Str} {k : Nat} {sp : Sp} (c : Cls K C) (me : PropOf K C m p f) (F : DF K m qual st f) (S : FnScope N ps (defScope st))
    (hb : ∀ (kV doc pm : Value) (an : Option Addr) (cdv ct : Value) (us : List Value), us.length = ps.length → bindArgs (PySem.W.fnOf m qual (defArgs st) (defBody st) (defScope st) .none kV doc pm an cdv ct) ⟨us, []⟩ = pure (ps.zip us))
    (len : ∀ vs H Q E, sp vs H Q E → vs.length = ps.length)
    (hbody : ∀ (cdv : Value) (A : Around) (outer : List Env) (s : Shared) (H : Hp) (vs : List V) (Q : VK) (E : XK), Room k (A.deeper (envOfC qual (defScope st) s.heap.objs.size f cdv)) → sp vs H Q E →
      ∃ t, PSs (cxOf CX0 P w K mg base N qual (defScope st) f cdv A outer s H E).nox (defBody st) t ∧ t { nx := fun _ H' => Q .non H', rt := Q } (start N vs) H) : Prp P w K mg base (k + 1) C m sp := by
  obtain ⟨fd, F⟩ := F
  exact ⟨p, f, fd, ps, c, me, funD_ok F S len hbody, F.bindsN hb⟩
def spG_name (K : PySem.W.Frag) (C : Addr) : Sp := fun vs H Q _ => ∃ (x : Addr) (z : Str) (p : Pt), vs = [.ref x] ∧ PnAt K C H x z p ∧ Q (.str z) H
theorem sc_Painter_name : FnScope ["self"] ["self"] (defScope s_Painter_name) := C8.fnScope_by (by decide +kernel)
theorem ok_g_name {pf f : Addr} (kc : KCls K C paN) (me : PropOf K C "name" pf f) (F : DF K "name" "Painter.name" s_Painter_name f) :
    Prp P w K mg base 1 C "name" (spG_name K C) := by
  refine prp_of kc.cl me F sc_Painter_name (fun _ _ _ _ _ _ us hl => match us, hl with | [_], _ => rfl) (fun vs H Q E h => ?_) (fun cdv A outer s H vs Q E hr h => ?_)
  · obtain ⟨x, z, p, rfl, _⟩ := h
    rfl
  · obtain ⟨x, z, p, rfl, ⟨dx, t, hx, ht⟩, k⟩ := h
    refine ⟨_, (pss_one (ps_ret (pe_ix ix_tup (pe_fldN 0 (pv 0) rfl) pe_int (fun _ _ => rfl)))), ?_⟩
    show (_ : TS) _ [some _] _
    walk_at "w"
    exact k
def spG_day (K : PySem.W.Frag) (C : Addr) : Sp := fun vs H Q _ => ∃ (x : Addr) (z : Str) (p : Pt), vs = [.ref x] ∧ PnAt K C H x z p ∧ Q (.int p.day) H
theorem sc_Painter_day : FnScope ["self"] ["self"] (defScope s_Painter_day) := C8.fnScope_by (by decide +kernel)
theorem ok_g_day {pf f : Addr} (kc : KCls K C paN) (me : PropOf K C "day" pf f) (F : DF K "day" "Painter.day" s_Painter_day f) :
    Prp P w K mg base 1 C "day" (spG_day K C) := by
  refine prp_of kc.cl me F sc_Painter_day (fun _ _ _ _ _ _ us hl => match us, hl with | [_], _ => rfl) (fun vs H Q E h => ?_) (fun cdv A outer s H vs Q E hr h => ?_)
  · obtain ⟨x, z, p, rfl, _⟩ := h
    rfl
  · obtain ⟨x, z, p, rfl, ⟨dx, t, hx, ht⟩, k⟩ := h
    refine ⟨_, (pss_one (ps_ret (pe_ix ix_tup (pe_fldN 0 (pv 0) rfl) pe_int (fun _ _ => rfl)))), ?_⟩
    show (_ : TS) _ [some _] _
    walk_at "w"
    exact k
def spG_post (K : PySem.W.Frag) (C : Addr) : Sp := fun vs H Q _ => ∃ (x : Addr) (z : Str) (p : Pt), vs = [.ref x] ∧ PnAt K C H x z p ∧ Q (.int p.post) H
theorem sc_Painter_post : FnScope ["self"] ["self"] (defScope s_Painter_post) := C8.fnScope_by (by decide +kernel)
theorem ok_g_post {pf f : Addr} (kc : KCls K C paN) (me : PropOf K C "post" pf f) (F : DF K "post" "Painter.post" s_Painter_post f) :
    Prp P w K mg base 1 C "post" (spG_post K C) := by
  refine prp_of kc.cl me F sc_Painter_post (fun _ _ _ _ _ _ us hl => match us, hl with | [_], _ => rfl) (fun vs H Q E h => ?_) (fun cdv A outer s H vs Q E hr h => ?_)
  · obtain ⟨x, z, p, rfl, _⟩ := h
    rfl
  · obtain ⟨x, z, p, rfl, ⟨dx, t, hx, ht⟩, k⟩ := h
    refine ⟨_, (pss_one (ps_ret (pe_ix ix_tup (pe_fldN 0 (pv 0) rfl) pe_int (fun _ _ => rfl)))), ?_⟩
    show (_ : TS) _ [some _] _
    walk_at "w"
    exact k
def spG_stride (K : PySem.W.Frag) (C : Addr) : Sp := fun vs H Q _ => ∃ (x : Addr) (z : Str) (p : Pt), vs = [.ref x] ∧ PnAt K C H x z p ∧ Q (.int p.stride) H
theorem sc_Painter_stride : FnScope ["self"] ["self"] (defScope s_Painter_stride) := C8.fnScope_by (by decide +kernel)
theorem ok_g_stride {pf f : Addr} (kc : KCls K C paN) (me : PropOf K C "stride" pf f) (F : DF K "stride" "Painter.stride" s_Painter_stride f) :
    Prp P w K mg base 1 C "stride" (spG_stride K C) := by
  refine prp_of kc.cl me F sc_Painter_stride (fun _ _ _ _ _ _ us hl => match us, hl with | [_], _ => rfl) (fun vs H Q E h => ?_) (fun cdv A outer s H vs Q E hr h => ?_)
  · obtain ⟨x, z, p, rfl, _⟩ := h
    rfl
  · obtain ⟨x, z, p, rfl, ⟨dx, t, hx, ht⟩, k⟩ := h
    refine ⟨_, (pss_one (ps_ret (pe_ix ix_tup (pe_fldN 0 (pv 0) rfl) pe_int (fun _ _ => rfl)))), ?_⟩
    show (_ : TS) _ [some _] _
    walk_at "w"
    exact k
def spG_way (K : PySem.W.Frag) (C : Addr) : Sp := fun vs H Q _ => ∃ (x : Addr) (z : Str) (p : Pt), vs = [.ref x] ∧ PnAt K C H x z p ∧ ∀ t H', Same H H' → SqT K H' t (wayV p) → Q (.ref t) H'
theorem sc_Painter_way : FnScope ["self"] ["self"] (defScope s_Painter_way) := C8.fnScope_by (by decide +kernel)
theorem ok_g_way {pf f : Addr} (kc : KCls K C paN) (me : PropOf K C "way" pf f) (F : DF K "way" "Painter.way" s_Painter_way f) :
    Prp P w K mg base 1 C "way" (spG_way K C) := by
  refine prp_of kc.cl me F sc_Painter_way (fun _ _ _ _ _ _ us hl => match us, hl with | [_], _ => rfl) (fun vs H Q E h => ?_) (fun cdv A outer s H vs Q E hr h => ?_)
  · obtain ⟨x, z, p, rfl, _⟩ := h
    rfl
  · obtain ⟨x, z, p, rfl, ⟨dx, t, hx, ht⟩, k⟩ := h
    refine ⟨_, (pss_one (ps_ret (pe_slice sl_tup (pe_fldN 0 (pv 0) rfl) (po_some pe_int) po_none))), ?_⟩
    show (_ : TS) _ [some _] _
    walk_at "w"
    show rSlT K (.ref t) (some 1) none H Q
    refine ⟨t, _, rfl, ht, (show ¬ (HT.sIx 4 0 (some 1) = 0 ∧ HT.sIx 4 4 none = 4) by decide), fun t2 ht2 => ?_⟩
    exact k t2 _ (Same.new ht2) (SqT.of upd_same)
end
end PK
end
section
set_option Elab.async false
set_option linter.all false
set_option maxRecDepth 100000
set_option maxHeartbeats 4000000
namespace PK
open PySem PySem.Spec PyProof.Rows L2 PM
local macro_rules | `(tactic| walk_at "sd") => `(tactic| (first
  | assumption
  | omega
  | (constructor <;> omega)
  | (refine ⟨by omega, ?_⟩; constructor <;> omega)
  | (constructor <;> (first | assumption | omega | (constructor <;> omega)))))
local macro_rules | `(tactic| walk_at "w") => `(tactic| (repeat (first
  | with_reducible refine ifTT ?_
  | with_reducible refine ifFT ?_
  | with_reducible refine ifnT ?_
  | with_reducible refine ifnF ?_
  | with_reducible refine ifIN ?_
  | with_reducible refine ifNN ?_
  | with_reducible refine ifnIN ?_
  | with_reducible refine ifnNN ?_
  | with_reducible refine ifRN ?_
  | with_reducible refine ifnRN ?_
  | ((fail_if_success with_reducible refine iteB ?_ ?_); first
    | refine ⟨_, rfl, ?_⟩
    | refine ⟨_, _, rfl, rfl, ?_⟩
    | refine ⟨_, _, rfl, ?_⟩
    | refine And.intro (a := (_ : Nat) ≤ sizeLine) (by first | exact len_small (m := 2) rfl | exact len_small (m := 1) rfl | exact len_small (m := 4) rfl | exact len_small (m := 3) rfl | exact len_small (m := 0) rfl) ?_
    | refine ⟨rfl, ?_⟩
    | refine And.intro (a := CDivP _ _) (by walk_at "sd") ?_
    | refine And.intro (a := CDivB _ _) (by walk_at "sd") ?_
    | refine And.intro (a := CMulB _ _) (by walk_at "sd") ?_
    | refine And.intro (a := _ ≠ (0 : Int)) (by walk_at "sd") ?_
    | refine And.intro (a := (0 : Int) < _) (by walk_at "sd") ?_
    | refine ⟨_, _, rfl, ‹_›, rfl, ?_⟩
    | refine ⟨_, _, _, _, rfl, rfl, ‹_›, rfl, ?_⟩
    | refine ⟨_, _, _, _, rfl, rfl, by assumption, by assumption, ?_⟩
    | refine ⟨_, _, _, _, _, _, rfl, ‹_›, ‹_›, rfl, ?_⟩
    | refine ⟨_, _, _, _, _, _, rfl, ‹_›, (by exact KCls.f ‹_› rfl), (by rfl), ?_⟩
    | refine ⟨_, _, _, _, _, _, rfl, upd_same, ‹_›, (by rfl), ?_⟩
    | refine ⟨_, _, _, _, _, _, rfl, ‹_›, ‹Cls _ _›, ‹_›, rfl, ?_⟩
    | refine ⟨_, _, _, _, rfl, ‹_›, by decide +kernel, ?_⟩
    | refine ⟨_, _, _, rfl, ‹_›, ?_⟩
    | refine And.intro (by assumption) ?_))))
section
variable {P : Program} {w : World} {K : PySem.W.Frag} {mg : Str → Option Value} {base : Heap} {C : Addr}
def spNeedCount : Sp := fun vs H Q _ => ∃ v lim, vs = [.int v, .int lim] ∧ 0 ≤ v ∧ v ≤ lim ∧ Q .non H
theorem sc_need_count : FnScope ["value", "limit"] ["value", "limit"] (defScope s_need_count) := C8.fnScope_by (by decide +kernel)
theorem ok_need_count {f : Addr} (F : DFd K "need_count" "need_count" s_need_count [.int (10 ^ 80)] [] f) (hm : mg "need_count" = some (.ref f)) (c_is_between : C8.Cal P w K mg base 2 "is_between" spIsBetween []) :
    C8.Cal P w K mg base 3 "need_count" spNeedCount [.int (10 ^ 80)] := by
  obtain ⟨fd, F⟩ := F
  refine cal_ofB F (F.binds1 1 0 (by simp) rfl fun T kV doc pm an cdv ct us its hl hl2 => match us, hl, its, hl2 with | [_], _, [_], _ => ⟨_, rfl, rfl⟩) hm sc_need_count (fun vs H Q E h => ?_) (fun cdv A outer s H vs Q E hr h => ?_)
  · obtain ⟨v, lim, rfl, _⟩ := h
    rfl
  · obtain ⟨v, lim, rfl, h1, h2, k⟩ := h
    refine ⟨_, (pss_one (ps_if (pt_not (pt_val (C8.pe_c c_is_between hr (by decide) rfl (pa_cons (pv 0) (pa_cons pe_int (pa_cons (pv 1) pa_nil)))))) (pss_one ps_never)
          pss_nil)), ?_⟩
    show (_ : TS) _ [some _, some _] _
    walk_at "w"
    exact k
def spPostAfter (K : PySem.W.Frag) (C : Addr) : Sp := fun vs H Q _ => ∃ (x : Addr) (z : Str) (p : Pt) (c : Int), vs = [.ref x, .int c] ∧ PnAt K C H x z p ∧ PtOk p ∧ 0 ≤ c ∧ c ≤ 10 ^ 80 ∧ Q (.int (p.post + c * p.stride)) H
theorem sc_Painter_post_after : FnScope ["self", "count"] ["self", "count"] (defScope s_Painter_post_after) := C8.fnScope_by (by decide +kernel)
theorem ok_post_after {f : Addr} (kc : KCls K C paN) (me : Meth K C "post_after" f) (F : DF K "post_after" "Painter.post_after" s_Painter_post_after f) (c_need_count : C8.Cal P w K mg base 3 "need_count" spNeedCount [.int (10 ^ 80)]) (c_post : Prp P w K mg base 1 C "post" (spG_post K C)) (c_stride : Prp P w K mg base 1 C "stride" (spG_stride K C)) :
    C8.Met P w K mg base 4 C "post_after" (spPostAfter K C) [] := by
  refine met_of kc.cl me F sc_Painter_post_after (fun _ _ _ _ _ _ us hl => match us, hl with | [_, _], _ => rfl) (fun vs H Q E h => ?_) (fun cdv A outer s H vs Q E hr h => ?_)
  · obtain ⟨x, z, p, c, rfl, _⟩ := h
    rfl
  · obtain ⟨x, z, p, c, rfl, hp, ⟨d0, d1, p0, p1, s0, s1, nz⟩, c0, c1, k⟩ := h
    refine ⟨_, (pss_cons (ps_expr (C8.pe_c c_need_count hr (by decide) rfl (pa_cons (pv 1) pa_nil)))
        (pss_one (ps_ret (pe_op op_add (pe_pr c_post hr (by decide) (pv 0) rfl) (pe_op op_mulB (pv 1) (pe_pr c_stride hr (by decide) (pv 0) rfl)))))), ?_⟩
    show (_ : TS) _ [some _, some _] _
    have hp' := hp
    obtain ⟨dx, t, hx, ht⟩ := hp'
    walk_at "w"
    exact k
def numAt (p : Pt) (x : Int) : Option Int := if (x - p.post).fmod p.stride = 0 ∧ 0 ≤ (x - p.post).fdiv p.stride then some ((x - p.post).fdiv p.stride) else none
def spCountAt (K : PySem.W.Frag) (C : Addr) : Sp := fun vs H Q _ => ∃ (x : Addr) (z : Str) (p : Pt) (c : Int), vs = [.ref x, .int c] ∧ PnAt K C H x z p ∧ PtOk p ∧ -(10 ^ 80) ≤ c ∧ c ≤ 10 ^ 80 ∧ ∀ H', Same H H' → Q (optV (numAt p c)) H'
theorem sc_Painter_count_at : FnScope ["self", "post", "count", "rest"] ["self", "post"] (defScope s_Painter_count_at) := C8.fnScope_by (by decide +kernel)
theorem ok_count_at {f : Addr} (kc : KCls K C paN) (me : Meth K C "count_at" f) (F : DF K "count_at" "Painter.count_at" s_Painter_count_at f) (c_need_post : C8.Cal P w K mg base 3 "need_post" spNeedPost []) (c_post : Prp P w K mg base 1 C "post" (spG_post K C)) (c_stride : Prp P w K mg base 1 C "stride" (spG_stride K C)) (n_divmod : mg "divmod" = none) :
    C8.Met P w K mg base 4 C "count_at" (spCountAt K C) [] := by
  refine met_of kc.cl me F sc_Painter_count_at (fun _ _ _ _ _ _ us hl => match us, hl with | [_, _], _ => rfl) (fun vs H Q E h => ?_) (fun cdv A outer s H vs Q E hr h => ?_)
  · obtain ⟨x, z, p, c, rfl, _⟩ := h
    rfl
  · obtain ⟨x, z, p, c, rfl, hp, ⟨d0, d1, p0, p1, s0, s1, nz⟩, c0, c1, k⟩ := h
    refine ⟨_, (pss_cons (ps_expr (C8.pe_c c_need_post hr (by decide) rfl (pa_cons (pv 1) pa_nil)))
        (pss_cons (ps_asg (pe_callB call_divmodG (by rfl) n_divmod (by decide +kernel) (pa_cons (pe_op op_sub (pv 1) (pe_pr c_post hr (by decide) (pv 0) rfl)) (pa_cons (pe_pr c_stride hr (by decide) (pv 0) rfl) pa_nil))) (pg_tup rfl (pgs_cons (pg_name (i := 2) sc_Painter_count_at.nd rfl (Or.inl rfl)) (pgs_cons (pg_name (i := 3) sc_Painter_count_at.nd rfl (Or.inl rfl)) pgs_nil))))
        (pss_one (ps_ret (pe_ifExp (PW.pt (pw_and (pt_cmpR op_eq (pv 3) pe_int (nomark _)) (pw_and1 (pt_cmpR op_ge (pv 2) pe_int (nomark _))))) (pv 2) pe_non))))), ?_⟩
    show (_ : TS) _ [some _, some _, none, none] _
    have hp' := hp
    obtain ⟨dx, t, hx, ht⟩ := hp'
    walk_at "w"
    intro t2 ht2
    refine ⟨_, _, rfl, SqT.of upd_same, rfl, ?_⟩
    walk_at "w"
    have k := k _ (Same.new (o := .tup [.int ((c - p.post).fdiv p.stride), .int ((c - p.post).fmod p.stride)]) ht2)
    unfold numAt at k
    refine iteD (fun h1 => ?_) (fun h1 => ?_)
    · have h1 : (c - p.post).fmod p.stride = 0 := by injection h1
      walk_at "w"
      refine iteD (fun h2 => ?_) (fun h2 => ?_)
      · rw [if_pos ⟨h1, h2⟩] at k
        walk_at "w"
        exact k
      · rw [if_neg fun z => h2 z.2] at k
        walk_at "w"
        exact k
    · rw [if_neg fun z => h1 (congrArg V.int z.1)] at k
      walk_at "w"
      exact k
end
end PK
end
section
set_option Elab.async false
set_option linter.all false
set_option maxRecDepth 100000
set_option maxHeartbeats 4000000
namespace PySem
theorem meets_enum_B {v : Value} {o : Obj} {H : Heap → Prop} (B : Begins v o H) :
    Meets (Builtin.«enumerate.__new__» ⟨[.type "enumerate", v], []⟩) (fun _ R s => H s.heap ∧
      R (.ok (.ret (.ref (s.heap.push o).objs.size))) { s with heap := (s.heap.push o).push { cls := .type "enumerate", data := .fields #[.none, .bool false, .ref s.heap.objs.size, rawInt 0, .none, .none] } }) :=
  .of_wp fun prog w A R s h => by
    obtain ⟨hp, g, d, tk, os⟩ := s; obtain ⟨h1, h⟩ := h
    have hsub := sub_enumerate
    have q1 : ∀ {A' : Around} {E : Value → Shared → Prop} {Q : Value → Shared → Prop}, Q (.ref hp.objs.size) ⟨hp.push o, g, d, tk, os⟩ → wpAny (model prog w) A' (pyIter v) Q E ⟨hp, g, d, tk, os⟩ :=
      fun q => B.iter prog w _ _ ⟨hp, g, d, tk, os⟩ _ h1 q
    wp_walk using q1
    refine wpAny_stack_any fun st => wpAny_pure ?_
    split
    · rename_i c _ _ _ _ _
      cases (c == Value.type "enumerate")
      · wp_walk using q1
        exact ⟨_, rfl, h⟩
      · wp_walk using q1
        exact ⟨_, rfl, h⟩
    · wp_walk using q1
      exact ⟨_, rfl, h⟩
section
variable {prog : Program} {w : World} {A : Around} {E : Value → Shared → Prop} {s : Shared}
theorem enum_begins1 {v : Value} {o : Obj} {H : Heap → Prop} {Q : Value → Shared → Prop} (B : Begins v o H) (h1 : H s.heap)
    (h : ∀ h', IsEnum h' (s.heap.objs.size + 1) s.heap.objs.size 0 .none → h'.get? s.heap.objs.size = some o → h'.objs.size = s.heap.objs.size + 2 →
      (∀ b o, s.heap.get? b = some o → h'.get? b = some o) → Q (.ref (s.heap.objs.size + 1)) { s with heap := h' }) :
    wpAny (model prog w) A (call (.type "enumerate") [v]) Q E s := by
  refine callType_new F.called_enumerate (by decide) (F.typeCall_enumerate_1 _) (F.newCall_enumerate_1 _) (fun obj => F.args_object_init_2 obj _) F.entry_enumerate_new
    (meets_enum_B B) ⟨h1, ?_⟩
  have hz : (s.heap.push o).objs.size = s.heap.objs.size + 1 := Heap.size_push ..
  show _ ∧ _
  rw [hz]
  have he : IsEnum ((s.heap.push o).push { cls := .type "enumerate", data := .fields #[.none, .bool false, .ref s.heap.objs.size, rawInt 0, .none, .none] }) (s.heap.objs.size + 1) s.heap.objs.size 0 .none := by
    have := Heap.get?_push_size (s.heap.push o) (o := { cls := .type "enumerate", data := .fields #[.none, .bool false, .ref s.heap.objs.size, rawInt 0, .none, .none] }) rfl
    rw [hz] at this; exact this
  refine ⟨⟨_, he, rfl⟩, h _ he (Heap.get?_push_of_some _ (Heap.get?_push_size _ B.free)) (by rw [Heap.size_push, hz]) fun b o x => Heap.get?_push_of_some _ (Heap.get?_push_of_some _ x)⟩
end
end PySem
namespace PK
open PySem PySem.Spec PyProof.Rows L2
/-! ### enumerate(tuple) -/
def IteT (K : PySem.W.Frag) (a : Addr) : It :=
  ⟨fun i H => ∃ (xs : List V) (x : V), SqT K H a xs ∧ xs[i]? = some x, fun i H v H' => ∃ T x, v = .ref T ∧ H T = none ∧ H' = upd H T (.tup [.int (i : Nat), x]) ∧ ∀ xs, SqT K H a xs → xs[i]? = some x, fun i H => ∃ xs : List V, SqT K H a xs ∧ xs.length = i⟩
theorem turn_enumT {P : Program} {w : World} {K : PySem.W.Frag} {elts : List Expr} {kk : Nat} {tpos : Pos} (a e it : Addr) :
    Turn P w K (.Tuple elts kk tpos) (IteT K a) [e, it] e (fun i h => (∃ old, IsEnum h e it ((i : Nat) : Int) old) ∧ h.IsTupleIter it a i ∧ e ≠ it ∧ a ≠ it ∧ e ≠ a) where
  mem := by simp
  obj := fun i h st b hb => by
    obtain ⟨⟨old, he⟩, ⟨o, ho, hc, hd⟩, _⟩ := st
    have e' : b = e ∨ b = it := by simpa using hb
    rcases e' with z | z
    · rw [z]; exact ⟨_, he, fun v q => nomatch q⟩
    · rw [z]; exact ⟨o, ho, fun v q => by rw [hd] at q; cases q⟩
  keep := fun i h h' st k => let ⟨⟨old, he⟩, hi, hne⟩ := st; ⟨⟨old, k e (by simp) _ he⟩, hi.at fun o q => k it (by simp) o q, hne⟩
  item := by
    intro X hP hw hK hc i pins s σ H E I hf st hg
    subst hP hw hK
    obtain ⟨⟨old, he⟩, hit, hne, hai, hea⟩ := st
    obtain ⟨xs, x, hq, hx⟩ := hg
    obtain ⟨its, rv, p, hz⟩ := I.tuple hq
    obtain ⟨u, hu, ru⟩ := rv.get hx
    have hel : e < s.heap.objs.size := Heap.lt_size he
    have hil : it < s.heap.objs.size := by obtain ⟨_, q, _⟩ := hit; exact Heap.lt_size q
    have D := Draws.tuple (prog := X.prog) (w := X.w) (A := X.A.in1) (show X.A.in1.handled = none from I.ok.hd hc) it a hai its.toArray
    have hi : i < its.toArray.size := by
      rw [List.getElem?_eq_some_iff] at hu
      simpa using hu.1
    refine wpAny_pyNext_enum_itemD D he ⟨hit, p⟩ hi hne (by simp; exact ⟨hne, hea⟩) fun x' h' tk hx' ho st' hT hsz hk => ?_
    have ex : x' = u := by
      have hx2 : its.toArray[i]? = some x' := hx'
      rw [List.getElem?_toArray, hu] at hx2
      injection hx2 with hx2
      exact hx2.symm
    subst ex
    refine ⟨_, rfl, wpAny_letOwnedTupleGo_enum (s := { s with heap := h', toks := tk + 1 }) ho fun h'' he' sb => ?_⟩
    have hT2 : h''.get? s.heap.objs.size = some { cls := .type "tuple", data := .seq #[.int i tk, x'] } := (sb.2 _ (Nat.ne_of_gt hel)).trans hT
    have new : ObjOk X.prog X.w (upd H s.heap.objs.size (.tup [.int (i : Nat), x])) h'' s.heap.objs.size (.tup [.int (i : Nat), x]) :=
      ⟨by show 2 ≤ sizeLine; decide, [.int i tk, x'], .cons ⟨_, rfl⟩ (.cons ru .nil), ⟨_, hT2, rfl, _, rfl⟩⟩
    have I1 : Inv X pins σ (upd H s.heap.objs.size (.tup [.int (i : Nat), x])) { s with heap := h'', toks := tk + 1 } :=
      I.turnedNew (ch := [e, it]) (fun b ob hb q => (sb.2 b (fun z => hb (by simp [z]))).trans (hk b ob (fun z => hb (by simp [z])) (fun z => hb (by simp [z])) q)) hf (Nat.le_refl _) new
    refine ⟨.ref s.heap.objs.size, _, I1, rfl, ⟨_, x, rfl, I.hok.fresh (Nat.le_refl _), rfl, fun ys hy => by rw [I.tuple_inj hy hq]; exact hx⟩, ⟨⟨x', ?_⟩, st'.1.at fun o q => (sb.2 it (Ne.symm hne)).trans q, hne, hai, hea⟩, fun b hb => ?_⟩
    · have e1 : ((i + 1 : Nat) : Int) = (i : Int) + 1 := by omega
      rw [e1]; exact he'
    · have hb' : b < s.heap.objs.size := by
        have e' : b = e ∨ b = it := by simpa using hb
        rcases e' with z | z
        · rw [z]; exact hel
        · rw [z]; exact hil
      rw [upd_ne (Nat.ne_of_lt hb')]
      exact (hf b hb).1
  done := by
    intro X hP hw hK hc i pins s σ H E I hf st hg
    subst hP hw hK
    obtain ⟨⟨old, he⟩, hit, hne, hai, hea⟩ := st
    obtain ⟨xs, hq, hx⟩ := hg
    obtain ⟨its, rv, p, hz⟩ := I.tuple hq
    obtain ⟨f0, f1, f2, f3, f4, f5⟩ := hf it (by simp)
    have hl := rv.length
    have D := Draws.tuple (prog := X.prog) (w := X.w) (A := X.A.in1) (show X.A.in1.handled = none from I.ok.hd hc) it a hai its.toArray
    have ei : i = its.toArray.size := by simp; omega
    refine wpAny_pyNext_enum_endD D he (ei ▸ ⟨hit, p⟩) fun h' eb => ⟨rfl, I.turned (t' := s.toks) (fun b o hb q => eb b o hb q) f0 f1 f3 f4 f5⟩
  self := fun A i s Q E st h => let ⟨⟨_, he⟩, _⟩ := st; wpAny_pyIter_enum he h
def iEnumT (K : PySem.W.Frag) (ta : TA) : TI := fun σ H R => ta σ H fun vs H1 => ∃ a xs, vs = [.ref a] ∧ SqT K H1 a xs ∧ R (IteT K a) H1
theorem pi_enumT {X : Cx} {e : Expr} {ta : TA} {p pos tpos : Pos} {elts : List Expr} {kk : Nat} (hg : Gl X "enumerate") (hm : X.mg "enumerate" = none) (ha : PA X [e] ta) (hs : starEach [e] X.env = [(false, eval e X.env)] := by rfl) :
    PI X (.Tuple elts kk tpos) (.Call (.Name "enumerate" p) [e] [] pos) (iEnumT X.K ta) := by
  refine ⟨fun pins s σ H R I h => ?_⟩
  refine Call_ (ld_blt I hg hm boot_enumerate (PyProof.Rows.callWith_type1 (thn (ha.run pos pins s σ H _ I h) fun us s1 ⟨vs, H1, I1, r1, q1⟩ => ?_) hs rfl))
  obtain ⟨a, xs, ex, hq, q⟩ := q1
  subst ex
  cases r1 with
  | cons r rr =>
    cases rr
    cases r
    obtain ⟨its, rv, p', hz⟩ := I1.tuple hq
    have hal : a < s1.heap.objs.size := by obtain ⟨_, q, _⟩ := p'; exact Heap.lt_size q
    refine enum_begins1 (begins_tuple a its.toArray) p' fun h' he hit hsz hk => wpAny_pyIter_enum he ?_
    have I2 : Inv X pins σ H1 { s1 with heap := h' } := I1.kept (t' := s1.toks) hk
    refine ⟨s1.heap.objs.size + 1, [s1.heap.objs.size + 1, s1.heap.objs.size], _, _, H1, rfl, I2, turn_enumT a (s1.heap.objs.size + 1) s1.heap.objs.size, ⟨⟨.none, he⟩, ⟨_, hit, rfl, rfl⟩, Nat.succ_ne_self _, Nat.ne_of_lt hal, Nat.ne_of_gt (Nat.lt_succ_of_lt hal)⟩, fun b hb => ?_, q⟩
    have e' : b = s1.heap.objs.size + 1 ∨ b = s1.heap.objs.size := by simpa using hb
    have hle : s1.heap.objs.size ≤ b := by
      rcases e' with z | z
      · rw [z]; exact Nat.le_add_right _ _
      · rw [z]; exact Nat.le_refl _
    exact I1.fpOk hle (I1.hok.fresh hle)
theorem walk_enumT {K : PySem.W.Frag} {a : Addr} {xs : List V} : Walk (IteT K a) xs.length (fun H => SqT K H a xs) (YPair (fun i => some (.int (i : Nat))) (fun i => xs[i]?)) := by
  refine ⟨fun i _ hi q => ⟨xs, xs[i], q, by simp [hi]⟩, fun _ q => ⟨xs, q, rfl⟩, fun i H v H' _ q y => ?_⟩
  obtain ⟨T, x, h1, h2, h3, h4⟩ := y
  exact ⟨T, .int (i : Nat), x, h1, h2, h3, rfl, h4 xs q⟩
end PK
end
section
set_option Elab.async false
set_option linter.all false
set_option maxRecDepth 100000
set_option maxHeartbeats 4000000
namespace PK
open PySem PySem.Spec PyProof.Rows L2
/-! ### a class whose __init__ takes *args -/
structure MakR (P : Program) (w : World) (K : PySem.W.Frag) (mg : Str → Option Value) (base : Heap) (k : Nat) (x : Str) (C : Addr) (sp : Sp) : Prop where
  ex : ∃ (f : Addr), Mk K C f ∧ FnR P w K mg base CX0 k f sp ∧ mg x = some (.ref C)
section
variable {M : Model} {A : Around} {E : Value → Shared → Prop} {s : Shared}
theorem evalArgs_star2 {f : Value} {x y : Sem Value} {b : Bool} {rest : List (Bool × Sem Value)} {Q : Args → Shared → Prop}
    (h : wpAny M A (spliced ((true, x) :: (b, y) :: rest)) (fun vs s' => Q ⟨vs, []⟩ s') E s) : wpAny M A (evalArgs f true ((true, x) :: (b, y) :: rest) []) Q E s := by
  unfold evalArgs
  show wpAny M A (spliced ((true, x) :: (b, y) :: rest) >>= _) Q E s
  refine wpAny_bind (wpAny_mono h (fun vs s' h' => ?_) fun _ _ x => x)
  refine wpAny_holding ?_
  exact wpAny_bind (wpAny_pure (wpAny_bind (wpAny_pure (wpAny_pure h'))))
end
section
variable {X : Cx} {k j : Nat} {x : Str} {C : Addr} {sp : Sp} {e e2 : Expr} {es : List Expr} {t : TA} {p pos p2 : Pos}
theorem pe_mkR0 (c : MakR X.prog X.w X.K X.mg X.base k x C sp) (hr : Room j X.A) (hk : k + 1 ≤ j) (hg : Gl X x) (hdb : (x == ("__debug__" : Str)) = false := by decide) : PE X (.Call (.Name x p) [] [] pos) (StX.tMakeR C sp C8.E0 tNil) := by
  obtain ⟨f, M, F, hm⟩ := c.ex
  refine ⟨fun pins s σ H Q I h => ?_⟩
  refine wpAny_Call_Name_kw (ld_glob I hg hm ?_ hdb)
  exact PySem.W.callWith_K0 I.kIn M.kp (StX.run_makeR (us := []) (vs := []) M F (hr.mono hk) C8.pass0 I .nil h)
theorem pe_mkR2 (c : MakR X.prog X.w X.K X.mg X.base k x C sp) (hr : Room j X.A) (hk : k + 1 ≤ j) (hg : Gl X x) (ha : PA X (.Starred e p2 :: e2 :: es) t) (hdb : (x == ("__debug__" : Str)) = false := by decide)
    (he : ∃ x b y r, backTo pos (starEach (.Starred e p2 :: e2 :: es) X.env) = (true, x) :: (b, y) :: r := by exact ⟨_, _, _, _, rfl⟩) : PE X (.Call (.Name x p) (.Starred e p2 :: e2 :: es) [] pos) (StX.tMakeR C sp C8.E0 t) := by
  obtain ⟨f, M, F, hm⟩ := c.ex
  obtain ⟨x0, b, y, r, he⟩ := he
  refine ⟨fun pins s σ H Q I h => ?_⟩
  refine wpAny_Call_Name_kw (ld_glob I hg hm ?_ hdb)
  have h1 : wpAny (model X.prog X.w) X.A (spliced (backTo pos (starEach (.Starred e p2 :: e2 :: es) X.env))) (fun vs s₁ => X.K.In s₁.heap ∧ wpAny (model X.prog X.w) X.A (call (.ref C) ([] ++ vs)) (EP X pins σ Q) X.xe s₁) X.xe s :=
    thn (ha.run pos pins s σ H _ I h) fun us s1 ⟨vs, H1, I1, r, q⟩ => ⟨I1.kIn, StX.run_makeR M F (hr.mono hk) C8.pass0 I1 r q⟩
  show wpAny _ _ (callWith pos (.ref C) [] (backTo pos (starEach (.Starred e p2 :: e2 :: es) X.env)) []) _ _ _
  rw [he] at h1 ⊢
  exact PySem.W.ks_call rfl (PySem.W.keeps_K M.kp) (evalArgs_star2 h1)
end
end PK
end
section
set_option Elab.async false
set_option linter.all false
set_option maxRecDepth 100000
set_option maxHeartbeats 4000000
namespace PySem.W
open Lean Elab Tactic Meta PySem PySem.Calls PyProof.Rows
/-- what + of an own class asks, the other operand's class C2 has its own + too -/
structure AddOk (K : Frag) (C C2 f f2 : Addr) : Prop where
  ne : C ≠ C2
  first : selfFirst K C = true
  first2 : selfFirst K C2 = true
  at_ : findIn K (.ref C) (PySem.dunder "add") = some (some (.ref f))
  at2 : findIn K (.ref C2) (PySem.dunder "add") = some (some (.ref f2))
  r : findIn K (.ref C) (dunderR "add") = some none
  r2 : findIn K (.ref C2) (dunderR "add") = some none
  fn : isFn K (.ref f) = true
  sub : subIn K (.ref C2) (.ref C) = some false
section
variable {prog : Program} {w : World} {A : Around} {E : Value → Shared → Prop} {s : Shared} {K : Frag} {x y C C2 f f2 : Addr} {ox oy : Obj} {od od2 : Option Obj}
theorem add_RR {Q : Value → Shared → Prop} (X : K.In s.heap) (I : InstAt s.heap x ox C od) (J : InstAt s.heap y oy C2 od2) (k : AddOk K C C2 f f2)
    (h : wpAny (model prog w) A (call (.ref f) [.ref x, .ref y]) (CmpBack Q) E s) : wpAny (model prog w) A (binaryOp .Add (.ref x) (.ref y)) Q E s := by
  obtain ⟨cd, rest, hcd, hm⟩ := ksp_first k.first
  obtain ⟨cd2, rest2, hcd2, hm2⟩ := ksp_first k.first2
  have one := ksp_try X I k.at_ k.fn h
  obtain ⟨hh, g, d, tt, os⟩ := s
  have L1 : Looks (model prog w) hh (typeOf (.ref x)) (.ref C) := I.type
  have L2 : Looks (model prog w) hh (typeOf (.ref y)) (.ref C2) := J.type
  have L3 : Looks (model prog w) hh (fillsNumberSlot (.ref C) "add") true := fills_K X hcd hm k.at_
  have L4 : Looks (model prog w) hh (fillsNumberSlot (.ref C2) "add") true := fills_K X hcd2 hm2 k.at2
  have L5 : Looks (model prog w) hh (isSubtype (.ref C2) (.ref C)) false := looks_subIn X k.sub
  have L6 : Looks (model prog w) hh (numberSlotInPython (.ref C) "add") true := ksp_inPy X k.at_ k.r (.inl rfl)
  have L7 : Looks (model prog w) hh (numberSlotInPython (.ref C2) "add") true := ksp_inPy X k.at2 k.r2 (.inl rfl)
  have hne : (Value.ref C == Value.ref C2) = false := Bool.eq_false_iff.mpr fun q => by
    have e := beq_iff_eq.mp q
    injection e with e
    exact k.ne e
  have hi : Operator.Add.info = ("+", "add") := rfl
  simp only [binaryOp, hi]
  refine wpAny_holding (wpAny_bind ?_)
  unfold binaryOp1
  refine wpAny_bind (L1.at (wpAny_bind (L2.at (wpAny_bind (L3.at ?_)))))
  simp only [hne, Bool.false_eq_true, if_false]
  ksp_lk
  refine wpAny_mono one (fun r s' hr' => ?_) fun _ _ e => e
  obtain ⟨v, rfl, hq⟩ := hr'
  ksp_lk
  exact hq
end
end PySem.W
namespace PK
open PySem PySem.Spec PyProof.Rows L2
structure Adr (P : Program) (w : World) (K : PySem.W.Frag) (mg : Str → Option Value) (base : Heap) (k : Nat) (C C2 : Addr) (sp : Sp) : Prop where
  ex : ∃ (f f2 : Addr) (fd : FuncData) (ps : List Str), PySem.W.AddOk K C C2 f f2 ∧ FnOk P w K mg base CX0 k f fd ps sp ∧ Binds K fd ps []
theorem op_addOwn {X : Cx} {k j : Nat} {C C2 : Addr} {sp : Sp} (c : Adr X.prog X.w X.K X.mg X.base k C C2 sp) (hr : Room j X.A) (hk : k ≤ j) :
    OpR X (binaryOp .Add) (fun x y H Q => ∃ a b dx fs dx2 fs2, x = .ref a ∧ y = .ref b ∧ H a = some (.ins C dx fs) ∧ H b = some (.ins C2 dx2 fs2) ∧ sp [.ref a, .ref b] H Q C8.E0) := by
  intro pins s σ H x y v u Q I rx ry h
  obtain ⟨a, b, dx, fs, dx2, fs2, rfl, rfl, ha, hb, q⟩ := h
  obtain rfl : v = Value.ref a := rx
  obtain rfl : u = Value.ref b := ry
  obtain ⟨f, f2, fd, ps, ok, F, bd⟩ := c.ex
  obtain ⟨mA, O, _⟩ := ins_get I.hok ha
  obtain ⟨od, J, _⟩ := O.look
  obtain ⟨mA2, O2, _⟩ := ins_get I.hok hb
  obtain ⟨od2, J2, _⟩ := O2.look
  refine PySem.W.add_RR I.kIn J J2 ok (wpAny_mono (run_fn (us := [.ref a, .ref b]) (vs := [.ref a, .ref b]) F (hr.mono hk) bd .nil C8.pass0 I (.cons rfl (.cons rfl .nil)) q) (fun u s' ⟨v, H', I', r, q⟩ => ?_) fun _ _ z => z)
  cases v with
  | non => cases r; exact ⟨.non, H', I', rfl, q⟩
  | bl b => cases r; exact ⟨.bl b, H', I', rfl, q⟩
  | int i => obtain ⟨t, rfl⟩ := r; exact ⟨.int i, H', I', ⟨t, rfl⟩, q⟩
  | str i => obtain ⟨t, rfl⟩ := r; exact ⟨.str i, H', I', ⟨t, rfl⟩, q⟩
  | byt i => obtain ⟨t, rfl⟩ := r; exact ⟨.byt i, H', I', ⟨t, rfl⟩, q⟩
  | flt i => obtain ⟨t, rfl⟩ := r; exact ⟨.flt i, H', I', ⟨t, rfl⟩, q⟩
  | ref i => cases r; exact ⟨.ref i, H', I', rfl, q⟩
  | ty i => cases r; exact ⟨.ty i, H', I', rfl, q⟩
end PK
end
section
set_option Elab.async false
set_option linter.all false
set_option maxRecDepth 100000
set_option maxHeartbeats 4000000
namespace L2
open PySem PySem.Spec PyProof.Rows PySem.W
section
variable {prog : Program} {w : World} {A : Around} {E : Value → Shared → Prop} {s : Shared} {r d : Addr} {n : Nat} {P : Nat → Value → Prop} {OK : Heap → Prop}
theorem collect_dk {Q : List Value → Shared → Prop} (Ks : KdlSrc prog w "dict" r d n P OK) (hh : A.handled = none) (hok : OK s.heap) (hn : n ≤ sizeLine)
    (hQ : ∀ (h' : Heap) (tk : Nat) (acc : Array Value), (∀ b o, s.heap.get? b = some o → h'.get? b = some o) → ItemsOf P acc n → Q acc.toList { s with heap := h', toks := tk }) :
    wpAny (model prog w) A (collect (.ref r)) Q E s := by
  unfold collect
  refine wpAny_bind (wpAny_runValue (codeAny_builtin F.entry_proto_collect ?_))
  rw [Around.under_plainId F.plain_proto_collect _]
  show wpAny _ A.in1 (newList [] >>= fun l => again (.builtin "list.__iadd__" ⟨[l, .ref r], []⟩)) _ _ s
  refine wpAny_bind (wpAny_newObj_type ?_)
  refine wpAny_pure ⟨plainId_quiet F.plain_list_iadd _, codeAny_builtin F.entry_list_iadd ?_⟩
  rw [Around.under_plainId F.plain_list_iadd _]
  show wpAny _ A.in1 (Builtin.List.listExtendWith (.ref s.heap.objs.size) (.ref r) (.ref s.heap.objs.size)) _ _ _
  have hS : (s.heap.push { cls := .type "list", data := .seq ([] : List Value).toArray }).get? s.heap.objs.size = some { cls := .type "list", data := .seq #[] 0 } := Heap.get?_push_size _ rfl
  have hlt := Ks.there _ hok
  refine wpAny_mono (kdl_extend (A := A) (R := fun rr s' => rr = .ok (.ret (.ref s.heap.objs.size)) ∧ ∃ (h' : Heap) (tk : Nat) (acc : Array Value) (c' : Nat), s' = { s with heap := h', toks := tk } ∧
      (∀ b o, s.heap.get? b = some o → h'.get? b = some o) ∧ h'.get? s.heap.objs.size = some { cls := .type "list", dict := none, data := .seq acc c', slots := #[] } ∧ ItemsOf P acc n)
    (s := { s with heap := s.heap.push { cls := .type "list", data := .seq ([] : List Value).toArray } }) Ks hh (Ks.keep _ _ hok fun b _ o e => Heap.get?_push_of_some _ e) _ (Nat.ne_of_gt hlt.1) (Nat.ne_of_gt hlt.2) _ 0 hS
    (fun h' tk acc c' hk e hi => ⟨rfl, h', tk, acc, c', rfl, fun b o q => hk b o (Nat.ne_of_lt (Heap.lt_size q)) (Heap.get?_push_of_some _ q), e, hi⟩) hn) (fun fin s' h => ?_) (fun e s' h => ?_)
  · cases fin with
    | done f =>
      obtain ⟨e, h', tk, acc, c', rfl, hk, hS', hi⟩ := h
      cases e
      show wpAny _ A (load s.heap.objs.size >>= _) _ _ _
      exact wpAny_bind (wpAny_load hS' (wpAny_pure (hQ h' tk acc hk hi)))
    | again c' =>
      refine ⟨h.1, codeAny_mono h.2 fun rr s'' hr' => ?_⟩
      obtain ⟨rfl, h', tk, acc, c', rfl, hk, hS', hi⟩ := hr'
      show wpAny _ A (load s.heap.objs.size >>= _) _ _ _
      exact wpAny_bind (wpAny_load hS' (wpAny_pure (hQ h' tk acc hk hi)))
  · exact absurd h.1 (by simp)
theorem code_tuple_new_dk {Q₁ : Value → Shared → Prop} (Ks : KdlSrc prog w "dict" r d n P OK) (hh : A.handled = none) (hok : OK s.heap) (hn : n ≤ sizeLine)
    (h : ∀ (h' : Heap) (tk : Nat) (acc : Array Value), (∀ b o, s.heap.get? b = some o → h'.get? b = some o) → ItemsOf P acc n →
      Q₁ (.ref h'.objs.size) { s with heap := h'.push { cls := .type "tuple", data := .seq acc }, toks := tk }) :
    codeAny (model prog w) A (.call (.builtin "tuple.__new__") ⟨[.type "tuple", .ref r], []⟩) (wants Q₁ E) s := by
  refine codeAny_of_tree ?_
  show wpAny _ A.in1 (do checkBuiltinCall "tuple.__new__" ⟨[.type "tuple", .ref r], []⟩; again (.builtin "tuple.__new__" ⟨[.type "tuple", .ref r], []⟩)) _ _ s
  refine wpAny_bind (wpAny_of_eq (F.newCall_tuple_1 _) (wpAny_pure ⟨plainId_quiet F.plain_tuple_new _, codeAny_builtin F.entry_tuple_new ?_⟩))
  rw [Around.under_plainId F.plain_tuple_new _]
  have hsub := sub_tuple_self
  have hinit := init_tuple_lookup
  have hmh := madeHere_tuple
  have hTI : s.TypeIs (.ref r) "dict" := Ks.type s hok
  have hh1 : A.in1.handled = none := hh
  wp_walk using wpAny_typeOf hTI, collect_dk (A := A.in1) Ks hh1 hok hn
  intro h' tk acc hk hacc
  show wpAny _ _ (Builtin.Tuple.tupleExact acc.toList.toArray >>= fun v => ret v) _ _ _
  unfold Builtin.Tuple.tupleExact
  refine wpAny_bind (wpAny_newObj_type ?_ (by show acc.toList.toArray.size ≤ sizeLine; simp only [Array.toArray_toList]; rw [hacc.1]; exact hn))
  refine wpAny_pure ?_
  have e : acc.toList.toArray = acc := by simp
  rw [e]
  exact h h' tk acc hk hacc
theorem call_tuple_dk {Q : Value → Shared → Prop} (Ks : KdlSrc prog w "dict" r d n P OK) (hh : A.handled = none) (hok : OK s.heap) (hn : n ≤ sizeLine)
    (hQ : ∀ (h' : Heap) (tk : Nat) (acc : Array Value), (∀ b o, s.heap.get? b = some o → h'.get? b = some o) → ItemsOf P acc n →
      Q (.ref h'.objs.size) { s with heap := h'.push { cls := .type "tuple", data := .seq acc }, toks := tk }) :
    wpAny (model prog w) A (call (.type "tuple") [.ref r]) Q E s := by
  refine callType_codes (Q₁ := fun obj s₁ => s₁.TypeIs obj "tuple" ∧ Q obj s₁) F.called_tuple (F.typeCall_tuple_1 _) F.entry_object_init
    (code_tuple_new_dk (A := A.in1) Ks hh hok hn fun h' tk acc hk hacc => ⟨⟨_, Heap.get?_push_size _ rfl, rfl⟩, hQ h' tk acc hk hacc⟩) fun obj s₁ h₁ => ?_
  exact ⟨h₁.1, F.args_object_init_2 obj _, object_init_meets F.called_tuple.init.lookup F.called_tuple.made (by decide) prog w A.in1 _ s₁ ⟨h₁.1, rfl, h₁.2⟩⟩
end
def rTupleD : List V → Hp → VK → Prop := fun xs H Q => ∃ p kvs, xs = [.ref p] ∧ H p = some (.dK kvs) ∧ ∀ q, H q = none → Q (.ref q) (upd H q (.tup (kvs.map fun kv => kV kv.1)))
theorem call_tuple_dK {X : Cx} (hc : X.calm = true) : CallR X (.type "tuple") rTupleD := by
  intro pins s σ H xs us Q I r h
  obtain ⟨p, kvs, e, hk, q⟩ := h
  subst e
  obtain ⟨u, eu, rx⟩ := vals1 r
  subst eu
  obtain rfl : u = Value.ref p := rx
  obtain ⟨z, lo, vs, rk, hd⟩ := (show ObjOk X.prog X.w H s.heap p (.dK kvs) from I.hok p _ hk)
  obtain ⟨ep, hat⟩ := hd.dictAt
  have hl : kvs.length = vs.length := Paired.length rk
  refine call_tuple_dk (PySem.W.kdl_dict (knd := mixKind X.prog X.w) (kvs := vs) (ep := ep) lo) (I.ok.hd hc) hat (by rw [← hl]; exact z) fun h' tk acc' hkeep hacc => ?_
  have I' : Inv X pins σ H { s with heap := h', toks := tk } := I.kept hkeep
  have hn : H h'.objs.size = none := I'.hok.fresh (Nat.le_refl _)
  refine ⟨.ref h'.objs.size, upd H h'.objs.size (.tup (kvs.map fun kv => kV kv.1)), I'.laid (fun b o e => Heap.get?_push_of_some _ e) (Nat.le_refl _) (show ObjOk X.prog X.w _ _ _ (.tup (kvs.map fun kv => kV kv.1)) from ⟨?_, acc'.toList, ?_, ?_⟩), rfl, q _ hn⟩
  · rw [List.length_map]; exact z
  · have el : acc'.toList.length = acc'.size := by simp
    refine vals_of_at (by rw [List.length_map, el, hacc.1, hl]) fun j x w h1 h2 => ?_
    obtain ⟨k, y, hky, hi⟩ := hacc.2 j w (by rw [← Array.getElem?_toList]; exact h2)
    have e1 : (kvs.map (·.1))[j]? = some k := by
      rw [KV.keys rk, List.getElem?_map, hky] <;> rfl
    have e2 : (kvs.map fun kv => kV kv.1)[j]? = some (kV k) := by
      have e3 : (kvs.map fun kv => kV kv.1) = (kvs.map (·.1)).map kV := by rw [List.map_map] <;> rfl
      rw [e3, List.getElem?_map, e1] <;> rfl
    rw [e2] at h1
    cases h1
    exact keyIs_rel hi
  · exact ⟨_, Heap.get?_push_size _ rfl, rfl, _, by simp; rfl⟩
end L2
end
section
set_option Elab.async false
set_option linter.all false
set_option maxRecDepth 100000
set_option maxHeartbeats 4000000
namespace PK
open PySem PySem.Spec PyProof.Rows L2 PM
local macro_rules | `(tactic| walk_at "sd") => `(tactic| (first
  | assumption
  | omega
  | (constructor <;> omega)
  | (refine ⟨by omega, ?_⟩; constructor <;> omega)
  | (constructor <;> (first | assumption | omega | (constructor <;> omega)))))
local macro_rules | `(tactic| walk_at "w") => `(tactic| (repeat (first
  | with_reducible refine ifTT ?_
  | with_reducible refine ifFT ?_
  | with_reducible refine ifnT ?_
  | with_reducible refine ifnF ?_
  | with_reducible refine ifIN ?_
  | with_reducible refine ifNN ?_
  | with_reducible refine ifnIN ?_
  | with_reducible refine ifnNN ?_
  | with_reducible refine ifRN ?_
  | with_reducible refine ifnRN ?_
  | ((fail_if_success with_reducible refine iteB ?_ ?_); first
    | refine ⟨_, rfl, ?_⟩
    | refine ⟨_, _, rfl, rfl, ?_⟩
    | refine ⟨_, _, rfl, ?_⟩
    | refine And.intro (a := (_ : Nat) ≤ sizeLine) (by first | exact len_small (m := 2) rfl | exact len_small (m := 1) rfl | exact len_small (m := 4) rfl | exact len_small (m := 3) rfl | exact len_small (m := 0) rfl) ?_
    | refine ⟨rfl, ?_⟩
    | refine And.intro (a := CDivP _ _) (by walk_at "sd") ?_
    | refine And.intro (a := CDivB _ _) (by walk_at "sd") ?_
    | refine And.intro (a := CMulB _ _) (by walk_at "sd") ?_
    | refine And.intro (a := _ ≠ (0 : Int)) (by walk_at "sd") ?_
    | refine And.intro (a := (0 : Int) < _) (by walk_at "sd") ?_
    | refine ⟨_, _, rfl, ‹_›, rfl, ?_⟩
    | refine ⟨_, _, _, _, rfl, rfl, ‹_›, rfl, ?_⟩
    | refine ⟨_, _, _, _, rfl, rfl, by assumption, by assumption, ?_⟩
    | refine ⟨_, _, _, _, _, _, rfl, ‹_›, ‹_›, rfl, ?_⟩
    | refine ⟨_, _, _, _, _, _, rfl, ‹_›, (by exact KCls.f ‹_› rfl), (by rfl), ?_⟩
    | refine ⟨_, _, _, _, _, _, rfl, upd_same, ‹_›, (by rfl), ?_⟩
    | refine ⟨_, _, _, _, _, _, rfl, ‹_›, ‹Cls _ _›, ‹_›, rfl, ?_⟩
    | refine ⟨_, _, _, _, rfl, ‹_›, by decide +kernel, ?_⟩
    | refine ⟨_, _, _, rfl, ‹_›, ?_⟩
    | refine And.intro (by assumption) ?_))))
section
variable {P : Program} {w : World} {K : PySem.W.Frag} {mg : Str → Option Value} {base : Heap} {CP CF : Addr}
theorem nox_of {X : Cx} {ss : List Stmt} {t : TS} (h : PSs X.nox ss t) : PSs X ss t := h.nox
/-! ### fences -/
abbrev feN : List Str := ["listed", "places"]
/-- the painters of a fence: names and ways by place -/
structure Crew where
  n : Nat
  nm : Nat → Str
  p : Nat → Pt
structure Crew.Ok (c : Crew) : Prop where
  few : c.n ≤ 40
  names : ∀ i, i < c.n → NameOk (c.nm i)
  apart : ∀ i j, i < c.n → j < c.n → c.nm i = c.nm j → i = j
  pts : ∀ i, i < c.n → PtOk (c.p i)
/-- the painters stand at these places of the heap -/
def CrewAt (K : PySem.W.Frag) (CP : Addr) (H : Hp) (c : Crew) (r : Nat → Addr) : Prop := ∀ i, i < c.n → PnAt K CP H (r i) (c.nm i) (c.p i)
theorem CrewAt.same {H H' : Hp} {c : Crew} {r : Nat → Addr} (e : Same H H') (h : CrewAt K CP H c r) : CrewAt K CP H' c r := fun i hi => (h i hi).same e
abbrev refsV (r : Nat → Addr) (n : Nat) : List V := firsts (fun i => V.ref (r i)) n
abbrev plV (c : Crew) : List (Key × V) := firsts (fun i => ((Sum.inr (c.nm i) : Key), V.int (i : Nat))) c.n
def FnAt (K : PySem.W.Frag) (CP CF : Addr) (H : Hp) (x : Addr) (c : Crew) (r : Nat → Addr) : Prop := ∃ dx t d, H x = some (.ins CF dx (feN.zip [.ref t, .ref d])) ∧ SqT K H t (refsV r c.n) ∧ CrewAt K CP H c r ∧ H d = some (.dK (plV c))
theorem FnAt.same {H H' : Hp} {x : Addr} {c : Crew} {r : Nat → Addr} (e : Same H H') (h : FnAt K CP CF H x c r) : FnAt K CP CF H' x c r := by
  obtain ⟨dx, t, d, h1, h2, h3, h4⟩ := h
  exact ⟨dx, t, d, e _ _ h1, e.sqt h2, h3.same e, e _ _ h4⟩
theorem _root_.PK.PnAt.sb {H H' : Hp} {x a : Addr} {z : Str} {p : Pt} {C dx : Addr} {fs : List (Str × V)} (h : SB x H H') (hx : H x = some (.ins C dx fs)) (ne : a ≠ x) (q : PnAt K CP H a z p) : PnAt K CP H' a z p := by
  obtain ⟨dy, t, h1, h2⟩ := q
  exact ⟨dy, t, h _ _ h1 ne, h.sqt hx h2⟩
def spFenceInit (K : PySem.W.Frag) (CP CF : Addr) : Sp := fun vs H Q _ => ∃ (x dx t : Addr) (c : Crew) (r : Nat → Addr), vs = [.ref x, .ref t] ∧ H x = some (.ins CF dx []) ∧ SqT K H t (refsV r c.n) ∧ CrewAt K CP H c r ∧ (∀ i, i < c.n → r i ≠ x) ∧ c.Ok ∧ ∀ H', SB x H H' → FnAt K CP CF H' x c r → Q .non H'
theorem sc_Fence___init__ : FnScope ["self", "painters", "index", "painter", "names", "name"] ["self", "painters"] (defScope s_Fence___init__) := C8.fnScope_by (by decide +kernel)
theorem ok_Fence {f : Addr} (kc : KCls K CF feN) (M : Mk K CF f) (hm : mg "Fence" = some (.ref CF)) (F : DF K "__init__" "Fence.__init__" s_Fence___init__ f) (ic_Painter : C8.InsC K CP) (g_Painter : GC mg "Painter" (.ref CP)) (g_MAX_PAINTERS : GC mg "MAX_PAINTERS" (.int 40))
    (c_name : Prp P w K mg base 1 CP "name" (spG_name K CP)) (n_enumerate : mg "enumerate" = none) (n_isinstance : mg "isinstance" = none) (n_len : mg "len" = none) :
    MakR P w K mg base 3 "Fence" CF (fun vs H Q E => ∃ ws rest, vs = ws ++ rest ∧ ws.length = 1 ∧ rest.length ≤ sizeLine ∧ ∀ p, H p = none → spFenceInit K CP CF (ws ++ [V.ref p]) (upd H p (.tup rest)) Q E) := by
  obtain ⟨fd, F⟩ := F
  obtain ⟨oc, od, dV, kV, doc, pm, an, cdv, ct, osl, rfl, lk, hcd, hD, hK⟩ := F.ex
  refine ⟨f, M, StX.fn_star (ps := ["self"]) (pv := "painters") lk hcd sc_Fence___init__ StX.cxUp_none (fun us rest hl => ?_) (fun A outer s H vs Q E hr h => ?_), hm⟩
  · rcases hD with ⟨_, rfl⟩ | ⟨e, _⟩
    · match us, hl, rest with
      | [_], _, [] => rfl
      | [_], _, _ :: _ => rfl
    · exact absurd rfl e
  · obtain ⟨x, dx, t, c, r, rfl, hx, ht, hc, hne, ok, k⟩ := h
    refine ⟨_, nox_of (pss_cons (ps_for PassesOwn.never rfl (pi_enumT (by rfl) n_enumerate (pa_cons (pv 1) pa_nil)) (pg_tup rfl (pgs_cons (pg_name (i := 2) sc_Fence___init__.nd rfl (Or.inl rfl)) (pgs_cons (pg_name (i := 3) sc_Fence___init__.nd rfl (Or.inl rfl)) pgs_nil)))
           (pss_one (ps_if (pt_not (pt_val (pe_callB (C8.call_isC ic_Painter) (by rfl) n_isinstance (by decide +kernel) (pa_cons (pv 3) (pa_cons (C8.pe_gc rfl g_Painter) pa_nil))))) (pss_one ps_never)
             pss_nil)))
        (pss_cons (ps_setLc (i := 4) (own := [("painter", 3)]) rfl sc_Fence___init__.nd rfl rfl (sw_true rfl rfl rfl (by decide +kernel)) (pi_tup (pv 1)) (blkOk_by (N := ["self", "painters", "index", "painter", "names", "name"]) (sc := defScope s_Fence___init__) (own := [("painter", 3)]) (by decide +kernel)) (fun _ _ _ _ _ => (pg_name (i := 3) sc_Fence___init__.nd rfl (Or.inl rfl))) (fun _ _ _ _ _ => pts_nil) (fun _ _ _ _ _ => (pe_pr c_name hr (by decide) (pv 3) rfl)))
        (pss_cons (ps_for PassesOwn.never rfl (pi_enum (by rfl) n_enumerate (pa_cons (pv 4) pa_nil)) (pg_tup rfl (pgs_cons (pg_name (i := 2) sc_Fence___init__.nd rfl (Or.inl rfl)) (pgs_cons (pg_name (i := 5) sc_Fence___init__.nd rfl (Or.inl rfl)) pgs_nil)))
           (pss_one (ps_if (pt_cmpR op_in_seq (pv 5) (pe_slice sl_list (pv 4) po_none (po_some (pv 2))) (by rfl)) (pss_one ps_never)
             pss_nil)))
        (pss_cons (ps_if (pt_cmpR op_gt (pe_callB call_len (by rfl) n_len (by decide +kernel) (pa_cons (pv 1) pa_nil)) (C8.pe_gc rfl g_MAX_PAINTERS) (nomark _)) (pss_one ps_never)
           pss_nil)
        (pss_cons (ps_fldN (pv 0) (pv 1) rfl)
        (pss_one (ps_fldN (pv 0) (pe_dc (own := [("index", 2), ("name", 5)]) rfl sc_Fence___init__.nd (pi_enum (by rfl) n_enumerate (pa_cons (pv 4) pa_nil)) (blkOk_by (N := ["self", "painters", "index", "painter", "names", "name"]) (sc := defScope s_Fence___init__) (own := [("index", 2), ("name", 5)]) (by decide +kernel)) (fun _ _ _ _ _ => (pg_tup2 (K := K) (i := 2) (j := 5) rfl rfl sc_Fence___init__.nd rfl (Or.inl rfl) rfl (Or.inl rfl))) (fun _ _ _ _ _ => pts_nil) (fun _ _ _ _ _ => (pv 5)) (fun _ _ _ _ _ => (pv 2))) rfl))))))), ?_⟩
    show (_ : TS) _ [some _, some _, none, none, none, none] _
    walk_at "w"
    refine ⟨_, _, rfl, ht, ?_⟩
    refine for_it walk_enumT (fun i σ H' => Same H H' ∧ ∃ o1 o2 : Option V, σ = [some (.ref x), some (.ref t), o1, o2, none, none]) ⟨Same.refl _, none, none, rfl⟩ (fun i σ H' _ p => p.1.sqt ht) ?_ ?_
    · rintro i v σ H1 H2 hi ⟨hS, o1, o2, rfl⟩ ⟨T, y, z, rfl, hT, rfl, hy, hz⟩
      obtain ⟨hi, rfl⟩ := firsts_at hz
      injection hy with hy
      subst hy
      refine ⟨_, _, rfl, SqT.of upd_same, rfl, ?_⟩
      have hS2 := hS.trans (Same.new (o := .tup [V.int (i : Nat), V.ref (r i)]) hT)
      obtain ⟨dp, tp, hp, htp⟩ := (hc i hi).same hS2
      walk_at "w"
      exact ⟨_, _, rfl⟩
    rintro σ H1 ⟨hS, o1, o2, rfl⟩
    have ht1 := hS.sqt ht
    have hc1 := hc.same hS
    walk_at "w"
    refine ⟨⟨_, ht1⟩, fun D hD => ?_⟩
    refine lc_acc walk_tup hD (by rw [firsts_len]; have := ok.few; omega) (fun i acc _ => acc = firsts (fun i => V.str (c.nm i)) i) rfl (fun i acc H' e _ => e.sqt ht1) ?_ ?_
    · rintro i v acc H2 H3 Nx hi hS2 hD2 rfl ⟨rfl, hz⟩ fin _
      obtain ⟨hi, rfl⟩ := firsts_at hz
      have hpn := (hc1 i hi).same hS2
      obtain ⟨dp, tp, hp, htp⟩ := id hpn
      walk_at "w"
      exact fin _ _ hD2 hS2 (firsts_succ _ _).symm
    rintro acc H2 hS2 hD2 rfl
    rw [firsts_len] at hD2
    have hS3 := hS.trans hS2
    walk_at "w"
    refine ⟨_, _, rfl, SqL.of hD2, ?_⟩
    refine for_it walk_enum (fun i σ H' => Same H2 H' ∧ ∃ o1 o2 o3 : Option V, σ = [some (.ref x), some (.ref t), o1, o2, some (.ref D), o3]) ⟨Same.refl _, _, _, _, rfl⟩ (fun i σ H' _ p => p.1.seq (SqL.of hD2)) ?_ ?_
    · rintro i v σ H4 H5 hi ⟨hS4, o1, o2, o3, rfl⟩ ⟨T, y, z, rfl, hT, rfl, hy, hz⟩
      obtain ⟨hi, rfl⟩ := firsts_at hz
      injection hy with hy
      subst hy
      refine ⟨_, _, rfl, SqT.of upd_same, rfl, ?_⟩
      have hS5 := hS4.trans (Same.new (o := .tup [V.int (i : Nat), V.str (c.nm i)]) hT)
      walk_at "w"
      refine ⟨D, _, rfl, hS5.seq (SqL.of hD2), fun p hp => ?_⟩
      have hfl : (firsts (fun i => V.str (c.nm i)) i).all flatV = true := List.all_eq_true.mpr fun v hv => by
        obtain ⟨j, _, rfl⟩ := firsts_mem.mp hv
        rfl
      have hin : inV (.str (c.nm i)) (firsts (fun i => V.str (c.nm i)) i) = false := by
        unfold inV
        rw [List.any_eq_false]
        intro v hv
        obtain ⟨j, hj, rfl⟩ := firsts_mem.mp hv
        intro e
        have e2 : c.nm j = c.nm i := eq_of_beq e
        have := ok.apart j i (by omega) hi e2
        omega
      rw [cutV_to _ _ (by rw [firsts_len]; omega), firsts_take (by omega)]
      refine ⟨p, _, rfl, .inl (SqL.of upd_same), rfl, hfl, ?_⟩
      rw [hin]
      walk_at "w"
      exact ⟨hS5.trans (Same.new hp), _, _, _, rfl⟩
    rintro σ H4 ⟨hS4, o1, o2, o3, rfl⟩
    have hS5 := hS3.trans hS4
    have ht4 := hS5.sqt ht
    have hx4 := hS5 _ _ hx
    have hD4 := hS4 _ _ hD2
    walk_at "w"
    refine ⟨_, _, rfl, .inr ⟨_, ht4, rfl⟩, ?_⟩
    rw [firsts_len]
    walk_at "w"
    have hfew := ok.few
    refine iteD (fun hc => absurd hc (by omega)) (fun _ => ?_)
    walk_at "w"
    have g0 : GOk K CF [] "listed" := kc.g (i := 0) rfl
    have g1 : GOk K CF ["listed"] "places" := kc.g (i := 1) rfl
    refine ⟨x, CF, dx, [], [], rfl, hx4, g0, rfl, ?_⟩
    have hDx : D ≠ x := ne_of hD4 hx4 (by intro z; cases z)
    generalize hH5 : upd H4 x (.ins CF dx ((([] : List Str) ++ [("listed" : Str)]).zip (([] : List V) ++ [V.ref t]))) = H5
    have hx5 : H5 x = some (.ins CF dx ([("listed" : Str)].zip [V.ref t])) := by rw [← hH5]; exact upd_same
    have hD5 : H5 D = some (.lst (firsts (fun i => V.str (c.nm i)) c.n)) := by rw [← hH5, upd_ne hDx]; exact hD4
    have SB5 : SB x H H5 := hH5 ▸ (SB.of hS5).set
    walk_at "w"
    refine ⟨_, _, rfl, SqL.of hD5, fun d hd => ?_⟩
    refine dc_acc walk_enum hd (by rw [firsts_len]; omega) (fun i acc _ => acc = firsts (fun i => ((Sum.inr (c.nm i) : Key), V.int (i : Nat))) i) rfl (fun i acc H' e _ => e.seq (SqL.of hD5)) ?_ ?_
    · rintro i v acc H6 H7 Nx hi hS6 hD6 rfl ⟨T, y, z, rfl, hT, rfl, hy, hz⟩ fin _
      obtain ⟨hi, rfl⟩ := firsts_at hz
      injection hy with hy
      subst hy
      refine ⟨_, _, rfl, SqT.of upd_same, rfl, ?_⟩
      walk_at "w"
      exact fin (.inr (c.nm i)) (.int (i : Nat)) _ (Same.new hT _ _ hD6) (hS6.trans (Same.new hT)) (putK_firsts (k := fun i => (Sum.inr (c.nm i) : Key)) (v := fun i => V.int (i : Nat)) fun j hj e => by
        injection e with e
        have := ok.apart j i (by omega) hi e
        omega)
    rintro acc H6 hS6 hd6 rfl
    rw [firsts_len] at hd6
    have SB6 := SB5.same hS6
    have hx6 := hS6 _ _ hx5
    walk_at "w"
    refine ⟨x, CF, dx, ["listed"], [V.ref t], rfl, hx6, g1, rfl, ?_⟩
    have hdx : d ≠ x := ne_of hd6 hx6 (by intro z; cases z)
    refine k _ SB6.set ⟨dx, t, d, upd_same, SB6.set.sqt hx ht, fun i hi => ((hc i hi).sb SB6.set hx (hne i hi)), ?_⟩
    rw [upd_ne hdx]
    exact hd6
/-! ### what a fence tells -/
def spPainters (K : PySem.W.Frag) (CP CF : Addr) : Sp := fun vs H Q _ => ∃ (x : Addr) (c : Crew) (r : Nat → Addr), vs = [.ref x] ∧ FnAt K CP CF H x c r ∧ ∀ t, SqT K H t (refsV r c.n) → Q (.ref t) H
theorem sc_Fence_painters : FnScope ["self"] ["self"] (defScope s_Fence_painters) := C8.fnScope_by (by decide +kernel)
theorem ok_g_painters {pf f : Addr} (kc : KCls K CF feN) (me : PropOf K CF "painters" pf f) (F : DF K "painters" "Fence.painters" s_Fence_painters f) :
    Prp P w K mg base 1 CF "painters" (spPainters K CP CF) := by
  refine prp_of kc.cl me F sc_Fence_painters (fun _ _ _ _ _ _ us hl => match us, hl with | [_], _ => rfl) (fun vs H Q E h => ?_) (fun cdv A outer s H vs Q E hr h => ?_)
  · obtain ⟨x, c, r, rfl, _⟩ := h
    rfl
  · obtain ⟨x, c, r, rfl, ⟨dx, t, d, hx, ht, hc, hd⟩, k⟩ := h
    refine ⟨_, (pss_one (ps_ret (pe_fldN 0 (pv 0) rfl))), ?_⟩
    show (_ : TS) _ [some _] _
    walk_at "w"
    exact k t ht
def spNames (K : PySem.W.Frag) (CP CF : Addr) : Sp := fun vs H Q _ => ∃ (x : Addr) (c : Crew) (r : Nat → Addr), vs = [.ref x] ∧ FnAt K CP CF H x c r ∧ ∀ t H', Same H H' → SqT K H' t (firsts (fun i => V.str (c.nm i)) c.n) → Q (.ref t) H'
theorem sc_Fence_names : FnScope ["self"] ["self"] (defScope s_Fence_names) := C8.fnScope_by (by decide +kernel)
theorem ok_g_names {pf f : Addr} (kc : KCls K CF feN) (me : PropOf K CF "names" pf f) (F : DF K "names" "Fence.names" s_Fence_names f) (n_tuple : mg "tuple" = none) :
    Prp P w K mg base 1 CF "names" (spNames K CP CF) := by
  refine prp_of kc.cl me F sc_Fence_names (fun _ _ _ _ _ _ us hl => match us, hl with | [_], _ => rfl) (fun vs H Q E h => ?_) (fun cdv A outer s H vs Q E hr h => ?_)
  · obtain ⟨x, c, r, rfl, _⟩ := h
    rfl
  · obtain ⟨x, c, r, rfl, ⟨dx, t, d, hx, ht, hc, hd⟩, k⟩ := h
    refine ⟨_, (pss_one (ps_ret (pe_callTy (call_tuple_dK rfl) (by rfl) n_tuple (by decide +kernel) (pa_cons (pe_fldN 1 (pv 0) rfl) pa_nil)))), ?_⟩
    show (_ : TS) _ [some _] _
    walk_at "w"
    refine ⟨_, _, rfl, hd, fun q hq => ?_⟩
    refine k q _ (Same.new hq) (SqT.of ?_)
    rw [map_firsts]
    exact upd_same
/-- one painter more -/
def addCrew (c : Crew) (z : Str) (p : Pt) : Crew := ⟨c.n + 1, fun i => if i = c.n then z else c.nm i, fun i => if i = c.n then p else c.p i⟩
def spFenceAdd (K : PySem.W.Frag) (CP CF : Addr) : Sp := fun vs H Q _ => ∃ (x y : Addr) (c : Crew) (r : Nat → Addr) (z : Str) (p : Pt), vs = [.ref x, .ref y] ∧ FnAt K CP CF H x c r ∧ PnAt K CP H y z p ∧ (addCrew c z p).Ok ∧
  ∀ x' r' H', Same H H' → FnAt K CP CF H' x' (addCrew c z p) r' → Q (.ref x') H'
abbrev spFenceR (K : PySem.W.Frag) (CP CF : Addr) : Sp := fun vs H Q E => ∃ ws rest, vs = ws ++ rest ∧ ws.length = 1 ∧ rest.length ≤ sizeLine ∧ ∀ p, H p = none → spFenceInit K CP CF (ws ++ [V.ref p]) (upd H p (.tup rest)) Q E
theorem sc_Fence___add__ : FnScope ["self", "painter"] ["self", "painter"] (defScope s_Fence___add__) := C8.fnScope_by (by decide +kernel)
theorem ok_FenceAdd {f f2 : Addr} (kc : KCls K CF feN) (ad : PySem.W.AddOk K CF CP f f2) (F : DF K "__add__" "Fence.__add__" s_Fence___add__ f) (ic_Painter : C8.InsC K CP) (g_Painter : GC mg "Painter" (.ref CP)) (n_isinstance : mg "isinstance" = none)
    (c_Fence : MakR P w K mg base 3 "Fence" CF (spFenceR K CP CF)) : Adr P w K mg base 5 CF CP (spFenceAdd K CP CF) := by
  obtain ⟨fd, F⟩ := F
  refine ⟨f, f2, fd, ["self", "painter"], ad, funD_ok F sc_Fence___add__ (fun vs H Q E h => ?_) (fun cdv A outer s H vs Q E hr h => ?_), F.bindsN (fun _ _ _ _ _ _ us hl => match us, hl with | [_, _], _ => rfl)⟩
  · obtain ⟨x, y, c, r, z, p, rfl, _⟩ := h
    rfl
  · obtain ⟨x, y, c, r, z, p, rfl, hF, hP, ok, k⟩ := h
    refine ⟨_, (pss_cons (ps_if (pt_not (pt_val (pe_callB (C8.call_isC ic_Painter) (by rfl) n_isinstance (by decide +kernel) (pa_cons (pv 1) (pa_cons (C8.pe_gc rfl g_Painter) pa_nil))))) (pss_one ps_never)
           pss_nil)
        (pss_one (ps_ret (pe_mkR2 c_Fence hr (by decide) rfl (StX.pa_star (pe_fldN 0 (pv 0) rfl) (pa_cons (pv 1) pa_nil)))))), ?_⟩
    show (_ : TS) _ [some _, some _] _
    obtain ⟨dx, t, d, hx, ht, hc, hd⟩ := hF
    obtain ⟨dp, tp, hp, htp⟩ := id hP
    walk_at "w"
    refine ⟨t, _, rfl, .inl ht, ?_⟩
    walk_at "w"
    intro x' dx' nx ndx hne
    have hH : ∀ {a o}, H a = some o → upd (upd H dx' (.own x')) x' (.ins CF dx' []) a = some o := fun {a o} e => by
      rw [upd_ne (ne_of_none e nx), upd_ne (ne_of_none e ndx)]
      exact e
    have S1 : Same H (upd (upd H dx' (.own x')) x' (.ins CF dx' [])) := fun b o e => hH e
    refine ⟨[.ref x'], refsV r c.n ++ [.ref y], rfl, rfl, ?_, fun q hq => ?_⟩
    · refine len_of (m := 41) ?_
      rw [List.length_append, firsts_len]
      have := ok.few
      have e : (addCrew c z p).n = c.n + 1 := rfl
      show c.n + 1 ≤ 41
      omega
    have S2 := S1.trans (Same.new (o := .tup (refsV r c.n ++ [V.ref y])) hq)
    have er : refsV (fun i => if i = c.n then y else r i) (addCrew c z p).n = refsV r c.n ++ [.ref y] := by
      show firsts _ (c.n + 1) = _
      rw [firsts_succ]
      have e1 : firsts (fun i => V.ref (if i = c.n then y else r i)) c.n = refsV r c.n := firsts_congr fun i hi => by rw [if_neg (by omega)]
      show firsts (fun i => V.ref (if i = c.n then y else r i)) c.n ++ [V.ref (if c.n = c.n then y else r c.n)] = _
      rw [e1, if_pos rfl]
    refine ⟨x', dx', q, addCrew c z p, (fun i => if i = c.n then y else r i), rfl, Same.new hq _ _ upd_same, ?_, fun i hi => ?_, fun i hi => ?_, ok, fun H2 hS2 hF2 => ?_⟩
    · rw [er]
      exact SqT.of upd_same
    · by_cases e : i = c.n
      · show PnAt K CP _ (if i = c.n then y else r i) (if i = c.n then z else c.nm i) (if i = c.n then p else c.p i)
        rw [if_pos e, if_pos e, if_pos e]
        exact hP.same S2
      · show PnAt K CP _ (if i = c.n then y else r i) (if i = c.n then z else c.nm i) (if i = c.n then p else c.p i)
        rw [if_neg e, if_neg e, if_neg e]
        have hi : i < c.n + 1 := hi
        exact (hc i (by omega)).same S2
    · by_cases e : i = c.n
      · show (if i = c.n then y else r i) ≠ x'
        rw [if_pos e]
        exact ne_of_none hp nx
      · show (if i = c.n then y else r i) ≠ x'
        rw [if_neg e]
        have hi : i < c.n + 1 := hi
        obtain ⟨d3, t3, h3, _⟩ := hc i (by omega)
        exact ne_of_none h3 nx
    · refine ⟨rfl, k x' _ H2 (fun b o e => ?_) hF2⟩
      have e1 := S2 b o e
      exact hS2 b o e1 (ne_of_none e nx)
end
end PK
end
section
set_option Elab.async false
set_option linter.all false
set_option maxRecDepth 100000
set_option maxHeartbeats 4000000
namespace PK
open PySem PySem.Spec PyProof.Rows L2 PM
local macro_rules | `(tactic| walk_at "sd") => `(tactic| (first
  | assumption
  | omega
  | (constructor <;> omega)
  | (refine ⟨by omega, ?_⟩; constructor <;> omega)
  | (constructor <;> (first | assumption | omega | (constructor <;> omega)))))
local macro_rules | `(tactic| walk_at "w") => `(tactic| (repeat (first
  | with_reducible refine ifTT ?_
  | with_reducible refine ifFT ?_
  | with_reducible refine ifnT ?_
  | with_reducible refine ifnF ?_
  | with_reducible refine ifIN ?_
  | with_reducible refine ifNN ?_
  | with_reducible refine ifnIN ?_
  | with_reducible refine ifnNN ?_
  | with_reducible refine ifRN ?_
  | with_reducible refine ifnRN ?_
  | ((fail_if_success with_reducible refine iteB ?_ ?_); first
    | refine ⟨_, rfl, ?_⟩
    | refine ⟨_, _, rfl, rfl, ?_⟩
    | refine ⟨_, _, rfl, ?_⟩
    | refine And.intro (a := (_ : Nat) ≤ sizeLine) (by first | exact len_small (m := 2) rfl | exact len_small (m := 1) rfl | exact len_small (m := 4) rfl | exact len_small (m := 3) rfl | exact len_small (m := 0) rfl) ?_
    | refine ⟨rfl, ?_⟩
    | refine And.intro (a := CDivP _ _) (by walk_at "sd") ?_
    | refine And.intro (a := CDivB _ _) (by walk_at "sd") ?_
    | refine And.intro (a := CMulB _ _) (by walk_at "sd") ?_
    | refine And.intro (a := _ ≠ (0 : Int)) (by walk_at "sd") ?_
    | refine And.intro (a := (0 : Int) < _) (by walk_at "sd") ?_
    | refine ⟨_, _, rfl, ‹_›, rfl, ?_⟩
    | refine ⟨_, _, _, _, rfl, rfl, ‹_›, rfl, ?_⟩
    | refine ⟨_, _, _, _, rfl, rfl, by assumption, by assumption, ?_⟩
    | refine ⟨_, _, _, _, _, _, rfl, ‹_›, ‹_›, rfl, ?_⟩
    | refine ⟨_, _, _, _, _, _, rfl, ‹_›, (by exact KCls.f ‹_› rfl), (by rfl), ?_⟩
    | refine ⟨_, _, _, _, _, _, rfl, upd_same, ‹_›, (by rfl), ?_⟩
    | refine ⟨_, _, _, _, _, _, rfl, ‹_›, ‹Cls _ _›, ‹_›, rfl, ?_⟩
    | refine ⟨_, _, _, _, rfl, ‹_›, by decide +kernel, ?_⟩
    | refine ⟨_, _, _, rfl, ‹_›, ?_⟩
    | refine And.intro (by assumption) ?_))))
section
variable {P : Program} {w : World} {K : PySem.W.Frag} {mg : Str → Option Value} {base : Heap} {C : Addr}
/-! ### first_block -/
def spNumber (C : Addr) : Sp := fun vs H Q _ => ∃ (x dx o t : Addr) (e : Bool) (st os sa oa m : Int), vs = [.ref x, .int m] ∧ H x = some (.ins C dx (crN.zip [.ref o, .ref t, .bl e, .int st, .int os, .int sa, .int oa])) ∧ Bd m ∧ Bd st ∧ Q (.int (sa + m * st)) H
theorem sc_Crossing_number : FnScope ["self", "m"] ["self", "m"] (defScope s_Crossing_number) := C8.fnScope_by (by decide +kernel)
theorem ok_number {f : Addr} (kc : KCls K C crN) (me : Meth K C "number" f) (F : DF K "number" "Crossing.number" s_Crossing_number f) :
    C8.Met P w K mg base 1 C "number" (spNumber C) [] := by
  refine met_of kc.cl me F sc_Crossing_number (fun _ _ _ _ _ _ us hl => match us, hl with | [_, _], _ => rfl) (fun vs H Q E h => ?_) (fun cdv A outer s H vs Q E hr h => ?_)
  · obtain ⟨x, dx, o, t, e, st, os, sa, oa, m, rfl, _⟩ := h
    rfl
  · obtain ⟨x, dx, o, t, e, st, os, sa, oa, m, rfl, hx, hm, hs, k⟩ := h
    refine ⟨_, (pss_one (ps_ret (pe_op op_add (pe_fldN 5 (pv 0) rfl) (pe_op op_mulB (pv 1) (pe_fldN 3 (pv 0) rfl))))), ?_⟩
    show (_ : TS) _ [some _, some _] _
    walk_at "w"
    exact k
def bdPairs (cs : List (Int × Int)) : Prop := ∀ q, q ∈ cs → Bd q.2
def spBounds (K : PySem.W.Frag) (C : Addr) : Sp := fun vs H Q _ => ∃ (x dx o t l : Addr) (e : Bool) (st os sa oa : Int) (cs : List (Int × Int)), vs = [.ref x, .ref l] ∧ H x = some (.ins C dx (crN.zip [.ref o, .ref t, .bl e, .int st, .int os, .int sa, .int oa])) ∧ LT K H l (cs.map pairV) ∧ cs.length ≤ 10 ∧ Bd os ∧ bdPairs cs ∧
  ∀ t H', Same H H' → SqT K H' t [.int (if e = true then (1, some 0) else lfRes ((oa, os) :: cs)).1, optV (if e = true then (1, some 0) else lfRes ((oa, os) :: cs)).2] → Q (.ref t) H'
theorem sc_Crossing_bounds : FnScope ["self", "more"] ["self", "more"] (defScope s_Crossing_bounds) := C8.fnScope_by (by decide +kernel)
theorem ok_bounds {f : Addr} {v0 : V} (kc : KCls K C crN) (me : Meth K C "bounds" f) (F : DFd K "bounds" "Crossing.bounds" s_Crossing_bounds [v0] [] f) (c_least_fit : C8.Cal P w K mg base 1 "least_fit" (spLeastFit K) []) :
    C8.Met P w K mg base 2 C "bounds" (spBounds K C) [] := by
  obtain ⟨fd, F⟩ := F
  refine met_ofB kc.cl me F (F.binds1 2 1 (by simp) rfl fun T kV doc pm an cdv ct us its hl hl2 => match us, hl, its, hl2 with | [_, _], _, [_], _ => ⟨_, rfl, rfl⟩) sc_Crossing_bounds (fun vs H Q E h => ?_) (fun cdv A outer s H vs Q E hr h => ?_)
  · obtain ⟨x, dx, o, t, l, e, st, os, sa, oa, cs, rfl, _⟩ := h
    rfl
  · obtain ⟨x, dx, o, t, l, e, st, os, sa, oa, cs, rfl, hx, hl, hn, hb, hB, k⟩ := h
    refine ⟨_, (pss_cons (ps_if (pt_val (pe_fldN 2 (pv 0) rfl)) (pss_one (ps_ret (pe_tup (pa_cons pe_int (pa_cons pe_int pa_nil)))))
           pss_nil)
        (pss_one (ps_ret (C8.pe_c c_least_fit hr (by decide) rfl (pa_cons (pe_lst (pa_cons (pe_tup (pa_cons (pe_fldN 6 (pv 0) rfl) (pa_cons (pe_fldN 4 (pv 0) rfl) pa_nil))) (StX.pa_star (pv 1) pa_nil))) pa_nil))))), ?_⟩
    show (_ : TS) _ [some _, some _] _
    walk_at "w"
    cases e with
    | true =>
      walk_at "w"
      intro t1 ht1
      exact k t1 _ (Same.new ht1) (SqT.of upd_same)
    | false =>
      refine iteF ?_
      walk_at "w"
      intro p1 hp1
      obtain ⟨rs, hl1, hl2⟩ := hl
      have S1 : Same H (upd H p1 (.tup [.int oa, .int os])) := Same.new hp1
      walk_at "w"
      refine ⟨_, _, rfl, .inr (S1.seq hl1), ?_⟩
      refine ⟨?_, ?_⟩
      · refine len_small (m := cs.length + 1) ?_ (by omega)
        have := paired_len hl2
        simp at this
        simp [this]
      intro p2 hp2
      have S2 := S1.trans (Same.new (o := .lst (V.ref p1 :: (rs.map V.ref ++ []))) hp2)
      refine ⟨p2, (oa, os) :: cs, rfl, ⟨p1 :: rs, SqL.of (xs := V.ref p1 :: rs.map V.ref) ?_, .cons ((Same.new hp2).sqt (SqT.of upd_same)) (S2.paired hl2)⟩, fun q hq => ?_, fun t H' hS ht => ?_⟩
      · rw [List.append_nil]
        exact upd_same
      · rcases List.mem_cons.mp hq with e | hq
        · rw [e]
          exact hb
        · exact hB q hq
      · exact k t H' (S2.trans hS) ht
theorem SqT.lt0 {H : Hp} {l r : Addr} {xs : List V} (h : H l = some (.lst [.ref r])) (hr : SqT K H r xs) : LT K H l [xs] := ⟨[r], SqL.of (xs := [V.ref r]) h, .cons hr .nil⟩
theorem not_early (e : Bool) : (if (!e) = true then (1 : Int) else 0) = if e = true then 0 else 1 := by cases e <;> rfl
theorem fb_fin {d1 d2 : Int} {emp : Bool} {step ostep start ostart : Int} {early : Bool} {cb : Option Int} : fbVal d1 d2 emp step ostep start ostart early cb = match (if emp = true then (1, some 0) else lfRes (fbConds d1 d2 step ostep start ostart early cb)).2 with
    | none => some (start + (if emp = true then ((1 : Int), some (0 : Int)) else lfRes (fbConds d1 d2 step ostep start ostart early cb)).1 * step)
    | some h => if (if emp = true then (1, some 0) else lfRes (fbConds d1 d2 step ostep start ostart early cb)).1 ≤ h then some (start + (if emp = true then ((1 : Int), some (0 : Int)) else lfRes (fbConds d1 d2 step ostep start ostart early cb)).1 * step) else none := by
  unfold fbVal
  cases emp with
  | true => rfl
  | false =>
    rw [if_neg Bool.false_ne_true, if_neg Bool.false_ne_true, lowOf_res]
    generalize lfRes (fbConds d1 d2 step ostep start ostart early cb) = R
    obtain ⟨l, h⟩ := R
    cases h with
    | none => rfl
    | some h =>
      show Option.map _ (if l ≤ h then some l else none) = if l ≤ h then some (start + l * step) else none
      by_cases q : l ≤ h
      · rw [if_pos q, if_pos q]
        rfl
      · rw [if_neg q, if_neg q]
        rfl
theorem fb_low {start step l k : Int} (e : k = start + l * step) (h0 : 0 ≤ k) (h1 : k ≤ 10 ^ 60) (h2 : 0 ≤ start) (h3 : start < step) : Bd l := by
  have l0 : 0 ≤ l := by
    by_cases q : 0 ≤ l
    · exact q
    · have := Int.mul_le_mul_of_nonneg_right (show l ≤ -1 by omega) (show 0 ≤ step by omega)
      omega
  have := Int.mul_le_mul_of_nonneg_left (show 1 ≤ step by omega) l0
  exact ⟨by omega, by omega⟩
def spFirst (K : PySem.W.Frag) (C : Addr) : Sp := fun vs H Q _ => ∃ (c : Addr) (a b : Pt) (cnt : Option Int) (early : Bool), vs = [.ref c, optV cnt, .bl early] ∧ CrAt K C H c a b ∧ PtOk a ∧ PtOk b ∧ (∀ z, cnt = some z → 0 ≤ z) ∧
  ∀ r H', Same H H' → FB a b early cnt r → (∀ k, r = some k → 0 ≤ k ∧ k ≤ 10 ^ 60) → Q (optV r) H'
theorem sc_Crossing_first_block : FnScope ["self", "count", "is_earlier", "late", "more", "low", "high"] ["self", "count", "is_earlier"] (defScope s_Crossing_first_block) := C8.fnScope_by (by decide +kernel)
theorem ok_first_block {f : Addr} (kc : KCls K C crN) (me : Meth K C "first_block" f) (F : DF K "first_block" "Crossing.first_block" s_Crossing_first_block f) (c_number : C8.Met P w K mg base 1 C "number" (spNumber C) []) (c_bounds : C8.Met P w K mg base 2 C "bounds" (spBounds K C) []) (n_int : mg "int" = none) :
    C8.Met P w K mg base 3 C "first_block" (spFirst K C) [] := by
  refine met_of kc.cl me F sc_Crossing_first_block (fun _ _ _ _ _ _ us hl => match us, hl with | [_, _, _], _ => rfl) (fun vs H Q E h => ?_) (fun cdv A outer s H vs Q E hr h => ?_)
  · obtain ⟨c, a, b, cnt, early, rfl, _⟩ := h
    rfl
  · obtain ⟨c, a, b, cnt, early, rfl, ⟨dx, o, t, emp, step, ostep, start, ostart, hx, ho, ht, hC, hB⟩, ha, hb, hz, k⟩ := h
    refine ⟨_, (pss_cons (ps_set (i := 3) sc_Crossing_first_block.nd rfl (Or.inl rfl) (pe_op op_sub (pe_op op_sub (pe_op op_sub (pe_op op_add (pe_ix ix_tup (pe_fldN 0 (pv 0) rfl) pe_int (fun _ _ => rfl)) (pe_fldN 5 (pv 0) rfl)) (pe_ix ix_tup (pe_fldN 1 (pv 0) rfl) pe_int (fun _ _ => rfl))) (pe_fldN 6 (pv 0) rfl)) (pe_callTy call_int1 (by rfl) n_int (by decide +kernel) (pa_cons (pe_not (pv 2)) pa_nil))))
        (pss_cons (ps_set (i := 4) sc_Crossing_first_block.nd rfl (Or.inl rfl) (pe_lst (pa_cons (pe_tup (pa_cons (pv 3) (pa_cons (pe_op op_sub (pe_fldN 3 (pv 0) rfl) (pe_fldN 4 (pv 0) rfl)) pa_nil))) pa_nil)))
        (pss_cons (ps_if (pt_cmpR op_notN (pv 1) pe_non (nomark _)) (pss_one (ps_expr (pe_bm PySem.F.plainAttrs_list PySem.F.slot_list_append PySem.F.type_list_append mt_append (pv 4) (pa_cons (pe_tup (pa_cons (pe_op op_sub (pe_op op_sub (pv 1) pe_int) (pe_fldN 6 (pv 0) rfl)) (pa_cons (pe_un un_neg (pe_fldN 4 (pv 0) rfl)) pa_nil))) pa_nil))))
           pss_nil)
        (pss_cons (ps_asg (pe_mtN c_bounds hr (by decide) (pv 0) (pa_cons (pv 4) pa_nil)) (pg_tup rfl (pgs_cons (pg_name (i := 5) sc_Crossing_first_block.nd rfl (Or.inl rfl)) (pgs_cons (pg_name (i := 6) sc_Crossing_first_block.nd rfl (Or.inl rfl)) pgs_nil))))
        (pss_one (ps_ret (pe_ifExp (PW.pt (pw_or (pt_cmpR op_isN (pv 6) pe_non (nomark _)) (pw_or1 (pt_cmpR op_le (pv 5) (pv 6) (nomark _))))) (pe_mtN c_number hr (by decide) (pv 0) (pa_cons (pv 5) pa_nil)) pe_non))))))), ?_⟩
    show (_ : TS) _ [some _, some _, some _, none, none, none, none] _
    walk_at "w"
    refine .inr ⟨_, rfl, ?_⟩
    rw [not_early]
    walk_at "w"
    intro p1 hp1
    walk_at "w"
    intro l hl
    have S1 : Same H (upd H p1 (.tup [.int (a.day + start - b.day - ostart - (if early = true then 0 else 1)), .int (step - ostep)])) := Same.new hp1
    have S2 := S1.trans (Same.new (o := .lst [.ref p1]) hl)
    have hl0 : H l = none := by
      cases e : H l with
      | none => rfl
      | some u => rw [S1 _ _ e] at hl; cases hl
    have l1 : ((upd (upd H p1 (.tup [.int (a.day + start - b.day - ostart - (if early = true then 0 else 1)), .int (step - ostep)])) l (.lst [.ref p1])) p1) = some (.tup [.int (a.day + start - b.day - ostart - (if early = true then 0 else 1)), .int (step - ostep)]) := Same.new hl _ _ upd_same
    have hx1 := S2 _ _ hx
    cases cnt with
    | none =>
        walk_at "w"
        have bB : bdPairs [(a.day + start - b.day - ostart - (if early = true then 0 else 1), step - ostep)] := fun q hq => by
          rw [List.mem_singleton.mp hq]
          have := hB.a; have := hB.b; have := hC.pos
          exact ⟨by show _ ≤ step - ostep; omega, by show step - ostep ≤ _; omega⟩
        refine ⟨_, _, _, _, _, _, _, _, _, _, [(a.day + start - b.day - ostart - (if early = true then 0 else 1), step - ostep)], rfl, hx1, SqT.lt0 upd_same (SqT.of l1), (show (1 : Nat) ≤ 10 by decide), ⟨by have := hB.b; omega, by have := hB.b; omega⟩, bB, fun T H3 hS hT => ?_⟩
        have hS3 := S2.trans hS
        have hz0 : ∀ c : Int, (none : Option Int) = some c → 0 ≤ c := hz
        have fbe : fbConds a.day b.day step ostep start ostart early none = (ostart, ostep) :: [(a.day + start - b.day - ostart - (if early = true then 0 else 1), step - ostep)] := rfl
        refine ⟨_, _, rfl, hT, rfl, ?_⟩
        have kk : ∀ r, r = fbVal a.day b.day emp step ostep start ostart early none → Q (optV r) H3 := fun r er => by
          rw [er]
          exact k _ H3 hS3 (fb_ok hC) (fun z hz => fb_le hz ⟨ha.d0, by have := ha.d1; omega⟩ ⟨hb.d0, by have := hb.d1; omega⟩ ⟨hC.pos, hB.a⟩ ⟨hC.lo, hC.hi⟩ hB.c hz0)
        have low : ∀ z, fbVal a.day b.day emp step ostep start ostart early none = some z → 0 ≤ z ∧ z ≤ 10 ^ 60 := fun z hz => fb_le hz ⟨ha.d0, by have := ha.d1; omega⟩ ⟨hb.d0, by have := hb.d1; omega⟩ ⟨hC.pos, hB.a⟩ ⟨hC.lo, hC.hi⟩ hB.c hz0
        rw [fb_fin, fbe] at kk low
        have hx3 := hS3 _ _ hx
        revert kk low
        generalize (if emp = true then ((1 : Int), some (0 : Int)) else lfRes ((ostart, ostep) :: [(a.day + start - b.day - ostart - (if early = true then 0 else 1), step - ostep)])) = R
        obtain ⟨l, h⟩ := R
        intro kk low
        have stB : Bd step := ⟨by have := hC.pos; omega, by have := hB.a; omega⟩
        cases h with
        | none =>
          have lB : Bd l := fb_low rfl (low _ rfl).1 (low _ rfl).2 hC.lo hC.hi
          walk_at "w"
          refine ⟨_, _, _, _, _, _, _, _, _, _, rfl, hx3, lB, stB, ?_⟩
          exact kk _ rfl
        | some h =>
          walk_at "w"
          refine iteD (fun hc => ?_) (fun hc => ?_)
          · have low1 := low (start + l * step) (if_pos hc)
            have lB : Bd l := fb_low rfl low1.1 low1.2 hC.lo hC.hi
            walk_at "w"
            refine ⟨_, _, _, _, _, _, _, _, _, _, rfl, hx3, lB, stB, ?_⟩
            exact kk (some _) (if_pos hc).symm
          · walk_at "w"
            exact kk none (if_neg hc).symm
    | some cc =>
        walk_at "w"
        refine ⟨tyL upd_same, ?_⟩
        walk_at "w"
        intro p2 hp2
        generalize hHa : (upd (upd (upd H p1 (.tup [.int (a.day + start - b.day - ostart - (if early = true then 0 else 1)), .int (step - ostep)])) l (.lst [.ref p1])) p2 (.tup [.int (cc - 1 - ostart), .int (-ostep)])) = Ha
        have S3 : Same H Ha := hHa ▸ S2.trans (Same.new hp2)
        have l2 : Ha l = some (.lst [.ref p1]) := hHa ▸ (Same.new hp2) _ _ upd_same
        have l3 : Ha p1 = some (.tup [.int (a.day + start - b.day - ostart - (if early = true then 0 else 1)), .int (step - ostep)]) := hHa ▸ (Same.new hp2) _ _ l1
        have l4 : Ha p2 = some (.tup [.int (cc - 1 - ostart), .int (-ostep)]) := hHa ▸ upd_same
        refine ⟨l, [.ref p1], .ref p2, rfl, rfl, l2, lt_line (m := 1) (Nat.le_refl _), ?_⟩
        have n1 : p1 ≠ l := ne_of l3 l2 (by intro z; cases z)
        have n2 : p2 ≠ l := ne_of l4 l2 (by intro z; cases z)
        generalize hHb : upd Ha l (.lst ([.ref p1] ++ [.ref p2])) = Hb
        have S4 : Same H Hb := hHb ▸ Same.put hl0 S3
        have hx2 := S4 _ _ hx
        have k1 : Hb p1 = some (.tup [.int (a.day + start - b.day - ostart - (if early = true then 0 else 1)), .int (step - ostep)]) := by rw [← hHb, upd_ne n1]; exact l3
        have k2 : Hb p2 = some (.tup [.int (cc - 1 - ostart), .int (-ostep)]) := by rw [← hHb, upd_ne n2]; exact l4
        have k3 : Hb l = some (.lst ([p1, p2].map V.ref)) := by rw [← hHb]; exact upd_same
        have hLT : LT K Hb l ([(a.day + start - b.day - ostart - (if early = true then 0 else 1), step - ostep), (cc - 1 - ostart, -ostep)].map pairV) := ⟨[p1, p2], SqL.of k3, .cons (SqT.of k1) (.cons (SqT.of k2) .nil)⟩
        walk_at "w"
        have bB : bdPairs [(a.day + start - b.day - ostart - (if early = true then 0 else 1), step - ostep), (cc - 1 - ostart, -ostep)] := fun q hq => by
          have := hB.a; have := hB.b; have := hC.pos
          rcases List.mem_cons.mp hq with e | hq
          · rw [e]
            exact ⟨by show _ ≤ step - ostep; omega, by show step - ostep ≤ _; omega⟩
          · rw [List.mem_singleton.mp hq]
            exact ⟨by show _ ≤ - ostep; omega, by show - ostep ≤ _; omega⟩
        refine ⟨_, _, _, _, _, _, _, _, _, _, [(a.day + start - b.day - ostart - (if early = true then 0 else 1), step - ostep), (cc - 1 - ostart, -ostep)], rfl, hx2, hLT, (show (2 : Nat) ≤ 10 by decide), ⟨by have := hB.b; omega, by have := hB.b; omega⟩, bB, fun T H3 hS hT => ?_⟩
        have hS3 := S4.trans hS
        have hz0 : ∀ c : Int, (some cc : Option Int) = some c → 0 ≤ c := hz
        have fbe : fbConds a.day b.day step ostep start ostart early (some cc) = (ostart, ostep) :: [(a.day + start - b.day - ostart - (if early = true then 0 else 1), step - ostep), (cc - 1 - ostart, -ostep)] := rfl
        refine ⟨_, _, rfl, hT, rfl, ?_⟩
        have kk : ∀ r, r = fbVal a.day b.day emp step ostep start ostart early (some cc) → Q (optV r) H3 := fun r er => by
          rw [er]
          exact k _ H3 hS3 (fb_ok hC) (fun z hz => fb_le hz ⟨ha.d0, by have := ha.d1; omega⟩ ⟨hb.d0, by have := hb.d1; omega⟩ ⟨hC.pos, hB.a⟩ ⟨hC.lo, hC.hi⟩ hB.c hz0)
        have low : ∀ z, fbVal a.day b.day emp step ostep start ostart early (some cc) = some z → 0 ≤ z ∧ z ≤ 10 ^ 60 := fun z hz => fb_le hz ⟨ha.d0, by have := ha.d1; omega⟩ ⟨hb.d0, by have := hb.d1; omega⟩ ⟨hC.pos, hB.a⟩ ⟨hC.lo, hC.hi⟩ hB.c hz0
        rw [fb_fin, fbe] at kk low
        have hx3 := hS3 _ _ hx
        revert kk low
        generalize (if emp = true then ((1 : Int), some (0 : Int)) else lfRes ((ostart, ostep) :: [(a.day + start - b.day - ostart - (if early = true then 0 else 1), step - ostep), (cc - 1 - ostart, -ostep)])) = R
        obtain ⟨l, h⟩ := R
        intro kk low
        have stB : Bd step := ⟨by have := hC.pos; omega, by have := hB.a; omega⟩
        cases h with
        | none =>
          have lB : Bd l := fb_low rfl (low _ rfl).1 (low _ rfl).2 hC.lo hC.hi
          walk_at "w"
          refine ⟨_, _, _, _, _, _, _, _, _, _, rfl, hx3, lB, stB, ?_⟩
          exact kk _ rfl
        | some h =>
          walk_at "w"
          refine iteD (fun hc => ?_) (fun hc => ?_)
          · have low1 := low (start + l * step) (if_pos hc)
            have lB : Bd l := fb_low rfl low1.1 low1.2 hC.lo hC.hi
            walk_at "w"
            refine ⟨_, _, _, _, _, _, _, _, _, _, rfl, hx3, lB, stB, ?_⟩
            exact kk (some _) (if_pos hc).symm
          · walk_at "w"
            exact kk none (if_neg hc).symm
end
end PK
end
section
set_option Elab.async false
set_option linter.all false
set_option maxRecDepth 100000
set_option maxHeartbeats 4000000
namespace PK
open PySem PySem.Spec PyProof.Rows L2 PM
/-! ### the rows of first blocks, in plain Lean -/
abbrev jK (j : Nat) : Key := Sum.inl ((j : Nat) : Int)
abbrev Tab := List (Key × V)
theorem valV_mem {κ : Type} [DecidableEq κ] {kvs : List (κ × V)} {k : κ} {v : V} (h : valV kvs k = some v) : (k, v) ∈ kvs := by
  induction kvs with
  | nil => cases h
  | cons q r ih =>
    by_cases e : q.1 = k
    · rw [valV_pos e] at h
      injection h with h
      obtain ⟨a, b⟩ := q
      have e : a = k := e
      have h : b = v := h
      rw [e, h]
      exact List.mem_cons_self
    · rw [valV_neg e] at h
      exact List.mem_cons_of_mem _ (ih h)
theorem valV_of {κ : Type} [DecidableEq κ] {kvs : List (κ × V)} {k : κ} {v : V} (nd : (kvs.map (·.1)).Nodup) (h : (k, v) ∈ kvs) : valV kvs k = some v := by
  induction kvs with
  | nil => cases h
  | cons q r ih =>
    rw [List.map_cons, List.nodup_cons] at nd
    rcases List.mem_cons.mp h with e | h
    · rw [← e, valV_pos rfl]
    · have : ¬ q.1 = k := fun e => nd.1 (by rw [e]; exact List.mem_map.mpr ⟨(k, v), h, rfl⟩)
      rw [valV_neg this]
      exact ih nd.2 h
structure FRow (n i : Nat) (kvs : Tab) : Prop where
  ks : ∀ q, q ∈ kvs → ∃ (j : Nat) (k : Int), q = (jK j, V.int k) ∧ j < n ∧ j ≠ i
  nd : (kvs.map (·.1)).Nodup
theorem nat_nodup_le : ∀ (n : Nat) (l : List Nat), l.Nodup → (∀ x, x ∈ l → x < n) → l.length ≤ n
  | 0, l, _, h => by
    cases l with
    | nil => exact Nat.le_refl _
    | cons a l => exact absurd (h a List.mem_cons_self) (Nat.not_lt_zero _)
  | n + 1, l, nd, h => by
    by_cases hm : n ∈ l
    · have h1 := nat_nodup_le n (l.erase n) (nd.erase n) (fun x hx => by
        have h2 := (nd.mem_erase_iff).mp hx
        have := h x h2.2
        have := h2.1
        omega)
      rw [List.length_erase_of_mem hm] at h1
      omega
    · have h1 := nat_nodup_le n l nd (fun x hx => by
        have := h x hx
        have : x ≠ n := fun e => hm (e ▸ hx)
        omega)
      omega
theorem FRow.len {n i : Nat} {kvs : Tab} (R : FRow n i kvs) : kvs.length ≤ n := by
  let g : Key → Nat := fun q => match q with
    | .inl z => z.toNat
    | .inr _ => 0
  have h := nat_nodup_le n (kvs.map fun q => g q.1) ?_ ?_
  · rw [List.length_map] at h
    exact h
  · have e : (kvs.map fun q => g q.1) = (kvs.map (·.1)).map g := by rw [List.map_map]; rfl
    rw [e]
    have inj : ∀ a, a ∈ kvs.map (·.1) → ∀ b, b ∈ kvs.map (·.1) → g a = g b → a = b := by
      intro a ha b hb e
      obtain ⟨q, hq, rfl⟩ := List.mem_map.mp ha
      obtain ⟨q', hq', rfl⟩ := List.mem_map.mp hb
      obtain ⟨j, k, rfl, _⟩ := R.ks q hq
      obtain ⟨j', k', rfl, _⟩ := R.ks q' hq'
      have e : j = j' := e
      show jK j = jK j'
      rw [e]
    have nd := R.nd
    revert inj nd
    generalize kvs.map (·.1) = l
    intro inj nd
    induction l with
    | nil => exact List.nodup_nil
    | cons a l ih =>
      rw [List.nodup_cons] at nd
      rw [List.map_cons, List.nodup_cons]
      refine ⟨fun hm => ?_, ih (fun a ha b hb => inj a (List.mem_cons_of_mem _ ha) b (List.mem_cons_of_mem _ hb)) nd.2⟩
      obtain ⟨b, hb, e⟩ := List.mem_map.mp hm
      have := inj b (List.mem_cons_of_mem _ hb) a List.mem_cons_self e
      exact nd.1 (this ▸ hb)
  · intro x hx
    obtain ⟨q, hq, rfl⟩ := List.mem_map.mp hx
    obtain ⟨j, k, rfl, hj, _⟩ := R.ks q hq
    exact hj
theorem FRow.nil {n i : Nat} : FRow n i [] := ⟨fun _ h => (nomatch h), List.nodup_nil⟩
theorem dropK_sub {κ : Type} [DecidableEq κ] {kvs : List (κ × V)} {k : κ} : (dropK kvs k).Sublist kvs := List.filter_sublist
theorem FRow.drop {n i j : Nat} {kvs : Tab} (R : FRow n i kvs) : FRow n i (dropK kvs (jK j)) :=
  ⟨fun q hq => R.ks q (dropK_sub.subset hq), R.nd.sublist (dropK_sub.map _)⟩
theorem FRow.put {n i j : Nat} {k : Int} {kvs : Tab} (R : FRow n i kvs) (hj : j < n) (ne : j ≠ i) : FRow n i (putK kvs (jK j) (.int k)) := by
  unfold putK
  by_cases h : (kvs.any fun kv => decide (kv.1 = jK j)) = true
  · rw [if_pos h]
    refine ⟨fun q hq => ?_, ?_⟩
    · obtain ⟨q', hq', rfl⟩ := List.mem_map.mp hq
      obtain ⟨j', k', rfl, h1, h2⟩ := R.ks q' hq'
      by_cases e : jK j' = jK j
      · exact ⟨j, k, by show (if jK j' = jK j then (jK j', V.int k) else (jK j', V.int k')) = _; rw [if_pos e, e], hj, ne⟩
      · exact ⟨j', k', by show (if jK j' = jK j then (jK j', V.int k) else (jK j', V.int k')) = _; rw [if_neg e], h1, h2⟩
    · have e : (kvs.map fun kv => if kv.1 = jK j then (kv.1, V.int k) else kv).map (·.1) = kvs.map (·.1) := by
        rw [List.map_map]
        refine List.map_congr_left fun q _ => ?_
        show (if q.1 = jK j then (q.1, V.int k) else q).1 = q.1
        split <;> rfl
      rw [e]
      exact R.nd
  · rw [if_neg h]
    refine ⟨fun q hq => ?_, ?_⟩
    · rcases List.mem_append.mp hq with hq | hq
      · exact R.ks q hq
      · exact ⟨j, k, List.mem_singleton.mp hq, hj, ne⟩
    · rw [List.map_append, List.nodup_append]
      refine ⟨R.nd, by simp, fun a ha b hb e => ?_⟩
      have hb : b = jK j := List.mem_singleton.mp hb
      obtain ⟨q, hq, e2⟩ := List.mem_map.mp ha
      exact h (List.any_eq_true.mpr ⟨q, hq, decide_eq_true (e2.trans (e.trans hb))⟩)
theorem valV_drop {κ : Type} [DecidableEq κ] {kvs : List (κ × V)} {k j : κ} : valV (dropK kvs k) j = if j = k then none else valV kvs j := by
  induction kvs with
  | nil => simp [dropK, valV]
  | cons q r ih =>
    by_cases e : q.1 = k
    · have e1 : dropK (q :: r) k = dropK r k := by
        unfold dropK
        rw [List.filter_cons, if_neg (by simp [e])]
      rw [e1, ih]
      by_cases e2 : j = k
      · rw [if_pos e2, if_pos e2]
      · rw [if_neg e2, if_neg e2, valV_neg (fun z => e2 (z.symm.trans e))]
    · have e1 : dropK (q :: r) k = q :: dropK r k := by
        unfold dropK
        rw [List.filter_cons, if_pos (by simp [e])]
      rw [e1]
      by_cases e3 : q.1 = j
      · rw [valV_pos e3, valV_pos e3, if_neg (fun z => e (e3.trans z))]
      · rw [valV_neg e3, valV_neg e3, ih]
section
variable {n : Nat} {p : Nat → Pt} {L : Nat → Option Int}
/-- the row of i at j holds the first block by j -/
def FVal (p : Nat → Pt) (L : Nat → Option Int) (kvs : Tab) (i j : Nat) : Prop := ∃ r, FB (p i) (p j) (decide (j < i)) (L j) r ∧ (∀ k, r = some k → 0 ≤ k ∧ k ≤ 10 ^ 60) ∧ valV kvs (jK j) = r.map V.int
theorem row_none {i : Nat} {kvs : Tab} (R : FRow n i kvs) (hV : ∀ j, j < n → j ≠ i → FVal p L kvs i j) (e : kvs = []) (k : Int) : ¬ Hit n p L i k := by
  rintro ⟨j, hj, ne, h⟩
  obtain ⟨r, h1, _, h2⟩ := hV j hj ne
  cases r with
  | none => exact h1 k h
  | some k' =>
    rw [e] at h2
    cases h2
theorem row_hit {i j : Nat} {k : Int} {kvs : Tab} (R : FRow n i kvs) (hV : ∀ j, j < n → j ≠ i → FVal p L kvs i j) (hm : (jK j, V.int k) ∈ kvs) : j < n ∧ j ≠ i ∧ HitB (p i) (p j) (decide (j < i)) (L j) k ∧ 0 ≤ k ∧ k ≤ 10 ^ 60 := by
  obtain ⟨j', k', e, hj, ne⟩ := R.ks _ hm
  have ej : j = j' := by
    have := congrArg Prod.fst e
    injection this with this
    have : (j : Int) = (j' : Int) := this
    omega
  subst ej
  obtain ⟨r, h1, h2, h3⟩ := hV j hj ne
  rw [valV_of R.nd hm] at h3
  cases r with
  | none => cases h3
  | some k2 =>
    injection h3 with h3
    injection h3 with h3
    subst h3
    exact ⟨hj, ne, h1.1, h2 _ rfl⟩
theorem row_least {i j : Nat} {k : Int} {kvs : Tab} (R : FRow n i kvs) (hV : ∀ j, j < n → j ≠ i → FVal p L kvs i j) (hm : (jK j, V.int k) ∈ kvs) (hl : ∀ (j' : Nat) (k' : Int), (jK j', V.int k') ∈ kvs → k ≤ k') : Least n p L i k := by
  obtain ⟨hj, ne, hh, _⟩ := row_hit R hV hm
  refine ⟨⟨j, hj, ne, hh⟩, ?_⟩
  rintro k' ⟨j', hj', ne', h'⟩
  obtain ⟨r, h1, _, h3⟩ := hV j' hj' ne'
  cases r with
  | none => exact absurd h' (h1 k')
  | some k2 =>
    have := hl j' k2 (valV_mem h3)
    have := h1.2 k' h'
    omega
end
theorem not_lt_first {a b : Int} {as bs : List Int} (h : ¬ (a :: as) < (b :: bs)) : b ≤ a := by
  rw [List.cons_lt_cons_iff] at h
  omega
theorem not_lt_two {a b c d : Int} {as bs : List Int} (h : ¬ (a :: c :: as) < (b :: d :: bs)) : b < a ∨ (b = a ∧ d ≤ c) := by
  rw [List.cons_lt_cons_iff] at h
  by_cases e : b = a
  · right
    refine ⟨e, ?_⟩
    by_cases q : d ≤ c
    · exact q
    · exact absurd (.inr ⟨e.symm, by rw [List.cons_lt_cons_iff]; omega⟩) h
  · left
    omega
/-- the stops found: of the places below m -/
structure StopsTo (n : Nat) (p : Nat → Pt) (L : Nat → Option Int) (m : Nat) (R : List (List Int)) : Prop where
  of : ∀ row, row ∈ R → ∃ (a b : Nat) (k : Int), row = [(p a).day + k, (a : Int), k, (b : Int)] ∧ a < m ∧ b < n ∧ L a = none ∧ Least n p L a k ∧ 0 ≤ k ∧ k ≤ 10 ^ 60
  all : ∀ a, a < m → L a = none → (∃ k, Hit n p L a k) → ∃ (k : Int) (b : Nat), [(p a).day + k, (a : Int), k, (b : Int)] ∈ R ∧ Least n p L a k
theorem StopsTo.nil {n : Nat} {p : Nat → Pt} {L : Nat → Option Int} : StopsTo n p L 0 [] := ⟨fun _ h => (nomatch h), fun _ h => absurd h (Nat.not_lt_zero _)⟩
theorem StopsTo.skip {n m : Nat} {p : Nat → Pt} {L : Nat → Option Int} {R : List (List Int)} (S : StopsTo n p L m R) (h : L m = none → ∀ k, ¬ Hit n p L m k) : StopsTo n p L (m + 1) R := by
  refine ⟨fun row hr => ?_, fun a ha hL hh => ?_⟩
  · obtain ⟨a, b, k, e, h1, h2⟩ := S.of row hr
    exact ⟨a, b, k, e, by omega, h2⟩
  · by_cases e : a = m
    · subst e
      obtain ⟨k, hk⟩ := hh
      exact absurd hk (h hL k)
    · exact S.all a (by omega) hL hh
theorem StopsTo.add {n m b : Nat} {k : Int} {p : Nat → Pt} {L : Nat → Option Int} {R : List (List Int)} (S : StopsTo n p L m R) (hL : L m = none) (hb : b < n) (hl : Least n p L m k) (h0 : 0 ≤ k) (h1 : k ≤ 10 ^ 60) : StopsTo n p L (m + 1) (R ++ [[(p m).day + k, (m : Int), k, (b : Int)]]) := by
  refine ⟨fun row hr => ?_, fun a ha hL' hh => ?_⟩
  · rcases List.mem_append.mp hr with hr | hr
    · obtain ⟨a, b, k, e, h1, h2⟩ := S.of row hr
      exact ⟨a, b, k, e, by omega, h2⟩
    · exact ⟨m, b, k, List.mem_singleton.mp hr, by omega, hb, hL, hl, h0, h1⟩
  · by_cases e : a = m
    · subst e
      exact ⟨k, b, List.mem_append.mpr (.inr (List.mem_singleton.mpr rfl)), hl⟩
    · obtain ⟨k', b', h2, h3⟩ := S.all a (by omega) hL' hh
      exact ⟨k', b', List.mem_append.mpr (.inl h2), h3⟩
/-- the next stop -/
structure NextStop (n : Nat) (p : Nat → Pt) (L : Nat → Option Int) (a b : Nat) (k : Int) : Prop where
  ha : a < n
  hb : b < n
  hL : L a = none
  least : Least n p L a k
  k0 : 0 ≤ k
  k1 : k ≤ 10 ^ 60
  bef : ∀ b k', b < n → b ≠ a → L b = none → Hit n p L b k' → Bef ((p a).day + k) a ((p b).day + k') b
theorem StopsTo.none {n : Nat} {p : Nat → Pt} {L : Nat → Option Int} (S : StopsTo n p L n []) (a : Nat) (k : Int) (ha : a < n) (hL : L a = none) : ¬ Hit n p L a k := fun h => by
  obtain ⟨_, _, h2, _⟩ := S.all a ha hL ⟨k, h⟩
  cases h2
theorem StopsTo.next {n : Nat} {p : Nat → Pt} {L : Nat → Option Int} {R : List (List Int)} {row : List Int} (S : StopsTo n p L n R) (hr : row ∈ R) (hm : ∀ ys, ys ∈ R → ¬ ys < row) : ∃ (a b : Nat) (k : Int), row = [(p a).day + k, (a : Int), k, (b : Int)] ∧ NextStop n p L a b k := by
  obtain ⟨a, b, k, e, h1, h2, h3, h4, h5, h6⟩ := S.of row hr
  refine ⟨a, b, k, e, h1, h2, h3, h4, h5, h6, fun a' k' ha' ne hL' hh => ?_⟩
  obtain ⟨k2, b2, h7, h8⟩ := S.all a' ha' hL' ⟨k', hh⟩
  have h9 := hm _ h7
  rw [e] at h9
  have h10 := h8.2 k' hh
  have h11 := not_lt_two h9
  unfold Bef
  omega
end PK
end
section
set_option Elab.async false
set_option linter.all false
set_option maxRecDepth 100000
set_option maxHeartbeats 4000000
namespace PK
open PySem PySem.Spec PyProof.Rows L2
/-! ### min of a list of tuples of whole numbers -/
def rowD (xs : List Int) : PyData := .tuple (xs.map .int)
theorem dpAll_ints {K : PySem.W.Frag} {H : Hp} : ∀ xs : List Int, DpAll K H (xs.map V.int) (xs.map PyData.int)
  | [] => .nil
  | x :: xs => .cons (.int x) (dpAll_ints xs)
theorem dpAll_rows {K : PySem.W.Frag} {H : Hp} : ∀ {rs : List Addr} {xss : List (List Int)}, Paired (fun r xs => SqT K H r xs) rs (xss.map (·.map V.int)) → DpAll K H (rs.map V.ref) (xss.map rowD)
  | [], [], _ => .nil
  | r :: rs, xs :: xss, .cons a b => .cons (.tup a (dpAll_ints xs)) (dpAll_rows b)
theorem rowD_lt (xs ys : List Int) : PySem.W.dataLt (rowD xs) (rowD ys) = decide (xs < ys) := by
  unfold rowD
  rw [PySem.W.dataLt_tuple]
  exact PySem.W.dataLt_ints xs ys
theorem rowD_alike (xs ys : List Int) : PySem.W.alike (rowD xs) (rowD ys) = true := by
  unfold rowD
  rw [PySem.W.alike]
  exact PySem.W.alike_ints xs ys
theorem rowD_inj {xs ys : List Int} (h : rowD xs = rowD ys) : xs = ys := by
  unfold rowD at h
  injection h with h
  induction xs generalizing ys with
  | nil => cases ys with
    | nil => rfl
    | cons y ys => cases h
  | cons x xs ih => cases ys with
    | nil => cases h
    | cons y ys =>
      rw [List.map_cons, List.map_cons] at h
      injection h with h1 h2
      injection h1 with h1
      rw [h1, ih h2]
theorem rows_alike (xss : List (List Int)) : PySem.W.AlikeAll (xss.map rowD) := by
  constructor
  · intro x hx y hy
    obtain ⟨a, _, rfl⟩ := List.mem_map.mp hx
    obtain ⟨b, _, rfl⟩ := List.mem_map.mp hy
    exact rowD_alike a b
  · intro x hx
    obtain ⟨a, _, rfl⟩ := List.mem_map.mp hx
    exact fun z => nomatch z
theorem rows_depth : ∀ xss : List (List Int), PyData.depthAll (xss.map rowD) ≤ 1
  | [] => by simp [PyData.depthAll]
  | xs :: xss => by
    have := rows_depth xss
    simp only [List.map_cons, PyData.depthAll, rowD, PyData.depth, PySem.W.depth_ints]
    omega
def minRow (x : List Int) (xs : List (List Int)) : List Int := xs.foldl (fun a y => if y < a then y else a) x
theorem minD_row (x : List Int) (xs : List (List Int)) : PySem.W.minD (rowD x) (xs.map rowD) = rowD (minRow x xs) := by
  unfold PySem.W.minD minRow
  induction xs generalizing x with
  | nil => rfl
  | cons y ys ih =>
    rw [List.map_cons, List.foldl_cons, List.foldl_cons, rowD_lt]
    by_cases h : y < x
    · rw [if_pos (decide_eq_true h), if_pos h]
      exact ih y
    · rw [if_neg (fun z => h (of_decide_eq_true z)), if_neg h]
      exact ih x
theorem minRow_le (x : List Int) (xs : List (List Int)) : ∀ y, y ∈ x :: xs → ¬ y < minRow x xs := by
  unfold minRow
  induction xs generalizing x with
  | nil =>
    intro y hy
    rw [List.mem_singleton.mp hy]
    exact List.lt_irrefl x
  | cons z zs ih =>
    intro y hy
    rw [List.foldl_cons]
    by_cases h : z < x
    · rw [if_pos h]
      rcases List.mem_cons.mp hy with e | hy
      · rw [e]
        intro q
        exact ih z z List.mem_cons_self (List.lt_trans h q)
      · exact ih z y hy
    · rw [if_neg h]
      rcases List.mem_cons.mp hy with e | hy
      · rw [e]
        exact ih x x List.mem_cons_self
      · rcases List.mem_cons.mp hy with e | hy
        · rw [e]
          intro q
          have h1 := ih x x List.mem_cons_self
          have h2 : x ≤ z := List.not_lt.mp h
          exact h1 (List.lt_of_le_of_lt h2 q)
        · exact ih x y (List.mem_cons_of_mem _ hy)
/-- what min gives -/
def MinAns (rs : List Addr) (xss : List (List Int)) (H : Hp) (Q : VK) : Prop := ∀ (i : Nat) (r : Addr) (xs : List Int), rs[i]? = some r → xss[i]? = some xs → (∀ ys, ys ∈ xss → ¬ ys < xs) → Q (.ref r) H
section
variable {X : Cx} {pins : List (Addr × Obj)} {σ : L2.St} {H : Hp} {s : Shared}
theorem min_tail {rs : List Addr} {xss : List (List Int)} {us : List Value} {Q : VK} (I : Inv X pins σ H s) (hp : Paired (fun r xs => SqT X.K H r xs) rs (xss.map (·.map V.int))) (rv : Vals (rs.map V.ref) us) (q : MinAns rs xss H Q)
    (y : List Int) (ys : List (List Int)) (ey : xss = y :: ys) (i : Nat) (v : Value) (h' : Heap) (tk : Nat) (bs : List Addr) (hv : us.toArray[i]? = some v) (hr : PySem.Reads h' v (PySem.W.minD (rowD y) (ys.map rowD)) bs) (hk : ∀ b o, s.heap.get? b = some o → h'.get? b = some o) :
    EP X pins σ Q v { s with heap := h', toks := tk } := by
  rw [minD_row] at hr
  have hv' : us[i]? = some v := by rw [List.getElem?_toArray] at hv; exact hv
  have hi : i < rs.length := by
    have h1 := (List.getElem?_eq_some_iff.mp hv').1
    have h2 := rv.length
    rw [List.length_map] at h2
    omega
  have hlen : rs.length = xss.length := by
    have := paired_len hp
    rw [List.length_map] at this
    exact this
  have er : (rs.map V.ref)[i]? = some (.ref rs[i]) := by simp [hi]
  obtain ⟨u, hu, ru⟩ := rv.get er
  rw [hv'] at hu
  injection hu with hu
  subst hu
  obtain rfl : v = Value.ref rs[i] := ru
  have ex : xss[i]? = some (xss[i]'(by omega)) := by simp [show i < xss.length by omega]
  have hP : SqT X.K H rs[i] ((xss[i]'(by omega)).map V.int) := by
    have e2 : (rs.map V.ref)[i]? = some (.ref rs[i]) := er
    obtain ⟨r, xs, e3, e4, e5, e6⟩ := pair_at hp e2
    injection e3 with e3
    rw [e3]
    rw [List.getElem?_map, ex] at e5
    injection e5 with e5
    rw [← e5] at e6
    exact e6
  obtain ⟨as, ra⟩ := Dp.reads I (rowD (xss[i]'(by omega))) (.ref rs[i]) (.ref rs[i]) (.tup hP (dpAll_ints _)) rfl
  have ra2 := PySem.W.reads_keeps hk ra
  have e := rowD_inj (PySem.W.alike_unique _ _ _ _ _ (rowD_alike _ _) ra2 hr)
  refine ⟨.ref rs[i], H, I.kept hk, rfl, q i rs[i] (xss[i]'(by omega)) (by simp [hi]) ex fun z hz => ?_⟩
  rw [e]
  rw [ey] at hz
  exact minRow_le y ys z hz
end
def rMinT (K : PySem.W.Frag) : List V → Hp → VK → Prop := fun vs H Q => ∃ (a : Addr) (rs : List Addr) (xss : List (List Int)), vs = [.ref a] ∧ SqL K H a (rs.map V.ref) ∧ Paired (fun r xs => SqT K H r xs) rs (xss.map (·.map V.int)) ∧ xss ≠ [] ∧ MinAns rs xss H Q
theorem cr_minT {X : Cx} (hc : X.calm = true) (hu : X.A.units + 64 < cLine) : CallR X (.builtin "min") (rMinT X.K) := by
  intro pins s σ H xs us Q I r h
  obtain ⟨a, rs, xss, rfl, hl, hp, hne, q⟩ := h
  cases r with
  | cons r rr =>
    cases rr
    cases r
    obtain ⟨its, rv, pl, hz⟩ := I.list hl
    obtain ⟨as, ra⟩ := Dp.readsAll I (xss.map rowD) (rs.map V.ref) its (dpAll_rows hp) rv
    cases xss with
    | nil => exact absurd rfl hne
    | cons y ys =>
      have hd := rows_depth (y :: ys)
      refine PySem.W.min_list_data (I.ok.hd hc) pl.isList (x := rowD y) (xs := ys.map rowD) (as := as) (by simpa using ra) (rows_alike (y :: ys)) ?_ fun i v h' tk bs hv hr hk => ?_
      · have : PyData.depthAll (rowD y :: ys.map rowD) ≤ 1 := hd
        omega
      · exact min_tail I hp rv q y ys rfl i v h' tk bs hv hr hk
def rMinTD (K : PySem.W.Frag) : List V → List V → Hp → VK → Prop := fun vs zs H Q => ∃ (a : Addr) (rs : List Addr) (xss : List (List Int)) (d : V), vs = [.ref a] ∧ zs = [d] ∧ SqL K H a (rs.map V.ref) ∧ Paired (fun r xs => SqT K H r xs) rs (xss.map (·.map V.int)) ∧ (xss = [] → Q d H) ∧ MinAns rs xss H Q
theorem cr_minTD {X : Cx} (hc : X.calm = true) (hu : X.A.units + 64 < cLine) : CallRK X (.builtin "min") ["default"] (rMinTD X.K) := by
  intro pins s σ H xs zs us ws Q I r rz h
  obtain ⟨a, rs, xss, d, rfl, rfl, hl, hp, h0, q⟩ := h
  cases r with
  | cons r rr =>
    cases rr
    cases r
    cases rz with
    | cons rd rr =>
      cases rr
      obtain ⟨its, rv, pl, hz⟩ := I.list hl
      obtain ⟨as, ra⟩ := Dp.readsAll I (xss.map rowD) (rs.map V.ref) its (dpAll_rows hp) rv
      have hd := rows_depth xss
      refine PySem.W.min_list_default (I.ok.hd hc) pl.isList (xs := xss.map rowD) (as := as) (by simpa using ra) (rows_alike xss) (by omega) (fun e h' tk hk => ?_) (fun y ys i v h' tk bs e hv hr hk => ?_)
      · exact ⟨d, H, I.kept hk, rd, h0 (List.map_eq_nil_iff.mp e)⟩
      · cases xss with
        | nil => cases e
        | cons y' ys' =>
          rw [List.map_cons] at e
          injection e with e1 e2
          subst e1 e2
          exact min_tail I hp rv q y' ys' rfl i v h' tk bs hv hr hk
end PK
end
section
set_option Elab.async false
set_option linter.all false
set_option maxRecDepth 100000
set_option maxHeartbeats 4000000
namespace PK
open PySem PySem.Spec PyProof.Rows L2 PM
local macro_rules | `(tactic| walk_at "sd") => `(tactic| (first
  | assumption
  | omega
  | (constructor <;> omega)
  | (refine ⟨by omega, ?_⟩; constructor <;> omega)
  | (constructor <;> (first | assumption | omega | (constructor <;> omega)))))
local macro_rules | `(tactic| walk_at "w") => `(tactic| (repeat (first
  | with_reducible refine ifTT ?_
  | with_reducible refine ifFT ?_
  | with_reducible refine ifnT ?_
  | with_reducible refine ifnF ?_
  | with_reducible refine ifIN ?_
  | with_reducible refine ifNN ?_
  | with_reducible refine ifnIN ?_
  | with_reducible refine ifnNN ?_
  | with_reducible refine ifRN ?_
  | with_reducible refine ifnRN ?_
  | ((fail_if_success with_reducible refine iteB ?_ ?_); first
    | refine ⟨_, rfl, ?_⟩
    | refine ⟨_, _, rfl, rfl, ?_⟩
    | refine ⟨_, _, rfl, ?_⟩
    | refine And.intro (a := (_ : Nat) ≤ sizeLine) (by first | exact len_small (m := 2) rfl | exact len_small (m := 1) rfl | exact len_small (m := 4) rfl | exact len_small (m := 3) rfl | exact len_small (m := 0) rfl) ?_
    | refine ⟨rfl, ?_⟩
    | refine And.intro (a := CDivP _ _) (by walk_at "sd") ?_
    | refine And.intro (a := CDivB _ _) (by walk_at "sd") ?_
    | refine And.intro (a := CMulB _ _) (by walk_at "sd") ?_
    | refine And.intro (a := _ ≠ (0 : Int)) (by walk_at "sd") ?_
    | refine And.intro (a := (0 : Int) < _) (by walk_at "sd") ?_
    | refine ⟨_, _, rfl, ‹_›, rfl, ?_⟩
    | refine ⟨_, _, _, _, rfl, rfl, ‹_›, rfl, ?_⟩
    | refine ⟨_, _, _, _, rfl, rfl, by assumption, by assumption, ?_⟩
    | refine ⟨_, _, _, _, _, _, rfl, ‹_›, ‹_›, rfl, ?_⟩
    | refine ⟨_, _, _, _, _, _, rfl, ‹_›, (by exact KCls.f ‹_› rfl), (by rfl), ?_⟩
    | refine ⟨_, _, _, _, _, _, rfl, upd_same, ‹_›, (by rfl), ?_⟩
    | refine ⟨_, _, _, _, _, _, rfl, ‹_›, ‹Cls _ _›, ‹_›, rfl, ?_⟩
    | refine ⟨_, _, _, _, rfl, ‹_›, by decide +kernel, ?_⟩
    | refine ⟨_, _, _, rfl, ‹_›, ?_⟩
    | refine And.intro (by assumption) ?_))))
section
variable {P : Program} {w : World} {K : PySem.W.Frag} {mg : Str → Option Value} {base : Heap} {CP CF CC CB : Addr}
theorem units1 {k : Nat} {A : Around} (r : Room k A) : A.units + 1 < cLine := by have := r.units; omega
/-! ### blocks -/
abbrev bkN : List Str := ["walkers", "limits", "firsts", "crossings"]
theorem SB.sqtO {x a : Addr} {H H' : Hp} {xs : List V} {o : HO} (h : SB x H H') (hx : H x = some o) (n1 : ∀ xs, HO.tup xs ≠ o) (n2 : ∀ od xs, HO.frz od (.tup xs) ≠ o) (q : SqT K H a xs) : SqT K H' a xs := by
  rcases q with (q | ⟨od, q⟩) | q
  · exact .inl (.inl (h _ _ q (ne_of q hx (n1 _))))
  · exact .inl (.inr ⟨od, h _ _ q (ne_of q hx (n2 _ _))⟩)
  · exact .inr q
structure NoTI (o : HO) : Prop where
  n1 : ∀ xs, HO.tup xs ≠ o
  n2 : ∀ od xs, HO.frz od (.tup xs) ≠ o
  n3 : ∀ C dx fs, HO.ins C dx fs ≠ o
theorem noTI_dK (kvs : Tab) : NoTI (.dK kvs) := ⟨fun _ z => (nomatch z), fun _ _ z => (nomatch z), fun _ _ _ z => (nomatch z)⟩
theorem noTI_dT (kvs : List (List Key × V)) : NoTI (.dT kvs) := ⟨fun _ z => (nomatch z), fun _ _ z => (nomatch z), fun _ _ _ z => (nomatch z)⟩
theorem noTI_lst (xs : List V) : NoTI (.lst xs) := ⟨fun _ z => (nomatch z), fun _ _ z => (nomatch z), fun _ _ _ z => (nomatch z)⟩
theorem SB.pn {x a : Addr} {H H' : Hp} {o : HO} {z : Str} {p : Pt} (h : SB x H H') (hx : H x = some o) (no : NoTI o) (q : PnAt K CP H a z p) : PnAt K CP H' a z p := by
  obtain ⟨dx, t, h1, h2⟩ := q
  exact ⟨dx, t, h _ _ h1 (ne_of h1 hx (no.n3 _ _ _)), h.sqtO hx no.n1 no.n2 h2⟩
theorem SB.cr {x a : Addr} {H H' : Hp} {o : HO} {p q : Pt} (h : SB x H H') (hx : H x = some o) (no : NoTI o) (e : CrAt K CC H a p q) : CrAt K CC H' a p q := by
  obtain ⟨dx, o1, t, emp, step, ostep, start, ostart, h1, h2, h3, h4⟩ := e
  exact ⟨dx, o1, t, emp, step, ostep, start, ostart, h _ _ h1 (ne_of h1 hx (no.n3 _ _ _)), h.sqtO hx no.n1 no.n2 h2, h.sqtO hx no.n1 no.n2 h3, h4⟩
def spCrossing (K : PySem.W.Frag) (CP CC CB : Addr) : Sp := fun vs H Q _ => ∃ (x dx ra rb : Addr) (ns : List Str) (us : List V) (za zb : Str) (a b : Pt), vs = [.ref x, .ref ra, .ref rb] ∧ PnAt K CP H ra za a ∧ PnAt K CP H rb zb b ∧ PtOk a ∧ PtOk b ∧ ∀ cx H', Same H H' → CrAt K CC H' cx a b → Q (.ref cx) H'
theorem sc_Blocks_crossing : FnScope ["self", "painter", "other"] ["self", "painter", "other"] (defScope s_Blocks_crossing) := C8.fnScope_by (by decide +kernel)
theorem ok_crossing {f : Addr} (hc : Cls K CB) (me : Meth K CB "crossing" f) (F : DF K "crossing" "Blocks.crossing" s_Blocks_crossing f) (c_Crossing : C8.Mak P w K mg base 2 "Crossing" CC (spCrossInit K CC) []) (c_way : Prp P w K mg base 1 CP "way" (spG_way K CP)) :
    C8.Met P w K mg base 4 CB "crossing" (spCrossing K CP CC CB) [] := by
  refine met_of hc me F sc_Blocks_crossing (fun _ _ _ _ _ _ us hl => match us, hl with | [_, _, _], _ => rfl) (fun vs H Q E h => ?_) (fun cdv A outer s H vs Q E hr h => ?_)
  · obtain ⟨x, dx, ra, rb, ns, us, za, zb, a, b, rfl, _⟩ := h
    rfl
  · obtain ⟨x, dx, ra, rb, ns, us, za, zb, a, b, rfl, ha, hb, oa, ob, k⟩ := h
    refine ⟨_, (pss_one (ps_ret (C8.pe_mk c_Crossing hr (by decide) rfl (pa_cons (pe_pr c_way hr (by decide) (pv 1) rfl) (pa_cons (pe_pr c_way hr (by decide) (pv 2) rfl) pa_nil))))), ?_⟩
    show (_ : TS) _ [some _, some _, some _] _
    obtain ⟨d1, t1, h1, ht1⟩ := id ha
    walk_at "w"
    intro w1 H1 hS1 hw1
    have hb1 := hb.same hS1
    obtain ⟨d2, t2, h2, ht2⟩ := id hb1
    walk_at "w"
    intro w2 H2 hS2 hw2
    walk_at "w"
    intro cx cdx n1 n2 n3
    have S3 : Same H2 (upd (upd H2 cdx (.own cx)) cx (.ins CC cdx [])) := fun b o e => by
      rw [upd_ne (ne_of_none e n1), upd_ne (ne_of_none e n2)]
      exact e
    refine ⟨cx, cdx, w1, w2, a, b, rfl, upd_same, S3.sqt (hS2.sqt hw1), S3.sqt hw2, oa, ob, fun H' hS hC => ⟨rfl, ?_⟩⟩
    exact k cx H' ((hS1.trans hS2).trans (SB.made n1 n2 hS)) hC
structure BA where
  x : Addr
  dx : Addr
  t : Addr
  l : Addr
  fl : Addr
  cd : Addr
  d : Nat → Addr
structure BlkAt (K : PySem.W.Frag) (CP CB : Addr) (H0 H : Hp) (c : Crew) (r : Nat → Addr) (A : BA) (L : Nat → Option Int) (F : Nat → Tab) (T : List (List Key × V)) : Prop where
  hx : H A.x = some (.ins CB A.dx (bkN.zip [.ref A.t, .ref A.l, .ref A.fl, .ref A.cd]))
  ht : SqT K H A.t (refsV r c.n)
  hc : CrewAt K CP H c r
  hl : H A.l = some (.lst (firsts (fun i => optV (L i)) c.n))
  hf : H A.fl = some (.lst (refsV A.d c.n))
  hd : ∀ i, i < c.n → H (A.d i) = some (.dK (F i))
  hk : H A.cd = some (.dT T)
  ne : A.l ≠ A.fl
  dd : ∀ i j, i < c.n → j < c.n → A.d i = A.d j → i = j
  s0 : Same H0 H
  nl : H0 A.l = none
  nd : ∀ i, i < c.n → H0 (A.d i) = none
  nk : H0 A.cd = none
theorem BlkAt.same {H0 H H' : Hp} {c : Crew} {r : Nat → Addr} {A : BA} {L : Nat → Option Int} {F : Nat → Tab} {T : List (List Key × V)} (e : Same H H') (B : BlkAt K CP CB H0 H c r A L F T) : BlkAt K CP CB H0 H' c r A L F T :=
  ⟨e _ _ B.hx, e.sqt B.ht, B.hc.same e, e _ _ B.hl, e _ _ B.hf, fun i hi => e _ _ (B.hd i hi), e _ _ B.hk, B.ne, B.dd, B.s0.trans e, B.nl, B.nd, B.nk⟩
def setF (F : Nat → Tab) (a : Nat) (kvs : Tab) : Nat → Tab := fun i => if i = a then kvs else F i
/-- a row of first blocks has changed -/
theorem BlkAt.row {H0 H H' : Hp} {c : Crew} {r : Nat → Addr} {A : BA} {L : Nat → Option Int} {F : Nat → Tab} {T : List (List Key × V)} {a : Nat} {kvs : Tab} (B : BlkAt K CP CB H0 H c r A L F T) (ha : a < c.n) (e : SB (A.d a) H H') (hd : H' (A.d a) = some (.dK kvs)) : BlkAt K CP CB H0 H' c r A L (setF F a kvs) T := by
  have ho := B.hd a ha
  have no := noTI_dK (F a)
  refine ⟨e _ _ B.hx (ne_of B.hx ho (no.n3 _ _ _)), e.sqtO ho no.n1 no.n2 B.ht, fun i hi => e.pn ho no (B.hc i hi), e _ _ B.hl (ne_of B.hl ho (by intro z; cases z)), e _ _ B.hf (ne_of B.hf ho (by intro z; cases z)), fun i hi => ?_, e _ _ B.hk (ne_of B.hk ho (by intro z; cases z)), B.ne, B.dd, fun b o h => ?_, B.nl, B.nd, B.nk⟩
  · unfold setF
    by_cases q : i = a
    · rw [if_pos q, q]
      exact hd
    · rw [if_neg q]
      exact e _ _ (B.hd i hi) (fun z => q (B.dd _ _ hi ha z))
  · exact e _ _ (B.s0 _ _ h) (ne_of_none h (B.nd a ha))
def spLook (K : PySem.W.Frag) (CP CC CB : Addr) : Sp := fun vs H Q _ => ∃ (H0 : Hp) (c : Crew) (r : Nat → Addr) (A : BA) (L : Nat → Option Int) (F : Nat → Tab) (T : List (List Key × V)) (a b : Nat) (cr : Addr), vs = [.ref A.x, .int (a : Nat), .int (b : Nat)] ∧ BlkAt K CP CB H0 H c r A L F T ∧ c.Ok ∧ a < c.n ∧ b < c.n ∧ b ≠ a ∧ FRow c.n a (F a)
  ∧ valV T [jK a, jK b] = some (.ref cr) ∧ CrAt K CC H cr (c.p a) (c.p b) ∧ (∀ z, L b = some z → 0 ≤ z)
  ∧ ∀ H' kvs, SB (A.d a) H H' → H' (A.d a) = some (.dK kvs) → FRow c.n a kvs → FVal c.p L kvs a b → (∀ j, j ≠ b → valV kvs (jK j) = valV (F a) (jK j)) → Q .non H'
theorem jK_inj {i j : Nat} (h : jK i = jK j) : i = j := by
  injection h with h
  omega
theorem sc_Blocks_look : FnScope ["self", "place", "other_place", "crossing", "count"] ["self", "place", "other_place"] (defScope s_Blocks_look) := C8.fnScope_by (by decide +kernel)
theorem ok_look {f : Addr} (kc : KCls K CB bkN) (me : Meth K CB "look" f) (F : DF K "look" "Blocks.look" s_Blocks_look f) (c_first_block : C8.Met P w K mg base 3 CC "first_block" (spFirst K CC) []) :
    C8.Met P w K mg base 4 CB "look" (spLook K CP CC CB) [] := by
  refine met_of kc.cl me F sc_Blocks_look (fun _ _ _ _ _ _ us hl => match us, hl with | [_, _, _], _ => rfl) (fun vs H Q E h => ?_) (fun cdv A outer s H vs Q E hr h => ?_)
  · obtain ⟨H0, c, r, A, L, F, T, a, b, cr, rfl, _⟩ := h
    rfl
  · obtain ⟨H0, c, r, A, L, F, T, a, b, cr, rfl, B, ok, ha, hb, hab, R, hT, hC, hz, k⟩ := h
    have hu := units1 hr
    refine ⟨_, (pss_cons (ps_set (i := 3) sc_Blocks_look.nd rfl (Or.inl rfl) (pe_dget hu (pe_fldN 3 (pv 0) rfl) (pe_tup (pa_cons (pv 1) (pa_cons (pv 2) pa_nil))) (fun _ _ => rfl)))
        (pss_cons (ps_set (i := 4) sc_Blocks_look.nd rfl (Or.inl rfl) (pe_mtN c_first_block hr (by decide) (pv 3) (pa_cons (pe_ix ix_list (pe_fldN 1 (pv 0) rfl) (pv 2) (fun _ _ => rfl)) (pa_cons (pe_cmpR op_lt (pv 2) (pv 1) (nomark _)) pa_nil))))
        (pss_one (ps_if (pt_cmpR op_isN (pv 4) pe_non (nomark _)) (pss_one (ps_expr (pe_dpop2 (pe_ix ix_list (pe_fldN 2 (pv 0) rfl) (pv 1) (fun _ _ => rfl)) (pv 2) pe_non ⟨rfl, rfl, rfl, rfl⟩)))
          (pss_one (ps_dput hu (pe_ix ix_list (pe_fldN 2 (pv 0) rfl) (pv 1) (fun _ _ => rfl)) (pv 2) (pv 4) rfl)))))), ?_⟩
    show (_ : TS) _ [some _, some _, some _, none, none] _
    have hx := B.hx
    walk_at "w"
    intro q hq
    have S1 : Same H (upd H q (.tup [.int (a : Nat), .int (b : Nat)])) := Same.new hq
    refine ⟨A.cd, _, rfl, hT ▸ DGet.t (k := [jK a, jK b]) (S1 _ _ B.hk) upd_same, ?_⟩
    have B1 := B.same S1
    have hx1 := B1.hx
    have hl1 := SqL.of (K := K) B1.hl
    have hC1 := hC.same S1
    obtain ⟨cdx, co, ct, cemp, cst, cos, csa, coa, hCi, _⟩ := id hC1
    have hLb : atI (firsts (fun i => optV (L i)) c.n) (b : Int) = some (optV (L b)) := by
      rw [atI_nat, firsts_get hb]
    walk_at "w"
    have eb : decide ((b : Int) < (a : Int)) = decide (b < a) := by simp
    refine ⟨cr, c.p a, c.p b, L b, decide (b < a), by rw [← eb]; rfl, hC1, ok.pts a ha, ok.pts b hb, hz, fun q' H2 hS2 hFB hbd => ?_⟩
    have B2 := B1.same hS2
    have S2 := S1.trans hS2
    have hx2 := B2.hx
    have hf2 := SqL.of (K := K) B2.hf
    have hd2 := B2.hd a ha
    have hFa : atI (refsV A.d c.n) (a : Int) = some (.ref (A.d a)) := by
      rw [atI_nat, firsts_get ha]
    cases q' with
    | none =>
      walk_at "w"
      refine ⟨.inl ⟨_, .inl hd2⟩, ?_⟩
      walk_at "w"
      refine ⟨F a, jK b, hd2, rfl, fun v _ => ?_, fun hn => ?_⟩
      · exact k _ _ (SB.of S2).set upd_same R.drop ⟨none, hFB, hbd, by rw [valV_drop, if_pos rfl]; rfl⟩ fun j hj => by rw [valV_drop, if_neg fun z => hj (jK_inj z)]
      · exact k _ _ (SB.of S2) hd2 R ⟨none, hFB, hbd, hn⟩ fun _ _ => rfl
    | some q' =>
      walk_at "w"
      have hlen : (F a).length < sizeLine := lt_line (m := c.n) R.len (by have := ok.few; omega)
      refine ⟨A.d a, _, rfl, DPut.k (k := jK b) hd2 hlen, ?_⟩
      exact k _ _ (SB.of S2).set upd_same (R.put hb hab) ⟨some q', hFB, hbd, by rw [valV_put, if_pos rfl]; rfl⟩ fun j hj => by rw [valV_put, if_neg fun z => hj (jK_inj z)]
end
end PK
end
section
set_option Elab.async false
set_option linter.all false
set_option maxRecDepth 100000
set_option maxHeartbeats 4000000
namespace PK
open PySem PySem.Spec PyProof.Rows L2 PM
local macro_rules | `(tactic| walk_at "sd") => `(tactic| (first
  | assumption
  | omega
  | (constructor <;> omega)
  | (refine ⟨by omega, ?_⟩; constructor <;> omega)
  | (constructor <;> (first | assumption | omega | (constructor <;> omega)))))
local macro_rules | `(tactic| walk_at "w") => `(tactic| (repeat (first
  | with_reducible refine ifTT ?_
  | with_reducible refine ifFT ?_
  | with_reducible refine ifnT ?_
  | with_reducible refine ifnF ?_
  | with_reducible refine ifIN ?_
  | with_reducible refine ifNN ?_
  | with_reducible refine ifnIN ?_
  | with_reducible refine ifnNN ?_
  | with_reducible refine ifRN ?_
  | with_reducible refine ifnRN ?_
  | ((fail_if_success with_reducible refine iteB ?_ ?_); first
    | refine ⟨_, rfl, ?_⟩
    | refine ⟨_, _, rfl, rfl, ?_⟩
    | refine ⟨_, _, rfl, ?_⟩
    | refine And.intro (a := (_ : Nat) ≤ sizeLine) (by first | exact len_small (m := 2) rfl | exact len_small (m := 1) rfl | exact len_small (m := 4) rfl | exact len_small (m := 3) rfl | exact len_small (m := 0) rfl) ?_
    | refine ⟨rfl, ?_⟩
    | refine And.intro (a := CDivP _ _) (by walk_at "sd") ?_
    | refine And.intro (a := CDivB _ _) (by walk_at "sd") ?_
    | refine And.intro (a := CMulB _ _) (by walk_at "sd") ?_
    | refine And.intro (a := _ ≠ (0 : Int)) (by walk_at "sd") ?_
    | refine And.intro (a := (0 : Int) < _) (by walk_at "sd") ?_
    | refine ⟨_, _, rfl, ‹_›, rfl, ?_⟩
    | refine ⟨_, _, _, _, rfl, rfl, ‹_›, rfl, ?_⟩
    | refine ⟨_, _, _, _, rfl, rfl, by assumption, by assumption, ?_⟩
    | refine ⟨_, _, _, _, _, _, rfl, ‹_›, ‹_›, rfl, ?_⟩
    | refine ⟨_, _, _, _, _, _, rfl, ‹_›, (by exact KCls.f ‹_› rfl), (by rfl), ?_⟩
    | refine ⟨_, _, _, _, _, _, rfl, upd_same, ‹_›, (by rfl), ?_⟩
    | refine ⟨_, _, _, _, _, _, rfl, ‹_›, ‹Cls _ _›, ‹_›, rfl, ?_⟩
    | refine ⟨_, _, _, _, rfl, ‹_›, by decide +kernel, ?_⟩
    | refine ⟨_, _, _, rfl, ‹_›, ?_⟩
    | refine And.intro (by assumption) ?_))))
section
variable {P : Program} {w : World} {K : PySem.W.Frag} {mg : Str → Option Value} {base : Heap} {CP CF CC CB : Addr}
def rowOf : Key × V → List Int
  | (.inl j, .int k) => [k, j]
  | _ => []
def rowsOf (kvs : Tab) : List (List Int) := kvs.map rowOf
theorem paired_snoc {K : PySem.W.Frag} {H : Hp} {rs : List Addr} {xss : List (List V)} {r : Addr} {xs : List V} (h : Paired (fun r xs => SqT K H r xs) rs xss) (e : SqT K H r xs) : Paired (fun r xs => SqT K H r xs) (rs ++ [r]) (xss ++ [xs]) := by
  induction h with
  | nil => exact .cons e .nil
  | cons a b ih => exact .cons a ih
theorem SB.paired {x : Addr} {H H' : Hp} {o : HO} (h : SB x H H') (hx : H x = some o) (n1 : ∀ xs, HO.tup xs ≠ o) (n2 : ∀ od xs, HO.frz od (.tup xs) ≠ o) : ∀ {rs : List Addr} {xss : List (List V)}, Paired (fun r xs => SqT K H r xs) rs xss → Paired (fun r xs => SqT K H' r xs) rs xss
  | _, _, .nil => .nil
  | _, _, .cons a b => .cons (h.sqtO hx n1 n2 a) (SB.paired h hx n1 n2 b)
def spFirstOf (K : PySem.W.Frag) (CP CB : Addr) : Sp := fun vs H Q _ => ∃ (H0 : Hp) (c : Crew) (r : Nat → Addr) (A : BA) (L : Nat → Option Int) (F : Nat → Tab) (T : List (List Key × V)) (a : Nat), vs = [.ref A.x, .int (a : Nat)] ∧ BlkAt K CP CB H0 H c r A L F T ∧ c.Ok ∧ a < c.n ∧ FRow c.n a (F a)
  ∧ ∀ H', Same H H' → (F a = [] → Q .non H') ∧ (∀ t (j : Nat) (k : Int), (jK j, V.int k) ∈ F a → (∀ (j' : Nat) (k' : Int), (jK j', V.int k') ∈ F a → k ≤ k') → SqT K H' t [.int k, .int (j : Nat)] → Q (.ref t) H')
theorem sc_Blocks_first_of : FnScope ["self", "place", "other_place", "count"] ["self", "place"] (defScope s_Blocks_first_of) := C8.fnScope_by (by decide +kernel)
theorem ok_first_of {f : Addr} (kc : KCls K CB bkN) (me : Meth K CB "first_of" f) (F : DF K "first_of" "Blocks.first_of" s_Blocks_first_of f) (n_min : mg "min" = none) :
    C8.Met P w K mg base 1 CB "first_of" (spFirstOf K CP CB) [] := by
  refine met_of kc.cl me F sc_Blocks_first_of (fun _ _ _ _ _ _ us hl => match us, hl with | [_, _], _ => rfl) (fun vs H Q E h => ?_) (fun cdv A outer s H vs Q E hr h => ?_)
  · obtain ⟨H0, c, r, A, L, F, T, a, rfl, _⟩ := h
    rfl
  · obtain ⟨H0, c, r, A, L, F, T, a, rfl, B, ok, ha, R, k⟩ := h
    refine ⟨_, (pss_one (ps_ret (pe_callBK (cr_minTD rfl hr.units) (by rfl) n_min (by decide +kernel) (pa_cons (pe_lock (pe_lc (own := [("other_place", 2), ("count", 3)]) rfl sc_Blocks_first_of.nd (pi_items (pe_ix ix_list (pe_fldN 2 (pv 0) rfl) (pv 1) (fun _ _ => rfl))) (blkOk_by (N := ["self", "place", "other_place", "count"]) (sc := defScope s_Blocks_first_of) (own := [("other_place", 2), ("count", 3)]) (by decide +kernel)) (fun _ _ _ _ _ => (pg_tup2 (K := K) (i := 2) (j := 3) rfl rfl sc_Blocks_first_of.nd rfl (Or.inl rfl) rfl (Or.inl rfl))) (fun _ _ _ _ _ => pts_nil) (fun _ _ _ _ _ => (pe_tup (pa_cons (pv 3) (pa_cons (pv 2) pa_nil)))))) pa_nil) (pk_cons pe_non pk_nil)))), ?_⟩
    show (_ : TS) _ [some _, some _, none, none] _
    have hd := B.hd a ha
    refine ⟨A.d a, .dK (F a), hd, trivial, fun od => ?_⟩
    generalize hHL : upd H (A.d a) (.frz od (.dK (F a))) = HL
    have SL : SB (A.d a) H HL := hHL ▸ (SB.refl _ _).set
    have hxL : HL A.x = _ := SL _ _ B.hx (ne_of B.hx hd (by intro z; cases z))
    have hfL : HL A.fl = _ := SL _ _ B.hf (ne_of B.hf hd (by intro z; cases z))
    have hfL2 := SqL.of (K := K) hfL
    have hdL : HL (A.d a) = some (.frz od (.dK (F a))) := by rw [← hHL]; exact upd_same
    have hFa : atI (refsV A.d c.n) (a : Int) = some (.ref (A.d a)) := by
      rw [atI_nat, firsts_get ha]
    walk_at "w"
    intro D hD
    refine lc_acc walk_items hD (by have := R.len; have := ok.few; omega) (fun i acc H' => ∃ rs : List Addr, acc = rs.map V.ref ∧ Paired (fun r xs => SqT K H' r xs) rs ((rowsOf ((F a).take i)).map (·.map V.int))) ⟨[], rfl, .nil⟩ (fun i acc H' e _ => e _ _ hdL) ?_ ?_
    · rintro i v acc H1 H2 Nx hi hS hD1 ⟨rs, rfl, hP⟩ ⟨q, y, z, rfl, hq, rfl, hy, hz⟩ fin _
      have hi' := List.getElem?_eq_getElem hi
      obtain ⟨j, k1, ej, hj, nj⟩ := R.ks _ (List.mem_of_getElem? hi')
      simp only [hi', ej] at hy hz
      injection hy with hy
      injection hz with hz
      subst hy hz
      refine ⟨_, _, rfl, SqT.of upd_same, rfl, ?_⟩
      walk_at "w"
      intro p1 hp1
      have S1 := Same.new (o := .tup [V.int (j : Nat), V.int k1]) hq
      have S2 := S1.trans (Same.new (o := .tup [V.int k1, V.int (j : Nat)]) hp1)
      refine fin (.ref p1) _ (S2 _ _ hD1) (hS.trans S2) ⟨rs ++ [p1], by rw [List.map_append]; rfl, ?_⟩
      have e1 : (rowsOf ((F a).take (i + 1))).map (·.map V.int) = (rowsOf ((F a).take i)).map (·.map V.int) ++ [[V.int k1, V.int (j : Nat)]] := by
        unfold rowsOf
        rw [List.take_add_one, hi', ej, List.map_append, List.map_append]
        rfl
      rw [e1]
      have hD3 := S2 _ _ hD1
      exact paired_snoc ((SB.set (SB.refl _ _)).paired hD3 (fun _ z => by cases z) (fun _ _ z => by cases z) (S2.paired hP)) ((SB.set (SB.refl _ _)).sqtO hD3 (fun _ z => by cases z) (fun _ _ z => by cases z) (SqT.of upd_same))
    rintro acc H1 hS hD1 ⟨rs, rfl, hP⟩
    have hd1 := hS _ _ hdL
    refine ⟨hd1, ?_⟩
    generalize hH2 : upd H1 (A.d a) (.dK (F a)) = H2
    have S2 : SB (A.d a) H1 H2 := hH2 ▸ (SB.refl _ _).set
    have hdD : D ≠ A.d a := ne_of hD1 hd1 (by intro z; cases z)
    have hD2 := S2 _ _ hD1 hdD
    have hP2 := S2.paired hd1 (fun _ z => by cases z) (fun _ _ z => by cases z) hP
    have SH : Same H H2 := fun b o e => by
      by_cases q : b = A.d a
      · subst q
        rw [hd] at e
        rw [← hH2, upd_same, ← e]
      · exact S2 _ _ (hS _ _ (SL _ _ e q)) q
    rw [List.take_length] at hP2
    obtain ⟨k1, k2⟩ := k H2 SH
    walk_at "w"
    refine ⟨D, rs, rowsOf (F a), .non, rfl, rfl, SqL.of hD2, hP2, fun e => k1 (List.map_eq_nil_iff.mp e), fun i rr xs hr hx hm => ?_⟩
    obtain ⟨q, hq, rfl⟩ := map_at hx
    obtain ⟨j, kk, rfl, hj, nj⟩ := R.ks _ (List.mem_of_getElem? hq)
    have hs : SqT K H2 rr [.int kk, .int (j : Nat)] := by
      obtain ⟨r', xs', e1, e2, e3, e4⟩ := pair_at hP2 (i := i) (x := .ref rr) (by rw [List.getElem?_map, hr]; rfl)
      injection e1 with e1
      rw [List.getElem?_map, hx] at e3
      injection e3 with e3
      rw [← e3, ← e1] at e4
      exact e4
    refine k2 rr j kk (List.mem_of_getElem? hq) (fun j' k' h' => ?_) hs
    have h2 := hm [k', (j' : Int)] (List.mem_map.mpr ⟨_, h', rfl⟩)
    exact not_lt_first h2
end
end PK
end
section
set_option Elab.async false
set_option linter.all false
set_option maxRecDepth 100000
set_option maxHeartbeats 4000000
namespace PK
open PySem PySem.Spec PyProof.Rows L2 PM
local macro_rules | `(tactic| walk_at "sd") => `(tactic| (first
  | assumption
  | omega
  | (constructor <;> omega)
  | (refine ⟨by omega, ?_⟩; constructor <;> omega)
  | (constructor <;> (first | assumption | omega | (constructor <;> omega)))))
local macro_rules | `(tactic| walk_at "w") => `(tactic| (repeat (first
  | with_reducible refine ifTT ?_
  | with_reducible refine ifFT ?_
  | with_reducible refine ifnT ?_
  | with_reducible refine ifnF ?_
  | with_reducible refine ifIN ?_
  | with_reducible refine ifNN ?_
  | with_reducible refine ifnIN ?_
  | with_reducible refine ifnNN ?_
  | with_reducible refine ifRN ?_
  | with_reducible refine ifnRN ?_
  | ((fail_if_success with_reducible refine iteB ?_ ?_); first
    | refine ⟨_, rfl, ?_⟩
    | refine ⟨_, _, rfl, rfl, ?_⟩
    | refine ⟨_, _, rfl, ?_⟩
    | refine And.intro (a := (_ : Nat) ≤ sizeLine) (by first | exact len_small (m := 2) rfl | exact len_small (m := 1) rfl | exact len_small (m := 4) rfl | exact len_small (m := 3) rfl | exact len_small (m := 0) rfl) ?_
    | refine ⟨rfl, ?_⟩
    | refine And.intro (a := CDivP _ _) (by walk_at "sd") ?_
    | refine And.intro (a := CDivB _ _) (by walk_at "sd") ?_
    | refine And.intro (a := CMulB _ _) (by walk_at "sd") ?_
    | refine And.intro (a := _ ≠ (0 : Int)) (by walk_at "sd") ?_
    | refine And.intro (a := (0 : Int) < _) (by walk_at "sd") ?_
    | refine ⟨_, _, rfl, ‹_›, rfl, ?_⟩
    | refine ⟨_, _, _, _, rfl, rfl, ‹_›, rfl, ?_⟩
    | refine ⟨_, _, _, _, rfl, rfl, by assumption, by assumption, ?_⟩
    | refine ⟨_, _, _, _, _, _, rfl, ‹_›, ‹_›, rfl, ?_⟩
    | refine ⟨_, _, _, _, _, _, rfl, ‹_›, (by exact KCls.f ‹_› rfl), (by rfl), ?_⟩
    | refine ⟨_, _, _, _, _, _, rfl, upd_same, ‹_›, (by rfl), ?_⟩
    | refine ⟨_, _, _, _, _, _, rfl, ‹_›, ‹Cls _ _›, ‹_›, rfl, ?_⟩
    | refine ⟨_, _, _, _, rfl, ‹_›, by decide +kernel, ?_⟩
    | refine ⟨_, _, _, rfl, ‹_›, ?_⟩
    | refine And.intro (by assumption) ?_))))
section
variable {P : Program} {w : World} {K : PySem.W.Frag} {mg : Str → Option Value} {base : Heap} {CP CF CC CB : Addr}
/-- the rows that may be asked hold the first blocks -/
structure RowsOk (c : Crew) (L : Nat → Option Int) (F : Nat → Tab) : Prop where
  row : ∀ i, i < c.n → FRow c.n i (F i)
  val : ∀ i, i < c.n → L i = none → ∀ j, j < c.n → j ≠ i → FVal c.p L (F i) i j
def spNextStop (K : PySem.W.Frag) (CP CB : Addr) : Sp := fun vs H Q _ => ∃ (H0 : Hp) (c : Crew) (r : Nat → Addr) (A : BA) (L : Nat → Option Int) (F : Nat → Tab) (T : List (List Key × V)), vs = [.ref A.x] ∧ BlkAt K CP CB H0 H c r A L F T ∧ c.Ok ∧ RowsOk c L F
  ∧ ∀ H', Same H H' → ((∀ a k, a < c.n → L a = none → ¬ Hit c.n c.p L a k) → Q .non H') ∧ (∀ t (a b : Nat) (k : Int), NextStop c.n c.p L a b k → SqT K H' t [.int ((c.p a).day + k), .int (a : Nat), .int k, .int (b : Nat)] → Q (.ref t) H')
theorem sc_Blocks_next_stop : FnScope ["self", "found", "place", "painter", "block"] ["self"] (defScope s_Blocks_next_stop) := C8.fnScope_by (by decide +kernel)
theorem ok_next_stop {f : Addr} (kc : KCls K CB bkN) (me : Meth K CB "next_stop" f) (F : DF K "next_stop" "Blocks.next_stop" s_Blocks_next_stop f) (c_first_of : C8.Met P w K mg base 1 CB "first_of" (spFirstOf K CP CB) []) (c_day : Prp P w K mg base 1 CP "day" (spG_day K CP)) (n_min : mg "min" = none) (n_enumerate : mg "enumerate" = none) :
    C8.Met P w K mg base 3 CB "next_stop" (spNextStop K CP CB) [] := by
  refine met_of kc.cl me F sc_Blocks_next_stop (fun _ _ _ _ _ _ us hl => match us, hl with | [_], _ => rfl) (fun vs H Q E h => ?_) (fun cdv A outer s H vs Q E hr h => ?_)
  · obtain ⟨H0, c, r, A, L, F, T, rfl, _⟩ := h
    rfl
  · obtain ⟨H0, c, r, A, L, F, T, rfl, B, ok, RO, k⟩ := h
    refine ⟨_, (pss_cons (ps_set (i := 1) sc_Blocks_next_stop.nd rfl (Or.inl rfl) (pe_lst pa_nil))
        (pss_cons (ps_for PassesOwn.never rfl (pi_enumT (by rfl) n_enumerate (pa_cons (pe_fldN 0 (pv 0) rfl) pa_nil)) (pg_tup rfl (pgs_cons (pg_name (i := 2) sc_Blocks_next_stop.nd rfl (Or.inl rfl)) (pgs_cons (pg_name (i := 3) sc_Blocks_next_stop.nd rfl (Or.inl rfl)) pgs_nil)))
           (pss_cons (ps_set (i := 4) sc_Blocks_next_stop.nd rfl (Or.inl rfl) (pe_ifExp (pt_cmpR op_isN (pe_ix ix_list (pe_fldN 1 (pv 0) rfl) (pv 2) (fun _ _ => rfl)) pe_non (nomark _)) (pe_mtN c_first_of hr (by decide) (pv 0) (pa_cons (pv 2) pa_nil)) pe_non))
           (pss_one (ps_if (pt_cmpR op_notN (pv 4) pe_non (nomark _)) (pss_one (ps_expr (pe_bm PySem.F.plainAttrs_list PySem.F.slot_list_append PySem.F.type_list_append mt_append (pv 1) (pa_cons (pe_tup (pa_cons (pe_op op_add (pe_pr c_day hr (by decide) (pv 3) rfl) (pe_ix ix_tup (pv 4) pe_int (fun _ _ => rfl))) (pa_cons (pv 2) (pa_cons (pe_ix ix_tup (pv 4) pe_int (fun _ _ => rfl)) (pa_cons (pe_ix ix_tup (pv 4) pe_int (fun _ _ => rfl)) pa_nil))))) pa_nil))))
             pss_nil))))
        (pss_one (ps_ret (pe_callBK (cr_minTD rfl hr.units) (by rfl) n_min (by decide +kernel) (pa_cons (pv 1) pa_nil) (pk_cons pe_non pk_nil)))))), ?_⟩
    show (_ : TS) _ [some _, none, none, none, none] _
    have hfew := ok.few
    walk_at "w"
    intro D hD
    have S1 : Same H (upd H D (.lst [])) := Same.new hD
    have B1 := B.same S1
    have hx1 := B1.hx
    walk_at "w"
    refine ⟨_, _, rfl, B1.ht, ?_⟩
    refine for_it walk_enumT (fun i σ H' => Tk (Same H H' ∧ ∃ (rs : List Addr) (R : List (List Int)) (o1 o2 o3 : Option V), σ = [some (.ref A.x), some (.ref D), o1, o2, o3] ∧ H' D = some (.lst (rs.map V.ref)) ∧ Paired (fun r xs => SqT K H' r xs) rs (R.map (·.map V.int)) ∧ StopsTo c.n c.p L i R ∧ rs.length ≤ i))
      (tk ⟨S1, [], [], none, none, none, rfl, upd_same, .nil, StopsTo.nil, Nat.le_refl _⟩) (fun i σ H' _ p => (B.same p.h.1).ht) ?_ ?_
    · rintro i v σ H2 H3 hi ⟨hS, rs, R, o1, o2, o3, rfl, hD2, hP, hSt, hlen⟩ ⟨q, y, z, rfl, hq, rfl, hy, hz⟩
      obtain ⟨hi, rfl⟩ := firsts_at hz
      injection hy with hy
      subst hy
      refine ⟨_, _, rfl, SqT.of upd_same, rfl, ?_⟩
      have S3 : Same H2 (upd H2 q (.tup [.int (i : Nat), .ref (r i)])) := Same.new hq
      generalize hH3 : upd H2 q (.tup [.int (i : Nat), .ref (r i)]) = H3 at S3 ⊢
      have S4 := hS.trans S3
      have B3 := B.same S4
      have hD3 := S3 _ _ hD2
      have hP3 := S3.paired hP
      have hx3 := B3.hx
      have hl3 := SqL.of (K := K) B3.hl
      have hLi : atI (firsts (fun i => optV (L i)) c.n) (i : Int) = some (optV (L i)) := by rw [atI_nat, firsts_get hi]
      walk_at "w"
      cases hL : L i with
      | some z =>
        walk_at "w"
        exact tk ⟨S4, rs, R, _, _, _, rfl, hD3, hP3, hSt.skip (fun e => by rw [hL] at e; cases e), by omega⟩
      | none =>
        walk_at "w"
        refine ⟨H0, c, r, A, L, F, T, i, rfl, B3, ok, hi, RO.row i hi, fun H4 hS4 => ⟨fun e => ?_, fun t j kk hm hl ht => ?_⟩⟩
        · walk_at "w"
          exact tk ⟨S4.trans hS4, rs, R, _, _, _, rfl, hS4 _ _ hD3, hS4.paired hP3, hSt.skip (fun hL k => row_none (RO.row i hi) (RO.val i hi hL) e k), by omega⟩
        · have hD4 := hS4 _ _ hD3
          have hpn := (B3.same hS4).hc i hi
          obtain ⟨dp, tp, hp, htp⟩ := id hpn
          obtain ⟨hj, nj, _, h0, h1⟩ := row_hit (RO.row i hi) (RO.val i hi hL) hm
          have hle := row_least (RO.row i hi) (RO.val i hi hL) hm hl
          walk_at "w"
          refine ⟨tyL hD4, ?_⟩
          walk_at "w"
          intro p1 hp1
          have S5 := Same.new (o := .tup [V.int ((c.p i).day + kk), .int (i : Nat), .int kk, .int (j : Nat)]) hp1
          have hD5 := S5 _ _ hD4
          refine ⟨D, rs.map V.ref, .ref p1, rfl, rfl, hD5, ?_, ?_⟩
          · rw [List.length_map]
            exact lt_line (m := i) hlen (by omega)
          have S6 : SB D (upd H4 p1 (.tup [V.int ((c.p i).day + kk), .int (i : Nat), .int kk, .int (j : Nat)])) (upd (upd H4 p1 (.tup [V.int ((c.p i).day + kk), .int (i : Nat), .int kk, .int (j : Nat)])) D (.lst (rs.map V.ref ++ [V.ref p1]))) := (SB.refl _ _).set
          refine tk ⟨Same.put hD ((S4.trans hS4).trans S5), rs ++ [p1], R ++ [[(c.p i).day + kk, (i : Int), kk, (j : Int)]], _, _, _, rfl, ?_, ?_, hSt.add hL hj hle h0 h1, ?_⟩
          · rw [List.map_append]
            exact upd_same
          · rw [List.map_append]
            exact paired_snoc (S6.paired hD5 (fun _ z => by cases z) (fun _ _ z => by cases z) (S5.paired (hS4.paired hP3))) (S6.sqtO hD5 (fun _ z => by cases z) (fun _ _ z => by cases z) (SqT.of upd_same))
          · rw [List.length_append]
            show rs.length + 1 ≤ i + 1
            omega
    rintro σ H2 ⟨hS, rs, R, o1, o2, o3, rfl, hD2, hP, hSt, hlen⟩
    rw [firsts_len] at hSt
    obtain ⟨k1, k2⟩ := k H2 hS
    walk_at "w"
    refine ⟨D, rs, R, .non, rfl, rfl, SqL.of hD2, hP, fun e => ?_, fun i rr row hr hx hm => ?_⟩
    · subst e
      exact k1 fun a k ha hL => hSt.none a k ha hL
    · obtain ⟨a, b, kk, e, hN⟩ := hSt.next (List.mem_of_getElem? hx) hm
      refine k2 rr a b kk hN ?_
      obtain ⟨r', xs', e1, e2, e3, e4⟩ := pair_at hP (i := i) (x := .ref rr) (by rw [List.getElem?_map, hr]; rfl)
      injection e1 with e1
      rw [List.getElem?_map, hx] at e3
      injection e3 with e3
      rw [← e3, ← e1, e] at e4
      exact e4
end
end PK
end
section
set_option Elab.async false
set_option linter.all false
set_option maxRecDepth 100000
set_option maxHeartbeats 4000000
namespace PK
open PySem PySem.Spec PyProof.Rows L2 PM
local macro_rules | `(tactic| walk_at "sd") => `(tactic| (first
  | assumption
  | omega
  | (constructor <;> omega)
  | (refine ⟨by omega, ?_⟩; constructor <;> omega)
  | (constructor <;> (first | assumption | omega | (constructor <;> omega)))))
local macro_rules | `(tactic| walk_at "w") => `(tactic| (repeat (first
  | with_reducible refine ifTT ?_
  | with_reducible refine ifFT ?_
  | with_reducible refine ifnT ?_
  | with_reducible refine ifnF ?_
  | with_reducible refine ifIN ?_
  | with_reducible refine ifNN ?_
  | with_reducible refine ifnIN ?_
  | with_reducible refine ifnNN ?_
  | with_reducible refine ifRN ?_
  | with_reducible refine ifnRN ?_
  | ((fail_if_success with_reducible refine iteB ?_ ?_); first
    | refine ⟨_, rfl, ?_⟩
    | refine ⟨_, _, rfl, rfl, ?_⟩
    | refine ⟨_, _, rfl, ?_⟩
    | refine And.intro (a := (_ : Nat) ≤ sizeLine) (by first | exact len_small (m := 2) rfl | exact len_small (m := 1) rfl | exact len_small (m := 4) rfl | exact len_small (m := 3) rfl | exact len_small (m := 0) rfl) ?_
    | refine ⟨rfl, ?_⟩
    | refine And.intro (a := CDivP _ _) (by walk_at "sd") ?_
    | refine And.intro (a := CDivB _ _) (by walk_at "sd") ?_
    | refine And.intro (a := CMulB _ _) (by walk_at "sd") ?_
    | refine And.intro (a := _ ≠ (0 : Int)) (by walk_at "sd") ?_
    | refine And.intro (a := (0 : Int) < _) (by walk_at "sd") ?_
    | refine ⟨_, _, rfl, ‹_›, rfl, ?_⟩
    | refine ⟨_, _, _, _, rfl, rfl, ‹_›, rfl, ?_⟩
    | refine ⟨_, _, _, _, rfl, rfl, by assumption, by assumption, ?_⟩
    | refine ⟨_, _, _, _, _, _, rfl, ‹_›, ‹_›, rfl, ?_⟩
    | refine ⟨_, _, _, _, _, _, rfl, ‹_›, (by exact KCls.f ‹_› rfl), (by rfl), ?_⟩
    | refine ⟨_, _, _, _, _, _, rfl, upd_same, ‹_›, (by rfl), ?_⟩
    | refine ⟨_, _, _, _, _, _, rfl, ‹_›, ‹Cls _ _›, ‹_›, rfl, ?_⟩
    | refine ⟨_, _, _, _, rfl, ‹_›, by decide +kernel, ?_⟩
    | refine ⟨_, _, _, rfl, ‹_›, ?_⟩
    | refine And.intro (by assumption) ?_))))
section
variable {P : Program} {w : World} {K : PySem.W.Frag} {mg : Str → Option Value} {base : Heap} {CP CF CC CB : Addr}
theorem FVal.congr {p : Nat → Pt} {L L' : Nat → Option Int} {kvs kvs' : Tab} {i j : Nat} (h : FVal p L kvs i j) (e : L' j = L j) (e2 : valV kvs' (jK j) = valV kvs (jK j)) : FVal p L' kvs' i j := by
  obtain ⟨r, h1, h2, h3⟩ := h
  exact ⟨r, by rw [e]; exact h1, h2, e2.trans h3⟩
structure AllCr (K : PySem.W.Frag) (CC : Addr) (H : Hp) (c : Crew) (T : List (List Key × V)) : Prop where
  at_ : ∀ a b, a < c.n → b < c.n → b ≠ a → ∃ cr, valV T [jK a, jK b] = some (.ref cr) ∧ CrAt K CC H cr (c.p a) (c.p b)
theorem AllCr.sb {x : Addr} {H H' : Hp} {o : HO} {c : Crew} {T : List (List Key × V)} (h : SB x H H') (hx : H x = some o) (no : NoTI o) (q : AllCr K CC H c T) : AllCr K CC H' c T := ⟨fun a b ha hb ne => by
  obtain ⟨cr, h1, h2⟩ := q.at_ a b ha hb ne
  exact ⟨cr, h1, h.cr hx no h2⟩⟩
theorem AllCr.same {H H' : Hp} {c : Crew} {T : List (List Key × V)} (h : Same H H') (q : AllCr K CC H c T) : AllCr K CC H' c T := ⟨fun a b ha hb ne => by
  obtain ⟨cr, h1, h2⟩ := q.at_ a b ha hb ne
  exact ⟨cr, h1, h2.same h⟩⟩
/-- all is kept but the limits and the rows -/
def KeepB (A : BA) (n : Nat) (H H' : Hp) : Prop := ∀ b o, H b = some o → b ≠ A.l → (∀ i, i < n → b ≠ A.d i) → H' b = some o
theorem KeepB.refl {A : BA} {n : Nat} {H : Hp} : KeepB A n H H := fun _ _ h _ _ => h
theorem KeepB.same {A : BA} {n : Nat} {H H' H2 : Hp} (k : KeepB A n H H') (s : Same H' H2) : KeepB A n H H2 := fun b o h h1 h2 => s _ _ (k b o h h1 h2)
theorem KeepB.row {A : BA} {n a : Nat} {H H' H2 : Hp} (k : KeepB A n H H') (ha : a < n) (s : SB (A.d a) H' H2) : KeepB A n H H2 := fun b o h h1 h2 => s _ _ (k b o h h1 h2) (h2 a ha)
theorem KeepB.lim {A : BA} {n : Nat} {H H' H2 : Hp} (k : KeepB A n H H') (s : SB A.l H' H2) : KeepB A n H H2 := fun b o h h1 h2 => s _ _ (k b o h h1 h2) h1
theorem KeepB.trans {A : BA} {n : Nat} {H H' H2 : Hp} (k : KeepB A n H H') (s : KeepB A n H' H2) : KeepB A n H H2 := fun b o h h1 h2 => s _ _ (k b o h h1 h2) h1 h2
theorem firsts_set {α : Type} {f : Nat → α} {n a : Nat} {x : α} : (firsts f n).set a x = firsts (fun i => if i = a then x else f i) n := by
  apply List.ext_getElem?
  intro i
  rw [List.getElem?_set, firsts_len]
  by_cases e : a = i
  · subst e
    rw [if_pos rfl]
    by_cases h : a < n
    · rw [if_pos h, firsts_get h, if_pos rfl]
    · rw [if_neg h, List.getElem?_eq_none (by rw [firsts_len]; omega)]
  · rw [if_neg e]
    by_cases h : i < n
    · rw [firsts_get h, firsts_get h, if_neg fun z => e z.symm]
    · rw [List.getElem?_eq_none (by rw [firsts_len]; omega), List.getElem?_eq_none (by rw [firsts_len]; omega)]
/-- a limit is set -/
theorem BlkAt.limit {H0 H : Hp} {c : Crew} {r : Nat → Addr} {A : BA} {L : Nat → Option Int} {F : Nat → Tab} {T : List (List Key × V)} {a : Nat} {k : Int} (B : BlkAt K CP CB H0 H c r A L F T) : BlkAt K CP CB H0 (upd H A.l (.lst ((firsts (fun i => optV (L i)) c.n).set a (.int k)))) c r A (setL L a k) F T := by
  have e : SB A.l H (upd H A.l (.lst ((firsts (fun i => optV (L i)) c.n).set a (.int k)))) := (SB.refl _ _).set
  have ho := B.hl
  have no := noTI_lst (firsts (fun i => optV (L i)) c.n)
  refine ⟨e _ _ B.hx (ne_of B.hx ho (no.n3 _ _ _)), e.sqtO ho no.n1 no.n2 B.ht, fun i hi => e.pn ho no (B.hc i hi), ?_, e _ _ B.hf (fun z => B.ne z.symm), fun i hi => e _ _ (B.hd i hi) (ne_of (B.hd i hi) ho (by intro z; cases z)), e _ _ B.hk (ne_of B.hk ho (by intro z; cases z)), B.ne, B.dd, fun b o h => ?_, B.nl, B.nd, B.nk⟩
  · rw [upd_same, firsts_set]
    congr 2
    refine firsts_congr fun i _ => ?_
    unfold setL
    by_cases q : i = a
    · rw [if_pos q, if_pos q]
    · rw [if_neg q, if_neg q]
  · exact e _ _ (B.s0 _ _ h) (ne_of_none h B.nl)
theorem ixN_nat {n i : Nat} (h : i < n) : ixN n (i : Int) = some i := by
  unfold ixN
  rw [if_pos (by omega), if_pos (by omega), Int.toNat_natCast]
def spSettle (K : PySem.W.Frag) (CP CC CB : Addr) : Sp := fun vs H Q _ => ∃ (H0 : Hp) (c : Crew) (r : Nat → Addr) (A : BA) (L : Nat → Option Int) (F : Nat → Tab) (T : List (List Key × V)) (a : Nat) (k : Int), vs = [.ref A.x, .int (a : Nat), .int k] ∧ BlkAt K CP CB H0 H c r A L F T ∧ c.Ok ∧ RowsOk c L F ∧ AllCr K CC H c T ∧ a < c.n ∧ 0 ≤ k
  ∧ ∀ H' F', KeepB A c.n H H' → BlkAt K CP CB H0 H' c r A (setL L a k) F' T → RowsOk c (setL L a k) F' → AllCr K CC H' c T → Q .non H'
theorem sc_Blocks_settle : FnScope ["self", "place", "count", "other_place", "known"] ["self", "place", "count"] (defScope s_Blocks_settle) := C8.fnScope_by (by decide +kernel)
theorem ok_settle {f : Addr} (kc : KCls K CB bkN) (me : Meth K CB "settle" f) (F : DF K "settle" "Blocks.settle" s_Blocks_settle f) (c_look : C8.Met P w K mg base 4 CB "look" (spLook K CP CC CB) []) (n_enumerate : mg "enumerate" = none) :
    C8.Met P w K mg base 5 CB "settle" (spSettle K CP CC CB) [] := by
  refine met_of kc.cl me F sc_Blocks_settle (fun _ _ _ _ _ _ us hl => match us, hl with | [_, _, _], _ => rfl) (fun vs H Q E h => ?_) (fun cdv A outer s H vs Q E hr h => ?_)
  · obtain ⟨H0, c, r, A, L, F, T, a, kk, rfl, _⟩ := h
    rfl
  · obtain ⟨H0, c, r, A, L, F, T, a, kk, rfl, B, ok, RO, AC, ha, hk, k⟩ := h
    refine ⟨_, (pss_cons (ps_asg (pv 2) (pg_sub (pe_fldN 1 (pv 0) rfl) (pv 1) set_list))
        (pss_one (ps_for PassesOwn.never rfl (pi_enum (by rfl) n_enumerate (pa_cons (pe_fldN 1 (pv 0) rfl) pa_nil)) (pg_tup rfl (pgs_cons (pg_name (i := 3) sc_Blocks_settle.nd rfl (Or.inl rfl)) (pgs_cons (pg_name (i := 4) sc_Blocks_settle.nd rfl (Or.inl rfl)) pgs_nil)))
          (pss_one (ps_if (PW.pt (pw_and (pt_cmpR op_ne (pv 3) (pv 1) (nomark _)) (pw_and1 (pt_cmpR op_isN (pv 4) pe_non (nomark _))))) (pss_one (ps_expr (pe_mtN c_look hr (by decide) (pv 0) (pa_cons (pv 3) (pa_cons (pv 1) pa_nil)))))
            pss_nil))))), ?_⟩
    show (_ : TS) _ [some _, some _, some _, none, none] _
    have hfew := ok.few
    have hx := B.hx
    walk_at "w"
    refine ⟨A.l, _, _, a, rfl, rfl, B.hl, ixN_nat (by rw [firsts_len]; exact ha), ?_⟩
    have B1 := B.limit (a := a) (k := kk)
    have SL : SB A.l H (upd H A.l (.lst ((firsts (fun i => optV (L i)) c.n).set a (.int kk)))) := (SB.refl _ _).set
    have AC1 := AC.sb SL B.hl (noTI_lst _)
    have K1 : KeepB A c.n H (upd H A.l (.lst ((firsts (fun i => optV (L i)) c.n).set a (.int kk)))) := KeepB.refl.lim SL
    generalize hH1 : upd H A.l (.lst ((firsts (fun i => optV (L i)) c.n).set a (.int kk))) = H1 at B1 AC1 K1 ⊢
    have hx1 := B1.hx
    walk_at "w"
    refine ⟨_, _, rfl, SqL.of B1.hl, ?_⟩
    refine for_it (walk_enum (xs := firsts (fun i => optV (setL L a kk i)) c.n)) (fun m σ H' => Tk (KeepB A c.n H H' ∧ ∃ (F' : Nat → Tab) (o1 o2 : Option V), σ = [some (.ref A.x), some (.int (a : Nat)), some (.int kk), o1, o2] ∧ BlkAt K CP CB H0 H' c r A (setL L a kk) F' T ∧ AllCr K CC H' c T ∧ (∀ i, i < c.n → FRow c.n i (F' i)) ∧ (∀ i, i < c.n → setL L a kk i = none → ∀ j, j < c.n → j ≠ i → (j ≠ a ∨ i < m) → FVal c.p (setL L a kk) (F' i) i j)))
      (tk ⟨K1, F, none, none, rfl, B1, AC1, RO.row, fun i hi hL j hj ne q => (RO.val i hi (by unfold setL at hL; split at hL; cases hL; exact hL) j hj ne).congr (setL_ne (by omega)) rfl⟩) (fun m σ H' _ p => ?_) ?_ ?_
    · obtain ⟨_, F', _, _, _, B', _⟩ := p.h
      exact SqL.of B'.hl
    · rintro i v σ H2 H3 hi ⟨K2, F', o1, o2, rfl, B2, AC2, R2, V2⟩ ⟨q, y, z, rfl, hq, rfl, hy, hz⟩
      obtain ⟨hi, rfl⟩ := firsts_at hz
      injection hy with hy
      subst hy
      refine ⟨_, _, rfl, SqT.of upd_same, rfl, ?_⟩
      have S3 : Same H2 (upd H2 q (.tup [.int (i : Nat), optV (setL L a kk i)])) := Same.new hq
      generalize hH3 : upd H2 q (.tup [.int (i : Nat), optV (setL L a kk i)]) = H3 at S3 ⊢
      have B3 := B2.same S3
      have AC3 := AC2.same S3
      have K3 := K2.same S3
      have hx3 := B3.hx
      walk_at "w"
      have skip : (setL L a kk i = none → False) → ∀ i', i' < c.n → setL L a kk i' = none → ∀ j, j < c.n → j ≠ i' → (j ≠ a ∨ i' < i + 1) → FVal c.p (setL L a kk) (F' i') i' j := fun h i' hi' hL j hj ne q => by
        by_cases e : i' = i
        · subst e
          exact absurd hL h
        · exact V2 i' hi' hL j hj ne (by omega)
      refine iteND (fun hc => ?_) (fun hc => ?_)
      · have ne : i ≠ a := fun z => hc (by rw [z])
        cases hL : setL L a kk i with
        | some z =>
          walk_at "w"
          exact tk ⟨K3, F', _, _, rfl, B3, AC3, R2, skip (fun e => by rw [hL] at e; cases e)⟩
        | none =>
          walk_at "w"
          obtain ⟨cr, hT, hC⟩ := AC3.at_ i a hi ha (fun z => ne z.symm)
          refine ⟨H0, c, r, A, setL L a kk, F', T, i, a, cr, rfl, B3, ok, hi, ha, fun z => ne z.symm, R2 i hi, hT, hC, fun z hz => ?_, fun H4 kvs e hd R V O => ?_⟩
          · rw [setL_same] at hz
            injection hz with hz
            omega
          refine tk ⟨K3.row hi e, setF F' i kvs, _, _, by rw [← hL]; rfl, B3.row hi e hd, AC3.sb e (B3.hd i hi) (noTI_dK _), fun i' hi' => ?_, fun i' hi' hL' j hj ne' q => ?_⟩
          · unfold setF
            by_cases z : i' = i
            · rw [if_pos z, z]
              exact R
            · rw [if_neg z]
              exact R2 i' hi'
          · unfold setF
            by_cases z : i' = i
            · rw [if_pos z]
              subst z
              by_cases ej : j = a
              · subst ej
                exact V
              · exact (V2 i' hi' hL' j hj ne' (.inl ej)).congr rfl (O j ej)
            · rw [if_neg z]
              exact V2 i' hi' hL' j hj ne' (by omega)
      · walk_at "w"
        have e : i = a := by
          injection hc with hc
          omega
        exact tk ⟨K3, F', _, _, rfl, B3, AC3, R2, skip (fun z => by rw [e, setL_same] at z; cases z)⟩
    · rintro σ H2 ⟨K2, F', o1, o2, rfl, B2, AC2, R2, V2⟩
      rw [firsts_len] at V2
      exact k H2 F' K2 B2 ⟨R2, fun i hi hL j hj ne => V2 i hi hL j hj ne (.inr hi)⟩ AC2
end
end PK
end
section
set_option Elab.async false
set_option linter.all false
set_option maxRecDepth 100000
set_option maxHeartbeats 4000000
namespace PK
open PySem PySem.Spec PyProof.Rows L2 PM
local macro_rules | `(tactic| walk_at "sd") => `(tactic| (first
  | assumption
  | omega
  | (constructor <;> omega)
  | (refine ⟨by omega, ?_⟩; constructor <;> omega)
  | (constructor <;> (first | assumption | omega | (constructor <;> omega)))))
local macro_rules | `(tactic| walk_at "w") => `(tactic| (repeat (first
  | with_reducible refine ifTT ?_
  | with_reducible refine ifFT ?_
  | with_reducible refine ifnT ?_
  | with_reducible refine ifnF ?_
  | with_reducible refine ifIN ?_
  | with_reducible refine ifNN ?_
  | with_reducible refine ifnIN ?_
  | with_reducible refine ifnNN ?_
  | with_reducible refine ifRN ?_
  | with_reducible refine ifnRN ?_
  | ((fail_if_success with_reducible refine iteB ?_ ?_); first
    | refine ⟨_, rfl, ?_⟩
    | refine ⟨_, _, rfl, rfl, ?_⟩
    | refine ⟨_, _, rfl, ?_⟩
    | refine And.intro (a := (_ : Nat) ≤ sizeLine) (by first | exact len_small (m := 2) rfl | exact len_small (m := 1) rfl | exact len_small (m := 4) rfl | exact len_small (m := 3) rfl | exact len_small (m := 0) rfl) ?_
    | refine ⟨rfl, ?_⟩
    | refine And.intro (a := CDivP _ _) (by walk_at "sd") ?_
    | refine And.intro (a := CDivB _ _) (by walk_at "sd") ?_
    | refine And.intro (a := CMulB _ _) (by walk_at "sd") ?_
    | refine And.intro (a := _ ≠ (0 : Int)) (by walk_at "sd") ?_
    | refine And.intro (a := (0 : Int) < _) (by walk_at "sd") ?_
    | refine ⟨_, _, rfl, ‹_›, rfl, ?_⟩
    | refine ⟨_, _, _, _, rfl, rfl, ‹_›, rfl, ?_⟩
    | refine ⟨_, _, _, _, rfl, rfl, by assumption, by assumption, ?_⟩
    | refine ⟨_, _, _, _, _, _, rfl, ‹_›, ‹_›, rfl, ?_⟩
    | refine ⟨_, _, _, _, _, _, rfl, ‹_›, (by exact KCls.f ‹_› rfl), (by rfl), ?_⟩
    | refine ⟨_, _, _, _, _, _, rfl, upd_same, ‹_›, (by rfl), ?_⟩
    | refine ⟨_, _, _, _, _, _, rfl, ‹_›, ‹Cls _ _›, ‹_›, rfl, ?_⟩
    | refine ⟨_, _, _, _, rfl, ‹_›, by decide +kernel, ?_⟩
    | refine ⟨_, _, _, rfl, ‹_›, ?_⟩
    | refine And.intro (by assumption) ?_))))
section
variable {P : Program} {w : World} {K : PySem.W.Frag} {mg : Str → Option Value} {base : Heap} {CP CF CC CB : Addr}
theorem KeepB.sqt {H0 H H' : Hp} {c : Crew} {r : Nat → Addr} {A : BA} {L : Nat → Option Int} {F : Nat → Tab} {T : List (List Key × V)} {a : Addr} {xs : List V} (B : BlkAt K CP CB H0 H c r A L F T) (k : KeepB A c.n H H') (q : SqT K H a xs) : SqT K H' a xs := by
  rcases q with (q | ⟨od, q⟩) | q
  · exact .inl (.inl (k _ _ q (ne_of q B.hl (by intro z; cases z)) fun i hi => ne_of q (B.hd i hi) (by intro z; cases z)))
  · exact .inl (.inr ⟨od, k _ _ q (ne_of q B.hl (by intro z; cases z)) fun i hi => ne_of q (B.hd i hi) (by intro z; cases z)⟩)
  · exact .inr q
theorem KeepB.paired {H0 H H' : Hp} {c : Crew} {r : Nat → Addr} {A : BA} {L : Nat → Option Int} {F : Nat → Tab} {T : List (List Key × V)} (B : BlkAt K CP CB H0 H c r A L F T) (k : KeepB A c.n H H') : ∀ {rs : List Addr} {xss : List (List V)}, Paired (fun r xs => SqT K H r xs) rs xss → Paired (fun r xs => SqT K H' r xs) rs xss
  | _, _, .nil => .nil
  | _, _, .cons a b => .cons (KeepB.sqt B k a) (KeepB.paired B k b)
def openN (L : Nat → Option Int) : Nat → Nat
  | 0 => 0
  | n + 1 => openN L n + if L n = none then 1 else 0
theorem openN_le (L : Nat → Option Int) (a : Nat) (k : Int) (n : Nat) : openN (setL L a k) n ≤ openN L n := by
  induction n with
  | zero => exact Nat.le_refl _
  | succ n ih =>
    show openN (setL L a k) n + (if setL L a k n = none then 1 else 0) ≤ openN L n + if L n = none then 1 else 0
    by_cases e : n = a
    · subst e
      rw [setL_same, if_neg (fun z => by cases z)]
      omega
    · rw [setL_ne e]
      omega
theorem openN_lt {L : Nat → Option Int} {a : Nat} {k : Int} (hL : L a = none) : ∀ {n : Nat}, a < n → openN (setL L a k) n < openN L n
  | 0, h => absurd h (Nat.not_lt_zero _)
  | n + 1, h => by
    show openN (setL L a k) n + (if setL L a k n = none then 1 else 0) < openN L n + if L n = none then 1 else 0
    by_cases e : n = a
    · subst e
      rw [setL_same, if_neg (fun z => by cases z), if_pos hL]
      have := openN_le L n k n
      omega
    · rw [setL_ne e]
      have := openN_lt (L := L) (k := k) hL (n := n) (by omega)
      omega
theorem openN_all (n : Nat) : openN (fun _ => none) n = n := by
  induction n with
  | zero => rfl
  | succ n ih =>
    show openN (fun _ => none) n + (if (none : Option Int) = none then 1 else 0) = n + 1
    rw [ih, if_pos rfl]
structure StopList (n : Nat) (L : Nat → Option Int) (R : List (List Int)) : Prop where
  of : ∀ row, row ∈ R → ∃ (d : Int) (a b : Nat) (k : Int), row = [d, (a : Int), k, (b : Int)] ∧ a < n ∧ b < n ∧ 0 ≤ k ∧ k ≤ 10 ^ 60 ∧ L a = some k
  all : ∀ (a : Nat) (k : Int), a < n → L a = some k → ∃ (d : Int) (b : Nat), [d, (a : Int), k, (b : Int)] ∈ R
theorem StopList.add {n a b : Nat} {k d : Int} {L : Nat → Option Int} {R : List (List Int)} (S : StopList n L R) (ha : a < n) (hb : b < n) (hL : L a = none) (k0 : 0 ≤ k) (k1 : k ≤ 10 ^ 60) : StopList n (setL L a k) (R ++ [[d, (a : Int), k, (b : Int)]]) := by
  refine ⟨fun row hr => ?_, fun a' k' ha' hL' => ?_⟩
  · rcases List.mem_append.mp hr with hr | hr
    · obtain ⟨d', a', b', k', e, h1, h2, h3, h4, h5⟩ := S.of row hr
      refine ⟨d', a', b', k', e, h1, h2, h3, h4, ?_⟩
      rw [setL_ne (fun z => by rw [z, hL] at h5; cases h5)]
      exact h5
    · exact ⟨d, a, b, k, List.mem_singleton.mp hr, ha, hb, k0, k1, setL_same⟩
  · by_cases e : a' = a
    · subst e
      rw [setL_same] at hL'
      injection hL' with hL'
      subst hL'
      exact ⟨d, b, List.mem_append.mpr (.inr (List.mem_singleton.mpr rfl))⟩
    · rw [setL_ne e] at hL'
      obtain ⟨d', b', h⟩ := S.all a' k' ha' hL'
      exact ⟨d', b', List.mem_append.mpr (.inl h)⟩
/-- what next_stop has told -/
def StopV (K : PySem.W.Frag) (H : Hp) (c : Crew) (L : Nat → Option Int) (s : V) : Prop :=
  (s = .non ∧ ∀ a k, a < c.n → L a = none → ¬ Hit c.n c.p L a k) ∨ ∃ (t : Addr) (a b : Nat) (k : Int), s = .ref t ∧ NextStop c.n c.p L a b k ∧ SqT K H t [.int ((c.p a).day + k), .int (a : Nat), .int k, .int (b : Nat)]
theorem BlkAt.oth {H0 H H' : Hp} {c : Crew} {r : Nat → Addr} {A : BA} {L : Nat → Option Int} {F : Nat → Tab} {T : List (List Key × V)} {D : Addr} {xs : List V} (B : BlkAt K CP CB H0 H c r A L F T) (e : SB D H H') (ho : H D = some (.lst xs)) (n1 : D ≠ A.l) (n2 : D ≠ A.fl) (n0 : H0 D = none) : BlkAt K CP CB H0 H' c r A L F T := by
  have no := noTI_lst xs
  exact ⟨e _ _ B.hx (ne_of B.hx ho (no.n3 _ _ _)), e.sqtO ho no.n1 no.n2 B.ht, fun i hi => e.pn ho no (B.hc i hi), e _ _ B.hl n1.symm, e _ _ B.hf n2.symm, fun i hi => e _ _ (B.hd i hi) (ne_of (B.hd i hi) ho (by intro z; cases z)), e _ _ B.hk (ne_of B.hk ho (by intro z; cases z)), B.ne, B.dd, fun b o h => e _ _ (B.s0 _ _ h) (ne_of_none h n0), B.nl, B.nd, B.nk⟩
theorem none_back {H H' : Hp} {a : Addr} (s : Same H H') (h : H' a = none) : H a = none := by
  cases e : H a with
  | none => rfl
  | some o => rw [s _ _ e] at h; cases h
theorem tNil_of {k : List V → Hp → Prop} {σ : L2.St} {H : Hp} (h : k [] H) : tNil σ H k := h
theorem next_of {H0 H : Hp} {c : Crew} {r : Nat → Addr} {A : BA} {L : Nat → Option Int} {F : Nat → Tab} {T : List (List Key × V)} {Q : VK} {E : XK} (B : BlkAt K CP CB H0 H c r A L F T) (ok : c.Ok) (RO : RowsOk c L F) (h : ∀ H1 s, Same H H1 → StopV K H1 c L s → Q s H1) : spNextStop K CP CB [.ref A.x] H Q E :=
  ⟨H0, c, r, A, L, F, T, rfl, B, ok, RO, fun H1 hS1 => ⟨fun e => h H1 .non hS1 (.inl ⟨rfl, e⟩), fun t a b kk hN ht => h H1 (.ref t) hS1 (.inr ⟨t, a, b, kk, rfl, hN, ht⟩)⟩⟩
def spAllStops (K : PySem.W.Frag) (CP CC CB : Addr) : Sp := fun vs H Q _ => ∃ (H0 : Hp) (c : Crew) (r : Nat → Addr) (A : BA) (F : Nat → Tab) (T : List (List Key × V)), vs = [.ref A.x] ∧ BlkAt K CP CB H0 H c r A (fun _ => none) F T ∧ c.Ok ∧ RowsOk c (fun _ => none) F ∧ AllCr K CC H c T
  ∧ ∀ t H' L (R : List (List Int)), Same H0 H' → IsHist c.n c.p L → LT K H' t (R.map (·.map V.int)) → StopList c.n L R → R.length ≤ c.n → Q (.ref t) H'
theorem sc_Blocks_all_stops : FnScope ["self", "found", "stop", "day", "place", "count", "blocker"] ["self"] (defScope s_Blocks_all_stops) := C8.fnScope_by (by decide +kernel)
theorem ok_all_stops {f : Addr} (kc : KCls K CB bkN) (me : Meth K CB "all_stops" f) (F : DF K "all_stops" "Blocks.all_stops" s_Blocks_all_stops f) (c_settle : C8.Met P w K mg base 5 CB "settle" (spSettle K CP CC CB) []) (c_next_stop : C8.Met P w K mg base 3 CB "next_stop" (spNextStop K CP CB) []) :
    C8.Met P w K mg base 6 CB "all_stops" (spAllStops K CP CC CB) [] := by
  refine met_of kc.cl me F sc_Blocks_all_stops (fun _ _ _ _ _ _ us hl => match us, hl with | [_], _ => rfl) (fun vs H Q E h => ?_) (fun cdv A outer s H vs Q E hr h => ?_)
  · obtain ⟨H0, c, r, A, F, T, rfl, _⟩ := h
    rfl
  · obtain ⟨H0, c, r, A, F, T, rfl, B, ok, RO, AC, k⟩ := h
    refine ⟨_, (pss_cons (ps_par (i := 1) (j := 2) rfl sc_Blocks_all_stops.nd rfl rfl (by decide) rfl rfl (pa_cons (pe_lst pa_nil) (pa_cons (pe_mtN0 c_next_stop hr (by decide) (pv 0)) pa_nil)) (by rfl))
        (pss_cons (ps_while PassesOwn.never (pt_cmpR op_notN (pv 2) pe_non (nomark _))
           (pss_cons (ps_expr (pe_bm PySem.F.plainAttrs_list PySem.F.slot_list_append PySem.F.type_list_append mt_append (pv 1) (pa_cons (pv 2) pa_nil)))
           (pss_cons (ps_asg (pv 2) (pg_tup rfl (pgs_cons (pg_name (i := 3) sc_Blocks_all_stops.nd rfl (Or.inl rfl)) (pgs_cons (pg_name (i := 4) sc_Blocks_all_stops.nd rfl (Or.inl rfl)) (pgs_cons (pg_name (i := 5) sc_Blocks_all_stops.nd rfl (Or.inl rfl)) (pgs_cons (pg_name (i := 6) sc_Blocks_all_stops.nd rfl (Or.inl rfl)) pgs_nil))))))
           (pss_cons (ps_expr (pe_mtN c_settle hr (by decide) (pv 0) (pa_cons (pv 4) (pa_cons (pv 5) pa_nil))))
           (pss_one (ps_set (i := 2) sc_Blocks_all_stops.nd rfl (Or.inl rfl) (pe_mtN0 c_next_stop hr (by decide) (pv 0))))))))
        (pss_one (ps_ret (pv 1))))), ?_⟩
    show (_ : TS) _ [some _, none, none, none, none, none, none] _
    have hfew := ok.few
    walk_at "w"
    intro D hD
    have S1 : Same H (upd H D (.lst [])) := Same.new hD
    have B1 := B.same S1
    have hx1 := B1.hx
    have hDl : D ≠ A.l := (ne_of_none B.hl hD).symm
    have hDf : D ≠ A.fl := (ne_of_none B.hf hD).symm
    have hD0 : H0 D = none := none_back B.s0 hD
    have hDd : ∀ i, i < c.n → D ≠ A.d i := fun i hi => (ne_of_none (B.hd i hi) hD).symm
    walk_at "w"
    refine tNil_of ?_
    refine next_of B1 ok RO (fun H1 st hS1 hV => ?_)
    have B2 := B1.same hS1
    have AC2 := AC.same (S1.trans hS1)
    have hD2 := hS1 _ _ (upd_same (H := H) (a := D) (o := .lst []))
    walk_at "w"
    refine ⟨fun m σ H' => Tk (∃ (L : Nat → Option Int) (F : Nat → Tab) (rs : List Addr) (R : List (List Int)) (st : V) (o1 o2 o3 o4 : Option V), σ = [some (.ref A.x), some (.ref D), some st, o1, o2, o3, o4] ∧ m = openN L c.n ∧ BlkAt K CP CB H0 H' c r A L F T ∧ RowsOk c L F ∧ AllCr K CC H' c T ∧ H' D = some (.lst (rs.map V.ref)) ∧ Paired (fun r xs => SqT K H' r xs) rs (R.map (·.map V.int)) ∧ StopV K H' c L st ∧ Sofar c.n c.p L ∧ StopList c.n L R ∧ R.length + openN L c.n ≤ c.n),
      ⟨c.n, tk ⟨fun _ => none, F, [], [], st, none, none, none, none, rfl, (openN_all _).symm, B2, RO, AC2, hD2, .nil, hV, Sofar.start, ⟨fun _ h => (nomatch h), fun _ _ _ h => (nomatch h)⟩, by rw [openN_all]; exact Nat.le_of_eq (Nat.zero_add _)⟩⟩, ?_⟩
    rintro m σ H' ⟨L, F, rs, R, st, o1, o2, o3, o4, rfl, rfl, B3, RO3, AC3, hD3, hP3, hV3, hSo, hSL, hlen⟩
    rcases hV3 with ⟨rfl, hno⟩ | ⟨t, a, b, kk, rfl, hN, ht⟩
    · walk_at "w"
      exact k D H' L R B3.s0 (hSo.end_ hno) ⟨rs, SqL.of hD3, hP3⟩ hSL (by omega)
    · walk_at "w"
      refine ⟨_, fun _ _ n => n, ?_⟩
      walk_at "w"
      refine ⟨tyL hD3, ?_⟩
      walk_at "w"
      have hl2 : rs.length = R.length := by
        have := paired_len hP3
        rw [List.length_map] at this
        exact this
      refine ⟨D, rs.map V.ref, .ref t, rfl, rfl, hD3, ?_, ?_⟩
      · rw [List.length_map]
        exact lt_line (m := c.n) (by omega) (by omega)
      have S4 : SB D H' (upd H' D (.lst (rs.map V.ref ++ [V.ref t]))) := (SB.refl _ _).set
      have hD4 : (upd H' D (.lst (rs.map V.ref ++ [V.ref t]))) D = some (.lst ((rs ++ [t]).map V.ref)) := by
        rw [List.map_append]
        exact upd_same
      generalize upd H' D (.lst (rs.map V.ref ++ [V.ref t])) = H4 at S4 hD4 ⊢
      have B4 := B3.oth S4 hD3 hDl hDf hD0
      have AC4 := AC3.sb S4 hD3 (noTI_lst _)
      have hP4 := S4.paired hD3 (fun _ z => by cases z) (fun _ _ z => by cases z) hP3
      have ht4 := S4.sqtO hD3 (fun _ z => by cases z) (fun _ _ z => by cases z) ht
      have hx4 := B4.hx
      walk_at "w"
      refine ⟨H0, c, r, A, L, F, T, a, kk, rfl, B4, ok, RO3, AC4, hN.ha, hN.k0, fun H5 F' K5 B5 RO5 AC5 => ?_⟩
      have hD5 := K5 _ _ hD4 hDl hDd
      have hP5 := KeepB.paired B4 K5 hP4
      have ht5 := KeepB.sqt B4 K5 ht4
      have hx5 := B5.hx
      walk_at "w"
      refine tNil_of ?_
      refine next_of B5 ok RO5 (fun H6 st' hS6 hV6 => ?_)
      walk_at "w"
      refine ⟨openN (setL L a kk) c.n, openN_lt hN.hL hN.ha, tk ⟨setL L a kk, F', rs ++ [t], R ++ [[(c.p a).day + kk, (a : Int), kk, (b : Int)]], st', _, _, _, _, rfl, rfl, B5.same hS6, RO5, AC5.same hS6, hS6 _ _ hD5, ?_, hV6, hSo.step hN.ha hN.hL hN.least hN.bef, hSL.add hN.ha hN.hb hN.hL hN.k0 hN.k1, ?_⟩⟩
      · rw [List.map_append]
        exact paired_snoc (hS6.paired hP5) (hS6.sqt ht5)
      · rw [List.length_append]
        have := openN_lt (L := L) (k := kk) hN.hL hN.ha
        show R.length + 1 + _ ≤ _
        omega
end
end PK
end
section
set_option Elab.async false
set_option linter.all false
set_option maxRecDepth 100000
set_option maxHeartbeats 4000000
namespace PK
open PySem PySem.Spec PyProof.Rows L2 PM
local macro_rules | `(tactic| walk_at "sd") => `(tactic| (first
  | assumption
  | omega
  | (constructor <;> omega)
  | (refine ⟨by omega, ?_⟩; constructor <;> omega)
  | (constructor <;> (first | assumption | omega | (constructor <;> omega)))))
local macro_rules | `(tactic| walk_at "w") => `(tactic| (repeat (first
  | with_reducible refine ifTT ?_
  | with_reducible refine ifFT ?_
  | with_reducible refine ifnT ?_
  | with_reducible refine ifnF ?_
  | with_reducible refine ifIN ?_
  | with_reducible refine ifNN ?_
  | with_reducible refine ifnIN ?_
  | with_reducible refine ifnNN ?_
  | with_reducible refine ifRN ?_
  | with_reducible refine ifnRN ?_
  | ((fail_if_success with_reducible refine iteB ?_ ?_); first
    | refine ⟨_, rfl, ?_⟩
    | refine ⟨_, _, rfl, rfl, ?_⟩
    | refine ⟨_, _, rfl, ?_⟩
    | refine And.intro (a := (_ : Nat) ≤ sizeLine) (by first | exact len_small (m := 2) rfl | exact len_small (m := 1) rfl | exact len_small (m := 4) rfl | exact len_small (m := 3) rfl | exact len_small (m := 0) rfl) ?_
    | refine ⟨rfl, ?_⟩
    | refine And.intro (a := CDivP _ _) (by walk_at "sd") ?_
    | refine And.intro (a := CDivB _ _) (by walk_at "sd") ?_
    | refine And.intro (a := CMulB _ _) (by walk_at "sd") ?_
    | refine And.intro (a := _ ≠ (0 : Int)) (by walk_at "sd") ?_
    | refine And.intro (a := (0 : Int) < _) (by walk_at "sd") ?_
    | refine ⟨_, _, rfl, ‹_›, rfl, ?_⟩
    | refine ⟨_, _, _, _, rfl, rfl, ‹_›, rfl, ?_⟩
    | refine ⟨_, _, _, _, rfl, rfl, by assumption, by assumption, ?_⟩
    | refine ⟨_, _, _, _, _, _, rfl, ‹_›, ‹_›, rfl, ?_⟩
    | refine ⟨_, _, _, _, _, _, rfl, ‹_›, (by exact KCls.f ‹_› rfl), (by rfl), ?_⟩
    | refine ⟨_, _, _, _, _, _, rfl, upd_same, ‹_›, (by rfl), ?_⟩
    | refine ⟨_, _, _, _, _, _, rfl, ‹_›, ‹Cls _ _›, ‹_›, rfl, ?_⟩
    | refine ⟨_, _, _, _, rfl, ‹_›, by decide +kernel, ?_⟩
    | refine ⟨_, _, _, rfl, ‹_›, ?_⟩
    | refine And.intro (by assumption) ?_))))
section
variable {P : Program} {w : World} {K : PySem.W.Frag} {mg : Str → Option Value} {base : Heap} {CP CF CC CB : Addr}
theorem lt_line' {n m : Nat} (e : n ≤ m) (h : m < 10000 := by decide) : n < sizeLine := Nat.lt_of_le_of_lt e (Nat.lt_of_lt_of_le h (by decide))
abbrev LN : Nat → Option Int := fun _ => none
structure PairOk (K : PySem.W.Frag) (CC : Addr) (H : Hp) (c : Crew) (T : List (List Key × V)) (F : Nat → Tab) (a b : Nat) : Prop where
  cr : ∃ cr, valV T [jK a, jK b] = some (.ref cr) ∧ CrAt K CC H cr (c.p a) (c.p b)
  val : FVal c.p LN (F a) a b
theorem PairOk.same {H H' : Hp} {c : Crew} {T : List (List Key × V)} {F : Nat → Tab} {a b : Nat} (q : PairOk K CC H c T F a b) (h : Same H H') : PairOk K CC H' c T F a b := by
  obtain ⟨⟨cr, h1, h2⟩, v⟩ := q
  exact ⟨⟨cr, h1, h2.same h⟩, v⟩
/-- a new crossing is told -/
theorem BlkAt.cross {H0 H : Hp} {c : Crew} {r : Nat → Addr} {A : BA} {L : Nat → Option Int} {F : Nat → Tab} {T T' : List (List Key × V)} (B : BlkAt K CP CB H0 H c r A L F T) : BlkAt K CP CB H0 (upd H A.cd (.dT T')) c r A L F T' := by
  have e : SB A.cd H (upd H A.cd (.dT T')) := (SB.refl _ _).set
  have ho := B.hk
  have no := noTI_dT T
  exact ⟨e _ _ B.hx (ne_of B.hx ho (no.n3 _ _ _)), e.sqtO ho no.n1 no.n2 B.ht, fun i hi => e.pn ho no (B.hc i hi), e _ _ B.hl (ne_of B.hl ho (by intro z; cases z)), e _ _ B.hf (ne_of B.hf ho (by intro z; cases z)), fun i hi => e _ _ (B.hd i hi) (ne_of (B.hd i hi) ho (by intro z; cases z)), upd_same, B.ne, B.dd, fun b o h => e _ _ (B.s0 _ _ h) (ne_of_none h B.nk), B.nl, B.nd, B.nk⟩
def spBlocksInit (K : PySem.W.Frag) (CP CC CB : Addr) : Sp := fun vs H Q _ => ∃ (H0 : Hp) (x dx t : Addr) (c : Crew) (r : Nat → Addr), vs = [.ref x, .ref t] ∧ H x = some (.ins CB dx []) ∧ SB x H0 H ∧ H0 x = none ∧ SqT K H t (refsV r c.n) ∧ CrewAt K CP H c r ∧ c.Ok
  ∧ ∀ H' A F T, A.x = x → BlkAt K CP CB H0 H' c r A LN F T → RowsOk c LN F → AllCr K CC H' c T → Q .non H'
theorem sc_Blocks___init__ : FnScope ["self", "painters", "painter", "place", "other_place", "other"] ["self", "painters"] (defScope s_Blocks___init__) := C8.fnScope_by (by decide +kernel)
theorem ok_Blocks {f : Addr} (kc : KCls K CB bkN) (M : Mk K CB f) (hm : mg "Blocks" = some (.ref CB)) (F : DF K "__init__" "Blocks.__init__" s_Blocks___init__ f) (c_crossing : C8.Met P w K mg base 4 CB "crossing" (spCrossing K CP CC CB) []) (c_look : C8.Met P w K mg base 4 CB "look" (spLook K CP CC CB) []) (n_enumerate : mg "enumerate" = none) :
    C8.Mak P w K mg base 5 "Blocks" CB (spBlocksInit K CP CC CB) [] := by
  refine mak_of M hm F sc_Blocks___init__ (fun _ _ _ _ _ _ us hl => match us, hl with | [_, _], _ => rfl) (fun vs H Q E h => ?_) (fun cdv A_ outer s H vs Q E hr h => ?_)
  · obtain ⟨H0, x, dx, t, c, r, rfl, _⟩ := h
    rfl
  · obtain ⟨H0, x, dx, t, c, r, rfl, hx, hs0, nx0, ht, hc, ok, k⟩ := h
    have hu := units1 hr
    refine ⟨_, (pss_cons (ps_fldN (pv 0) (pv 1) rfl)
        (pss_cons (ps_fldN (pv 0) (pe_lc (own := [("painter", 2)]) rfl sc_Blocks___init__.nd (pi_tup (pv 1)) (blkOk_by (N := ["self", "painters", "painter", "place", "other_place", "other"]) (sc := defScope s_Blocks___init__) (own := [("painter", 2)]) (by decide +kernel)) (fun _ _ _ _ _ => (pg_name (i := 2) sc_Blocks___init__.nd rfl (Or.inl rfl))) (fun _ _ _ _ _ => pts_nil) (fun _ _ _ _ _ => pe_non)) rfl)
        (pss_cons (ps_fldN (pv 0) (pe_lc (own := [("painter", 2)]) rfl sc_Blocks___init__.nd (pi_tup (pv 1)) (blkOk_by (N := ["self", "painters", "painter", "place", "other_place", "other"]) (sc := defScope s_Blocks___init__) (own := [("painter", 2)]) (by decide +kernel)) (fun _ _ _ _ _ => (pg_name (i := 2) sc_Blocks___init__.nd rfl (Or.inl rfl))) (fun _ _ _ _ _ => pts_nil) (fun _ _ _ _ _ => pe_dnewK)) rfl)
        (pss_cons (ps_fldN (pv 0) pe_dnewT rfl)
        (pss_one (ps_for PassesOwn.never rfl (pi_enumT (by rfl) n_enumerate (pa_cons (pv 1) pa_nil)) (pg_tup rfl (pgs_cons (pg_name (i := 3) sc_Blocks___init__.nd rfl (Or.inl rfl)) (pgs_cons (pg_name (i := 2) sc_Blocks___init__.nd rfl (Or.inl rfl)) pgs_nil)))
          (pss_one (ps_for PassesOwn.never rfl (pi_enumT (by rfl) n_enumerate (pa_cons (pv 1) pa_nil)) (pg_tup rfl (pgs_cons (pg_name (i := 4) sc_Blocks___init__.nd rfl (Or.inl rfl)) (pgs_cons (pg_name (i := 5) sc_Blocks___init__.nd rfl (Or.inl rfl)) pgs_nil)))
            (pss_one (ps_if (pt_cmpR op_ne (pv 4) (pv 3) (nomark _)) (pss_cons (ps_dput hu (pe_fldN 3 (pv 0) rfl) (pe_tup (pa_cons (pv 3) (pa_cons (pv 4) pa_nil))) (pe_mtN c_crossing hr (by decide) (pv 0) (pa_cons (pv 2) (pa_cons (pv 5) pa_nil))) rfl)
              (pss_one (ps_expr (pe_mtN c_look hr (by decide) (pv 0) (pa_cons (pv 3) (pa_cons (pv 4) pa_nil))))))
              pss_nil)))))))))), ?_⟩
    show (_ : TS) _ [some _, some _, none, none, none, none] _
    have hfew := ok.few
    have g0 : GOk K CB [] "walkers" := kc.g (i := 0) rfl
    have g1 : GOk K CB ["walkers"] "limits" := kc.g (i := 1) rfl
    have g2 : GOk K CB ["walkers", "limits"] "firsts" := kc.g (i := 2) rfl
    have g3 : GOk K CB ["walkers", "limits", "firsts"] "crossings" := kc.g (i := 3) rfl
    have hne : ∀ i, i < c.n → r i ≠ x := fun i hi => by
      obtain ⟨d1, t1, h1, _⟩ := hc i hi
      exact ne_of h1 hx (by intro z; injection z with z1 z2 z3; cases z3)
    walk_at "w"
    refine ⟨x, CB, dx, [], [], rfl, hx, g0, rfl, ?_⟩
    generalize hH1 : upd H x (.ins CB dx ((([] : List Str) ++ [("walkers" : Str)]).zip (([] : List V) ++ [V.ref t]))) = H1
    have SB1 : SB x H H1 := hH1 ▸ (SB.refl _ _).set
    have hx1 : H1 x = some (.ins CB dx ([("walkers" : Str)].zip [V.ref t])) := by rw [← hH1]; exact upd_same
    have ht1 := SB1.sqt hx ht
    walk_at "w"
    refine ⟨⟨_, ht1⟩, fun l hl => ?_⟩
    refine lc_acc walk_tup hl (by rw [firsts_len]; omega) (fun i acc _ => acc = firsts (fun _ => optV none) i) rfl (fun i acc H' e _ => e.sqt ht1) ?_ ?_
    · rintro i v acc H2 H3 Nx hi hS2 hD2 rfl ⟨rfl, hz⟩ fin _
      walk_at "w"
      exact fin _ _ hD2 hS2 (firsts_succ _ _).symm
    rintro acc H2 hS2 hl2 rfl
    rw [firsts_len] at hl2
    have SB2 := SB1.same hS2
    have hx2 := hS2 _ _ hx1
    walk_at "w"
    refine ⟨x, CB, dx, ["walkers"], [V.ref t], rfl, hx2, g1, rfl, ?_⟩
    generalize hH3 : upd H2 x (.ins CB dx (([("walkers" : Str)] ++ [("limits" : Str)]).zip ([V.ref t] ++ [V.ref l]))) = H3
    have SB3 : SB x H H3 := hH3 ▸ SB2.set
    have hx3 : H3 x = some (.ins CB dx ([("walkers" : Str), "limits"].zip [V.ref t, .ref l])) := by rw [← hH3]; exact upd_same
    have hlx : l ≠ x := ne_of hl2 hx2 (by intro z; cases z)
    have hl3 : H3 l = some (.lst (firsts (fun _ => optV none) c.n)) := by rw [← hH3, upd_ne hlx]; exact hl2
    have ht3 := SB3.sqt hx ht
    walk_at "w"
    refine ⟨⟨_, ht3⟩, fun fl hfl => ?_⟩
    refine lc_acc walk_tup hfl (by rw [firsts_len]; omega) (fun i acc H' => Tk (∃ d : Nat → Addr, acc = refsV d i ∧ (∀ j, j < i → H' (d j) = some (.dK [])) ∧ (∀ j, j < i → H3 (d j) = none) ∧ ∀ a b, a < i → b < i → d a = d b → a = b)) (tk ⟨fun _ => x, rfl, fun j h => absurd h (Nat.not_lt_zero _), fun j h => absurd h (Nat.not_lt_zero _), fun a b h => absurd h (Nat.not_lt_zero _)⟩) (fun i acc H' e _ => e.sqt ht3) ?_ ?_
    · rintro i v acc H4 H5 Nx hi hS4 hD4 ⟨d, rfl, hd1, hd2, hd3⟩ ⟨rfl, hz⟩ fin _
      walk_at "w"
      intro p hp
      have S5 := Same.new (o := .dK []) hp
      have hDp : p ≠ fl := (ne_of_none hD4 hp).symm
      refine fin _ _ (S5 _ _ hD4) (hS4.trans S5) (tk ⟨fun j => if j = i then p else d j, ?_, fun j hj => ?_, fun j hj => ?_, fun a b ha hb e => ?_⟩)
      · have e1 : firsts (fun j => V.ref (if j = i then p else d j)) i = refsV d i := firsts_congr fun j hj => by rw [if_neg (by omega)]
        show _ = firsts (fun j => V.ref (if j = i then p else d j)) (i + 1)
        rw [firsts_succ, e1, if_pos rfl]
      · show upd _ fl _ (if j = i then p else d j) = _
        by_cases q : j = i
        · rw [if_pos q, upd_ne hDp, upd_same]
        · have := hd1 j (by omega)
          rw [if_neg q, upd_ne (ne_of this hD4 (by intro z; cases z)), upd_ne (ne_of_none this hp)]
          exact this
      · show H3 (if j = i then p else d j) = none
        by_cases q : j = i
        · rw [if_pos q]
          exact none_back hS4 hp
        · rw [if_neg q]
          exact hd2 j (by omega)
      · have e : (if a = i then p else d a) = (if b = i then p else d b) := e
        by_cases qa : a = i
        · by_cases qb : b = i
          · omega
          · rw [if_pos qa, if_neg qb] at e
            exact absurd e.symm (ne_of_none (hd1 b (by omega)) hp)
        · by_cases qb : b = i
          · rw [if_neg qa, if_pos qb] at e
            exact absurd e (ne_of_none (hd1 a (by omega)) hp)
          · rw [if_neg qa, if_neg qb] at e
            exact hd3 a b (by omega) (by omega) e
    rintro acc H4 hS4 hfl4 ⟨d, rfl, hd1, hd2, hd3⟩
    rw [firsts_len] at hfl4 hd1 hd2 hd3
    have SB4 := SB3.same hS4
    have hx4 := hS4 _ _ hx3
    have hl4 := hS4 _ _ hl3
    walk_at "w"
    refine ⟨x, CB, dx, ["walkers", "limits"], [V.ref t, .ref l], rfl, hx4, g2, rfl, ?_⟩
    generalize hH5 : upd H4 x (.ins CB dx (([("walkers" : Str), ("limits" : Str)] ++ [("firsts" : Str)]).zip ([V.ref t, .ref l] ++ [V.ref fl]))) = H5
    have SB5 : SB x H H5 := hH5 ▸ SB4.set
    have SB45 : SB x H4 H5 := hH5 ▸ (SB.refl _ _).set
    have hx5 : H5 x = some (.ins CB dx ([("walkers" : Str), "limits", "firsts"].zip [V.ref t, .ref l, .ref fl])) := by rw [← hH5]; exact upd_same
    have hl5 := SB45 _ _ hl4 hlx
    have hfx : fl ≠ x := ne_of hfl4 hx4 (by intro z; cases z)
    have hfl5 := SB45 _ _ hfl4 hfx
    have hd5 : ∀ j, j < c.n → H5 (d j) = some (.dK []) := fun j hj => SB45 _ _ (hd1 j hj) (ne_of (hd1 j hj) hx4 (by intro z; cases z))
    walk_at "w"
    intro cd hcd
    walk_at "w"
    have S6 := Same.new (H := H5) (o := .dT []) hcd
    refine ⟨x, CB, dx, ["walkers", "limits", "firsts"], [V.ref t, .ref l, .ref fl], rfl, S6 _ _ hx5, g3, rfl, ?_⟩
    have hcx : cd ≠ x := (ne_of_none hx5 hcd).symm
    generalize hH7 : upd (upd H5 cd (.dT [])) x (.ins CB dx (([("walkers" : Str), ("limits" : Str), ("firsts" : Str)] ++ [("crossings" : Str)]).zip ([V.ref t, .ref l, .ref fl] ++ [V.ref cd]))) = H7
    have SB7 : SB x H H7 := hH7 ▸ (SB5.same S6).set
    have SB57 : SB x H5 H7 := hH7 ▸ (SB.of S6).set
    have hcd7 : H7 cd = some (.dT []) := by rw [← hH7, upd_ne hcx]; exact upd_same
    have Bk : BlkAt K CP CB H0 H7 c r ⟨x, dx, t, l, fl, cd, d⟩ LN (fun _ => []) [] := by
      refine ⟨by rw [← hH7]; exact upd_same, SB7.sqt hx ht, fun i hi => (hc i hi).sb SB7 hx (hne i hi), SB57 _ _ hl5 hlx, SB57 _ _ hfl5 hfx, fun i hi => SB57 _ _ (hd5 i hi) (ne_of (hd5 i hi) hx5 (by intro z; cases z)), hcd7, fun z => ?_, hd3, fun b o h => ?_, ?_, fun i hi => ?_, ?_⟩
      · have z : l = fl := z
        rw [z] at hl3
        rw [hl3] at hfl
        cases hfl
      · exact SB7 _ _ (hs0 _ _ h (ne_of_none h nx0)) (ne_of_none h nx0)
      · cases e : H0 l with
        | none => first | rfl | exact e
        | some o => rw [SB1 _ _ (hs0 _ _ e (ne_of_none e nx0)) (ne_of_none e nx0)] at hl; cases hl
      · cases e : H0 (d i) with
        | none => first | rfl | exact e
        | some o =>
          have := hd2 i hi
          rw [SB3 _ _ (hs0 _ _ e (ne_of_none e nx0)) (ne_of_none e nx0)] at this
          cases this
      · cases e : H0 cd with
        | none => first | rfl | exact e
        | some o =>
          rw [SB5 _ _ (hs0 _ _ e (ne_of_none e nx0)) (ne_of_none e nx0)] at hcd
          cases hcd
    walk_at "w"
    refine ⟨_, _, rfl, Bk.ht, ?_⟩
    refine for_it (walk_enumT (xs := refsV r c.n)) (fun i σ H' => Tk (∃ (F : Nat → Tab) (T : List (List Key × V)) (o1 o2 o3 o4 : Option V), σ = [some (.ref x), some (.ref t), o1, o2, o3, o4] ∧ BlkAt K CP CB H0 H' c r ⟨x, dx, t, l, fl, cd, d⟩ LN F T ∧ T.length ≤ i * 40 ∧ (∀ a, a < c.n → FRow c.n a (F a)) ∧ ∀ a b, a < c.n → b < c.n → b ≠ a → a < i → PairOk K CC H' c T F a b))
      (tk ⟨fun _ => [], [], none, none, none, none, rfl, Bk, Nat.zero_le _, fun _ _ => FRow.nil, fun a b _ _ _ h => absurd h (Nat.not_lt_zero _)⟩) (fun i σ H' _ p => ?_) ?_ ?_
    · obtain ⟨F', T, _, _, _, _, _, B', _⟩ := p.h
      exact B'.ht
    · rintro i v σ H8 H9 hi ⟨F1, T1, o1, o2, o3, o4, rfl, B1, hT1, R1, P1⟩ ⟨q, y, z, rfl, hq, rfl, hy, hz⟩
      obtain ⟨hi, rfl⟩ := firsts_at hz
      injection hy with hy
      subst hy
      refine ⟨_, _, rfl, SqT.of upd_same, rfl, ?_⟩
      have S9 : Same H8 (upd H8 q (.tup [.int (i : Nat), .ref (r i)])) := Same.new hq
      generalize hH9 : upd H8 q (.tup [.int (i : Nat), .ref (r i)]) = H9 at S9 ⊢
      have B2 := B1.same S9
      walk_at "w"
      refine ⟨_, _, rfl, B2.ht, ?_⟩
      refine for_it (walk_enumT (xs := refsV r c.n)) (fun j σ H' => Tk (∃ (F : Nat → Tab) (T : List (List Key × V)) (o3 o4 : Option V), σ = [some (.ref x), some (.ref t), some (.ref (r i)), some (.int (i : Nat)), o3, o4] ∧ BlkAt K CP CB H0 H' c r ⟨x, dx, t, l, fl, cd, d⟩ LN F T ∧ T.length ≤ i * 40 + j ∧ (∀ a, a < c.n → FRow c.n a (F a)) ∧ ∀ a b, a < c.n → b < c.n → b ≠ a → (a < i ∨ (a = i ∧ b < j)) → PairOk K CC H' c T F a b))
        (tk ⟨F1, T1, o3, o4, rfl, B2, by omega, R1, fun a b ha hb ne h => (P1 a b ha hb ne (by omega)).same S9⟩) (fun i σ H' _ p => ?_) ?_ ?_
      · obtain ⟨F', T, _, _, _, B', _⟩ := p.h
        exact B'.ht
      · rintro j v σ H10 H11 hj ⟨F2, T2, o3, o4, rfl, B3, hT2, R2, P2⟩ ⟨q2, y, z, rfl, hq2, rfl, hy, hz⟩
        obtain ⟨hj, rfl⟩ := firsts_at hz
        injection hy with hy
        subst hy
        refine ⟨_, _, rfl, SqT.of upd_same, rfl, ?_⟩
        have S11 : Same H10 (upd H10 q2 (.tup [.int (j : Nat), .ref (r j)])) := Same.new hq2
        generalize hH11 : upd H10 q2 (.tup [.int (j : Nat), .ref (r j)]) = H11 at S11 ⊢
        have B4 := B3.same S11
        have hx11 := B4.hx
        walk_at "w"
        refine iteND (fun hc => ?_) (fun hc => ?_)
        · have ne : j ≠ i := fun z => hc (by rw [z])
          walk_at "w"
          refine ⟨x, dx, r i, r j, [], [], c.nm i, c.nm j, c.p i, c.p j, rfl, B4.hc i hi, B4.hc j hj, ok.pts i hi, ok.pts j hj, fun cx H12 hS12 hC => ?_⟩
          have B5 := B4.same hS12
          have hx12 := B5.hx
          walk_at "w"
          intro q3 hq3
          have S13 : Same H12 (upd H12 q3 (.tup [.int (i : Nat), .int (j : Nat)])) := Same.new hq3
          have hk13 : (upd H12 q3 (.tup [.int (i : Nat), .int (j : Nat)])) q3 = some (.tup ([jK i, jK j].map kV)) := upd_same
          generalize upd H12 q3 (.tup [.int (i : Nat), .int (j : Nat)]) = H13 at S13 hk13 ⊢
          have B6 := B5.same S13
          have P6 := fun a b ha hb ne h => ((P2 a b ha hb ne h).same S11).same (hS12.trans S13)
          have hlen : T2.length < sizeLine := lt_line' (m := 1700) (by
            have : i * 40 ≤ 39 * 40 := Nat.mul_le_mul_right 40 (by omega)
            omega)
          refine ⟨cd, _, rfl, DPut.t (k := [jK i, jK j]) B6.hk hk13 hlen, ?_⟩
          have B7 := B6.cross (T' := putK T2 [jK i, jK j] (.ref cx))
          have S14 : SB cd H13 (upd H13 cd (.dT (putK T2 [jK i, jK j] (.ref cx)))) := (SB.refl _ _).set
          have hC7 := S14.cr B6.hk (noTI_dT _) (hC.same S13)
          generalize upd H13 cd (.dT (putK T2 [jK i, jK j] (.ref cx))) = H14 at B7 S14 hC7 ⊢
          have hx14 := B7.hx
          have key : ∀ {a b : Nat}, [jK a, jK b] = [jK i, jK j] → a = i ∧ b = j := fun {a b} z => by
            injection z with z1 z2
            injection z2 with z2 z3
            exact ⟨jK_inj z1, jK_inj z2⟩
          walk_at "w"
          refine ⟨H0, c, r, ⟨x, dx, t, l, fl, cd, d⟩, LN, F2, putK T2 [jK i, jK j] (.ref cx), i, j, cx, rfl, B7, ok, hi, hj, ne, R2 i hi, by rw [valV_put, if_pos rfl], hC7, fun z hz => (nomatch hz), fun H15 kvs e hd R V O => ?_⟩
          refine tk ⟨setF F2 i kvs, _, _, _, rfl, B7.row hi e hd, ?_, fun a ha => ?_, fun a b ha hb ne' q => ?_⟩
          · have := length_putK T2 [jK i, jK j] (L2.V.ref cx)
            omega
          · unfold setF
            by_cases z : a = i
            · rw [if_pos z, z]
              exact R
            · rw [if_neg z]
              exact R2 a ha
          · by_cases e2 : a = i ∧ b = j
            · obtain ⟨rfl, rfl⟩ := e2
              refine ⟨⟨cx, by rw [valV_put, if_pos rfl], e.cr (B7.hd _ hi) (noTI_dK _) hC7⟩, ?_⟩
              unfold setF
              rw [if_pos rfl]
              exact V
            · obtain ⟨⟨cr, h1, h2⟩, v⟩ := P6 a b ha hb ne' (by omega)
              refine ⟨⟨cr, by rw [valV_put, if_neg fun z => e2 (key z)]; exact h1, e.cr (B7.hd _ hi) (noTI_dK _) (S14.cr B6.hk (noTI_dT _) h2)⟩, ?_⟩
              unfold setF
              by_cases z : a = i
              · rw [if_pos z]
                subst z
                exact v.congr rfl (O b (fun z => e2 ⟨rfl, z⟩))
              · rw [if_neg z]
                exact v
        · have e : j = i := by
            injection hc with hc
            omega
          walk_at "w"
          exact tk ⟨F2, T2, _, _, rfl, B4, by omega, R2, fun a b ha hb ne h => (P2 a b ha hb ne (by omega)).same S11⟩
      · rintro σ H10 ⟨F2, T2, o3, o4, rfl, B3, hT2, R2, P2⟩
        rw [firsts_len] at hT2 P2
        exact tk ⟨F2, T2, _, _, _, _, rfl, B3, by omega, R2, fun a b ha hb ne h => P2 a b ha hb ne (by omega)⟩
    · rintro σ H8 ⟨F1, T1, o1, o2, o3, o4, rfl, B1, hT1, R1, P1⟩
      rw [firsts_len] at P1
      refine k H8 ⟨x, dx, t, l, fl, cd, d⟩ F1 T1 rfl B1 ⟨R1, fun i hi _ j hj ne => (P1 i j hi hj ne hi).val⟩ ⟨fun a b ha hb ne => (P1 a b ha hb ne ha).cr⟩
end
end PK
end
section
set_option Elab.async false
set_option linter.all false
set_option maxRecDepth 100000
set_option maxHeartbeats 4000000
namespace PK
open PySem PySem.Spec PyProof.Rows L2 PM
local macro_rules | `(tactic| walk_at "sd") => `(tactic| (first
  | assumption
  | omega
  | (constructor <;> omega)
  | (refine ⟨by omega, ?_⟩; constructor <;> omega)
  | (constructor <;> (first | assumption | omega | (constructor <;> omega)))))
local macro_rules | `(tactic| walk_at "w") => `(tactic| (repeat (first
  | with_reducible refine ifTT ?_
  | with_reducible refine ifFT ?_
  | with_reducible refine ifnT ?_
  | with_reducible refine ifnF ?_
  | with_reducible refine ifIN ?_
  | with_reducible refine ifNN ?_
  | with_reducible refine ifnIN ?_
  | with_reducible refine ifnNN ?_
  | with_reducible refine ifRN ?_
  | with_reducible refine ifnRN ?_
  | ((fail_if_success with_reducible refine iteB ?_ ?_); first
    | refine ⟨_, rfl, ?_⟩
    | refine ⟨_, _, rfl, rfl, ?_⟩
    | refine ⟨_, _, rfl, ?_⟩
    | refine And.intro (a := (_ : Nat) ≤ sizeLine) (by first | exact len_small (m := 2) rfl | exact len_small (m := 1) rfl | exact len_small (m := 4) rfl | exact len_small (m := 3) rfl | exact len_small (m := 0) rfl) ?_
    | refine ⟨rfl, ?_⟩
    | refine And.intro (a := CDivP _ _) (by walk_at "sd") ?_
    | refine And.intro (a := CDivB _ _) (by walk_at "sd") ?_
    | refine And.intro (a := CMulB _ _) (by walk_at "sd") ?_
    | refine And.intro (a := _ ≠ (0 : Int)) (by walk_at "sd") ?_
    | refine And.intro (a := (0 : Int) < _) (by walk_at "sd") ?_
    | refine ⟨_, _, rfl, ‹_›, rfl, ?_⟩
    | refine ⟨_, _, _, _, rfl, rfl, ‹_›, rfl, ?_⟩
    | refine ⟨_, _, _, _, rfl, rfl, by assumption, by assumption, ?_⟩
    | refine ⟨_, _, _, _, _, _, rfl, ‹_›, ‹_›, rfl, ?_⟩
    | refine ⟨_, _, _, _, _, _, rfl, ‹_›, (by exact KCls.f ‹_› rfl), (by rfl), ?_⟩
    | refine ⟨_, _, _, _, _, _, rfl, upd_same, ‹_›, (by rfl), ?_⟩
    | refine ⟨_, _, _, _, _, _, rfl, ‹_›, ‹Cls _ _›, ‹_›, rfl, ?_⟩
    | refine ⟨_, _, _, _, rfl, ‹_›, by decide +kernel, ?_⟩
    | refine ⟨_, _, _, rfl, ‹_›, ?_⟩
    | refine And.intro (by assumption) ?_))))
section
variable {P : Program} {w : World} {K : PySem.W.Frag} {mg : Str → Option Value} {base : Heap} {CP CF CC CB CH : Addr}
/-! ### histories -/
abbrev hiN : List Str := ["painted", "limits", "halts"]
abbrev nK (z : Str) : Key := Sum.inr z
structure LimOk (c : Crew) (L : Nat → Option Int) : Prop where
  hist : IsHist c.n c.p L
  nn : ∀ a k, a < c.n → L a = some k → 0 ≤ k ∧ k ≤ 10 ^ 60
def HiAt (K : PySem.W.Frag) (CP CF CH : Addr) (H : Hp) (x f : Addr) (c : Crew) (r : Nat → Addr) (L : Nat → Option Int) : Prop := ∃ (dx ld hd : Addr) (kvs : Tab), H x = some (.ins CH dx (hiN.zip [.ref f, .ref ld, .ref hd])) ∧ FnAt K CP CF H f c r ∧ H ld = some (.dK kvs) ∧ ∀ i, i < c.n → valV kvs (nK (c.nm i)) = some (optV (L i))
theorem HiAt.same {H H' : Hp} {x f : Addr} {c : Crew} {r : Nat → Addr} {L : Nat → Option Int} (e : Same H H') (h : HiAt K CP CF CH H x f c r L) : HiAt K CP CF CH H' x f c r L := by
  obtain ⟨dx, ld, hd, kvs, h1, h2, h3, h4⟩ := h
  exact ⟨dx, ld, hd, kvs, e _ _ h1, h2.same e, e _ _ h3, h4⟩
theorem FnAt.sb {H H' : Hp} {x f : Addr} {c : Crew} {r : Nat → Addr} {C dx : Addr} (h : SB x H H') (hx : H x = some (.ins C dx [])) (q : FnAt K CP CF H f c r) : FnAt K CP CF H' f c r := by
  obtain ⟨dy, t, d, h1, h2, h3, h4⟩ := q
  have nf : ∀ {a C' d' : Addr} {n : Str} {ns : List Str} {v : V} {vs : List V}, H a = some (.ins C' d' ((n :: ns).zip (v :: vs))) → a ≠ x := fun e => ne_of e hx (by intro z; injection z with z1 z2 z3; cases z3)
  refine ⟨dy, t, d, h _ _ h1 (nf h1), h.sqt hx h2, fun i hi => ?_, h _ _ h4 (ne_of h4 hx (by intro z; cases z))⟩
  obtain ⟨d1, t1, e1, e2⟩ := h3 i hi
  exact ⟨d1, t1, h _ _ e1 (nf e1), h.sqt hx e2⟩
theorem SB.fn {H H' : Hp} {x f : Addr} {c : Crew} {r : Nat → Addr} {kvs : Tab} (h : SB x H H') (hx : H x = some (.dK kvs)) (q : FnAt K CP CF H f c r) (ne : ∀ dy t d, H f = some (.ins CF dy (feN.zip [.ref t, .ref d])) → d ≠ x) : FnAt K CP CF H' f c r := by
  have no := noTI_dK kvs
  obtain ⟨dy, t, d, h1, h2, h3, h4⟩ := q
  exact ⟨dy, t, d, h _ _ h1 (ne_of h1 hx (no.n3 _ _ _)), h.sqtO hx no.n1 no.n2 h2, fun i hi => h.pn hx no (h3 i hi), h _ _ h4 (ne _ _ _ h1)⟩
theorem SB.sqlO {x a : Addr} {H H' : Hp} {xs : List V} {o : HO} (h : SB x H H') (hx : H x = some o) (n1 : ∀ xs, HO.lst xs ≠ o) (n2 : ∀ od xs, HO.frz od (.lst xs) ≠ o) (q : SqL K H a xs) : SqL K H' a xs := by
  rcases q with (q | ⟨od, q⟩) | q
  · exact .inl (.inl (h _ _ q (ne_of q hx (n1 _))))
  · exact .inl (.inr ⟨od, h _ _ q (ne_of q hx (n2 _ _))⟩)
  · exact .inr q
theorem SB.putN {x l : Addr} {H H' : Hp} {o : HO} (h : SB x H H') (hl : H l = none) : SB x H (upd H' l o) := fun b u e n => by
  rw [upd_ne (ne_of_none e hl)]
  exact h b u e n
def spHistoryInit (K : PySem.W.Frag) (CP CF CH : Addr) : Sp := fun vs H Q _ => ∃ (x dx f : Addr) (c : Crew) (r : Nat → Addr), vs = [.ref x, .ref f] ∧ H x = some (.ins CH dx []) ∧ FnAt K CP CF H f c r ∧ c.Ok
  ∧ ∀ H' L, SB x H H' → HiAt K CP CF CH H' x f c r L → LimOk c L → Q .non H'
theorem sc_History___init__ : FnScope ["self", "fence", "stops", "day", "place", "count", "blocker", "painter", "name"] ["self", "fence"] (defScope s_History___init__) := C8.fnScope_by (by decide +kernel)
theorem ok_History {f : Addr} (kc : KCls K CH hiN) (M : Mk K CH f) (hm : mg "History" = some (.ref CH)) (F : DF K "__init__" "History.__init__" s_History___init__ f) (c_Blocks : C8.Mak P w K mg base 5 "Blocks" CB (spBlocksInit K CP CC CB) []) (c_all_stops : C8.Met P w K mg base 6 CB "all_stops" (spAllStops K CP CC CB) [])
    (c_names : Prp P w K mg base 1 CF "names" (spNames K CP CF)) (c_painters : Prp P w K mg base 1 CF "painters" (spPainters K CP CF)) (c_name : Prp P w K mg base 1 CP "name" (spG_name K CP)) (c_post_after : C8.Met P w K mg base 4 CP "post_after" (spPostAfter K CP) []) :
    C8.Mak P w K mg base 7 "History" CH (spHistoryInit K CP CF CH) [] := by
  refine mak_of M hm F sc_History___init__ (fun _ _ _ _ _ _ us hl => match us, hl with | [_, _], _ => rfl) (fun vs H Q E h => ?_) (fun cdv A_ outer s H vs Q E hr h => ?_)
  · obtain ⟨x, dx, f, c, r, rfl, _⟩ := h
    rfl
  · obtain ⟨x, dx, f, c, r, rfl, hx, hF, ok, k⟩ := h
    have hu := units1 hr
    refine ⟨_, (pss_cons (ps_fldN (pv 0) (pv 1) rfl)
        (pss_cons (ps_fldN (pv 0) (pe_dc (own := [("name", 8)]) rfl sc_History___init__.nd (pi_tup (pe_pr c_names hr (by decide) (pv 1) rfl)) (blkOk_by (N := ["self", "fence", "stops", "day", "place", "count", "blocker", "painter", "name"]) (sc := defScope s_History___init__) (own := [("name", 8)]) (by decide +kernel)) (fun _ _ _ _ _ => (pg_name (i := 8) sc_History___init__.nd rfl (Or.inl rfl))) (fun _ _ _ _ _ => pts_nil) (fun _ _ _ _ _ => (pv 8)) (fun _ _ _ _ _ => pe_non)) rfl)
        (pss_cons (ps_fldN (pv 0) pe_dnewK rfl)
        (pss_cons (ps_set (i := 2) sc_History___init__.nd rfl (Or.inl rfl) (pe_mtN0 c_all_stops hr (by decide) (C8.pe_mk c_Blocks hr (by decide) rfl (pa_cons (pe_pr c_painters hr (by decide) (pv 1) rfl) pa_nil))))
        (pss_one (ps_for PassesOwn.never rfl (pi_list (pv 2)) (pg_tup rfl (pgs_cons (pg_name (i := 3) sc_History___init__.nd rfl (Or.inl rfl)) (pgs_cons (pg_name (i := 4) sc_History___init__.nd rfl (Or.inl rfl)) (pgs_cons (pg_name (i := 5) sc_History___init__.nd rfl (Or.inl rfl)) (pgs_cons (pg_name (i := 6) sc_History___init__.nd rfl (Or.inl rfl)) pgs_nil)))))
          (pss_cons (ps_set (i := 7) sc_History___init__.nd rfl (Or.inl rfl) (pe_ix ix_tup (pe_pr c_painters hr (by decide) (pv 1) rfl) (pv 4) (fun _ _ => rfl)))
          (pss_cons (ps_dput hu (pe_fldN 1 (pv 0) rfl) (pe_pr c_name hr (by decide) (pv 7) rfl) (pv 5) rfl)
          (pss_one (ps_dput hu (pe_fldN 2 (pv 0) rfl) (pe_pr c_name hr (by decide) (pv 7) rfl) (pe_tup (pa_cons (pv 3) (pa_cons (pe_mtN c_post_after hr (by decide) (pv 7) (pa_cons (pv 5) pa_nil)) (pa_cons (pe_pr c_name hr (by decide) (pe_ix ix_tup (pe_pr c_painters hr (by decide) (pv 1) rfl) (pv 6) (fun _ _ => rfl)) rfl) pa_nil)))) rfl)))))))))), ?_⟩
    show (_ : TS) _ [some _, some _, none, none, none, none, none, none, none] _
    have hfew := ok.few
    have g0 : GOk K CH [] "painted" := kc.g (i := 0) rfl
    have g1 : GOk K CH ["painted"] "limits" := kc.g (i := 1) rfl
    have g2 : GOk K CH ["painted", "limits"] "halts" := kc.g (i := 2) rfl
    walk_at "w"
    refine ⟨x, CH, dx, [], [], rfl, hx, g0, rfl, ?_⟩
    generalize hH1 : upd H x (.ins CH dx ((([] : List Str) ++ [("painted" : Str)]).zip (([] : List V) ++ [V.ref f]))) = H1
    have SB1 : SB x H H1 := hH1 ▸ (SB.refl _ _).set
    have hx1 : H1 x = some (.ins CH dx ([("painted" : Str)].zip [V.ref f])) := by rw [← hH1]; exact upd_same
    have hF1 := FnAt.sb SB1 hx hF
    obtain ⟨fdx, ft, fd, hf1, _⟩ := id hF1
    walk_at "w"
    intro tn H2 hS2 htn
    have SB2 := SB1.same hS2
    have hx2 := hS2 _ _ hx1
    walk_at "w"
    refine ⟨⟨_, htn⟩, fun ld hld => ?_⟩
    refine dc_acc walk_tup hld (by rw [firsts_len]; omega) (fun i acc _ => acc = firsts (fun i => (nK (c.nm i), V.non)) i) rfl (fun i acc H' e _ => e.sqt htn) ?_ ?_
    · rintro i v acc H3 H4 Nx hi hS3 hD3 rfl ⟨rfl, hz⟩ fin _
      obtain ⟨hi, rfl⟩ := firsts_at hz
      walk_at "w"
      exact fin (nK (c.nm i)) .non _ hD3 hS3 (putK_firsts (k := fun i => nK (c.nm i)) (v := fun _ => V.non) fun j hj e => by
        injection e with e
        have := ok.apart j i (by omega) hi e
        omega)
    rintro acc H3 hS3 hld3 rfl
    rw [firsts_len] at hld3
    have SB3 := SB2.same hS3
    have hx3 := hS3 _ _ hx2
    walk_at "w"
    refine ⟨x, CH, dx, ["painted"], [V.ref f], rfl, hx3, g1, rfl, ?_⟩
    generalize hH4 : upd H3 x (.ins CH dx (([("painted" : Str)] ++ [("limits" : Str)]).zip ([V.ref f] ++ [V.ref ld]))) = H4
    have SB4 : SB x H H4 := hH4 ▸ SB3.set
    have hx4 : H4 x = some (.ins CH dx ([("painted" : Str), "limits"].zip [V.ref f, .ref ld])) := by rw [← hH4]; exact upd_same
    have hlx : ld ≠ x := ne_of hld3 hx3 (by intro z; cases z)
    have hld4 : H4 ld = some (.dK (firsts (fun i => (nK (c.nm i), V.non)) c.n)) := by rw [← hH4, upd_ne hlx]; exact hld3
    have nld : H ld = none := by
      cases e : H ld with
      | none => first | rfl | exact e
      | some o => rw [SB2 _ _ e hlx] at hld; cases hld
    walk_at "w"
    intro hd hhd
    walk_at "w"
    have S5 := Same.new (H := H4) (o := .dK []) hhd
    refine ⟨x, CH, dx, ["painted", "limits"], [V.ref f, .ref ld], rfl, S5 _ _ hx4, g2, rfl, ?_⟩
    have hhx : hd ≠ x := (ne_of_none hx4 hhd).symm
    have hhl : hd ≠ ld := (ne_of_none hld4 hhd).symm
    have nhd : H hd = none := by
      cases e : H hd with
      | none => first | rfl | exact e
      | some o => rw [SB4 _ _ e hhx] at hhd; cases hhd
    generalize hH6 : upd (upd H4 hd (.dK [])) x (.ins CH dx (([("painted" : Str), ("limits" : Str)] ++ [("halts" : Str)]).zip ([V.ref f, .ref ld] ++ [V.ref hd]))) = H6
    have SB6 : SB x H H6 := hH6 ▸ (SB4.same S5).set
    have hx6 : H6 x = some (.ins CH dx (hiN.zip [V.ref f, .ref ld, .ref hd])) := by rw [← hH6]; exact upd_same
    have hld6 : H6 ld = some (.dK (firsts (fun i => (nK (c.nm i), V.non)) c.n)) := by rw [← hH6, upd_ne hlx]; exact S5 _ _ hld4
    have hhd6 : H6 hd = some (.dK []) := by rw [← hH6, upd_ne hhx]; exact upd_same
    have hF6 := FnAt.sb SB6 hx hF
    obtain ⟨fdx, ft, fd, hf6, hft6, hfc6, hfd6⟩ := id hF6
    walk_at "w"
    intro tt htt
    walk_at "w"
    intro bx bdx nb1 nb2 nb3
    have S7 : SB bx H6 (upd (upd H6 bdx (.own bx)) bx (.ins CB bdx [])) := fun b o e n => by
      rw [upd_ne n, upd_ne (ne_of_none e nb2)]
      exact e
    have S7' : Same H6 (upd (upd H6 bdx (.own bx)) bx (.ins CB bdx [])) := fun b o e => S7 _ _ e (ne_of_none e nb1)
    refine ⟨H6, bx, bdx, tt, c, r, rfl, upd_same, S7, nb1, S7'.sqt htt, hfc6.same S7', ok, fun H8 A F8 T8 hA B8 RO8 AC8 => ⟨rfl, ?_⟩⟩
    have hbx8 : H8 bx = some (.ins CB A.dx (bkN.zip [.ref A.t, .ref A.l, .ref A.fl, .ref A.cd])) := hA ▸ B8.hx
    walk_at "w"
    refine tNil_of ?_
    refine ⟨H6, c, r, A, F8, T8, by rw [hA]; rfl, B8, ok, RO8, AC8, fun ts H9 L R hS9 hist hLT hSL hlen => ?_⟩
    have hLim : LimOk c L := ⟨hist, fun a kk ha hL => by
      obtain ⟨d, b, hm⟩ := hSL.all a kk ha hL
      obtain ⟨d', a', b', k', e, h1, h2, h3, h4, h5⟩ := hSL.of _ hm
      injection e with e1 e2
      injection e2 with e2 e3
      injection e3 with e3 e4
      rw [e3]
      exact ⟨h3, h4⟩⟩
    obtain ⟨rs, hl9, hP9⟩ := hLT
    walk_at "w"
    have hrl : rs.length = R.length := by
      have := paired_len hP9
      rw [List.length_map] at this
      exact this
    refine ⟨⟨_, hl9⟩, ?_⟩
    refine for_it (walk_list (xs := rs.map V.ref)) (fun i σ H' => Tk (∃ (kvs hv : Tab) (M : Nat → Option Int) (o1 o2 o3 o4 o5 : Option V), σ = [some (.ref x), some (.ref f), some (.ref ts), o1, o2, o3, o4, o5, none] ∧ SB x H H' ∧ H' x = some (.ins CH dx (hiN.zip [.ref f, .ref ld, .ref hd])) ∧ H' ld = some (.dK kvs) ∧ H' hd = some (.dK hv) ∧ SqL K H' ts (rs.map V.ref) ∧ Paired (fun r xs => SqT K H' r xs) rs (R.map (·.map V.int)) ∧ kvs.length ≤ c.n + i ∧ hv.length ≤ i
        ∧ (∀ a, a < c.n → valV kvs (nK (c.nm a)) = some (optV (M a))) ∧ (∀ a k, a < c.n → M a = some k → L a = some k) ∧ ∀ (j : Nat) (d : Int) (a : Nat) (k b : Int), j < i → R[j]? = some [d, (a : Int), k, b] → M a = some k))
      (tk ⟨_, [], fun _ => none, none, none, none, none, none, rfl, SB6.same hS9, hS9 _ _ hx6, hS9 _ _ hld6, hS9 _ _ hhd6, hl9, hP9, by rw [firsts_len]; omega, Nat.le_refl _, fun a ha => valV_firsts (k := fun i => nK (c.nm i)) (v := fun _ => V.non) (fun a b ha hb e => ok.apart a b ha hb (by injection e)) ha, fun _ _ _ h => (nomatch h), fun j _ _ _ _ h => absurd h (Nat.not_lt_zero _)⟩) (fun i σ H' _ p => ?_) ?_ ?_
    · obtain ⟨_, _, _, _, _, _, _, _, _, _, _, _, _, h, _⟩ := p.h
      exact h
    · rintro i v σ Ha Hb hi ⟨kvs, hv, M, o1, o2, o3, o4, o5, rfl, SBa, hxa, hlda, hhda, hla, hPa, hk1, hk2, hM1, hM2, hM3⟩ ⟨rfl, hz⟩
      have hi' : i < R.length := by rw [List.length_map] at hi; omega
      obtain ⟨rr, xs, rfl, h1, h2, h3⟩ := pair_at hPa hz
      obtain ⟨row, hrow, rfl⟩ := map_at h2
      obtain ⟨d, a, b, kk, rfl, ha, hb, hk0, hkm, hLa⟩ := hSL.of _ (List.mem_of_getElem? hrow)
      have h3 : SqT K Hb rr [.int d, .int (a : Nat), .int kk, .int (b : Nat)] := h3
      have hFb := FnAt.sb SBa hx hF
      obtain ⟨fdx1, ft1, fd1, hfb, hftb, hfcb, hfdb⟩ := id hFb
      refine ⟨_, _, rfl, h3, rfl, ?_⟩
      walk_at "w"
      intro tp htp
      have hIa : atI (refsV r c.n) (a : Int) = some (.ref (r a)) := by rw [atI_nat, firsts_get ha]
      have hIb : atI (refsV r c.n) (b : Int) = some (.ref (r b)) := by rw [atI_nat, firsts_get hb]
      have hpa := hfcb a ha
      obtain ⟨d1, t1, hp1, ht1⟩ := id hpa
      walk_at "w"
      have hkl : kvs.length < sizeLine := lt_line (m := c.n + i) hk1 (by omega)
      refine ⟨ld, _, rfl, DPut.k (k := nK (c.nm a)) hlda hkl, ?_⟩
      have SBb : SB ld Hb (upd Hb ld (.dK (putK kvs (nK (c.nm a)) (.int kk)))) := (SB.refl _ _).set
      have SBc : SB x H (upd Hb ld (.dK (putK kvs (nK (c.nm a)) (.int kk)))) := SBa.putN nld
      have hldc : (upd Hb ld (.dK (putK kvs (nK (c.nm a)) (.int kk)))) ld = some (.dK (putK kvs (nK (c.nm a)) (.int kk))) := upd_same
      generalize upd Hb ld (.dK (putK kvs (nK (c.nm a)) (.int kk))) = Hc at SBb SBc hldc ⊢
      have hxc := SBb _ _ hxa hlx.symm
      have hhdc := SBb _ _ hhda hhl
      have hlc := SBb.sqlO hlda (fun _ z => by cases z) (fun _ _ z => by cases z) hla
      have hPc := SBb.paired hlda (fun _ z => by cases z) (fun _ _ z => by cases z) hPa
      have hFc := FnAt.sb SBc hx hF
      obtain ⟨fdx2, ft2, fd2, hfc, hftc, hfcc, hfdc⟩ := id hFc
      have hpac := hfcc a ha
      have hpbc := hfcc b hb
      obtain ⟨d2, t2, hp2, ht2⟩ := id hpac
      obtain ⟨d3, t3, hp3, ht3⟩ := id hpbc
      walk_at "w"
      refine tNil_of ?_
      refine ⟨r a, c.nm a, c.p a, kk, rfl, hpac, ok.pts a ha, hk0, by omega, ?_⟩
      walk_at "w"
      intro tq htq
      walk_at "w"
      intro tw htw
      have SD := Same.new (H := Hc) (o := .tup [V.int d, .int ((c.p a).post + kk * (c.p a).stride), .str (c.nm b)]) htw
      have hxd := SD _ _ hxc
      have hhdd := SD _ _ hhdc
      have hpad := hpac.same SD
      obtain ⟨d4, t4, hp4, ht4⟩ := id hpad
      walk_at "w"
      have hhl2 : hv.length < sizeLine := lt_line (m := i) hk2 (by omega)
      refine ⟨hd, _, rfl, DPut.k (k := nK (c.nm a)) hhdd hhl2, ?_⟩
      have SBd : SB hd (upd Hc tw (.tup [V.int d, .int ((c.p a).post + kk * (c.p a).stride), .str (c.nm b)])) (upd (upd Hc tw (.tup [V.int d, .int ((c.p a).post + kk * (c.p a).stride), .str (c.nm b)])) hd (.dK (putK hv (nK (c.nm a)) (.ref tw)))) := (SB.refl _ _).set
      refine tk ⟨putK kvs (nK (c.nm a)) (.int kk), putK hv (nK (c.nm a)) (.ref tw), setL M a kk, _, _, _, _, _, rfl, (SBc.same SD).putN nhd, SBd _ _ hxd hhx.symm, SBd _ _ (SD _ _ hldc) hhl.symm, upd_same, SBd.sqlO hhdd (fun _ z => by cases z) (fun _ _ z => by cases z) (SD.seq hlc), SBd.paired hhdd (fun _ z => by cases z) (fun _ _ z => by cases z) (SD.paired hPc), ?_, ?_, fun a' ha' => ?_, fun a' k' ha' hM => ?_, fun j d' a' k' b' hj hR => ?_⟩
      · have := length_putK kvs (nK (c.nm a)) (V.int kk)
        omega
      · have := length_putK hv (nK (c.nm a)) (V.ref tw)
        omega
      · rw [valV_put]
        by_cases e : a' = a
        · subst e
          rw [if_pos rfl, setL_same]
        · rw [if_neg (fun z => e (ok.apart a' a ha' ha (by injection z))), setL_ne e]
          exact hM1 a' ha'
      · by_cases e : a' = a
        · subst e
          rw [setL_same] at hM
          injection hM with hM
          subst hM
          exact hLa
        · rw [setL_ne e] at hM
          exact hM2 a' k' ha' hM
      · by_cases e : a' = a
        · subst e
          rw [setL_same]
          obtain ⟨_, a3, _, k3, e3, _, _, _, _, e5⟩ := hSL.of _ (List.mem_of_getElem? hR)
          injection e3 with _ e3
          injection e3 with e6 e3
          injection e3 with e7 e3
          have : a' = a3 := by omega
          subst this
          rw [hLa] at e5
          injection e5 with e5
          rw [e5, e7]
        · rw [setL_ne e]
          by_cases ej : j = i
          · subst ej
            rw [hrow] at hR
            injection hR with hR
            injection hR with _ hR
            injection hR with e6 _
            exact absurd (by omega) e
          · exact hM3 j d' a' k' b' (by omega) hR
    · rintro σ Ha ⟨kvs, hv, M, o1, o2, o3, o4, o5, rfl, SBa, hxa, hlda, hhda, hla, hPa, hk1, hk2, hM1, hM2, hM3⟩
      rw [List.length_map, hrl] at hM3
      refine k Ha L SBa ⟨dx, ld, hd, kvs, hxa, FnAt.sb SBa hx hF, hlda, fun i hi => ?_⟩ hLim
      rw [hM1 i hi]
      congr 2
      cases e : M i with
      | some z => exact (hM2 i z hi e).symm
      | none =>
        cases e2 : L i with
        | none => rfl
        | some z =>
          obtain ⟨d, b, hm⟩ := hSL.all i z hi e2
          obtain ⟨j, hj, e3⟩ := List.mem_iff_getElem.mp hm
          have := hM3 j d i z (b : Int) hj (by rw [List.getElem?_eq_getElem hj, e3])
          rw [e] at this
          cases this
end
end PK
end
section
set_option Elab.async false
set_option linter.all false
set_option maxRecDepth 100000
set_option maxHeartbeats 4000000
namespace PK
open PySem PySem.Spec PyProof.Rows L2 PM
local macro_rules | `(tactic| walk_at "sd") => `(tactic| (first
  | assumption
  | omega
  | (constructor <;> omega)
  | (refine ⟨by omega, ?_⟩; constructor <;> omega)
  | (constructor <;> (first | assumption | omega | (constructor <;> omega)))))
local macro_rules | `(tactic| walk_at "w") => `(tactic| (repeat (first
  | with_reducible refine ifTT ?_
  | with_reducible refine ifFT ?_
  | with_reducible refine ifnT ?_
  | with_reducible refine ifnF ?_
  | with_reducible refine ifIN ?_
  | with_reducible refine ifNN ?_
  | with_reducible refine ifnIN ?_
  | with_reducible refine ifnNN ?_
  | with_reducible refine ifRN ?_
  | with_reducible refine ifnRN ?_
  | ((fail_if_success with_reducible refine iteB ?_ ?_); first
    | refine ⟨_, rfl, ?_⟩
    | refine ⟨_, _, rfl, rfl, ?_⟩
    | refine ⟨_, _, rfl, ?_⟩
    | refine And.intro (a := (_ : Nat) ≤ sizeLine) (by first | exact len_small (m := 2) rfl | exact len_small (m := 1) rfl | exact len_small (m := 4) rfl | exact len_small (m := 3) rfl | exact len_small (m := 0) rfl) ?_
    | refine ⟨rfl, ?_⟩
    | refine And.intro (a := CDivP _ _) (by walk_at "sd") ?_
    | refine And.intro (a := CDivB _ _) (by walk_at "sd") ?_
    | refine And.intro (a := CMulB _ _) (by walk_at "sd") ?_
    | refine And.intro (a := _ ≠ (0 : Int)) (by walk_at "sd") ?_
    | refine And.intro (a := (0 : Int) < _) (by walk_at "sd") ?_
    | refine ⟨_, _, rfl, ‹_›, rfl, ?_⟩
    | refine ⟨_, _, _, _, rfl, rfl, ‹_›, rfl, ?_⟩
    | refine ⟨_, _, _, _, _, _, rfl, ‹_›, ‹_›, rfl, ?_⟩
    | refine ⟨_, _, _, _, _, _, rfl, ‹_›, (by exact KCls.f ‹_› rfl), (by rfl), ?_⟩
    | refine ⟨_, _, _, _, _, _, rfl, upd_same, ‹_›, (by rfl), ?_⟩
    | refine ⟨_, _, _, _, rfl, ‹_›, by decide +kernel, ?_⟩
    | refine ⟨_, _, _, rfl, ‹_›, ?_⟩))))
section
variable {P : Program} {w : World} {K : PySem.W.Frag} {mg : Str → Option Value} {base : Heap}
def spNumbersBetween (K : PySem.W.Frag) : Sp := fun vs H Q _ => ∃ r p s c lo hi, vs = [.ref r, .int lo, .int hi] ∧ SqT K H r [.int p, .int s, optV c] ∧ s ≠ 0 ∧ Bd s ∧
  ∀ a b t, b - a + 1 = pc p s c lo hi → H t = none → Q (.ref t) (upd H t (.tup [.int a, .int b]))
theorem sc_numbers_between : FnScope ["piece", "first", "last", "post", "stride", "count", "low", "high"] ["piece", "first", "last"] (defScope s_numbers_between) := C8.fnScope_by (by decide +kernel)
theorem ok_numbers_between {f : Addr} (F : DF K "numbers_between" "numbers_between" s_numbers_between f) (hm : mg "numbers_between" = some (.ref f)) (n_max : mg "max" = none) (n_min : mg "min" = none) :
    C8.Cal P w K mg base 1 "numbers_between" (spNumbersBetween K) [] := by
  refine cal_of F hm sc_numbers_between (fun _ _ _ _ _ _ us hl => match us, hl with | [_, _, _], _ => rfl) (fun vs H Q E h => ?_) (fun cdv A outer s H vs Q E hr h => ?_)
  · obtain ⟨r, p, s, c, lo, hi, rfl, _⟩ := h
    rfl
  · obtain ⟨r, p, s, c, lo, hi, rfl, hS, hs, hb, k⟩ := h
    refine ⟨_, (pss_cons (ps_asg (pv 0) (pg_tup rfl (pgs_cons (pg_name (i := 3) sc_numbers_between.nd rfl (Or.inl rfl)) (pgs_cons (pg_name (i := 4) sc_numbers_between.nd rfl (Or.inl rfl)) (pgs_cons (pg_name (i := 5) sc_numbers_between.nd rfl (Or.inl rfl)) pgs_nil)))))
        (pss_cons (ps_if (pt_cmpR op_gt (pv 4) pe_int (nomark _)) (pss_one (ps_par (i := 6) (j := 7) rfl sc_numbers_between.nd rfl rfl (by decide) rfl rfl (pa_cons (pe_un un_neg (pe_op op_fdivP (pe_op op_sub (pv 3) (pv 1)) (pv 4))) (pa_cons (pe_op op_fdivP (pe_op op_sub (pv 2) (pv 3)) (pv 4)) pa_nil)) (by rfl)))
           (pss_one (ps_par (i := 6) (j := 7) rfl sc_numbers_between.nd rfl rfl (by decide) rfl rfl (pa_cons (pe_un un_neg (pe_op op_fdivP (pe_op op_sub (pv 2) (pv 3)) (pe_un un_neg (pv 4)))) (pa_cons (pe_op op_fdivP (pe_op op_sub (pv 3) (pv 1)) (pe_un un_neg (pv 4))) pa_nil)) (by rfl))))
        (pss_cons (ps_set (i := 6) sc_numbers_between.nd rfl (Or.inl rfl) (pe_callB (call_max2 rfl) (by rfl) n_max (by decide +kernel) (pa_cons (pv 6) (pa_cons pe_int pa_nil))))
        (pss_cons (ps_set (i := 7) sc_numbers_between.nd rfl (Or.inl rfl) (pe_ifExp (pt_cmpR op_isN (pv 5) pe_non (nomark _)) (pv 7) (pe_callB (call_min2 rfl) (by rfl) n_min (by decide +kernel) (pa_cons (pv 7) (pa_cons (pe_op op_sub (pv 5) pe_int) pa_nil)))))
        (pss_one (ps_ret (pe_ifExp (pt_cmpR op_le (pv 6) (pv 7) (nomark _)) (pe_tup (pa_cons (pv 6) (pa_cons (pv 7) pa_nil))) (pe_tup (pa_cons pe_int (pa_cons (pe_un un_neg pe_int) pa_nil)))))))))), ?_⟩
    obtain ⟨hb1, hb2⟩ := hb
    show (_ : TS) _ [some _, some _, some _, none, none, none, none, none] _
    cases c with
    | none =>
      walk_at "w"
      refine iteD (fun hc => ?_) (fun hc => ?_)
      all_goals walk_at "w"
      all_goals refine iteD (fun hd => ?_) (fun hd => ?_)
      all_goals walk_at "w"
      all_goals refine fun t ht => (k _ _ t ?_ ht)
      all_goals simp only [pc, pcH, nbLo, nbHi, hc, if_true, if_false]
      all_goals omega
    | some c =>
      walk_at "w"
      refine iteD (fun hc => ?_) (fun hc => ?_)
      all_goals walk_at "w"
      all_goals refine iteD (fun hd => ?_) (fun hd => ?_)
      all_goals walk_at "w"
      all_goals refine fun t ht => (k _ _ t ?_ ht)
      all_goals simp only [pc, pcH, nbLo, nbHi, hc, if_true, if_false]
      all_goals omega
end
end PK
end
section
set_option Elab.async false
set_option linter.all false
set_option maxRecDepth 100000
set_option maxHeartbeats 4000000
namespace PK
open PySem PySem.Spec PyProof.Rows L2 PM
local macro_rules | `(tactic| walk_at "sd") => `(tactic| (first
  | assumption
  | omega
  | (constructor <;> omega)
  | (refine ⟨by omega, ?_⟩; constructor <;> omega)
  | (constructor <;> (first | assumption | omega | (constructor <;> omega)))))
local macro_rules | `(tactic| walk_at "w") => `(tactic| (repeat (first
  | with_reducible refine ifTT ?_
  | with_reducible refine ifFT ?_
  | with_reducible refine ifnT ?_
  | with_reducible refine ifnF ?_
  | with_reducible refine ifIN ?_
  | with_reducible refine ifNN ?_
  | with_reducible refine ifnIN ?_
  | with_reducible refine ifnNN ?_
  | with_reducible refine ifRN ?_
  | with_reducible refine ifnRN ?_
  | ((fail_if_success with_reducible refine iteB ?_ ?_); first
    | refine ⟨_, rfl, ?_⟩
    | refine ⟨_, _, rfl, rfl, ?_⟩
    | refine ⟨_, _, rfl, ?_⟩
    | refine And.intro (a := (_ : Nat) ≤ sizeLine) (by first | exact len_small (m := 2) rfl | exact len_small (m := 1) rfl | exact len_small (m := 4) rfl | exact len_small (m := 3) rfl | exact len_small (m := 0) rfl) ?_
    | refine ⟨rfl, ?_⟩
    | refine And.intro (a := CDivP _ _) (by walk_at "sd") ?_
    | refine And.intro (a := CDivB _ _) (by walk_at "sd") ?_
    | refine And.intro (a := CMulB _ _) (by walk_at "sd") ?_
    | refine And.intro (a := _ ≠ (0 : Int)) (by walk_at "sd") ?_
    | refine And.intro (a := (0 : Int) < _) (by walk_at "sd") ?_
    | refine ⟨_, _, rfl, ‹_›, rfl, ?_⟩
    | refine ⟨_, _, _, _, rfl, rfl, ‹_›, rfl, ?_⟩
    | refine ⟨_, _, _, _, rfl, rfl, by assumption, by assumption, ?_⟩
    | refine ⟨_, _, _, _, _, _, rfl, ‹_›, ‹_›, rfl, ?_⟩
    | refine ⟨_, _, _, _, _, _, rfl, ‹_›, (by exact KCls.f ‹_› rfl), (by rfl), ?_⟩
    | refine ⟨_, _, _, _, _, _, rfl, upd_same, ‹_›, (by rfl), ?_⟩
    | refine ⟨_, _, _, _, _, _, rfl, ‹_›, ‹Cls _ _›, ‹_›, rfl, ?_⟩
    | refine ⟨_, _, _, _, rfl, ‹_›, by decide +kernel, ?_⟩
    | refine ⟨_, _, _, rfl, ‹_›, ?_⟩
    | refine And.intro (by assumption) ?_))))
section
variable {P : Program} {w : World} {K : PySem.W.Frag} {mg : Str → Option Value} {base : Heap} {CP CF CC CB CH : Addr}
/-! ### pieces -/
def pieceV (q : Piece) : List V := [.int q.1, .int q.2.1, optV q.2.2]
structure PieceOk (q : Piece) : Prop where
  p0 : -(10 ^ 30) ≤ q.1
  p1 : q.1 ≤ 10 ^ 30
  s0 : -(10 ^ 18) ≤ q.2.1
  s1 : q.2.1 ≤ 10 ^ 18
  nz : q.2.1 ≠ 0
  c0 : ∀ c, q.2.2 = some c → 0 ≤ c ∧ c ≤ 10 ^ 60
abbrev PsOk (ps : List Piece) : Prop := ∀ q, q ∈ ps → PieceOk q
theorem pcs_snoc (l : List Piece) (q : Piece) (lo hi : Int) : pcs (l ++ [q]) lo hi = pcs l lo hi + pc q.1 q.2.1 q.2.2 lo hi := by
  unfold pcs
  rw [List.map_append, List.sum_append]
  simp
theorem take_snoc {α : Type} {l : List α} {i : Nat} {x : α} (h : l[i]? = some x) : l.take (i + 1) = l.take i ++ [x] := by
  rw [List.take_add_one, h]
  rfl
def spPaintedIn (K : PySem.W.Frag) : Sp := fun vs H Q _ => ∃ (t : Addr) (lo hi : Int) (ps : List Piece), vs = [.ref t, .int lo, .int hi] ∧ LT K H t (ps.map pieceV) ∧ PsOk ps ∧ ∀ H', Same H H' → Q (.int (pcs ps lo hi)) H'
theorem sc_painted_in : FnScope ["some", "first", "last", "total", "piece", "low", "high"] ["some", "first", "last"] (defScope s_painted_in) := C8.fnScope_by (by decide +kernel)
theorem ok_painted_in {f : Addr} (F : DF K "painted_in" "painted_in" s_painted_in f) (hm : mg "painted_in" = some (.ref f)) (c_numbers_between : C8.Cal P w K mg base 1 "numbers_between" (spNumbersBetween K) []) :
    C8.Cal P w K mg base 2 "painted_in" (spPaintedIn K) [] := by
  refine cal_of F hm sc_painted_in (fun _ _ _ _ _ _ us hl => match us, hl with | [_, _, _], _ => rfl) (fun vs H Q E h => ?_) (fun cdv A outer s H vs Q E hr h => ?_)
  · obtain ⟨t, lo, hi, ps, rfl, _⟩ := h
    rfl
  · obtain ⟨t, lo, hi, ps, rfl, ⟨rs, hl, hP⟩, ok, k⟩ := h
    refine ⟨_, (pss_cons (ps_set (i := 3) sc_painted_in.nd rfl (Or.inl rfl) pe_int)
        (pss_cons (ps_for PassesOwn.never rfl (pi_list (pv 0)) (pg_name (i := 4) sc_painted_in.nd rfl (Or.inl rfl))
           (pss_cons (ps_asg (C8.pe_c c_numbers_between hr (by decide) rfl (pa_cons (pv 4) (pa_cons (pv 1) (pa_cons (pv 2) pa_nil)))) (pg_tup rfl (pgs_cons (pg_name (i := 5) sc_painted_in.nd rfl (Or.inl rfl)) (pgs_cons (pg_name (i := 6) sc_painted_in.nd rfl (Or.inl rfl)) pgs_nil))))
           (pss_one (ps_aug (i := 3) sc_painted_in.nd rfl (Or.inl rfl) (pe_op op_add (pe_op op_sub (pv 6) (pv 5)) pe_int) ip_add))))
        (pss_one (ps_ret (pv 3))))), ?_⟩
    show (_ : TS) _ [some _, some _, some _, none, none, none, none] _
    have hrl : rs.length = ps.length := by
      have := paired_len hP
      rw [List.length_map] at this
      exact this
    walk_at "w"
    refine ⟨⟨_, hl⟩, ?_⟩
    refine for_it (walk_list (xs := rs.map V.ref)) (fun i σ H' => Tk (Same H H' ∧ ∃ (o1 o2 o3 : Option V), σ = [some (.ref t), some (.int lo), some (.int hi), some (.int (pcs (ps.take i) lo hi)), o1, o2, o3])) (tk ⟨Same.refl _, _, _, _, rfl⟩) (fun i σ H' _ p => p.h.1.seq hl) ?_ ?_
    · rintro i v σ H1 H2 hi1 ⟨hS, o1, o2, o3, rfl⟩ ⟨rfl, hz⟩
      obtain ⟨rr, xs, rfl, h1, h2, h3⟩ := pair_at hP hz
      obtain ⟨q, hq, rfl⟩ := map_at h2
      have oq := ok q (List.mem_of_getElem? hq)
      have h4 : SqT K H2 rr [.int q.1, .int q.2.1, optV q.2.2] := hS.sqt h3
      walk_at "w"
      refine ⟨rr, q.1, q.2.1, q.2.2, lo, hi, rfl, h4, oq.nz, ⟨by have := oq.s0; omega, by have := oq.s1; omega⟩, fun a b tt e htt => ?_⟩
      refine ⟨_, _, rfl, SqT.of upd_same, rfl, ?_⟩
      walk_at "w"
      refine tk ⟨hS.trans (Same.new htt), some (.ref rr), some (.int a), some (.int b), ?_⟩
      have e2 : pcs (ps.take (i + 1)) lo hi = pcs (ps.take i) lo hi + (b - a + 1) := by
        rw [take_snoc hq, pcs_snoc, e]
      rw [e2]
      rfl
    · rintro σ H1 ⟨hS, o1, o2, o3, rfl⟩
      rw [List.length_map, hrl, List.take_length]
      walk_at "w"
      exact k H1 hS
def spOpposite (K : PySem.W.Frag) : Sp := fun vs H Q _ => ∃ (t : Addr) (ps : List Piece), vs = [.ref t] ∧ LT K H t (ps.map pieceV) ∧ ps.length ≤ 40 ∧ ∀ t' H', Same H H' → LT K H' t' ((ps.map oppP).map pieceV) → Q (.ref t') H'
theorem sc_opposite : FnScope ["parts", "post", "stride", "count"] ["parts"] (defScope s_opposite) := C8.fnScope_by (by decide +kernel)
theorem ok_opposite {f : Addr} (F : DF K "opposite" "opposite" s_opposite f) (hm : mg "opposite" = some (.ref f)) :
    C8.Cal P w K mg base 1 "opposite" (spOpposite K) [] := by
  refine cal_of F hm sc_opposite (fun _ _ _ _ _ _ us hl => match us, hl with | [_], _ => rfl) (fun vs H Q E h => ?_) (fun cdv A outer s H vs Q E hr h => ?_)
  · obtain ⟨t, ps, rfl, _⟩ := h
    rfl
  · obtain ⟨t, ps, rfl, ⟨rs, hl, hP⟩, hn, k⟩ := h
    refine ⟨_, (pss_one (ps_ret (pe_lc (own := [("post", 1), ("stride", 2), ("count", 3)]) rfl sc_opposite.nd (pi_list (pv 0)) (blkOk_by (N := ["parts", "post", "stride", "count"]) (sc := defScope s_opposite) (own := [("post", 1), ("stride", 2), ("count", 3)]) (by decide +kernel)) (fun _ _ _ _ _ => (pg_tup3 (K := K) (i := 1) (j := 2) (l := 3) rfl rfl sc_opposite.nd rfl (Or.inl rfl) rfl (Or.inl rfl) rfl (Or.inl rfl))) (fun _ _ _ _ _ => pts_nil) (fun _ _ _ _ _ => (pe_tup (pa_cons (pe_un un_neg (pv 1)) (pa_cons (pe_un un_neg (pv 2)) (pa_cons (pv 3) pa_nil)))))))), ?_⟩
    show (_ : TS) _ [some _, none, none, none] _
    have hrl : rs.length = ps.length := by
      have := paired_len hP
      rw [List.length_map] at this
      exact this
    walk_at "w"
    refine ⟨⟨_, hl⟩, fun D hD => ?_⟩
    refine lc_acc (walk_list (xs := rs.map V.ref)) hD (by rw [List.length_map]; omega) (fun i acc H' => Tk (∃ rs' : List Addr, acc = rs'.map V.ref ∧ Paired (fun r xs => SqT K H' r xs) rs' (((ps.take i).map oppP).map pieceV))) (tk ⟨[], rfl, .nil⟩) (fun i acc H' e _ => e.seq hl) ?_ ?_
    · rintro i v acc H1 H2 Nx hi hS hD1 ⟨rs', rfl, hP1⟩ ⟨rfl, hz⟩ fin _
      obtain ⟨rr, xs, rfl, h1, h2, h3⟩ := pair_at hP hz
      obtain ⟨q, hq, rfl⟩ := map_at h2
      have h4 : SqT K H2 rr [.int q.1, .int q.2.1, optV q.2.2] := hS.sqt h3
      walk_at "w"
      intro p1 hp1
      have S1 := Same.new (o := .tup [V.int (-q.1), V.int (-q.2.1), optV q.2.2]) hp1
      have hD2 := S1 _ _ hD1
      refine fin (.ref p1) _ hD2 (hS.trans S1) (tk ⟨rs' ++ [p1], by rw [List.map_append]; rfl, ?_⟩)
      rw [take_snoc hq, List.map_append, List.map_append]
      exact paired_snoc ((SB.set (SB.refl _ _)).paired hD2 (fun _ z => by cases z) (fun _ _ z => by cases z) (S1.paired hP1)) ((SB.set (SB.refl _ _)).sqtO hD2 (fun _ z => by cases z) (fun _ _ z => by cases z) (SqT.of upd_same))
    rintro acc H1 hS hD1 ⟨rs', rfl, hP1⟩
    rw [List.length_map, hrl, List.take_length] at hP1
    exact k D H1 hS ⟨rs', SqL.of hD1, hP1⟩
def spEndOf (K : PySem.W.Frag) : Sp := fun vs H Q _ => ∃ (rr : Addr) (q : Piece) (post index : Int), vs = [.ref rr, .int post, .int index] ∧ SqT K H rr (pieceV q) ∧ PieceOk q ∧ 0 ≤ index ∧ index ≤ 10 ^ 30 ∧ Q (.int (endP q post index)) H
theorem sc_end_of_piece : FnScope ["piece", "post", "index", "first", "stride", "count"] ["piece", "post", "index"] (defScope s_end_of_piece) := C8.fnScope_by (by decide +kernel)
theorem ok_end_of_piece {f : Addr} (F : DF K "end_of_piece" "end_of_piece" s_end_of_piece f) (hm : mg "end_of_piece" = some (.ref f)) (n_max : mg "max" = none) :
    C8.Cal P w K mg base 1 "end_of_piece" (spEndOf K) [] := by
  refine cal_of F hm sc_end_of_piece (fun _ _ _ _ _ _ us hl => match us, hl with | [_, _, _], _ => rfl) (fun vs H Q E h => ?_) (fun cdv A outer s H vs Q E hr h => ?_)
  · obtain ⟨rr, q, post, index, rfl, _⟩ := h
    rfl
  · obtain ⟨rr, ⟨p1, s1, c1⟩, post, index, rfl, hS, ok, i0, i1, k⟩ := h
    refine ⟨_, (pss_cons (ps_asg (pv 0) (pg_tup rfl (pgs_cons (pg_name (i := 3) sc_end_of_piece.nd rfl (Or.inl rfl)) (pgs_cons (pg_name (i := 4) sc_end_of_piece.nd rfl (Or.inl rfl)) (pgs_cons (pg_name (i := 5) sc_end_of_piece.nd rfl (Or.inl rfl)) pgs_nil)))))
        (pss_cons (ps_if (pt_cmpR op_isN (pv 5) pe_non (nomark _)) (pss_one (ps_ret (pe_ifExp (pt_cmpR op_lt (pv 4) pe_int (nomark _)) (pv 3) (pe_op op_add (pe_callB (call_max2 rfl) (by rfl) n_max (by decide +kernel) (pa_cons (pv 1) (pa_cons (pv 3) pa_nil))) (pe_op op_mulB (pv 4) (pe_op op_add (pv 2) pe_int))))))
           pss_nil)
        (pss_one (ps_ret (pe_op op_add (pv 3) (pe_callB (call_max2 rfl) (by rfl) n_max (by decide +kernel) (pa_cons pe_int (pa_cons (pe_op op_mulB (pe_op op_sub (pv 5) pe_int) (pv 4)) pa_nil)))))))), ?_⟩
    show (_ : TS) _ [some _, some _, some _, none, none, none] _
    obtain ⟨a1, a2, a3, a4, a5, a6⟩ := ok
    have a1 : -(10 ^ 30) ≤ p1 := a1
    have a2 : p1 ≤ 10 ^ 30 := a2
    have a3 : -(10 ^ 18) ≤ s1 := a3
    have a4 : s1 ≤ 10 ^ 18 := a4
    have hS : SqT K H rr [.int p1, .int s1, optV c1] := hS
    have sB : Bd s1 := ⟨by omega, by omega⟩
    have iB : Bd (index + 1) := ⟨by omega, by omega⟩
    cases c1 with
    | none =>
      walk_at "w"
      refine iteD (fun hc => ?_) (fun hc => ?_)
      · walk_at "w"
        have e : endP (p1, s1, none) post index = p1 := if_pos hc
        rw [e] at k
        exact k
      · walk_at "w"
        have e : endP (p1, s1, none) post index = (if p1 > post then p1 else post) + s1 * (index + 1) := if_neg hc
        rw [e] at k
        exact k
    | some c =>
      obtain ⟨c0, c1⟩ := a6 c rfl
      have cB : Bd (c - 1) := ⟨by omega, by omega⟩
      walk_at "w"
      exact k
end
end PK
end
section
set_option Elab.async false
set_option linter.all false
set_option maxRecDepth 100000
set_option maxHeartbeats 4000000
namespace PK
open PySem PySem.Spec PyProof.Rows L2 LamX
/-! ### a lambda with one parameter, handed on -/
structure LamS1 (sc scope : Scope) (hn : Str) : Prop where
  kind : scope.kind = .function
  co : scope.isCoroutine = false
  gen : scope.isGenerator = false
  own : ∀ y ∈ scope.names, (y.2 = .local → y.1 = hn) ∧ y.2 ≠ .cell
  par : scope.names.lookup hn = some .local
  free : ∀ y ∈ scope.names, y.2 = .free → sc.names.lookup y.1 = some .cell ∨ sc.names.lookup y.1 = some .free
def lamS1B (sc scope : Scope) (hn : Str) : Bool :=
  decide (scope.kind = .function) && !scope.isCoroutine && !scope.isGenerator && (scope.names.all fun y => (!decide (y.2 = .local) || decide (y.1 = hn)) && !decide (y.2 = .cell) && (!decide (y.2 = .free) || decide (sc.names.lookup y.1 = some .cell) || decide (sc.names.lookup y.1 = some .free))) && decide (scope.names.lookup hn = some .local)
theorem lamS1_by {sc scope : Scope} {hn : Str} (h : lamS1B sc scope hn = true) : LamS1 sc scope hn := by
  unfold lamS1B at h
  simp only [Bool.and_eq_true, Bool.or_eq_true, Bool.not_eq_true', decide_eq_true_eq, decide_eq_false_iff_not, List.all_eq_true] at h
  obtain ⟨⟨⟨⟨h1, h2⟩, h3⟩, h4⟩, h5⟩ := h
  refine ⟨h1, h2, h3, fun y hy => ⟨fun e => ?_, (h4 y hy).1.2⟩, h5, fun y hy e => ?_⟩
  · rcases (h4 y hy).1.1 with z | z
    · exact absurd e z
    · exact z
  · rcases (h4 y hy).2 with (z | z) | z
    · exact absurd e z
    · exact .inl z
    · exact .inr z
theorem LamS1.has {X : Cx} {scope : Scope} {hn : Str} (L : LamS1 X.env.scope scope hn) (ok : X.Ok) : ∀ y ∈ scope.names, y.2 = .free → ∃ c, X.env.cells.lookup y.1 = some c := fun y hy e => by
  rcases L.free y hy e with k | k
  · exact ok.has _ (.inl k)
  · exact ok.has _ (.inr k)
def lamCx1 (X : Cx) (A : Around) (outer : List Env) (s : Shared) (H : Hp) (scope : Scope) (f c' : Addr) : Cx where
  prog := X.prog
  w := X.w
  K := X.K
  mg := X.mg
  base := X.base
  A := A.deeper (lamEnv X scope s.heap.objs.size f c')
  N := X.N
  s_0 := s
  H_0 := H
  env := lamEnv X scope s.heap.objs.size f c'
  outer := outer
  stack := lamEnv X scope s.heap.objs.size f c' :: outer
  ex := []
  fn := fun _ => false
  calm := true
  pn := []
  xe := fun _ _ => False
section
variable {X : Cx} {pins : List (Addr × Obj)} {σ : L2.St} {H HZ : Hp} {s s1 : Shared}
theorem lam_start1 {A : Around} {outer : List Env} {scope : Scope} {f c' : Addr} {h₁ : Heap} {tk h : Nat} {hn : Str} {v : V} {u : Value} (I : Inv X pins σ H s) (L : LamS1 X.env.scope scope hn) (hNh : X.N[h]? = some hn) (hNd : X.N.Nodup) (rv : RelV v u) (e0 : Env0 X.prog X.w X.K X.mg X.base A outer s1 HZ) (hd : A.handled = none)
    (un : Un (frs X.stack) [] H HZ s.heap s1.heap) (hns : h₁.Ns s1.heap.objs.size fun y => ([(hn, u)] : List (Str × Value)).reverse.lookup y) (kp : ∀ b o, s1.heap.get? b = some o → h₁.get? b = some o) :
    Inv (lamCx1 X A outer s1 HZ scope f c') [] (σ.set h (some v)) HZ { s1 with heap := h₁, toks := tk } := by
  have hfree := L.has I.ok
  have cm : ∀ {y c}, (cloFrom X.env.cells scope.names []).lookup y = some c → X.env.cells.lookup y = some c := fun {y c} e => by
    rcases cloFrom_mem (PySem.mem_of_lookup e) with hm | ⟨h1, h2⟩
    · cases hm
    · obtain ⟨c1, hc⟩ := hfree _ h1 rfl
      have hc : X.env.cells.lookup y = some c1 := hc
      have e2 : c = c1 := by
        rw [h2, hc] <;> rfl
      rw [e2]
      exact hc
  have look : ∀ {y}, scope.names.lookup y = some .free → ∃ c, (cloFrom X.env.cells scope.names []).lookup y = some c := fun {y} hl => by
    have hy : (y, NameKind.free) ∈ scope.names := PySem.mem_of_lookup hl
    exact mem_lookup (cloFrom_has (cells := X.env.cells) (acc := []) hy)
  have cellK : ∀ {c : Addr} {v : Option Value}, H c = none → s.heap.IsCell c v → h₁.IsCell c v := fun {c v} n ⟨o, ho, hd⟩ => by
    obtain ⟨sl, q⟩ := un.any ho n (by simp)
    exact ⟨_, kp _ _ q, hd⟩
  have noA : ∀ b : Addr, b ∉ (lamCx1 X A outer s1 HZ scope f c').ex := fun b z => absurd (show b ∈ ([] : List Addr) from z) (by simp)
  refine ⟨⟨e0.mod, L.kind, rfl, rfl, Nat.le_refl _, fun y z c e1 e2 => I.ok.inj y z c (cm e1) (cm e2), fun y hy => ?_, fun y c z _ => ?_, fun _ => hd, Around.frames_deeper e0.frames, .inr ⟨rfl, rfl⟩, fun b z => absurd z (noA b), e0.bs, e0.bsz, fun b _ _ => noA b,
      fun b z => absurd z (noA b), e0.funs, e0.frf⟩,
    rfl, e0.bare, Un.kept kp, ⟨_, hns, fun i y v' e1 e2 e3 => ?_⟩, fun y c e => ?_, e0.hok.fresh (Nat.le_refl _), fun y c e => ?_, fun q hq => absurd (show q ∈ ([] : List (Addr × Obj)) ++ [] from hq) (by simp), e0.hok.kept kp, by rw [List.length_set]; exact I.len⟩
  · have hy : scope.names.lookup y = some .cell ∨ scope.names.lookup y = some .free := hy
    rcases hy with hy | hy
    · exact absurd rfl (L.own _ (PySem.mem_of_lookup hy)).2
    · exact look hy
  · have z : false = true := z
    cases z
  · have e3 : Vis scope y := e3
    have e1 : X.N[i]? = some y := e1
    rcases e3 with k | k | k
    · have ey : y = hn := (L.own _ (PySem.mem_of_lookup k)).1 rfl
      subst ey
      have ei : i = h := by
        obtain ⟨h1, h2⟩ := List.getElem?_eq_some_iff.mp e1
        obtain ⟨h3, h4⟩ := List.getElem?_eq_some_iff.mp hNh
        exact (List.getElem_inj hNd).mp (h2.trans h4.symm)
      subst ei
      have hlt : i < σ.length := by
        rw [I.len]
        exact (List.getElem?_eq_some_iff.mp e1).1
      rw [List.getElem?_set_self hlt] at e2
      injection e2 with e2
      injection e2 with e2
      subst e2
      refine ⟨u, rv, .inl ⟨k, ?_⟩⟩
      show ([(y, u)] : List (Str × Value)).reverse.lookup y = some u
      show (match y == y with | true => some u | false => _) = some u
      rw [beq_self_eq_true]
    · exact absurd rfl (L.own _ (PySem.mem_of_lookup k)).2
    · have ne : i ≠ h := fun z => by
        rw [z, hNh] at e1
        injection e1 with e1
        rw [← e1, L.par] at k
        cases k
      rw [List.getElem?_set_ne (fun z => ne z.symm)] at e2
      obtain ⟨m, hnn, hl⟩ := I.loc
      have hvis : Vis X.env.scope y := (L.free _ (PySem.mem_of_lookup k) rfl).elim (fun k => .inr (.inl k)) (fun k => .inr (.inr k))
      obtain ⟨w', r, q⟩ := hl i y v' e1 e2 hvis
      obtain ⟨c2, h2⟩ := look k
      refine ⟨w', r, .inr ⟨.inr k, c2, h2, ?_⟩⟩
      have c1 := cm h2
      rcases q with ⟨k', _⟩ | ⟨_, c3, e', z⟩
      · have k' : X.env.scope.names.lookup y = some .local := k'
        rcases L.free _ (PySem.mem_of_lookup k) rfl with k2 | k2 <;> rw [show X.env.scope.names.lookup y = _ from k2] at k' <;> cases k'
      · rw [c1] at e'
        cases e'
        exact cellK (I.freeC y _ c1) z
  · obtain ⟨w', z⟩ := I.cell y c (cm e)
    exact ⟨w', cellK (I.freeC y c (cm e)) z⟩
  · obtain ⟨v, o, ho, hd⟩ := I.cell y c (cm e)
    exact un.free c o ho (I.freeC y c (cm e)) (by simp)
/-- x(e), in the def that got the lambda -/
theorem pe_act1 {Ng : List Str} {qg : Str} {sg : Scope} {g f c' : Addr} {cdg pm ctv : Value} {params : Arguments} {body : Expr} {scope : Scope} {k i h : Nat} {a hn : Str} {tb : TE} {t : TA} {e : Expr} {p1 p2 : Pos}
    (I : Inv X pins σ H s) (L : LamS1 X.env.scope scope hn) (hNh : X.N[h]? = some hn) (hNd : X.N.Nodup) (hf : s.heap.get? f = some (PySem.W.kla_obj "<lambda>" (X.env.qual ++ "<lambda>") params body scope (cloFrom X.env.cells scope.names []) pm c' ctv)) (hfn : H f = none) (hfr : f ∉ frs X.stack)
    (hbind : ∀ u, bindArgs (PySem.W.kla_fn "<lambda>" (X.env.qual ++ "<lambda>") params body scope (cloFrom X.env.cells scope.names []) pm (.ref c') ctv) ⟨[u], []⟩ = pure [(hn, u)])
    (hr : Room (k + 1) (X.A.deeper (envOfC qg sg s.heap.objs.size g cdg)))
    (hbody : ∀ (A : Around) (outer : List Env) (s : Shared) (H : Hp), Room k (A.deeper (lamEnv X scope s.heap.objs.size f c')) → PE (lamCx1 X A outer s H scope f c') body tb)
    (hN : Ng[i]? = some a) (hv : Vis sg a) (ha : PA (cxOf C8.CX0 X.prog X.w X.K X.mg X.base Ng qg sg g cdg X.A X.stack s H C8.E0).nox [e] t) (hd : (a == ("__debug__" : Str)) = false := by decide) (hcd : (a == ("__classdict__" : Str)) = false := by decide)
    (he : ∀ env : Env, starEach [e] env = (false, eval e env) :: starEach [] env := by intro _; rfl) :
    PE (cxOf C8.CX0 X.prog X.w X.K X.mg X.base Ng qg sg g cdg X.A X.stack s H C8.E0).nox (.Call (.Name a p1) [e] [] p2)
      (fun σZ HZ Q => σZ[i]? = some (some (.ref f)) ∧ t σZ HZ fun vs H1 => ∃ v, vs = [v] ∧ H1 c' = some (CodeO c' (X.env.qual ++ "<lambda>")) ∧ tb (σ.set h (some v)) H1 Q) := by
  refine ⟨fun pinsZ sZ σZ HZ Q IZ hh => ?_⟩
  obtain ⟨hs, ht⟩ := hh
  refine wpAny_Call_Name_kw (thn ((pe_var (pos := p1) (i := i) hN hv hd hcd).run pinsZ sZ σZ HZ (fun v H1 => v = .ref f ∧ H1 = HZ) IZ ⟨.ref f, hs, rfl, rfl⟩) fun u s1 ⟨v, H1, I1, r1, q1⟩ => ?_)
  obtain ⟨ev, eH⟩ := q1
  subst ev
  rw [eH] at I1
  obtain rfl : u = Value.ref f := r1
  have ofA : ∀ {σ' : L2.St} {H' : Hp} {s' : Shared}, Inv (cxOf C8.CX0 X.prog X.w X.K X.mg X.base Ng qg sg g cdg X.A X.stack s H C8.E0).nox pinsZ σ' H' s' → s'.heap.get? f = some (PySem.W.kla_obj "<lambda>" (X.env.qual ++ "<lambda>") params body scope (cloFrom X.env.cells scope.names []) pm c' ctv) := fun J =>
    J.base.keep f _ hf hfn hfr (fun z => nomatch (show f ∈ ([] : List Addr) from z))
  refine PySem.W.callWith_F ⟨_, _, _, _, ofA I1⟩ (thn (ha.run p2 pinsZ s1 σZ HZ _ I1 ht) fun us s2 ⟨vs, H2, I2, rr, v, evs, hc, q⟩ => ⟨⟨_, _, _, _, ofA I2⟩, ?_⟩) (he _) rfl
  subst evs
  obtain ⟨u, eu, rv⟩ := vals1 rr
  subst eu
  have of1 := ofA I2
  have un : Un (frs X.stack) [] H H2 s.heap s2.heap := I2.base
  obtain ⟨⟨oc, vs', tq, hoc, hdc, hvc⟩, _, _⟩ := I2.hok c' _ hc
  have rc : codeAny (model X.prog X.w) (X.A.deeper (envOfC qg sg s.heap.objs.size g cdg)) (.call (.ref f) ⟨[u], []⟩) (CR C8.CX0 (envOfC qg sg s.heap.objs.size g cdg :: X.stack) X.prog X.w H2 s2 Q C8.E0) s2 := by
    refine PySem.W.kla_callFunE hr.depth of1 rfl L.co L.gen rfl ⟨c', oc, vs', tq, rfl, hoc, hdc, hvc⟩ ?_
    rw [hbind]
    refine wpAny_pure (wpAny_newFunctionEnv (fun y hy => (L.own y hy).2) (fun y hy => by rw [List.mem_singleton.mp hy]; exact L.par) (fun h₁ hns hsb => ⟨I2.nolimit.fresh _ hsb, ?_⟩) L.kind)
    show codeAny _ _ (.expr body (lamEnv X scope s2.heap.objs.size f c')) _ _
    have kp : ∀ b o, s2.heap.get? b = some o → h₁.get? b = some o := fun b o e => hsb.extBut b o (Nat.ne_of_lt (Heap.lt_size e)) (Heap.get?_push_of_some _ e)
    have J : Inv (lamCx1 X (X.A.deeper (envOfC qg sg s.heap.objs.size g cdg)) (envOfC qg sg s.heap.objs.size g cdg :: X.stack) s2 H2 scope f c') [] (σ.set h (some v)) H2 { s2 with heap := h₁, toks := s2.toks + ([(hn, u)] : List (Str × Value)).length } :=
      lam_start1 I L hNh hNd rv I2.env0 hr.hd un hns kp
    refine PySem.W.kla_codeExpr (wpAny_mono ((hbody _ _ s2 H2 (hr.deeper _)).run [] _ _ H2 Q J q) (fun v s' hq => ?_) fun e s' hq => (show False from hq).elim)
    obtain ⟨w', H', J', rv, q⟩ := hq
    exact ⟨w', H', J'.os, J'.bare, J'.base, J'.hok, rv, q⟩
  refine wpAny_call (codeAny_mono rc fun r s' hq => ?_)
  cases r with
  | error e => exact (show False from hq).elim
  | ok fl =>
    cases fl with
    | ret u => exact I2.after hq
    | next => exact False.elim hq
    | brk => exact False.elim hq
    | cont => exact False.elim hq
theorem lam_make1 {T : List (Addr × Str)} {c P : Addr} {params : Arguments} {body : Expr} {scope : Scope} {pos : Pos} {E : Value → Shared → Prop} {Q : Value → Shared → Prop} (I : Inv X pins σ H s) (TB : TabB X.base X.mg c P) (hcode : X.env.code = .ref c)
    (hm : (P, X.env.qual ++ "<lambda>") ∈ T) (hu : ∀ p ∈ T, p.1 = P → p.2 = X.env.qual ++ "<lambda>") (hT : Tabs T H) (hdef : defaultsOf params X.env = ([], [])) (hfree : ∀ y ∈ scope.names, y.2 = .free → ∃ c, X.env.cells.lookup y.1 = some c)
    (h : ∀ (f c' : Addr) (pm ctv : Value) (H1 : Hp) (s' : Shared), Inv X pins σ H1 s' → ExtN H H1 → Tabs T H1 →
      s'.heap.get? f = some (PySem.W.kla_obj "<lambda>" (X.env.qual ++ "<lambda>") params body scope (cloFrom X.env.cells scope.names []) pm c' ctv) → H1 f = none → f ∉ frs X.stack → H1 c' = some (CodeO c' (X.env.qual ++ "<lambda>")) → Q (.ref f) s') :
    wpAny (model X.prog X.w) X.A (eval (.Lambda params body scope pos) X.env) Q E s := lam_make2 I TB hcode hm hu hT hdef hfree h
/-- the def that calls what it got as its third value -/
def GivesTo3 (X : Cx) (Ng : List Str) (x : Str) (sg : Scope) (g : Addr) (cdg : Value) (bg : List Stmt) (a : Str) (i k : Nat) (q : Str) (TT : V → V → (V → Hp → VK → Prop) → Hp → VK → Prop) : Prop :=
  ∀ (f c' : Addr) (s : Shared) (H : Hp) (Q : VK) (v1 v2 : V) (tl : V → Hp → VK → Prop), Room k (X.A.deeper (envOfC x sg s.heap.objs.size g cdg)) →
    (∀ (e : Expr) (t : TA) (p1 p2 : Pos), PA (cxOf C8.CX0 X.prog X.w X.K X.mg X.base Ng x sg g cdg X.A X.stack s H C8.E0).nox [e] t → (∀ env : Env, starEach [e] env = (false, eval e env) :: starEach [] env) →
      PE (cxOf C8.CX0 X.prog X.w X.K X.mg X.base Ng x sg g cdg X.A X.stack s H C8.E0).nox (.Call (.Name a p1) [e] [] p2) (fun σZ HZ Q => σZ[i]? = some (some (.ref f)) ∧ t σZ HZ fun vs H1 => ∃ v, vs = [v] ∧ H1 c' = some (CodeO c' q) ∧ tl v H1 Q)) →
    H c' = some (CodeO c' q) → TT v1 v2 tl H Q →
    ∃ t, PSs (cxOf C8.CX0 X.prog X.w X.K X.mg X.base Ng x sg g cdg X.A X.stack s H C8.E0).nox bg t ∧ t { nx := fun _ H' => Q .non H', rt := Q } (L2.start Ng [v1, v2, .ref f]) H
def tLam3 (T : List (Addr × Str)) (TT : V → V → (V → Hp → VK → Prop) → Hp → VK → Prop) (h : Nat) (t1 t2 tb : TE) : TE := fun σ H Q => t1 σ H fun v1 H1 => t2 σ H1 fun v2 H2 => Tabs T H2 ∧ ∀ H3, ExtN H2 H3 → Tabs T H3 → TT v1 v2 (fun v H' Q' => tb (σ.set h (some v)) H' Q') H3 Q
/-- x(e1, e2, lambda h: body) -/
theorem pe_lamcall3 {T : List (Addr × Str)} {TT : V → V → (V → Hp → VK → Prop) → Hp → VK → Prop} {x a hn p1n p2n : Str} {g c P : Addr} {k ih : Nat} {pg : Arguments} {bg : List Stmt} {sg : Scope} {dV kV doc pm cdv ct oc : Value} {an od : Option Addr} {osl : Array (Option Value)} {Ng : List Str}
    {params : Arguments} {body e1 e2 : Expr} {scope : Scope} {t1 t2 tb : TE} {p lpos pos : Pos} (hg : Gl X x) (hm : X.mg x = some (.ref g)) (hk : PySem.W.keepIn X.K (.ref g) = true)
    (lk : X.K.lookup g = some ⟨oc, od, .func (PySem.W.fnOf x x pg bg sg dV kV doc pm an cdv ct), osl⟩) (hcg : PySem.W.codeIn X.K cdv x = true) (hb : L2.Binds X.K (PySem.W.fnOf x x pg bg sg dV kV doc pm an cdv ct) [p1n, p2n, a] []) (Sg : FnScope Ng [p1n, p2n, a] sg) (hNg : Ng[2]? = some a) (hva : Vis sg a)
    (hG : GivesTo3 X Ng x sg g cdv bg a 2 (k + 1) (X.env.qual ++ "<lambda>") TT)
    (TB : TabB X.base X.mg c P) (hcode : X.env.code = .ref c) (hmT : (P, X.env.qual ++ "<lambda>") ∈ T) (hu : ∀ p ∈ T, p.1 = P → p.2 = X.env.qual ++ "<lambda>") (hr : Room (k + 2) X.A) (L : LamS1 X.env.scope scope hn) (hNh : X.N[ih]? = some hn) (hNd : X.N.Nodup) (hdef : defaultsOf params X.env = ([], []))
    (hbind : ∀ (q : Str) (cl : List (Str × Addr)) (pm cv ctv u : Value), bindArgs (PySem.W.kla_fn "<lambda>" q params body scope cl pm cv ctv) ⟨[u], []⟩ = pure [(hn, u)])
    (h1 : PE X e1 t1) (h2 : PE X e2 t2)
    (hbody : ∀ (A : Around) (outer : List Env) (s : Shared) (H : Hp) (f c' : Addr), Room k (A.deeper (lamEnv X scope s.heap.objs.size f c')) → PE (lamCx1 X A outer s H scope f c') body tb)
    (hs1 : starEach [e1, e2, .Lambda params body scope lpos] X.env = (false, eval e1 X.env) :: starEach [e2, .Lambda params body scope lpos] X.env := by rfl)
    (hs2 : starEach [e2, .Lambda params body scope lpos] X.env = (false, eval e2 X.env) :: starEach [.Lambda params body scope lpos] X.env := by rfl)
    (hdb : (x == ("__debug__" : Str)) = false := by decide) (hd : (a == ("__debug__" : Str)) = false := by decide) (hcd : (a == ("__classdict__" : Str)) = false := by decide) :
    PE X (.Call (.Name x p) [e1, e2, .Lambda params body scope lpos] [] pos) (tLam3 T TT ih t1 t2 tb) := by
  refine ⟨fun pins s σ H Q I h => ?_⟩
  refine wpAny_Call_Name_kw (ld_glob I hg hm ?_ hdb)
  refine PySem.W.callWith_K (h₀ := X.base) I.ok.mod.kin hk ?_ hs1 (by rw [hs2]; rfl)
  rw [hs1, hs2]
  show wpAny _ _ (spliced ((false, eval e1 X.env) :: (false, eval e2 X.env) :: (false, eval (.Lambda params body scope lpos) X.env) :: backTo pos (starEach [] X.env))) _ _ s
  refine Calls.spliced_cons (thn (h1.run pins s σ H _ I h) fun u1 s1 ⟨v1, H1, I1, r1, q1⟩ => ?_)
  refine Calls.spliced_cons (thn (h2.run pins s1 σ H1 _ I1 q1) fun u2 s2 ⟨v2, H2, I2, r2, hT, q2⟩ => ?_)
  refine Calls.spliced_cons (lam_make1 I2 TB hcode hmT hu hT hdef (L.has I.ok) fun f c' pm' ctv H3 s3 I3 eN T3 hf hfn hfr hco => ?_)
  refine Calls.spliced_nil ⟨I3.kIn, ?_⟩
  have rc : codeAny (model X.prog X.w) X.A (.call (.ref g) ⟨[u1, u2, .ref f], []⟩) (CR C8.CX0 X.stack X.prog X.w H3 s3 Q C8.E0) s3 := by
    refine run_ofS (N := Ng) (ps := [p1n, p2n, a]) (us := [u1, u2, .ref f]) (vs := [v1, v2, .ref f]) lk hcg Sg hr I3.env0 (hb s3 [u1, u2, .ref f] I3.kIn rfl) (.cons r1 (.cons r2 (.cons rfl .nil))) rfl fun hr' => ?_
    obtain ⟨t', ht', hq'⟩ := hG f c' s3 H3 Q v1 v2 (fun v H' Q' => tb (σ.set ih (some v)) H' Q') hr' (fun e t p1 p2 ha he => pe_act1 I3 L hNh hNd hf hfn hfr (fun u => hbind _ _ _ _ _ u) hr' (fun A outer s H hr2 => hbody A outer s H f c' hr2) hNg hva ha hd hcd he) hco (q2 H3 eN T3)
    exact ⟨t', ht'.nox, hq'⟩
  refine wpAny_call (codeAny_mono rc fun r s2 hq => ?_)
  cases r with
  | error e => exact (show False from hq).elim
  | ok fl =>
    cases fl with
    | ret u => exact I3.after hq
    | next => exact False.elim hq
    | brk => exact False.elim hq
    | cont => exact False.elim hq
end
end PK
end
section
set_option Elab.async false
set_option linter.all false
set_option maxRecDepth 100000
set_option maxHeartbeats 4000000
namespace PK
open PySem PySem.Spec PyProof.Rows L2 PM
local macro_rules | `(tactic| walk_at "sd") => `(tactic| (first
  | assumption
  | omega
  | (constructor <;> omega)
  | (refine ⟨by omega, ?_⟩; constructor <;> omega)
  | (constructor <;> (first | assumption | omega | (constructor <;> omega)))))
local macro_rules | `(tactic| walk_at "w") => `(tactic| (repeat (first
  | with_reducible refine ifTT ?_
  | with_reducible refine ifFT ?_
  | with_reducible refine ifnT ?_
  | with_reducible refine ifnF ?_
  | with_reducible refine ifIN ?_
  | with_reducible refine ifNN ?_
  | with_reducible refine ifnIN ?_
  | with_reducible refine ifnNN ?_
  | with_reducible refine ifRN ?_
  | with_reducible refine ifnRN ?_
  | ((fail_if_success with_reducible refine iteB ?_ ?_); first
    | refine ⟨_, rfl, ?_⟩
    | refine ⟨_, _, rfl, rfl, ?_⟩
    | refine ⟨_, _, rfl, ?_⟩
    | refine And.intro (a := (_ : Nat) ≤ sizeLine) (by first | exact len_small (m := 2) rfl | exact len_small (m := 1) rfl | exact len_small (m := 4) rfl | exact len_small (m := 3) rfl | exact len_small (m := 0) rfl) ?_
    | refine ⟨rfl, ?_⟩
    | refine And.intro (a := CDivP _ _) (by walk_at "sd") ?_
    | refine And.intro (a := CDivB _ _) (by walk_at "sd") ?_
    | refine And.intro (a := CMulB _ _) (by walk_at "sd") ?_
    | refine And.intro (a := _ ≠ (0 : Int)) (by walk_at "sd") ?_
    | refine And.intro (a := (0 : Int) < _) (by walk_at "sd") ?_
    | refine ⟨_, _, rfl, ‹_›, rfl, ?_⟩
    | refine ⟨_, _, _, _, rfl, rfl, ‹_›, rfl, ?_⟩
    | refine ⟨_, _, _, _, rfl, rfl, by assumption, by assumption, ?_⟩
    | refine ⟨_, _, _, _, _, _, rfl, ‹_›, ‹_›, rfl, ?_⟩
    | refine ⟨_, _, _, _, _, _, rfl, ‹_›, (by exact KCls.f ‹_› rfl), (by rfl), ?_⟩
    | refine ⟨_, _, _, _, _, _, rfl, upd_same, ‹_›, (by rfl), ?_⟩
    | refine ⟨_, _, _, _, _, _, rfl, ‹_›, ‹Cls _ _›, ‹_›, rfl, ?_⟩
    | refine ⟨_, _, _, _, rfl, ‹_›, by decide +kernel, ?_⟩
    | refine ⟨_, _, _, rfl, ‹_›, ?_⟩
    | refine And.intro (by assumption) ?_))))
section
variable {P : Program} {w : World} {K : PySem.W.Frag} {mg : Str → Option Value} {base : Heap}
/-! ### the search -/
def qlam : Str := (("painted_post_from" : Str) ++ ".<locals>.") ++ "<lambda>"
abbrev TabT (PT : Addr) : List (Addr × Str) := [(PT, qlam)]
/-- least_true, by what its test tells -/
def TTlt : V → V → (V → Hp → VK → Prop) → Hp → VK → Prop := fun v1 v2 tl H Q => ∃ (lo0 hi0 : Int) (B : Int → Bool), v1 = .int lo0 ∧ v2 = .int hi0 ∧ lo0 ≤ hi0 ∧ (∀ (m : Int) (H' : Hp) (Q' : VK), Same H H' → (∀ H2, Same H' H2 → Q' (.bl (B m)) H2) → tl (.int m) H' Q')
  ∧ ∀ r H', Same H H' → lo0 ≤ r → r ≤ hi0 → (r = lo0 ∨ B (r - 1) = false) → (r = hi0 ∨ B r = true) → Q (.int r) H'
theorem sc_least_true : FnScope ["low", "high", "test", "middle"] ["low", "high", "test"] (defScope s_least_true) := C8.fnScope_by (by decide +kernel)
theorem lt_gives {X : Cx} {g : Addr} {cdg : Value} {q : Str} : GivesTo3 X ["low", "high", "test", "middle"] "least_true" (defScope s_least_true) g cdg (defBody s_least_true) "test" 2 3 q TTlt := by
  intro f c' s H Q v1 v2 tl hr act hco ⟨lo0, hi0, B, e1, e2, hle, hB, k⟩
  subst e1 e2
  refine ⟨_, (pss_cons (ps_while PassesOwn.never (pt_cmpR op_lt (pv 0) (pv 1) (nomark _))
         (pss_cons (ps_set (i := 3) sc_least_true.nd rfl (Or.inl rfl) (pe_op op_fdivP (pe_op op_add (pv 0) (pv 1)) pe_int))
         (pss_one (ps_if (pt_val (act _ _ _ _ (pa_cons (pv 3) pa_nil) (fun _ => rfl))) (pss_one (ps_set (i := 1) sc_least_true.nd rfl (Or.inl rfl) (pv 3)))
           (pss_one (ps_set (i := 0) sc_least_true.nd rfl (Or.inl rfl) (pe_op op_add (pv 3) pe_int)))))))
      (pss_one (ps_ret (pv 1)))), ?_⟩
  show (_ : TS) _ [some _, some _, some _, none] _
  refine ⟨fun m σ H' => Tk (∃ (lo hi : Int) (o : Option V), σ = [some (.int lo), some (.int hi), some (.ref f), o] ∧ m = (hi - lo).toNat ∧ lo0 ≤ lo ∧ lo ≤ hi ∧ hi ≤ hi0 ∧ (lo = lo0 ∨ B (lo - 1) = false) ∧ (hi = hi0 ∨ B hi = true) ∧ Same H H'), ⟨_, tk ⟨lo0, hi0, none, rfl, rfl, Int.le_refl _, hle, Int.le_refl _, .inl rfl, .inl rfl, Same.refl _⟩⟩, ?_⟩
  rintro m σ H' ⟨lo, hi, o, rfl, rfl, h1, h2, h3, h4, h5, hS⟩
  walk_at "w"
  refine iteD (fun hc => ?_) (fun hc => ?_)
  · refine ⟨_, fun _ _ n => n, ?_⟩
    walk_at "w"
    refine ⟨hS _ _ hco, hB _ H' _ hS (fun H2 hS2 => ?_)⟩
    have d1 := Int.ediv_mul_le (lo + hi) (show (2 : Int) ≠ 0 by decide)
    have d2 := Int.lt_ediv_add_one_mul_self (lo + hi) (show (0 : Int) < 2 by decide)
    walk_at "w"
    refine iteB (fun hb => ?_) (fun hb => ?_)
    · walk_at "w"
      exact ⟨_, by omega, tk ⟨lo, (lo + hi) / 2, _, rfl, rfl, h1, by omega, by omega, h4, .inr hb, hS.trans hS2⟩⟩
    · walk_at "w"
      exact ⟨_, by omega, tk ⟨(lo + hi) / 2 + 1, hi, _, rfl, rfl, by omega, by omega, h3, .inr (by rw [show (lo + hi) / 2 + 1 - 1 = (lo + hi) / 2 by omega]; exact hb), h5, hS.trans hS2⟩⟩
  · walk_at "w"
    have e : lo = hi := by omega
    subst e
    exact k lo H' hS h1 h3 h4 h5
structure PPFok (ps : List Piece) (post index : Int) : Prop where
  ok : PsOk ps
  few : ps.length ≤ 40
  p0 : -(10 ^ 40) ≤ post
  p1 : post ≤ 10 ^ 40
  i0 : 0 ≤ index
  i1 : index ≤ 10 ^ 30
def spPPF (K : PySem.W.Frag) (PT : Addr) : Sp := fun vs H Q _ => ∃ (t : Addr) (ps : List Piece) (post index : Int), vs = [.ref t, .int post, .int index] ∧ LT K H t (ps.map pieceV) ∧ PPFok ps post index ∧ LamX.Tabs (TabT PT) H
  ∧ ∀ r H', LamX.ExtN H H' → LamX.Tabs (TabT PT) H' → Found ps post index r → (∀ x, r = some x → post ≤ x ∧ x ≤ 10 ^ 79) → Q (optV r) H'
theorem endP_le {q : Piece} {post index : Int} (ok : PieceOk q) (p1 : post ≤ 10 ^ 40) (i0 : 0 ≤ index) (i1 : index ≤ 10 ^ 30) : endP q post index ≤ 10 ^ 79 := by
  obtain ⟨a1, a2, a3, a4, a5, a6⟩ := ok
  unfold endP
  obtain ⟨p, s, c⟩ := q
  cases c with
  | none =>
    show (if s < 0 then p else (if p > post then p else post) + s * (index + 1)) ≤ _
    have a2 : p ≤ 10 ^ 30 := a2
    have a4 : s ≤ 10 ^ 18 := a4
    split
    · omega
    · have h1 := mul_small (x := s) (y := index + 1) (N := 10 ^ 18) (M := 10 ^ 31) ⟨by omega, by omega⟩ ⟨by omega, by omega⟩
      have e : (10 : Int) ^ 18 * 10 ^ 31 = 10 ^ 49 := by decide
      rw [e] at h1
      split <;> omega
  | some c =>
    obtain ⟨c0, c1⟩ := a6 c rfl
    have a2 : p ≤ 10 ^ 30 := a2
    have a3 : -(10 ^ 18) ≤ s := a3
    have a4 : s ≤ 10 ^ 18 := a4
    show p + (if (c - 1) * s > 0 then (c - 1) * s else 0) ≤ _
    have h1 := mul_small (x := c - 1) (y := s) (N := 10 ^ 60) (M := 10 ^ 18) ⟨by omega, by omega⟩ ⟨a3, a4⟩
    have e : (10 : Int) ^ 60 * 10 ^ 18 = 10 ^ 78 := by decide
    rw [e] at h1
    split <;> omega
theorem extN_same {H H' : Hp} (h : Same H H') : LamX.ExtN H H' := LamX.ExtN.of h
theorem _root_.LamX.ExtN.trans_same {H H1 H2 H3 : Hp} (e : LamX.ExtN H1 H2) (a : Same H H1) (b : Same H2 H3) : LamX.ExtN H H3 := ((extN_same a).trans e).trans (extN_same b)
theorem LamX.ExtN.seq {H H' : Hp} {a : Addr} {xs : List V} (e : LamX.ExtN H H') (h : SqL K H a xs) : SqL K H' a xs := by
  rcases h with (h | ⟨o, h⟩) | h
  · exact .inl (.inl (e _ _ h (fun _ z => by cases z)))
  · exact .inl (.inr ⟨o, e _ _ h (fun _ z => by cases z)⟩)
  · exact .inr h
theorem LamX.ExtN.sqt {H H' : Hp} {a : Addr} {xs : List V} (e : LamX.ExtN H H') (h : SqT K H a xs) : SqT K H' a xs := by
  rcases h with (h | ⟨o, h⟩) | h
  · exact .inl (.inl (e _ _ h (fun _ z => by cases z)))
  · exact .inl (.inr ⟨o, e _ _ h (fun _ z => by cases z)⟩)
  · exact .inr h
theorem LamX.ExtN.paired {H H' : Hp} (e : LamX.ExtN H H') : ∀ {rs : List Addr} {xss : List (List V)}, Paired (fun r xs => SqT K H r xs) rs xss → Paired (fun r xs => SqT K H' r xs) rs xss
  | _, _, .nil => .nil
  | _, _, .cons a b => .cons (LamX.ExtN.sqt e a) (LamX.ExtN.paired e b)
theorem LamX.ExtN.lt {H H' : Hp} {a : Addr} {xss : List (List V)} (e : LamX.ExtN H H') (h : LT K H a xss) : LT K H' a xss := by
  obtain ⟨rs, h1, h2⟩ := h
  exact ⟨rs, LamX.ExtN.seq e h1, LamX.ExtN.paired e h2⟩
theorem sc_painted_post_from : FnScope ["parts", "post", "index", "end", "piece", "here"] ["parts", "post", "index"] (defScope s_painted_post_from) := C8.fnScope_by (by decide +kernel)
theorem ok_painted_post_from {f gL c PT : Addr} (F : DF K "painted_post_from" "painted_post_from" s_painted_post_from f) (hm : mg "painted_post_from" = some (.ref f)) (hcF : ∀ {oc : Value} {od : Option Addr} {fd : FuncData} {osl : Array (Option Value)}, K.lookup f = some ⟨oc, od, .func fd, osl⟩ → fd.code = .ref c) (TB : LamX.TabB base mg c PT)
    (FL : DF K "least_true" "least_true" s_least_true gL) (hmL : mg "least_true" = some (.ref gL)) (c_painted_in : C8.Cal P w K mg base 2 "painted_in" (spPaintedIn K) []) (c_end_of_piece : C8.Cal P w K mg base 1 "end_of_piece" (spEndOf K) []) (n_max : mg "max" = none) :
    ∃ fd, FnOk P w K mg base CX0 5 f fd ["parts", "post", "index"] (spPPF K PT) ∧ PySem.W.keepIn K (.ref f) = true ∧ Binds K fd ["parts", "post", "index"] [] := by
  obtain ⟨fd, F⟩ := F
  have kpF := F.kp
  have bF : Binds K fd ["parts", "post", "index"] [] := F.bindsN (fun _ _ _ _ _ _ us hl => match us, hl with | [_, _, _], _ => rfl)
  obtain ⟨fdL, FL⟩ := FL
  have kpL := FL.kp
  have bL : Binds K fdL ["low", "high", "test"] [] := FL.bindsN (fun _ _ _ _ _ _ us hl => match us, hl with | [_, _, _], _ => rfl)
  obtain ⟨ocL, odL, dVL, kVL, docL, pmL, anL, cdvL, ctL, oslL, rfl, lkL, hcdL, _, _⟩ := FL.ex
  obtain ⟨oc, od, dV, kV, doc, pm, an, cdv, ct, osl, rfl, lk, hcd, _, _⟩ := F.ex
  have ecd : cdv = .ref c := hcF lk
  subst ecd
  refine ⟨_, fn_of lk hcd sc_painted_post_from (fun vs H Q E h => ?_) (fun A outer s H vs Q E hr h => ?_), kpF, bF⟩
  · obtain ⟨t, ps, post, index, rfl, _⟩ := h
    rfl
  · obtain ⟨t, ps, post, index, rfl, ⟨rs, hl, hP⟩, ok, hT, k⟩ := h
    refine ⟨_, nox_of (pss_cons (ps_set (i := 3) sc_painted_post_from.nd rfl (Or.inl rfl) (pe_callB (cr_max rfl) (by rfl) n_max (by decide +kernel) (pa_cons (pe_op op_cat (pe_lst (pa_cons (pv 1) pa_nil)) (pe_lc (own := [("piece", 4)]) rfl sc_painted_post_from.nd (pi_list (pv 0)) (blkOk_by (N := ["parts", "post", "index", "end", "piece", "here"]) (sc := defScope s_painted_post_from) (own := [("piece", 4)]) (by decide +kernel)) (fun _ _ _ _ _ => (pg_name (i := 4) sc_painted_post_from.nd rfl (Or.inl rfl))) (fun _ _ _ _ _ => pts_nil) (fun _ _ _ _ _ => (C8.pe_c c_end_of_piece hr (by decide) rfl (pa_cons (pv 4) (pa_cons (pv 1) (pa_cons (pv 2) pa_nil))))))) pa_nil)))
        (pss_cons (ps_if (pt_cmpR op_le (C8.pe_c c_painted_in hr (by decide) rfl (pa_cons (pv 0) (pa_cons (pv 1) (pa_cons (pv 3) pa_nil)))) (pv 2) (nomark _)) (pss_one (ps_ret pe_non))
           pss_nil)
        (pss_one (ps_ret (pe_lamcall3 (k := 2) (T := TabT PT) (TT := TTlt) (ih := 5) (hn := "here") rfl hmL kpL lkL hcdL bL sc_least_true rfl (.inl rfl) lt_gives TB rfl (List.mem_singleton.mpr rfl) (fun p hp _ => by rw [List.mem_singleton.mp hp]; rfl) hr (lamS1_by (sc := defScope s_painted_post_from) (by decide +kernel)) rfl sc_painted_post_from.nd rfl (fun _ _ _ _ _ _ => rfl) (pv 1) (pv 3) (fun _ _ _ _ _ _ hr => (pe_cmpR op_gt (C8.pe_c c_painted_in hr (by decide) rfl (pa_cons (pv 0) (pa_cons (pv 1) (pa_cons (pv 5) pa_nil)))) (pv 2) (nomark _)))))))), ?_⟩
    show (_ : TS) _ [some _, some _, some _, none, none, none] _
    have hrl : rs.length = ps.length := by
      have := paired_len hP
      rw [List.length_map] at this
      exact this
    have hfew := ok.few
    walk_at "w"
    intro l1 hl1
    have S1 : Same H (upd H l1 (.lst [.int post])) := Same.new hl1
    have hl2 := S1.seq hl
    walk_at "w"
    refine ⟨⟨_, hl2⟩, fun D hD => ?_⟩
    refine lc_acc (walk_list (xs := rs.map V.ref)) hD (by rw [List.length_map]; omega) (fun i acc _ => acc = (ps.take i).map (fun q => V.int (endP q post index))) rfl (fun i acc H' e _ => e.seq hl2) ?_ ?_
    · rintro i v acc H1 H2 Nx hi hS hD1 rfl ⟨rfl, hz⟩ fin _
      obtain ⟨rr, xs, rfl, h1, h2, h3⟩ := pair_at hP hz
      obtain ⟨q, hq, rfl⟩ := map_at h2
      have h4 := (S1.trans hS).sqt h3
      walk_at "w"
      refine ⟨rr, q, post, index, rfl, h4, ok.ok q (List.mem_of_getElem? hq), ok.i0, ok.i1, ?_⟩
      refine fin _ _ hD1 hS ?_
      rw [take_snoc hq, List.map_append]
      rfl
    rintro acc H1 hS1 hD1 rfl
    rw [List.length_map, hrl, List.take_length] at hD1
    have hl11 := hS1 _ _ (upd_same (H := H) (a := l1) (o := .lst [.int post]))
    refine ⟨l1, D, [.int post], _, rfl, rfl, hl11, hD1, ?_, fun l3 hl3 => ?_⟩
    · refine len_of (m := 41) ?_
      rw [List.length_map]
      show 1 + ps.length ≤ 41
      omega
    have S2 := (S1.trans hS1).trans (Same.new (o := .lst ([V.int post] ++ ps.map (fun q => V.int (endP q post index)))) hl3)
    generalize hH2 : upd H1 l3 (.lst ([V.int post] ++ ps.map (fun q => V.int (endP q post index)))) = H2 at S2 ⊢
    have hl33 : SqL K H2 l3 ((post :: ps.map fun q => endP q post index).map V.int) := by
      refine SqL.of ?_
      rw [← hH2, upd_same, List.map_cons, List.map_map]
      rfl
    walk_at "w"
    refine ⟨l3, post :: ps.map (fun q => endP q post index), rfl, hl33, Nat.zero_lt_succ _, fun E hE hmax => ?_⟩
    have hE0 : post ≤ E := hmax post List.mem_cons_self
    have hEq : ∀ q, q ∈ ps → endP q post index ≤ E := fun q hq => hmax _ (List.mem_cons_of_mem _ (List.mem_map.mpr ⟨q, hq, rfl⟩))
    have hE1 : E ≤ 10 ^ 79 := by
      rcases List.mem_cons.mp hE with e | e
      · have := ok.p1
        omega
      · obtain ⟨q, hq, rfl⟩ := List.mem_map.mp e
        exact endP_le (ok.ok q hq) ok.p1 ok.i0 ok.i1
    have hLT2 : LT K H2 t (ps.map pieceV) := S2.lt ⟨rs, hl, hP⟩
    have hnz : AllNZ ps := fun q hq => (ok.ok q hq).nz
    walk_at "w"
    refine ⟨t, post, E, ps, rfl, hLT2, ok.ok, fun H3 hS3 => ?_⟩
    walk_at "w"
    have S3 := S2.trans hS3
    refine iteD (fun hc => ?_) (fun hc => ?_)
    · walk_at "w"
      exact k none H3 (extN_same S3) (hT.ext S3) (found_none hnz ok.i0 hE0 hEq hc).1 (fun x e => (nomatch e))
    · walk_at "w"
      refine ⟨hT.ext S3, fun H4 hX hT4 => ?_⟩
      have hLT4 : LT K H4 t (ps.map pieceV) := LamX.ExtN.lt hX (S3.lt ⟨rs, hl, hP⟩)
      refine ⟨post, E, fun m => decide (index < pcs ps post m), rfl, rfl, hE0, fun m H5 Q' hS5 hQ => ?_, fun r H5 hS5 hr0 hr1 h1 h2 => ?_⟩
      · walk_at "w"
        refine ⟨t, post, m, ps, rfl, hS5.lt hLT4, ok.ok, fun H6 hS6 => ?_⟩
        walk_at "w"
        exact hQ H6 hS6
      · have hlt : index < pcs ps post r := by
          rcases h2 with e | e
          · rw [e]
            omega
          · exact of_decide_eq_true e
        refine k (some r) H5 (hX.trans_same S3 hS5) (hT4.ext hS5) ⟨hr0, hlt, fun y hy0 hy1 => ?_⟩ (fun x e => by injection e with e; omega)
        rcases h1 with e | e
        · omega
        · have h3 := of_decide_eq_false e
          have h4 := pcs_mono hnz (lo := post) (x := y) (y := r - 1) (by omega) (by omega)
          omega
end
end PK
end
section
set_option Elab.async false
set_option linter.all false
set_option maxRecDepth 100000
set_option maxHeartbeats 4000000
namespace PK
open PySem PySem.Spec PyProof.Rows L2
/-! ### an instance called with keywords -/
section
variable {M : Model} {A : Around} {E : Value → Shared → Prop} {s : Shared}
theorem callO_ofK {a : Addr} {pos : Pos} {Q : Value → Shared → Prop} {args : List (Bool × Sem Value)} {kws : List (Option Str × Sem Value)} (hplain : (args.any (·.1) || kws.any (·.1.isNone)) = false)
    (h : wpAny M A (evalArgs (.ref a) true args kws) (fun z s₁ => (∃ C ox od, PySem.W.InstAt s₁.heap a ox C od ∧ ox.data = .plain) ∧ wpAny M A (call (.ref a) ([] ++ z.pos) z.kw) Q E s₁) E s) : wpAny M A (callWith pos (.ref a) [] args kws) Q E s := by
  unfold callWith
  refine wpAny_bind (wpAny_holding (wpAny_mono h (fun z s₁ h₁ => wpAny_bind (wpAny_standAt ?_)) fun _ _ y => y))
  obtain ⟨⟨C, ox, od, J, hd⟩, h₁⟩ := h₁
  have L := PySem.W.kco_keeper (M := M) J hd
  simp only [hplain]
  refine wpAny_bind (L.here ?_)
  have tail : ∀ {t : Sem Value}, wpAny M A t Q E s₁ → wpAny M A (t >>= fun r => holding [r] point >>= fun _ => pure r) Q E s₁ :=
    fun ht => wpAny_bind (wpAny_mono ht (fun r s₂ hr => wpAny_bind (wpAny_holding (wpAny_point (wpAny_pure hr)))) fun _ _ y => y)
  exact tail (wpAny_operateT h₁)
end
section
variable {X : Cx} {k n j : Nat} {C : Addr} {ks : List Str} {sp : Sp} {e fe : Expr} {es : List Expr} {kws : List Keyword} {tf : TE} {t tk : TA} {p pos : Pos} {gV : List V → List V → List V}
/-- an instance's __call__, called so -/
structure CalO (P : Program) (w : World) (K : PySem.W.Frag) (mg : Str → Option Value) (base : Heap) (k : Nat) (C : Addr) (sp : Sp) (n : Nat) (ks : List Str) (gV : List V → List V → List V) : Prop where
  ex : ∃ (f : Addr) (fd : FuncData) (ps : List Str) (g : List Value → List Value → List Value), StX.CallO K C f ∧ FnOk P w K mg base CX0 k f fd ps sp ∧ KBn K fd ps (n + 1) ks g gV
def tCallOK (C : Addr) (n m : Nat) (sp : Sp) (gV : List V → List V → List V) (tf : TE) (t tk : TA) : TE := fun σ H Q => tf σ H fun y H1 => ∃ a, y = V.ref a ∧ t σ H1 fun vs H2 => tk σ H2 fun zs H3 => (∃ dx fs, H3 a = some (.ins C dx fs)) ∧ vs.length = n ∧ zs.length = m ∧ sp (gV (.ref a :: vs) zs) H3 Q C8.E0
theorem pe_callOK (c : CalO X.prog X.w X.K X.mg X.base k C sp n ks gV) (hr : Room j X.A) (hk : k ≤ j) (hf : PE X fe tf) (ha : PA X (e :: es) t) (hkw : PK X kws tk)
    (hall : (backToKw pos (keywordEach kws X.env)).all (·.1.isSome) = true := by rfl) (hks : (backToKw pos (keywordEach kws X.env)).filterMap (·.1) = ks := by rfl)
    (ht : eval (.Call fe (e :: es) kws pos) X.env = (do callWith pos (← eval fe X.env) [] (backTo pos (starEach (e :: es) X.env)) (backToKw pos (keywordEach kws X.env))) := by rfl)
    (he : starEach (e :: es) X.env = (false, eval e X.env) :: starEach es X.env := by rfl)
    (hpl : ((backTo pos (starEach (e :: es) X.env)).any (·.1) || (backToKw pos (keywordEach kws X.env)).any (·.1.isNone)) = false := by rfl) : PE X (.Call fe (e :: es) kws pos) (tCallOK C n ks.length sp gV tf t tk) := by
  obtain ⟨g, fd, ps, gg, co, F, hb⟩ := c.ex
  have hr := hr.mono hk
  refine ⟨fun pins s σ H Q I h => ?_⟩
  rw [ht]
  refine wpAny_bind (thn (hf.run pins s σ H _ I h) fun u s1 ⟨y, H1, I1, ry, a, ey, q⟩ => ?_)
  subst ey
  obtain rfl : u = Value.ref a := ry
  refine callO_ofK hpl (PyProof.Rows.evalArgs_kw2 hall ?_ he)
  refine thn (ha.run pos pins s1 σ H1 _ I1 q) fun us s2 ⟨vs, H2, I2, r, q⟩ => ?_
  refine thn (hkw.run pos pins s2 σ H2 _ I2 q) fun ws s3 ⟨zs, H3, I3, rz, ⟨dx, fs, hi⟩, l1, l2, q⟩ => ?_
  obtain ⟨ox, od, J, hd⟩ := StX.insC_at (X := X) (C := C) I3 (.inr ⟨dx, fs, hi⟩)
  refine ⟨⟨C, ox, od, J, hd⟩, ?_⟩
  rw [hks]
  have r1 : Vals (V.ref a :: vs) (Value.ref a :: us) := .cons rfl r
  have r2 := hb.rel r1 rz
  refine wpAny_call (PySem.W.kco_code (a := ⟨[] ++ us, ks.zip ws⟩) I3.kIn J hd co.at_ co.fn co.fi (codeAny_mono (F.run X.A X.stack s3 H3 ⟨.ref a :: us, ks.zip ws⟩ (gg (.ref a :: us) ws) (gV (.ref a :: vs) zs) Q C8.E0 hr I3.env0 (hb.to s3 (.ref a :: us) ws I3.kIn (r1.length.symm.trans (by rw [List.length_cons, l1])) (rz.length.symm.trans l2)) r2 q) fun r s' hq => ?_))
  cases r with
  | error e => exact (C8.pass0 (E := C8.E0) pins σ H3 s3 e s' I3 hq)
  | ok fl =>
    cases fl with
    | ret u => exact I3.after hq
    | next => exact False.elim hq
    | brk => exact False.elim hq
    | cont => exact False.elim hq
end
/-! ### keyword calls of defs -/
section
variable {K : PySem.W.Frag} {x qual : Str} {params : Arguments} {body : List Stmt} {scope : Scope} {dvs : List V} {kws : List (Str × V)} {f : Addr} {fd : FuncData} {ps : List Str}
theorem kbinds0 (F : FunD K x qual params body scope [] kws f fd) (n : Nat) (ks : List Str) (ms : List (Str × V)) (g : {α : Type} → List α → List α → List α → List α) (hk : kws ≠ []) (hms : ∀ q ∈ ms, q ∈ kws)
    (hrel : ∀ {vs mz zs : List V} {us mv ws : List Value}, Vals vs us → Vals mz mv → Vals zs ws → Vals (g vs mz zs) (g us mv ws))
    (h : ∀ (D : Addr) (doc pm : Value) (an : Option Addr) (cdv ct : Value) (us mv ws : List Value), us.length = n → mv.length = ms.length → ws.length = ks.length →
      KwChain D ((ms.map (·.1)).zip mv) (bindArgs (PySem.W.fnOf x qual params body scope .none (.ref D) doc pm an cdv ct) ⟨us, ks.zip ws⟩) (ps.zip (g us mv ws))) :
    ∃ gg, KBn K fd ps n ks gg (fun vs zs => g vs (ms.map (·.2)) zs) := by
  obtain ⟨oc, od, dV, kV, doc, pm, an, cdv, ct, osl, rfl, lk, hcd, hD, hK⟩ := F.ex
  rcases hD with ⟨_, rfl⟩ | ⟨e, _⟩
  · rcases hK with e | ⟨D, rfl, hq⟩
    · exact absurd e hk
    · obtain ⟨mv, hl, rk, hks⟩ := kwd_vals (ms := ms) fun q hm => hq q (hms q hm)
      refine ⟨fun us ws => g us mv ws, ⟨fun s us ws X l1 l2 => ?_, fun r1 r2 => hrel r1 rk r2⟩⟩
      exact BindsTo.of_looks fun M => KwChain.looks X hks (h D doc pm an cdv ct us mv ws l1 hl l2)
  · exact absurd rfl e
/-- defaults, no keyword-only parameters; some given by keywords, each parameter is given -/
theorem kbinds1 (F : FunD K x qual params body scope dvs [] f fd) (n : Nat) (ks : List Str) (g : {α : Type} → List α → List α → List α) (hd : dvs ≠ [])
    (hrel : ∀ {vs zs : List V} {us ws : List Value}, Vals vs us → Vals zs ws → Vals (g vs zs) (g us ws))
    (h : ∀ (T : Addr) (kV doc pm : Value) (an : Option Addr) (cdv ct : Value) (us its ws : List Value), us.length = n → its.length = dvs.length → ws.length = ks.length →
      ∃ k, bindArgs (PySem.W.fnOf x qual params body scope (.ref T) kV doc pm an cdv ct) ⟨us, ks.zip ws⟩ = seqItems? (.ref T) >>= k ∧ k (some its.toArray) = pure (ps.zip (g us ws))) :
    ∃ gg, KBn K fd ps n ks gg (fun vs zs => g vs zs) := by
  obtain ⟨oc, od, dV, kV, doc, pm, an, cdv, ct, osl, rfl, lk, hcd, hD, hK⟩ := F.ex
  rcases hD with ⟨e, _⟩ | ⟨_, T, o, its, m, rfl, lT, oT, rT⟩
  · exact absurd e hd
  · refine ⟨fun us ws => g us ws, ⟨fun s us ws X l1 l2 => ?_, fun r1 r2 => hrel r1 r2⟩⟩
    obtain ⟨k, e1, e2⟩ := h T kV doc pm an cdv ct us its ws l1 rT.length.symm l2
    refine BindsTo.of_looks fun M => ?_
    rw [e1]
    exact looks_items X lT oT (.of_pure e2)
end
/-- a def of the module called with keywords -/
structure CalN (P : Program) (w : World) (K : PySem.W.Frag) (mg : Str → Option Value) (base : Heap) (k : Nat) (x : Str) (sp : Sp) (n : Nat) (ks : List Str) (gV : List V → List V → List V) : Prop where
  ex : ∃ (f : Addr) (fd : FuncData) (ps : List Str) (g : List Value → List Value → List Value), FnOk P w K mg base CX0 k f fd ps sp ∧ mg x = some (.ref f) ∧ PySem.W.keepIn K (.ref f) = true ∧ KBn K fd ps n ks g gV
section
variable {X : Cx} {k n j : Nat} {ks : List Str} {sp : Sp} {x : Str} {p pos : Pos} {e : Expr} {es : List Expr} {kws : List Keyword} {t tk : TA} {gV : List V → List V → List V}
theorem pe_cN (c : CalN X.prog X.w X.K X.mg X.base k x sp n ks gV) (hr : Room j X.A) (hk : k ≤ j) (hg : Gl X x) (ha : PA X (e :: es) t) (hkw : PK X kws tk)
    (hall : (backToKw pos (keywordEach kws X.env)).all (·.1.isSome) = true := by rfl) (hks : (backToKw pos (keywordEach kws X.env)).filterMap (·.1) = ks := by rfl)
    (hdb : (x == ("__debug__" : Str)) = false := by decide) (he : starEach (e :: es) X.env = (false, eval e X.env) :: starEach es X.env := by rfl)
    (hpl : ((backTo pos (starEach (e :: es) X.env)).any (·.1) || (backToKw pos (keywordEach kws X.env)).any (·.1.isNone)) = false := by rfl) :
    PE X (.Call (.Name x p) (e :: es) kws pos) (tCallN n ks.length sp gV C8.E0 t tk) := by
  obtain ⟨f, fd, ps, g, F, hm, kp, hb⟩ := c.ex
  exact pe_callN F (hr.mono hk) hg hm kp hb C8.pass0 ha hkw hall hks hdb he hpl
end
end PK
end
section
set_option Elab.async false
set_option linter.all false
set_option maxRecDepth 100000
set_option maxHeartbeats 4000000
namespace PK
open PySem PySem.Spec PyProof.Rows L2 PM
local macro_rules | `(tactic| walk_at "sd") => `(tactic| (first
  | assumption
  | omega
  | (constructor <;> omega)
  | (refine ⟨by omega, ?_⟩; constructor <;> omega)
  | (constructor <;> (first | assumption | omega | (constructor <;> omega)))))
local macro_rules | `(tactic| walk_at "w") => `(tactic| (repeat (first
  | with_reducible refine ifTT ?_
  | with_reducible refine ifFT ?_
  | with_reducible refine ifnT ?_
  | with_reducible refine ifnF ?_
  | with_reducible refine ifIN ?_
  | with_reducible refine ifNN ?_
  | with_reducible refine ifnIN ?_
  | with_reducible refine ifnNN ?_
  | with_reducible refine ifRN ?_
  | with_reducible refine ifnRN ?_
  | ((fail_if_success with_reducible refine iteB ?_ ?_); first
    | refine ⟨_, rfl, ?_⟩
    | refine ⟨_, _, rfl, rfl, ?_⟩
    | refine ⟨_, _, rfl, ?_⟩
    | refine And.intro (a := (_ : Nat) ≤ sizeLine) (by first | exact len_small (m := 2) rfl | exact len_small (m := 1) rfl | exact len_small (m := 4) rfl | exact len_small (m := 3) rfl | exact len_small (m := 0) rfl) ?_
    | refine ⟨rfl, ?_⟩
    | refine And.intro (a := CDivP _ _) (by walk_at "sd") ?_
    | refine And.intro (a := CDivB _ _) (by walk_at "sd") ?_
    | refine And.intro (a := CMulB _ _) (by walk_at "sd") ?_
    | refine And.intro (a := _ ≠ (0 : Int)) (by walk_at "sd") ?_
    | refine And.intro (a := (0 : Int) < _) (by walk_at "sd") ?_
    | refine ⟨_, _, rfl, ‹_›, rfl, ?_⟩
    | refine ⟨_, _, _, _, rfl, rfl, ‹_›, rfl, ?_⟩
    | refine ⟨_, _, _, _, rfl, rfl, by assumption, by assumption, ?_⟩
    | refine ⟨_, _, _, _, _, _, rfl, ‹_›, ‹_›, rfl, ?_⟩
    | refine ⟨_, _, _, _, _, _, rfl, ‹_›, (by exact KCls.f ‹_› rfl), (by rfl), ?_⟩
    | refine ⟨_, _, _, _, _, _, rfl, upd_same, ‹_›, (by rfl), ?_⟩
    | refine ⟨_, _, _, _, _, _, rfl, ‹_›, ‹Cls _ _›, ‹_›, rfl, ?_⟩
    | refine ⟨_, _, _, _, rfl, ‹_›, by decide +kernel, ?_⟩
    | refine ⟨_, _, _, rfl, ‹_›, ?_⟩
    | refine And.intro (by assumption) ?_))))
section
variable {P : Program} {w : World} {K : PySem.W.Frag} {mg : Str → Option Value} {base : Heap} {CP CF CC CB CH : Addr}
def DayB (d : Option Int) : Prop := ∀ v, d = some v → 0 ≤ v ∧ v ≤ 10 ^ 40
/-! ### a history's fence, its pieces -/
def spHFence (K : PySem.W.Frag) (CP CF CH : Addr) : Sp := fun vs H Q _ => ∃ (x f : Addr) (c : Crew) (r : Nat → Addr) (L : Nat → Option Int), vs = [.ref x] ∧ HiAt K CP CF CH H x f c r L ∧ Q (.ref f) H
theorem sc_History_fence : FnScope ["self"] ["self"] (defScope s_History_fence) := C8.fnScope_by (by decide +kernel)
theorem ok_g_fence {pf f : Addr} (kc : KCls K CH hiN) (me : PropOf K CH "fence" pf f) (F : DF K "fence" "History.fence" s_History_fence f) :
    Prp P w K mg base 1 CH "fence" (spHFence K CP CF CH) := by
  refine prp_of kc.cl me F sc_History_fence (fun _ _ _ _ _ _ us hl => match us, hl with | [_], _ => rfl) (fun vs H Q E h => ?_) (fun cdv A outer s H vs Q E hr h => ?_)
  · obtain ⟨x, f, c, r, L, rfl, _⟩ := h
    rfl
  · obtain ⟨x, f, c, r, L, rfl, ⟨dx, ld, hd, kvs, hx, _⟩, k⟩ := h
    refine ⟨_, (pss_one (ps_ret (pe_fldN 0 (pv 0) rfl))), ?_⟩
    show (_ : TS) _ [some _] _
    walk_at "w"
    exact k
def spPieces (K : PySem.W.Frag) (CP CF CH : Addr) : Sp := fun vs H Q _ => ∃ (x f : Addr) (c : Crew) (r : Nat → Addr) (L : Nat → Option Int) (day : Option Int), vs = [.ref x, optV day] ∧ HiAt K CP CF CH H x f c r L ∧ c.Ok
  ∧ ∀ t H', Same H H' → LT K H' t ((partsOf c.n c.p L day).map pieceV) → Q (.ref t) H'
theorem sc_pieces : FnScope ["told", "day", "found", "painter", "count", "passed"] ["told", "day"] (defScope s_pieces) := C8.fnScope_by (by decide +kernel)
theorem ok_pieces {f : Addr} {v0 : V} (kc : KCls K CH hiN) (F : DFd K "pieces" "pieces" s_pieces [v0] [] f) (hm : mg "pieces" = some (.ref f)) (c_fence : Prp P w K mg base 1 CH "fence" (spHFence K CP CF CH)) (c_painters : Prp P w K mg base 1 CF "painters" (spPainters K CP CF)) (c_name : Prp P w K mg base 1 CP "name" (spG_name K CP)) (c_day : Prp P w K mg base 1 CP "day" (spG_day K CP)) (c_post : Prp P w K mg base 1 CP "post" (spG_post K CP)) (c_stride : Prp P w K mg base 1 CP "stride" (spG_stride K CP)) (n_max : mg "max" = none) (n_min : mg "min" = none) :
    C8.Cal P w K mg base 3 "pieces" (spPieces K CP CF CH) [] := by
  obtain ⟨fd, F⟩ := F
  refine cal_ofB F (F.binds1 2 1 (by simp) rfl fun T kV doc pm an cdv ct us its hl hl2 => match us, hl, its, hl2 with | [_, _], _, [_], _ => ⟨_, rfl, rfl⟩) hm sc_pieces (fun vs H Q E h => ?_) (fun cdv A_ outer s H vs Q E hr h => ?_)
  · obtain ⟨x, f, c, r, L, day, rfl, _⟩ := h
    rfl
  · obtain ⟨x, f, c, r, L, day, rfl, hHi, ok, k⟩ := h
    have hu := units1 hr
    refine ⟨_, (pss_cons (ps_set (i := 2) sc_pieces.nd rfl (Or.inl rfl) (pe_lst pa_nil))
        (pss_cons (ps_for PassesOwn.never rfl (pi_tup (pe_pr c_painters hr (by decide) (pe_pr c_fence hr (by decide) (pv 0) rfl) rfl)) (pg_name (i := 3) sc_pieces.nd rfl (Or.inl rfl))
           (pss_cons (ps_set (i := 4) sc_pieces.nd rfl (Or.inl rfl) (pe_dget hu (pe_fldN 1 (pv 0) rfl) (pe_pr c_name hr (by decide) (pv 3) rfl) (fun _ _ => rfl)))
           (pss_cons (ps_if (pt_cmpR op_notN (pv 1) pe_non (nomark _)) (pss_cons (ps_set (i := 5) sc_pieces.nd rfl (Or.inl rfl) (pe_callB (call_max2 rfl) (by rfl) n_max (by decide +kernel) (pa_cons pe_int (pa_cons (pe_op op_add (pe_op op_sub (pv 1) (pe_pr c_day hr (by decide) (pv 3) rfl)) pe_int) pa_nil))))
              (pss_one (ps_set (i := 4) sc_pieces.nd rfl (Or.inl rfl) (pe_ifExp (pt_cmpR op_isN (pv 4) pe_non (nomark _)) (pv 5) (pe_callB (call_min2 rfl) (by rfl) n_min (by decide +kernel) (pa_cons (pv 4) (pa_cons (pv 5) pa_nil)))))))
              pss_nil)
           (pss_one (ps_expr (pe_bm PySem.F.plainAttrs_list PySem.F.slot_list_append PySem.F.type_list_append mt_append (pv 2) (pa_cons (pe_tup (pa_cons (pe_pr c_post hr (by decide) (pv 3) rfl) (pa_cons (pe_pr c_stride hr (by decide) (pv 3) rfl) (pa_cons (pv 4) pa_nil)))) pa_nil)))))))
        (pss_one (ps_ret (pv 2))))), ?_⟩
    show (_ : TS) _ [some _, some _, none, none, none, none] _
    have hfew := ok.few
    walk_at "w"
    intro D hD
    have S1 : Same H (upd H D (.lst [])) := Same.new hD
    have hHi1 := hHi.same S1
    obtain ⟨dx, ld, hd, kvs, hx, hF, hk, hv⟩ := id hHi1
    obtain ⟨fdx, ft, fd', hf, hft, hfc, hfd⟩ := id hF
    walk_at "w"
    refine ⟨x, f, c, r, L, rfl, hHi1, ?_⟩
    walk_at "w"
    intro tp htp
    walk_at "w"
    refine ⟨⟨_, htp⟩, ?_⟩
    refine for_it (walk_tup (xs := refsV r c.n)) (fun i σ H' => Tk (Same H H' ∧ ∃ (rs : List Addr) (o1 o2 o3 : Option V), σ = [some (.ref x), some (optV day), some (.ref D), o1, o2, o3] ∧ H' D = some (.lst (rs.map V.ref)) ∧ Paired (fun r xs => SqT K H' r xs) rs ((firsts (fun a => partOf (c.p a) (L a) day) i).map pieceV) ∧ rs.length ≤ i ∧ SqT K H' tp (refsV r c.n)))
      (tk ⟨S1, [], none, none, none, rfl, upd_same, .nil, Nat.le_refl _, htp⟩) (fun i σ H' _ p => ?_) ?_ ?_
    · obtain ⟨_, _, _, _, _, _, _, _, _, h⟩ := p.h
      exact h
    · rintro i v σ H1 H2 hi ⟨hS, rs, o1, o2, o3, rfl, hD1, hP1, hlen, htp1⟩ ⟨rfl, hz⟩
      obtain ⟨hi, rfl⟩ := firsts_at hz
      have hHi2 := hHi.same hS
      obtain ⟨dx2, ld2, hd2, kvs2, hx2, hF2, hk2, hv2⟩ := id hHi2
      obtain ⟨fdx2, ft2, fd2, hf2, hft2, hfc2, hfd2⟩ := id hF2
      have hpn := hfc2 i hi
      obtain ⟨d1, t1, hp1, ht1⟩ := id hpn
      walk_at "w"
      refine ⟨ld2, _, rfl, (hv2 i hi) ▸ DGet.k (k := nK (c.nm i)) hk2, ?_⟩
      have hDH : ∀ {a o}, H a = some o → a ≠ D := fun e => ne_of_none e hD
      have app : ∀ {σ0 : L2.St} {cc : Option Int} {D0 : Ends}, True := fun {_ _ _} => trivial
      have cl : ∀ (cc : Option Int), cc = cntD (c.p i).day (L i) day → ∀ p1, H2 p1 = none → Tk (Same H (upd (upd H2 p1 (.tup [.int (c.p i).post, .int (c.p i).stride, optV cc])) D (.lst (rs.map V.ref ++ [V.ref p1]))) ∧ ∃ (rs' : List Addr), (upd (upd H2 p1 (.tup [.int (c.p i).post, .int (c.p i).stride, optV cc])) D (.lst (rs.map V.ref ++ [V.ref p1]))) D = some (.lst (rs'.map V.ref)) ∧ Paired (fun r xs => SqT K (upd (upd H2 p1 (.tup [.int (c.p i).post, .int (c.p i).stride, optV cc])) D (.lst (rs.map V.ref ++ [V.ref p1]))) r xs) rs' ((firsts (fun a => partOf (c.p a) (L a) day) (i + 1)).map pieceV) ∧ rs'.length ≤ i + 1 ∧ SqT K (upd (upd H2 p1 (.tup [.int (c.p i).post, .int (c.p i).stride, optV cc])) D (.lst (rs.map V.ref ++ [V.ref p1]))) tp (refsV r c.n)) := fun cc ecc p1 hp1 => by
        have S3 := Same.new (o := .tup [V.int (c.p i).post, V.int (c.p i).stride, optV cc]) hp1
        have hD3 := S3 _ _ hD1
        have S4 : SB D (upd H2 p1 (.tup [V.int (c.p i).post, V.int (c.p i).stride, optV cc])) (upd (upd H2 p1 (.tup [.int (c.p i).post, .int (c.p i).stride, optV cc])) D (.lst (rs.map V.ref ++ [V.ref p1]))) := (SB.refl _ _).set
        refine tk ⟨Same.put hD (hS.trans S3), rs ++ [p1], by rw [List.map_append]; exact upd_same, ?_, by rw [List.length_append]; show rs.length + 1 ≤ _; omega, S4.sqtO hD3 (fun _ z => by cases z) (fun _ _ z => by cases z) (S3.sqt htp1)⟩
        rw [firsts_succ, List.map_append]
        refine paired_snoc (S4.paired hD3 (fun _ z => by cases z) (fun _ _ z => by cases z) (S3.paired hP1)) ?_
        have e : pieceV (partOf (c.p i) (L i) day) = [V.int (c.p i).post, V.int (c.p i).stride, optV cc] := by rw [ecc]; rfl
        rw [e]
        exact S4.sqtO hD3 (fun _ z => by cases z) (fun _ _ z => by cases z) (SqT.of upd_same)
      have hll : (rs.map V.ref).length < sizeLine := by
        rw [List.length_map]
        exact lt_line (m := i) hlen (by omega)
      cases day with
      | none =>
        walk_at "w"
        refine ⟨tyL hD1, ?_⟩
        walk_at "w"
        intro p1 hp1
        refine ⟨D, rs.map V.ref, .ref p1, rfl, rfl, Same.new hp1 _ _ hD1, hll, ?_⟩
        obtain ⟨⟨q1, rs', q2, q3, q4, q5⟩⟩ := cl (L i) rfl p1 hp1
        exact tk ⟨q1, rs', _, _, _, rfl, q2, q3, q4, q5⟩
      | some d =>
        have em : ∀ z : Int, (if z > 0 then z else 0) = max 0 z := fun z => by split <;> omega
        cases hL : L i with
        | none =>
          walk_at "w"
          refine ⟨tyL hD1, ?_⟩
          walk_at "w"
          intro p1 hp1
          refine ⟨D, rs.map V.ref, .ref p1, rfl, rfl, Same.new hp1 _ _ hD1, hll, ?_⟩
          obtain ⟨⟨q1, rs', q2, q3, q4, q5⟩⟩ := cl (some (if d - (c.p i).day + 1 > 0 then d - (c.p i).day + 1 else 0)) (by rw [hL, em]; rfl) p1 hp1
          exact tk ⟨q1, rs', _, _, _, rfl, q2, q3, q4, q5⟩
        | some cz =>
          walk_at "w"
          refine ⟨tyL hD1, ?_⟩
          walk_at "w"
          intro p1 hp1
          refine ⟨D, rs.map V.ref, .ref p1, rfl, rfl, Same.new hp1 _ _ hD1, hll, ?_⟩
          obtain ⟨⟨q1, rs', q2, q3, q4, q5⟩⟩ := cl (some (if (if d - (c.p i).day + 1 > 0 then d - (c.p i).day + 1 else 0) < cz then (if d - (c.p i).day + 1 > 0 then d - (c.p i).day + 1 else 0) else cz)) (by
            rw [hL, em]
            show some _ = some (min cz (max 0 (d - (c.p i).day + 1)))
            congr 1
            split <;> omega) p1 hp1
          exact tk ⟨q1, rs', _, _, _, rfl, q2, q3, q4, q5⟩
    · rintro σ H1 ⟨hS, rs, o1, o2, o3, rfl, hD1, hP1, hlen, htp1⟩
      rw [firsts_len] at hP1
      walk_at "w"
      exact k D H1 hS ⟨rs, SqL.of hD1, hP1⟩
end
end PK
end
section
set_option Elab.async false
set_option linter.all false
set_option maxRecDepth 100000
set_option maxHeartbeats 4000000
namespace PK
open PySem PySem.Spec PyProof.Rows L2 PM
local macro_rules | `(tactic| walk_at "sd") => `(tactic| (first
  | assumption
  | omega
  | (constructor <;> omega)
  | (refine ⟨by omega, ?_⟩; constructor <;> omega)
  | (constructor <;> (first | assumption | omega | (constructor <;> omega)))))
local macro_rules | `(tactic| walk_at "w") => `(tactic| (repeat (first
  | with_reducible refine ifTT ?_
  | with_reducible refine ifFT ?_
  | with_reducible refine ifnT ?_
  | with_reducible refine ifnF ?_
  | with_reducible refine ifIN ?_
  | with_reducible refine ifNN ?_
  | with_reducible refine ifnIN ?_
  | with_reducible refine ifnNN ?_
  | with_reducible refine ifRN ?_
  | with_reducible refine ifnRN ?_
  | ((fail_if_success with_reducible refine iteB ?_ ?_); first
    | refine ⟨_, rfl, ?_⟩
    | refine ⟨_, _, rfl, rfl, ?_⟩
    | refine ⟨_, _, rfl, ?_⟩
    | refine And.intro (a := (_ : Nat) ≤ sizeLine) (by first | exact len_small (m := 2) rfl | exact len_small (m := 1) rfl | exact len_small (m := 4) rfl | exact len_small (m := 3) rfl | exact len_small (m := 0) rfl) ?_
    | refine ⟨rfl, ?_⟩
    | refine And.intro (a := CDivP _ _) (by walk_at "sd") ?_
    | refine And.intro (a := CDivB _ _) (by walk_at "sd") ?_
    | refine And.intro (a := CMulB _ _) (by walk_at "sd") ?_
    | refine And.intro (a := _ ≠ (0 : Int)) (by walk_at "sd") ?_
    | refine And.intro (a := (0 : Int) < _) (by walk_at "sd") ?_
    | refine ⟨_, _, rfl, ‹_›, rfl, ?_⟩
    | refine ⟨_, _, _, _, rfl, rfl, ‹_›, rfl, ?_⟩
    | refine ⟨_, _, _, _, rfl, rfl, by assumption, by assumption, ?_⟩
    | refine ⟨_, _, _, _, _, _, rfl, ‹_›, ‹_›, rfl, ?_⟩
    | refine ⟨_, _, _, _, _, _, rfl, ‹_›, (by exact KCls.f ‹_› rfl), (by rfl), ?_⟩
    | refine ⟨_, _, _, _, _, _, rfl, upd_same, ‹_›, (by rfl), ?_⟩
    | refine ⟨_, _, _, _, _, _, rfl, ‹_›, ‹Cls _ _›, ‹_›, rfl, ?_⟩
    | refine ⟨_, _, _, _, rfl, ‹_›, by decide +kernel, ?_⟩
    | refine ⟨_, _, _, rfl, ‹_›, ?_⟩
    | refine And.intro (by assumption) ?_))))
section
variable {P : Program} {w : World} {K : PySem.W.Frag} {mg : Str → Option Value} {base : Heap} {CP CF CC CB CH : Addr}
/-! ### who painted a post -/
theorem numAt_some {p : Pt} {k x : Int} (nz : p.stride ≠ 0) (h0 : 0 ≤ k) (e : p.at_ k = x) : numAt p x = some k := by
  unfold numAt
  have e1 : x - p.post = k * p.stride := by unfold Pt.at_ at e; omega
  rw [e1, Int.mul_fmod_left, Int.mul_fdiv_cancel _ nz, if_pos ⟨rfl, h0⟩]
theorem numAt_spec {p : Pt} {k x : Int} (h : numAt p x = some k) : 0 ≤ k ∧ p.at_ k = x := by
  unfold numAt at h
  by_cases q : (x - p.post).fmod p.stride = 0 ∧ 0 ≤ (x - p.post).fdiv p.stride
  · rw [if_pos q] at h
    injection h with h
    refine ⟨by rw [← h]; exact q.2, ?_⟩
    have := Int.fmod_add_fdiv_mul (x - p.post) p.stride
    unfold Pt.at_
    rw [← h]
    rw [q.1] at this
    omega
  · rw [if_neg q] at h
    cases h
/-- the post is painted, by the day -/
def PaintBy (c : Crew) (L : Nat → Option Int) (x : Int) (day : Option Int) : Prop := ∃ (a : Nat) (k : Int), a < c.n ∧ Pa L a k ∧ (c.p a).at_ k = x ∧ ∀ d, day = some d → (c.p a).day + k ≤ d
def spPainterAt (K : PySem.W.Frag) (CP CF CH : Addr) : Sp := fun vs H Q _ => ∃ (x f : Addr) (c : Crew) (r : Nat → Addr) (L : Nat → Option Int) (post : Int) (day : Option Int), vs = [.ref x, .int post, optV day] ∧ HiAt K CP CF CH H x f c r L ∧ c.Ok ∧ LimOk c L ∧ -(10 ^ 80) ≤ post ∧ post ≤ 10 ^ 80 ∧ PaintBy c L post day
  ∧ ∀ (a : Nat) H', a < c.n → Same H H' → Q (.ref (r a)) H'
theorem sc_History_painter_at : FnScope ["self", "post", "day", "painter", "number", "count"] ["self", "post", "day"] (defScope s_History_painter_at) := C8.fnScope_by (by decide +kernel)
theorem ok_painter_at {f : Addr} (kc : KCls K CH hiN) (me : Meth K CH "painter_at" f) (F : DF K "painter_at" "History.painter_at" s_History_painter_at f) (c_painters : Prp P w K mg base 1 CF "painters" (spPainters K CP CF)) (c_name : Prp P w K mg base 1 CP "name" (spG_name K CP)) (c_day : Prp P w K mg base 1 CP "day" (spG_day K CP)) (c_count_at : C8.Met P w K mg base 4 CP "count_at" (spCountAt K CP) []) :
    C8.Met P w K mg base 5 CH "painter_at" (spPainterAt K CP CF CH) [] := by
  refine met_of kc.cl me F sc_History_painter_at (fun _ _ _ _ _ _ us hl => match us, hl with | [_, _, _], _ => rfl) (fun vs H Q E h => ?_) (fun cdv A_ outer s H vs Q E hr h => ?_)
  · obtain ⟨x, f, c, r, L, post, day, rfl, _⟩ := h
    rfl
  · obtain ⟨x, f, c, r, L, post, day, rfl, hHi, ok, lim, hp0, hp1, ⟨a, k0, ha, hPa, hat, hday⟩, k⟩ := h
    have hu := units1 hr
    refine ⟨_, (pss_cons (ps_for PassesOwn.never rfl (pi_tup (pe_pr c_painters hr (by decide) (pe_fldN 0 (pv 0) rfl) rfl)) (pg_name (i := 3) sc_History_painter_at.nd rfl (Or.inl rfl))
           (pss_cons (ps_par (i := 4) (j := 5) rfl sc_History_painter_at.nd rfl rfl (by decide) rfl rfl (pa_cons (pe_mtN c_count_at hr (by decide) (pv 3) (pa_cons (pv 1) pa_nil)) (pa_cons (pe_dget hu (pe_fldN 1 (pv 0) rfl) (pe_pr c_name hr (by decide) (pv 3) rfl) (fun _ _ => rfl)) pa_nil)) (by rfl))
           (pss_one (ps_if (PW.pt (pw_and (pt_cmpR op_notN (pv 4) pe_non (nomark _)) (pw_and1 (PW.pt (pw_or (pt_cmpR op_isN (pv 5) pe_non (nomark _)) (pw_or1 (pt_cmpR op_lt (pv 4) (pv 5) (nomark _)))))))) (pss_one (ps_ret (pe_ifExp (PW.pt (pw_or (pt_cmpR op_isN (pv 2) pe_non (nomark _)) (pw_or1 (pt_cmpR op_le (pe_op op_add (pe_pr c_day hr (by decide) (pv 3) rfl) (pv 4)) (pv 2) (nomark _))))) (pv 3) pe_non)))
             pss_nil))))
        (pss_one (ps_ret pe_non))), ?_⟩
    show (_ : TS) _ [some _, some _, some _, none, none, none] _
    have hka := numAt_some (ok.pts a ha).nz hPa.1 hat
    obtain ⟨dx, ld, hd, kvs, hx, hF, hk, hv⟩ := id hHi
    obtain ⟨fdx, ft, fd', hf, hft, hfc, hfd⟩ := id hF
    walk_at "w"
    intro tp htp
    walk_at "w"
    refine ⟨⟨_, htp⟩, ?_⟩
    refine for_it (walk_tup (xs := refsV r c.n)) (fun i σ H' => Tk (Same H H' ∧ i ≤ a ∧ ∃ (o1 o2 o3 : Option V), σ = [some (.ref x), some (.int post), some (optV day), o1, o2, o3]))
      (tk ⟨Same.refl _, Nat.zero_le _, none, none, none, rfl⟩) (fun i σ H' _ p => p.h.1.sqt htp) ?_ ?_
    · rintro i v σ H1 H2 hi ⟨hS, hia, o1, o2, o3, rfl⟩ ⟨rfl, hz⟩
      obtain ⟨hi, rfl⟩ := firsts_at hz
      have hHi2 := hHi.same hS
      obtain ⟨dx2, ld2, hd2, kvs2, hx2, hF2, hk2, hv2⟩ := id hHi2
      obtain ⟨fdx2, ft2, fd2, hf2, hft2, hfc2, hfd2⟩ := id hF2
      have hpn := hfc2 i hi
      obtain ⟨d1, t1, hq1, ht1⟩ := id hpn
      walk_at "w"
      refine ⟨r i, c.nm i, c.p i, post, rfl, hpn, ok.pts i hi, hp0, hp1, fun H3 hS3 => ?_⟩
      have hHi3 := hHi2.same hS3
      obtain ⟨dx3, ld3, hd3, kvs3, hx3, hF3, hk3, hv3⟩ := id hHi3
      have hpn3 := hpn.same hS3
      obtain ⟨d3, t3, hq3, ht3⟩ := id hpn3
      have hSS := hS.trans hS3
      walk_at "w"
      refine ⟨ld3, _, rfl, (hv3 i hi) ▸ DGet.k (k := nK (c.nm i)) hk3, ?_⟩
      cases hn : numAt (c.p i) post with
      | none =>
        walk_at "w"
        exact tk ⟨hSS, by
          by_cases e : i = a
          · rw [e, hka] at hn
            cases hn
          · omega, _, _, _, rfl⟩
      | some kk =>
        obtain ⟨k1, k2⟩ := numAt_spec hn
        have same : Pa L i kk → i = a ∧ kk = k0 := fun hPi => by
          have e := pa_apart lim.hist hi ha hPi hPa (k2.trans hat.symm)
          subst e
          rw [hka] at hn
          injection hn with hn
          exact ⟨rfl, hn.symm⟩
        have fin : Pa L i kk → ∀ d, day = some d → (c.p i).day + kk ≤ d := fun hPi d e => by
          obtain ⟨e1, e2⟩ := same hPi
          subst e1 e2
          exact hday d e
        cases hL : L i with
        | none =>
          have hPi : Pa L i kk := ⟨k1, fun z e => by rw [hL] at e; cases e⟩
          cases day with
          | none =>
            walk_at "w"
            exact k i H3 hi hSS
          | some d =>
            have hle := fin hPi d rfl
            walk_at "w"
            refine iteD (fun _ => ?_) (fun hc => absurd hle hc)
            walk_at "w"
            exact k i H3 hi hSS
        | some z =>
          walk_at "w"
          refine iteD (fun hc => ?_) (fun hc => ?_)
          · have hPi : Pa L i kk := ⟨k1, fun z' e => by rw [hL] at e; injection e with e; omega⟩
            cases day with
            | none =>
              walk_at "w"
              exact k i H3 hi hSS
            | some d =>
              have hle := fin hPi d rfl
              walk_at "w"
              refine iteD (fun _ => ?_) (fun hc => absurd hle hc)
              walk_at "w"
              exact k i H3 hi hSS
          · walk_at "w"
            exact tk ⟨hSS, by
              by_cases e : i = a
              · subst e
                rw [hka] at hn
                injection hn with hn
                have := hPa.2 z hL
                omega
              · omega, _, _, _, rfl⟩
    · rintro σ H1 ⟨hS, hia, o1, o2, o3, rfl⟩
      rw [firsts_len] at hia
      omega
def spCallH (K : PySem.W.Frag) (CP CF CH : Addr) : Sp := fun vs H Q _ => ∃ (x f : Addr) (c : Crew) (r : Nat → Addr) (L : Nat → Option Int) (post : Int) (day : Option Int), vs = [.ref x, .int post, optV day] ∧ HiAt K CP CF CH H x f c r L ∧ c.Ok ∧ LimOk c L ∧ -(10 ^ 80) ≤ post ∧ post ≤ 10 ^ 80 ∧ DayOk day ∧ PaintBy c L post day
  ∧ ∀ z H', Same H H' → Q (.str z) H'
theorem sc_History___call__ : FnScope ["self", "post", "day", "painter"] ["self", "post", "day"] (defScope s_History___call__) := C8.fnScope_by (by decide +kernel)
theorem ok_callH {f : Addr} {v0 : V} (kc : KCls K CH hiN) (co : StX.CallO K CH f) (F : DFd K "__call__" "History.__call__" s_History___call__ [v0] [] f) (c_need_post : C8.Cal P w K mg base 3 "need_post" spNeedPost []) (c_need_day_or_none : C8.Cal P w K mg base 4 "need_day_or_none" spNeedDayOrNone []) (c_painter_at : C8.Met P w K mg base 5 CH "painter_at" (spPainterAt K CP CF CH) []) (c_name : Prp P w K mg base 1 CP "name" (spG_name K CP)) :
    CalO P w K mg base 6 CH (spCallH K CP CF CH) 1 ["day"] (fun vs zs => vs ++ zs) := by
  obtain ⟨fd, F⟩ := F
  obtain ⟨gg, hb⟩ := kbinds1 (ps := ["self", "post", "day"]) F 2 ["day"] (fun us ws => us ++ ws) (by simp) (fun r1 r2 => r1.append r2) (fun T kV doc pm an cdv ct us its ws l1 l2 l3 => match us, l1, its, l2, ws, l3 with | [_, _], _, [_], _, [_], _ => ⟨_, rfl, rfl⟩)
  refine ⟨f, fd, ["self", "post", "day"], gg, co, funD_ok F sc_History___call__ (fun vs H Q E h => ?_) (fun cdv A_ outer s H vs Q E hr h => ?_), hb⟩
  · obtain ⟨x, f, c, r, L, post, day, rfl, _⟩ := h
    rfl
  · obtain ⟨x, f, c, r, L, post, day, rfl, hHi, ok, lim, hp0, hp1, hD, hPB, k⟩ := h
    refine ⟨_, (pss_cons (ps_expr (C8.pe_c c_need_post hr (by decide) rfl (pa_cons (pv 1) pa_nil)))
        (pss_cons (ps_expr (C8.pe_c c_need_day_or_none hr (by decide) rfl (pa_cons (pv 2) pa_nil)))
        (pss_cons (ps_set (i := 3) sc_History___call__.nd rfl (Or.inl rfl) (pe_mtN c_painter_at hr (by decide) (pv 0) (pa_cons (pv 1) (pa_cons (pv 2) pa_nil))))
        (pss_one (ps_ret (pe_ifExp (pt_cmpR op_isN (pv 3) pe_non (nomark _)) pe_non (pe_pr c_name hr (by decide) (pv 3) rfl))))))), ?_⟩
    show (_ : TS) _ [some _, some _, some _, none] _
    obtain ⟨dx, ld, hd, kvs, hx, hF, hk, hv⟩ := id hHi
    walk_at "w"
    refine ⟨x, f, c, r, L, post, day, rfl, hHi, ok, lim, hp0, hp1, hPB, fun a H1 ha hS => ?_⟩
    have hHi1 := hHi.same hS
    obtain ⟨dx1, ld1, hd1, kvs1, hx1, hF1, hk1, hv1⟩ := id hHi1
    obtain ⟨fdx1, ft1, fd1, hf1, hft1, hfc1, hfd1⟩ := id hF1
    have hpn := hfc1 a ha
    obtain ⟨d1, t1, hq1, ht1⟩ := id hpn
    walk_at "w"
    exact k _ _ hS
def spPainterOf (K : PySem.W.Frag) (CP CF : Addr) : Sp := fun vs H Q _ => ∃ (f : Addr) (c : Crew) (r : Nat → Addr) (post : Int) (day : Option Int), vs = [.ref f, .int post, optV day] ∧ FnAt K CP CF H f c r ∧ c.Ok ∧ -(10 ^ 80) ≤ post ∧ post ≤ 10 ^ 80 ∧ DayOk day ∧ (∀ L, LimOk c L → PaintBy c L post day)
  ∧ ∀ z H', Same H H' → Q (.str z) H'
theorem sc_painter_of : FnScope ["fence", "post", "day", "told"] ["fence", "post", "day"] (defScope s_painter_of) := C8.fnScope_by (by decide +kernel)
theorem ok_painter_of {f : Addr} (F : DFd K "painter_of" "painter_of" s_painter_of [] [("day", .non)] f) (hm : mg "painter_of" = some (.ref f)) (c_History : C8.Mak P w K mg base 7 "History" CH (spHistoryInit K CP CF CH) []) (c_call : CalO P w K mg base 6 CH (spCallH K CP CF CH) 1 ["day"] (fun vs zs => vs ++ zs)) :
    CalN P w K mg base 9 "painter_of" (spPainterOf K CP CF) 2 ["day"] (fun vs zs => vs ++ zs) := by
  obtain ⟨fd, F⟩ := F
  obtain ⟨gg, hb⟩ := kbinds0 (ps := ["fence", "post", "day"]) F 2 ["day"] [] (fun us mv ws => us ++ ws) (by simp) (fun q hq => (nomatch hq)) (fun r1 r2 r3 => r1.append r3) (fun D doc pm an cdv ct us mv ws l1 l2 l3 => match us, l1, mv, l2, ws, l3 with | [_, _], _, [], _, [_], _ => rfl)
  refine ⟨f, fd, ["fence", "post", "day"], gg, funD_ok F sc_painter_of (fun vs H Q E h => ?_) (fun cdv A_ outer s H vs Q E hr h => ?_), hm, F.kp, hb⟩
  · obtain ⟨f, c, r, post, day, rfl, _⟩ := h
    rfl
  · obtain ⟨f, c, r, post, day, rfl, hF, ok, hp0, hp1, hD, hPB, k⟩ := h
    refine ⟨_, (pss_cons (ps_set (i := 3) sc_painter_of.nd rfl (Or.inl rfl) (C8.pe_mk c_History hr (by decide) rfl (pa_cons (pv 0) pa_nil)))
        (pss_one (ps_ret (pe_callOK c_call hr (by decide) (pv 3) (pa_cons (pv 1) pa_nil) (pk_cons (pv 2) pk_nil))))), ?_⟩
    show (_ : TS) _ [some _, some _, some _, none] _
    walk_at "w"
    intro x dx nx ndx hne
    have S1 : Same H (upd (upd H dx (.own x)) x (.ins CH dx [])) := fun b o e => by
      rw [upd_ne (ne_of_none e nx), upd_ne (ne_of_none e ndx)]
      exact e
    refine ⟨x, dx, f, c, r, rfl, upd_same, hF.same S1, ok, fun H1 L hSB hHi lim => ⟨rfl, ?_⟩⟩
    have hS1 : Same H H1 := SB.made nx ndx hSB
    obtain ⟨dx1, ld1, hd1, kvs1, hx1, hF1, hk1, hv1⟩ := id hHi
    walk_at "w"
    refine tNil_of ?_
    exact ⟨⟨_, _, hx1⟩, rfl, rfl, x, f, c, r, L, post, day, rfl, hHi, ok, lim, hp0, hp1, hD, hPB L lim, fun z H2 hS => k z H2 (hS1.trans hS)⟩
def spHistory (K : PySem.W.Frag) (CP CF CH : Addr) : Sp := fun vs H Q _ => ∃ (f : Addr) (c : Crew) (r : Nat → Addr), vs = [.ref f] ∧ FnAt K CP CF H f c r ∧ c.Ok ∧ ∀ x L H', Same H H' → HiAt K CP CF CH H' x f c r L → LimOk c L → Q (.ref x) H'
theorem sc_history : FnScope ["fence"] ["fence"] (defScope s_history) := C8.fnScope_by (by decide +kernel)
theorem ok_history {f : Addr} (F : DF K "history" "history" s_history f) (hm : mg "history" = some (.ref f)) (c_History : C8.Mak P w K mg base 7 "History" CH (spHistoryInit K CP CF CH) []) :
    C8.Cal P w K mg base 9 "history" (spHistory K CP CF CH) [] := by
  refine cal_of F hm sc_history (fun _ _ _ _ _ _ us hl => match us, hl with | [_], _ => rfl) (fun vs H Q E h => ?_) (fun cdv A_ outer s H vs Q E hr h => ?_)
  · obtain ⟨f, c, r, rfl, _⟩ := h
    rfl
  · obtain ⟨f, c, r, rfl, hF, ok, k⟩ := h
    refine ⟨_, (pss_one (ps_ret (C8.pe_mk c_History hr (by decide) rfl (pa_cons (pv 0) pa_nil)))), ?_⟩
    show (_ : TS) _ [some _] _
    walk_at "w"
    intro x dx nx ndx hne
    have S1 : Same H (upd (upd H dx (.own x)) x (.ins CH dx [])) := fun b o e => by
      rw [upd_ne (ne_of_none e nx), upd_ne (ne_of_none e ndx)]
      exact e
    exact ⟨x, dx, f, c, r, rfl, upd_same, hF.same S1, ok, fun H1 L hSB hHi lim => ⟨rfl, k x L H1 (SB.made nx ndx hSB) hHi lim⟩⟩
end
end PK
end
section
set_option Elab.async false
set_option linter.all false
set_option maxRecDepth 100000
set_option maxHeartbeats 4000000
namespace PK
open PySem PySem.Spec PyProof.Rows L2 PM
local macro_rules | `(tactic| walk_at "sd") => `(tactic| (first
  | assumption
  | omega
  | (constructor <;> omega)
  | (refine ⟨by omega, ?_⟩; constructor <;> omega)
  | (constructor <;> (first | assumption | omega | (constructor <;> omega)))))
local macro_rules | `(tactic| walk_at "w") => `(tactic| (repeat (first
  | with_reducible refine ifTT ?_
  | with_reducible refine ifFT ?_
  | with_reducible refine ifnT ?_
  | with_reducible refine ifnF ?_
  | with_reducible refine ifIN ?_
  | with_reducible refine ifNN ?_
  | with_reducible refine ifnIN ?_
  | with_reducible refine ifnNN ?_
  | with_reducible refine ifRN ?_
  | with_reducible refine ifnRN ?_
  | ((fail_if_success with_reducible refine iteB ?_ ?_); first
    | refine ⟨_, rfl, ?_⟩
    | refine ⟨_, _, rfl, rfl, ?_⟩
    | refine ⟨_, _, rfl, ?_⟩
    | refine And.intro (a := (_ : Nat) ≤ sizeLine) (by first | exact len_small (m := 2) rfl | exact len_small (m := 1) rfl | exact len_small (m := 4) rfl | exact len_small (m := 3) rfl | exact len_small (m := 0) rfl) ?_
    | refine ⟨rfl, ?_⟩
    | refine And.intro (a := CDivP _ _) (by walk_at "sd") ?_
    | refine And.intro (a := CDivB _ _) (by walk_at "sd") ?_
    | refine And.intro (a := CMulB _ _) (by walk_at "sd") ?_
    | refine And.intro (a := _ ≠ (0 : Int)) (by walk_at "sd") ?_
    | refine And.intro (a := (0 : Int) < _) (by walk_at "sd") ?_
    | refine ⟨_, _, rfl, ‹_›, rfl, ?_⟩
    | refine ⟨_, _, _, _, rfl, rfl, ‹_›, rfl, ?_⟩
    | refine ⟨_, _, _, _, rfl, rfl, by assumption, by assumption, ?_⟩
    | refine ⟨_, _, _, _, _, _, rfl, ‹_›, ‹_›, rfl, ?_⟩
    | refine ⟨_, _, _, _, _, _, rfl, ‹_›, (by exact KCls.f ‹_› rfl), (by rfl), ?_⟩
    | refine ⟨_, _, _, _, _, _, rfl, upd_same, ‹_›, (by rfl), ?_⟩
    | refine ⟨_, _, _, _, _, _, rfl, ‹_›, ‹Cls _ _›, ‹_›, rfl, ?_⟩
    | refine ⟨_, _, _, _, rfl, ‹_›, by decide +kernel, ?_⟩
    | refine ⟨_, _, _, rfl, ‹_›, ?_⟩
    | refine And.intro (by assumption) ?_))))
section
variable {P : Program} {w : World} {K : PySem.W.Frag} {mg : Str → Option Value} {base : Heap} {CP CF CC CB CH : Addr}
theorem partOf_ok {p : Pt} {c day : Option Int} (ok : PtOk p) (hc : ∀ k, c = some k → 0 ≤ k ∧ k ≤ 10 ^ 60) (hd : DayB day) : PieceOk (partOf p c day) := by
  refine ⟨ok.p0, ok.p1, ok.s0, ok.s1, ok.nz, fun z e => ?_⟩
  have e : cntD p.day c day = some z := e
  have h1 := ok.d0
  cases day with
  | none => exact hc z e
  | some d =>
    obtain ⟨d0, d1⟩ := hd d rfl
    cases c with
    | none =>
      have e : some (max 0 (d - p.day + 1)) = some z := e
      injection e with e
      omega
    | some k =>
      obtain ⟨k0, k1⟩ := hc k rfl
      have e : some (min k (max 0 (d - p.day + 1))) = some z := e
      injection e with e
      omega
theorem parts_ok {c : Crew} {L : Nat → Option Int} {day : Option Int} (ok : c.Ok) (lim : LimOk c L) (hd : DayB day) : PsOk (partsOf c.n c.p L day) := fun q hq => by
  obtain ⟨a, ha, rfl⟩ := parts_mem.mp hq
  exact partOf_ok (ok.pts a ha) (fun k e => lim.nn a k ha e) hd
theorem opp_ok {ps : List Piece} (h : PsOk ps) : PsOk (ps.map oppP) := fun q hq => by
  obtain ⟨q', hq', rfl⟩ := List.mem_map.mp hq
  obtain ⟨a1, a2, a3, a4, a5, a6⟩ := h q' hq'
  exact ⟨by show _ ≤ -q'.1; omega, by show -q'.1 ≤ _; omega, by show _ ≤ -q'.2.1; omega, by show -q'.2.1 ≤ _; omega, by show -q'.2.1 ≠ 0; omega, a6⟩
theorem parts_len (c : Crew) (L : Nat → Option Int) (day : Option Int) : (partsOf c.n c.p L day).length = c.n := by simp [partsOf]
/-- what the search gives -/
def FoundBy (c : Crew) (L : Nat → Option Int) (day : Option Int) (post index : Int) : Bool → Option Int → Prop
  | false => fun r => Found (partsOf c.n c.p L day) post index r ∧ ∀ x, r = some x → post ≤ x ∧ x ≤ 10 ^ 79
  | true => fun r => ∃ r' : Option Int, r = r'.map (fun x => -x) ∧ Found ((partsOf c.n c.p L day).map oppP) (-post) index r' ∧ ∀ x, r' = some x → -post ≤ x ∧ x ≤ 10 ^ 79
def spFoundFrom (K : PySem.W.Frag) (CP CF : Addr) (fS PT : Addr) : Sp := fun vs H Q _ => ∃ (f : Addr) (c : Crew) (r : Nat → Addr) (post index : Int) (day : Option Int) (left : Bool), vs = [.ref f, .int post, .int index, optV day, .bl left, .ref fS] ∧ FnAt K CP CF H f c r ∧ c.Ok ∧ (-(10 ^ 40) ≤ post ∧ post ≤ 10 ^ 40 ∧ 0 ≤ index ∧ index ≤ 10 ^ 30) ∧ DayB day ∧ LamX.Tabs (TabT PT) H
  ∧ ∀ r' L H', LamX.ExtN H H' → LamX.Tabs (TabT PT) H' → LimOk c L → FoundBy c L day post index left r' → Q (optV r') H'
theorem LamX.ExtN.hi {H H' : Hp} {x f : Addr} {c : Crew} {r : Nat → Addr} {L : Nat → Option Int} (e : LamX.ExtN H H') (h : FnAt K CP CF H f c r) : FnAt K CP CF H' f c r := by
  obtain ⟨dx, t, d, h1, h2, h3, h4⟩ := h
  refine ⟨dx, t, d, e _ _ h1 (fun _ z => by cases z), LamX.ExtN.sqt e h2, fun i hi => ?_, e _ _ h4 (fun _ z => by cases z)⟩
  obtain ⟨d1, t1, e1, e2⟩ := h3 i hi
  exact ⟨d1, t1, e _ _ e1 (fun _ z => by cases z), LamX.ExtN.sqt e e2⟩
theorem sc_found_from : FnScope ["fence", "post", "index", "day", "left", "search", "parts", "found"] ["fence", "post", "index", "day", "left", "search"] (defScope s_found_from) := C8.fnScope_by (by decide +kernel)
theorem ok_found_from {f fS PT : Addr} {fdS : FuncData} (F : DF K "found_from" "found_from" s_found_from f) (hm : mg "found_from" = some (.ref f)) (c_need_post : C8.Cal P w K mg base 3 "need_post" spNeedPost []) (c_need_day_or_none : C8.Cal P w K mg base 4 "need_day_or_none" spNeedDayOrNone []) (c_need_count : C8.Cal P w K mg base 3 "need_count" spNeedCount [.int (10 ^ 80)])
    (c_history : C8.Cal P w K mg base 9 "history" (spHistory K CP CF CH) []) (c_pieces : C8.Cal P w K mg base 3 "pieces" (spPieces K CP CF CH) []) (c_opposite : C8.Cal P w K mg base 1 "opposite" (spOpposite K) []) (FS : FnOk P w K mg base CX0 5 fS fdS ["parts", "post", "index"] (spPPF K PT)) (kS : PySem.W.keepIn K (.ref fS) = true) (bS : Binds K fdS ["parts", "post", "index"] []) :
    C8.Cal P w K mg base 10 "found_from" (spFoundFrom K CP CF fS PT) [] := by
  refine cal_of F hm sc_found_from (fun _ _ _ _ _ _ us hl => match us, hl with | [_, _, _, _, _, _], _ => rfl) (fun vs H Q E h => ?_) (fun cdv A_ outer s H vs Q E hr h => ?_)
  · obtain ⟨f, c, r, post, index, day, left, rfl, _⟩ := h
    rfl
  · obtain ⟨f, c, r, post, index, day, left, rfl, hF, ok, ⟨p0, p1, i0, i1⟩, hD, hT, k⟩ := h
    refine ⟨_, (pss_cons (ps_expr (C8.pe_c c_need_post hr (by decide) rfl (pa_cons (pv 1) pa_nil)))
        (pss_cons (ps_expr (C8.pe_c c_need_count hr (by decide) rfl (pa_cons (pv 2) pa_nil)))
        (pss_cons (ps_expr (C8.pe_c c_need_day_or_none hr (by decide) rfl (pa_cons (pv 3) pa_nil)))
        (pss_cons (ps_set (i := 6) sc_found_from.nd rfl (Or.inl rfl) (C8.pe_c c_pieces hr (by decide) rfl (pa_cons (C8.pe_c c_history hr (by decide) rfl (pa_cons (pv 0) pa_nil)) (pa_cons (pv 3) pa_nil))))
        (pss_cons (ps_if (pt_not (pt_val (pv 4))) (pss_one (ps_ret (pe_callL (i := 5) (f := fS) (E := C8.E0) FS (hr.mono (by decide)) rfl (.inl rfl) kS bS .nil C8.pass0 (pa_cons (pv 6) (pa_cons (pv 1) (pa_cons (pv 2) pa_nil))))))
           pss_nil)
        (pss_cons (ps_set (i := 7) sc_found_from.nd rfl (Or.inl rfl) (pe_callL (i := 5) (f := fS) (E := C8.E0) FS (hr.mono (by decide)) rfl (.inl rfl) kS bS .nil C8.pass0 (pa_cons (C8.pe_c c_opposite hr (by decide) rfl (pa_cons (pv 6) pa_nil)) (pa_cons (pe_un un_neg (pv 1)) (pa_cons (pv 2) pa_nil)))))
        (pss_one (ps_ret (pe_ifExp (pt_cmpR op_isN (pv 7) pe_non (nomark _)) pe_non (pe_un un_neg (pv 7))))))))))), ?_⟩
    show (_ : TS) _ [some _, some _, some _, some _, some _, some _, none, none] _
    have p00 : -(10 ^ 80) ≤ post := by omega
    have p11 : post ≤ 10 ^ 80 := by omega
    have i11 : index ≤ 10 ^ 80 := by omega
    have hD2 : DayOk day := fun v e => by
      obtain ⟨h1, h2⟩ := hD v e
      exact ⟨h1, by omega⟩
    walk_at "w"
    intro x L H1 hS1 hHi lim
    walk_at "w"
    refine ⟨x, f, c, r, L, day, rfl, hHi, ok, fun t H2 hS2 hLT => ?_⟩
    have S2 := hS1.trans hS2
    have hps := parts_ok (day := day) ok lim hD
    have hlen : (partsOf c.n c.p L day).length ≤ 40 := by rw [parts_len]; exact ok.few
    cases left with
    | false =>
      walk_at "w"
      refine ⟨t, partsOf c.n c.p L day, post, index, rfl, hLT, ⟨hps, hlen, p0, p1, i0, i1⟩, hT.ext S2, fun r' H3 hX hT3 hFd hB => ?_⟩
      exact k r' L H3 ((extN_same S2).trans hX) hT3 lim ⟨hFd, hB⟩
    | true =>
      walk_at "w"
      refine ⟨t, partsOf c.n c.p L day, rfl, hLT, hlen, fun t' H3 hS3 hLT3 => ?_⟩
      have S3 := S2.trans hS3
      walk_at "w"
      refine ⟨t', (partsOf c.n c.p L day).map oppP, -post, index, rfl, hLT3, ⟨opp_ok hps, by rw [List.length_map]; exact hlen, by omega, by omega, i0, i1⟩, hT.ext S3, fun r' H4 hX hT4 hFd hB => ?_⟩
      cases r' with
      | none =>
        walk_at "w"
        exact k none L H4 ((extN_same S3).trans hX) hT4 lim ⟨none, rfl, hFd, hB⟩
      | some z =>
        walk_at "w"
        exact k (some (-z)) L H4 ((extN_same S3).trans hX) hT4 lim ⟨some z, rfl, hFd, hB⟩
def spPaintedFrom (K : PySem.W.Frag) (CP CF : Addr) (PT : Addr) : Sp := fun vs H Q _ => ∃ (f : Addr) (c : Crew) (r : Nat → Addr) (post index : Int) (day : Option Int) (left : Bool), vs = [.ref f, .int post, .int index, optV day, .bl left] ∧ FnAt K CP CF H f c r ∧ c.Ok ∧ (-(10 ^ 40) ≤ post ∧ post ≤ 10 ^ 40 ∧ 0 ≤ index ∧ index ≤ 10 ^ 30) ∧ DayB day ∧ LamX.Tabs (TabT PT) H
  ∧ ∀ r' L H', LamX.ExtN H H' → LamX.Tabs (TabT PT) H' → LimOk c L → FoundBy c L day post index left r' → Q (optV r') H'
theorem sc_painted_from : FnScope ["fence", "post", "index", "day", "left"] ["fence", "post", "index", "day", "left"] (defScope s_painted_from) := C8.fnScope_by (by decide +kernel)
theorem ok_painted_fromF {f fS PT : Addr} {fd : FuncData} (F : FunD K "painted_from" "painted_from" (defArgs s_painted_from) (defBody s_painted_from) (defScope s_painted_from) [] [("day", .non), ("left", .bl false)] f fd) (g_painted_post_from : GC mg "painted_post_from" (.ref fS)) (c_found_from : C8.Cal P w K mg base 10 "found_from" (spFoundFrom K CP CF fS PT) []) :
    FnOk P w K mg base CX0 11 f fd ["fence", "post", "index", "day", "left"] (spPaintedFrom K CP CF PT) := by
  refine funD_ok F sc_painted_from (fun vs H Q E h => ?_) (fun cdv A_ outer s H vs Q E hr h => ?_)
  · obtain ⟨f, c, r, post, index, day, left, rfl, _⟩ := h
    rfl
  · obtain ⟨f, c, r, post, index, day, left, rfl, hF, ok, hb, hD, hT, k⟩ := h
    refine ⟨_, (pss_one (ps_ret (C8.pe_c c_found_from hr (by decide) rfl (pa_cons (pv 0) (pa_cons (pv 1) (pa_cons (pv 2) (pa_cons (pv 3) (pa_cons (pv 4) (pa_cons (C8.pe_gc rfl g_painted_post_from) pa_nil))))))))), ?_⟩
    show (_ : TS) _ [some _, some _, some _, some _, some _] _
    walk_at "w"
    exact ⟨f, c, r, post, index, day, left, rfl, hF, ok, hb, hD, hT, k⟩
theorem ok_painted_from {f fS PT : Addr} (F : DFd K "painted_from" "painted_from" s_painted_from [] [("day", .non), ("left", .bl false)] f) (hm : mg "painted_from" = some (.ref f)) (g_painted_post_from : GC mg "painted_post_from" (.ref fS)) (c_found_from : C8.Cal P w K mg base 10 "found_from" (spFoundFrom K CP CF fS PT) []) :
    CalN P w K mg base 11 "painted_from" (spPaintedFrom K CP CF PT) 3 ["day", "left"] (fun vs zs => vs ++ zs) ∧ CalN P w K mg base 11 "painted_from" (spPaintedFrom K CP CF PT) 3 ["day"] (fun vs zs => vs ++ (zs ++ [V.bl false])) ∧ C8.Cal P w K mg base 11 "painted_from" (spPaintedFrom K CP CF PT) [.non, .bl false] := by
  obtain ⟨fd, F⟩ := F
  have FO := ok_painted_fromF F g_painted_post_from c_found_from
  refine ⟨?_, ?_, ?_⟩
  · obtain ⟨gg, hb⟩ := kbinds0 (ps := ["fence", "post", "index", "day", "left"]) F 3 ["day", "left"] [] (fun us mv ws => us ++ ws) (by simp) (fun q hq => (nomatch hq)) (fun r1 r2 r3 => r1.append r3) (fun D doc pm an cdv ct us mv ws l1 l2 l3 => match us, l1, mv, l2, ws, l3 with | [_, _, _], _, [], _, [_, _], _ => rfl)
    exact ⟨f, fd, _, gg, FO, hm, F.kp, hb⟩
  · obtain ⟨gg, hb⟩ := kbinds0 (ps := ["fence", "post", "index", "day", "left"]) F 3 ["day"] [("left", .bl false)] (fun us mv ws => us ++ (ws ++ mv)) (by simp) (fun q hq => by rw [List.mem_singleton.mp hq]; simp) (fun r1 r2 r3 => r1.append (r3.append r2)) (fun D doc pm an cdv ct us mv ws l1 l2 l3 => match us, l1, mv, l2, ws, l3 with | [_, _, _], _, [_], _, [_], _ => ⟨_, _, _, _, _, _, rfl, rfl, rfl⟩)
    exact ⟨f, fd, _, gg, FO, hm, F.kp, hb⟩
  · obtain ⟨ds, h1, h2⟩ := F.binds0 (ps := ["fence", "post", "index", "day", "left"]) 3 (by simp) rfl (fun D doc pm an cdv ct us ks l1 l2 => match us, l1, ks, l2 with | [_, _, _], _, [_, _], _ => ⟨_, _, _, _, _, _, rfl, rfl, ⟨_, _, _, _, _, _, rfl, rfl, rfl⟩⟩)
    exact ⟨f, fd, _, ds, FO, hm, F.kp, h2, h1⟩
end
end PK
end
section
set_option Elab.async false
set_option linter.all false
set_option maxRecDepth 100000
set_option maxHeartbeats 4000000
namespace PK
open PySem PySem.Spec PyProof.Rows L2 PM
local macro_rules | `(tactic| walk_at "sd") => `(tactic| (first
  | assumption
  | omega
  | (constructor <;> omega)
  | (refine ⟨by omega, ?_⟩; constructor <;> omega)
  | (constructor <;> (first | assumption | omega | (constructor <;> omega)))))
local macro_rules | `(tactic| walk_at "w") => `(tactic| (repeat (first
  | with_reducible refine ifTT ?_
  | with_reducible refine ifFT ?_
  | with_reducible refine ifnT ?_
  | with_reducible refine ifnF ?_
  | with_reducible refine ifIN ?_
  | with_reducible refine ifNN ?_
  | with_reducible refine ifnIN ?_
  | with_reducible refine ifnNN ?_
  | with_reducible refine ifRN ?_
  | with_reducible refine ifnRN ?_
  | ((fail_if_success with_reducible refine iteB ?_ ?_); first
    | refine ⟨_, rfl, ?_⟩
    | refine ⟨_, _, rfl, rfl, ?_⟩
    | refine ⟨_, _, rfl, ?_⟩
    | refine And.intro (a := (_ : Nat) ≤ sizeLine) (by first | exact len_small (m := 2) rfl | exact len_small (m := 1) rfl | exact len_small (m := 4) rfl | exact len_small (m := 3) rfl | exact len_small (m := 0) rfl) ?_
    | refine Or.inl ⟨_, rfl, ?_⟩
    | refine ⟨rfl, ?_⟩
    | refine And.intro (a := CDivP _ _) (by walk_at "sd") ?_
    | refine And.intro (a := CDivB _ _) (by walk_at "sd") ?_
    | refine And.intro (a := CMulB _ _) (by walk_at "sd") ?_
    | refine And.intro (a := _ ≠ (0 : Int)) (by walk_at "sd") ?_
    | refine And.intro (a := (0 : Int) < _) (by walk_at "sd") ?_
    | refine ⟨_, _, rfl, ‹_›, rfl, ?_⟩
    | refine ⟨_, _, _, _, rfl, rfl, ‹_›, rfl, ?_⟩
    | refine ⟨_, _, _, _, rfl, rfl, by assumption, by assumption, ?_⟩
    | refine ⟨_, _, _, _, _, _, rfl, ‹_›, ‹_›, rfl, ?_⟩
    | refine ⟨_, _, _, _, _, _, rfl, ‹_›, (by exact KCls.f ‹_› rfl), (by rfl), ?_⟩
    | refine ⟨_, _, _, _, _, _, rfl, upd_same, ‹_›, (by rfl), ?_⟩
    | refine ⟨_, _, _, _, _, _, rfl, ‹_›, ‹Cls _ _›, ‹_›, rfl, ?_⟩
    | refine ⟨_, _, _, _, rfl, ‹_›, by decide +kernel, ?_⟩
    | refine ⟨_, _, _, rfl, ‹_›, ?_⟩
    | refine ⟨_, _, _, _, rfl, by assumption, ?_⟩
    | refine And.intro (by assumption) ?_))))
section
variable {P : Program} {w : World} {K : PySem.W.Frag} {mg : Str → Option Value} {base : Heap}
theorem tPairs_cons {tk tv : TE} {r : List (TE × TE)} {σ : L2.St} {H : Hp} {Q : List (V × V) → Hp → Prop} (h : tk σ H fun x H1 => tv σ H1 fun y H2 => tPairs r σ H2 fun ps H3 => Q ((x, y) :: ps) H3) : tPairs ((tk, tv) :: r) σ H Q := h
theorem tPairs_nil {σ : L2.St} {H : Hp} {Q : List (V × V) → Hp → Prop} (h : Q [] H) : tPairs [] σ H Q := h
/-! ### the pen -/
def PenAt (K : PySem.W.Frag) (cl : Addr) (H : Hp) (pen : Addr) (b : Int) : Prop := ∃ (kvs : Tab) (cells : List Int) (r : Int), H pen = some (.dK kvs) ∧ valV kvs (nK "cells") = some (.ref cl) ∧ valV kvs (nK "begun") = some (.int b) ∧ valV kvs (nK "rest") = some (.int r) ∧ kvs.length ≤ 3 ∧ SqL K H cl (cells.map V.int) ∧ 0 ≤ b
def spPen (K : PySem.W.Frag) : Sp := fun vs H Q _ => ∃ (s : Addr) (ns : List Int), vs = [.ref s] ∧ SqL K H s (ns.map V.int) ∧ ∀ pen cl H', Same H H' → H pen = none → PenAt K cl H' pen 0 → Q (.ref pen) H'
theorem sc__law_pen : FnScope ["_law_script"] ["_law_script"] (defScope s__law_pen) := C8.fnScope_by (by decide +kernel)
theorem ok_law_pen {f : Addr} (F : DF K "_law_pen" "_law_pen" s__law_pen f) (hm : mg "_law_pen" = some (.ref f)) (n_list : mg "list" = none) :
    C8.Cal P w K mg base 1 "_law_pen" (spPen K) [] := by
  refine cal_of F hm sc__law_pen (fun _ _ _ _ _ _ us hl => match us, hl with | [_], _ => rfl) (fun vs H Q E h => ?_) (fun cdv A outer s H vs Q E hr h => ?_)
  · obtain ⟨s, ns, rfl, _⟩ := h
    rfl
  · obtain ⟨s, ns, rfl, hs, k⟩ := h
    refine ⟨_, (pss_one (ps_ret (pe_disp (pps_cons pe_str (pe_callTy call_list_of (by rfl) n_list (by decide +kernel) (pa_cons (pe_slice sl_list (pv 0) po_none (po_some pe_int)) pa_nil)) (pps_cons pe_str pe_int (pps_cons pe_str pe_int pps_nil))) (by rfl) (by rfl) (fun z => by cases z) (by decide)))), ?_⟩
    show (_ : TS) _ [some _] _
    intro pen hpen
    have S0 : Same H (upd H pen (.dK [])) := Same.new hpen
    refine tPairs_cons ?_
    walk_at "w"
    show rSlL K (.ref s) none (some 63) _ _
    refine ⟨s, _, rfl, S0.seq hs, fun q hq => ?_⟩
    have S1 := S0.trans (Same.new (o := .lst (cutV (ns.map V.int) none (some 63))) hq)
    have hp1 := Same.new (o := .lst (cutV (ns.map V.int) none (some 63))) hq _ _ (upd_same (H := H) (a := pen) (o := .dK []))
    have hq1 : SqL K (upd (upd H pen (.dK [])) q (.lst (cutV (ns.map V.int) none (some 63)))) q (cutV (ns.map V.int) none (some 63)) := SqL.of upd_same
    walk_at "w"
    refine ⟨q, _, rfl, .inl hq1, fun cl hcl => ?_⟩
    have S2 := S1.trans (Same.new (o := .lst (cutV (ns.map V.int) none (some 63))) hcl)
    have hp2 := Same.new (o := .lst (cutV (ns.map V.int) none (some 63))) hcl _ _ hp1
    have hncl : cl ≠ pen := (ne_of_none hp1 hcl).symm
    generalize hH2 : upd (upd (upd H pen (.dK [])) q (.lst (cutV (ns.map V.int) none (some 63)))) cl (.lst (cutV (ns.map V.int) none (some 63))) = H2 at S2 hp2 ⊢
    have hcl2 : H2 cl = some (.lst (cutV (ns.map V.int) none (some 63))) := by rw [← hH2]; exact upd_same
    refine tPairs_cons ?_
    walk_at "w"
    refine ⟨[(nK "cells", .ref cl), (nK "begun", .int 0), (nK "rest", .int 0)], rfl, (show (3 : Nat) ≤ 15 by decide), ?_⟩
    have ec : cutV (ns.map V.int) none (some 63) = (ns.take 63).map V.int ∨ True := .inr trivial
    refine k pen cl _ (Same.put hpen S2) hpen ⟨[(nK "cells", .ref cl), (nK "begun", .int 0), (nK "rest", .int 0)], _, 0, upd_same, rfl, rfl, rfl, (show (3 : Nat) ≤ 3 by decide), SqL.of (xs := (((ns.drop (HT.sIx (ns.map V.int).length 0 none)).take (HT.sIx (ns.map V.int).length (ns.map V.int).length (some 63) - HT.sIx (ns.map V.int).length 0 none))).map V.int) ?_, Int.le_refl _⟩
    rw [upd_ne hncl, hcl2, List.map_take, List.map_drop]
    rfl
theorem shaped_ints (ns : List Int) : SeqAt.shaped (.list (ns.map .int)) = true := by
  unfold SeqAt.shaped
  rw [Bool.and_eq_true]
  constructor
  · induction ns with
    | nil => rfl
    | cons n ns ih =>
      have ih : PyData.canLayAll0 (ns.map .int) = true := by simpa [PyData.canLay0] using ih
      show PyData.canLay0 (.list (PyData.int n :: ns.map .int)) = true
      simp [PyData.canLay0, PyData.canLayAll0, ih]
  · refine decide_eq_true ?_
    show PyData.depth (.list (ns.map .int)) ≤ 64
    simp only [PyData.depth, PySem.W.depth_ints]
    decide
theorem atI_ints (ns : List Int) {i : Int} (h0 : 0 ≤ i) (h1 : i < (ns.length : Nat)) : ∃ c, atI (ns.map V.int) i = some (V.int c) := by
  have e : i = ((i.toNat : Nat) : Int) := by omega
  have h : i.toNat < ns.length := by omega
  refine ⟨ns[i.toNat], ?_⟩
  have e2 : atI (ns.map V.int) i = (ns.map V.int)[i.toNat]? := by
    conv => lhs; rw [e]
    exact atI_nat _ _
  rw [e2, List.getElem?_map, List.getElem?_eq_getElem h]
  rfl
theorem cpow18 : CPow 10 18 := ⟨by decide, by decide, by decide⟩
theorem putK_old {κ : Type} [DecidableEq κ] {kvs : List (κ × V)} {k : κ} {v z : V} (h : valV kvs k = some z) : (putK kvs k v).length = kvs.length := by
  unfold putK
  rw [if_pos (by rw [valV_any, h]; rfl), List.length_map]
theorem pen_put {H : Hp} {pen cl : Addr} {b r r' : Int} {kvs : Tab} (p : PenAt K cl H pen b) (hp : H pen = some (.dK kvs)) (hr : valV kvs (nK "rest") = some (.int r)) : PenAt K cl (upd H pen (.dK (putK kvs (nK "rest") (.int r')))) pen b := by
  obtain ⟨kvs', cells, r0, h1, v1, v2, v3, hl, hcl, hb⟩ := p
  rw [hp] at h1
  injection h1 with h1
  injection h1 with h1
  subst h1
  refine ⟨_, cells, r', upd_same, ?_, ?_, ?_, by rw [putK_old hr]; exact hl, (SB.refl _ _).set.sqlO hp (fun _ z => by cases z) (fun _ _ z => by cases z) hcl, hb⟩
  · rw [valV_put, if_neg (by decide)]; exact v1
  · rw [valV_put, if_neg (by decide)]; exact v2
  · rw [valV_put, if_pos rfl]
theorem pen_begun {H : Hp} {pen cl : Addr} {b b' : Int} {kvs : Tab} (p : PenAt K cl H pen b) (hp : H pen = some (.dK kvs)) (hb' : 0 ≤ b') : PenAt K cl (upd H pen (.dK (putK kvs (nK "begun") (.int b')))) pen b' := by
  obtain ⟨kvs', cells, r0, h1, v1, v2, v3, hl, hcl, hb⟩ := p
  rw [hp] at h1
  injection h1 with h1
  injection h1 with h1
  subst h1
  refine ⟨_, cells, r0, upd_same, ?_, ?_, ?_, by rw [putK_old v2]; exact hl, (SB.refl _ _).set.sqlO hp (fun _ z => by cases z) (fun _ _ z => by cases z) hcl, hb'⟩
  · rw [valV_put, if_neg (by decide)]; exact v1
  · rw [valV_put, if_pos rfl]
  · rw [valV_put, if_neg (by decide)]; exact v3
def drawM : Nat → Int
  | 0 => 6 * 10 ^ 7
  | 1 => 10 ^ 15
  | 2 => 10 ^ 22
  | 3 => 10 ^ 29
  | _ => 10 ^ 36
def spDraw (K : PySem.W.Frag) (M e : Int) : Sp := fun vs H Q _ => ∃ (pen cl : Addr) (many b : Int), vs = [.ref pen, .int many] ∧ PenAt K cl H pen b ∧ b + e ≤ 10 ^ 9 ∧ 0 < many ∧ many ≤ M
  ∧ ∀ r b' H', 0 ≤ r → r < many → b ≤ b' → b' ≤ b + e → SB pen H H' → PenAt K cl H' pen b' → Q (.int r) H'
theorem sc__law_draw : FnScope ["_law_pen_here", "_law_many", "_law_digit", "_law_site", "_law_cell", "_law_mixed"] ["_law_pen_here", "_law_many"] (defScope s__law_draw) := C8.fnScope_by (by decide +kernel)
theorem ok_law_draw0 {f : Addr} (F : DF K "_law_draw" "_law_draw" s__law_draw f) (hm : mg "_law_draw" = some (.ref f)) (n_int : mg "int" = none) (n_len : mg "len" = none) (n_abs : mg "abs" = none) :
    C8.Cal P w K mg base 1 "_law_draw" (spDraw K (drawM 0) 1) [] := by
  refine cal_of F hm sc__law_draw (fun _ _ _ _ _ _ us hl => match us, hl with | [_, _], _ => rfl) (fun vs H Q E h => ?_) (fun cdv A outer s H vs Q E hr h => ?_)
  · obtain ⟨pen, cl, many, b, rfl, _⟩ := h
    rfl
  · obtain ⟨pen, cl, many, b, rfl, ⟨kvs, cells, rst, hp, v1, v2, v3, hl, hcl, hb0⟩, hb1, hm0, hm1, k⟩ := h
    have hu := units1 hr
    refine ⟨_, (pss_cons (ps_if (pt_cmpR op_gt (pe_dget hu (pv 0) pe_str (fun _ _ => rfl)) pe_int (nomark _)) (pss_cons (ps_set (i := 2) sc__law_draw.nd rfl (Or.inl rfl) (pe_op op_mod (pe_callTy call_int1 (by rfl) n_int (by decide +kernel) (pa_cons (pe_dget hu (pv 0) pe_str (fun _ _ => rfl)) pa_nil)) (pv 1)))
           (pss_cons (ps_dput hu (pv 0) pe_str (pe_op op_fdivP (pe_dget hu (pv 0) pe_str (fun _ _ => rfl)) (pv 1)) rfl)
           (pss_one (ps_ret (pv 2)))))
           pss_nil)
        (pss_cons (ps_set (i := 3) sc__law_draw.nd rfl (Or.inl rfl) (pe_dget hu (pv 0) pe_str (fun _ _ => rfl)))
        (pss_cons (ps_dput hu (pv 0) pe_str (pe_op op_add (pv 3) pe_int) rfl)
        (pss_cons (ps_set (i := 4) sc__law_draw.nd rfl (Or.inl rfl) (pe_op op_add (pe_op op_mulB pe_int (pv 3)) pe_int))
        (C8.pss_cut (ps_if (pt_cmpR (op_neD hr.units) (pe_dget hu (pv 0) pe_str (fun _ _ => rfl)) (pe_lst pa_nil) (nomark _)) (pss_one (ps_set (i := 4) sc__law_draw.nd rfl (Or.inl rfl) (pe_ix ix_list (pe_dget hu (pv 0) pe_str (fun _ _ => rfl)) (pe_op op_mod (pe_callTy call_int1 (by rfl) n_int (by decide +kernel) (pa_cons (pv 3) pa_nil)) (pe_callB call_len (by rfl) n_len (by decide +kernel) (pa_cons (pe_dget hu (pv 0) pe_str (fun _ _ => rfl)) pa_nil))) (fun _ _ => rfl))))
           pss_nil)
        (C8.pss_cut (ps_if (PW.pt (pw_and (pt_cmpR op_lt (pv 3) (pe_callB call_len (by rfl) n_len (by decide +kernel) (pa_cons (pe_dget hu (pv 0) pe_str (fun _ _ => rfl)) pa_nil)) (nomark _)) (pw_and1 (pt_cmpR op_ge (pe_callB call_abs (by rfl) n_abs (by decide +kernel) (pa_cons (pv 4) pa_nil)) (pe_op op_pow pe_int pe_int) (nomark _))))) (pss_cons (ps_dput hu (pv 0) pe_str (pe_op op_fdivP (pe_op op_sub (pe_callB call_abs (by rfl) n_abs (by decide +kernel) (pa_cons (pv 4) pa_nil)) (pe_op op_pow pe_int pe_int)) (pv 1)) rfl)
           (pss_one (ps_ret (pe_op op_mod (pe_op op_sub (pe_callB call_abs (by rfl) n_abs (by decide +kernel) (pa_cons (pv 4) pa_nil)) (pe_op op_pow pe_int pe_int)) (pv 1)))))
           pss_nil)
        (pss_cons (ps_set (i := 5) sc__law_draw.nd rfl (Or.inl rfl) (pe_op op_mod (pe_callTy call_int1 (by rfl) n_int (by decide +kernel) (pa_cons (pe_op op_add (pe_op op_add (pe_op op_mulB (pe_op op_mod (pe_callTy call_int1 (by rfl) n_int (by decide +kernel) (pa_cons (pv 4) pa_nil)) pe_int) pe_int) (pe_op op_mulB (pe_op op_mulB pe_int (pv 3)) (pv 3))) pe_int) pa_nil)) pe_int))
        (pss_cons (ps_set (i := 5) sc__law_draw.nd rfl (Or.inl rfl) (pe_op op_mod (pe_callTy call_int1 (by rfl) n_int (by decide +kernel) (pa_cons (pe_op op_add (pe_op op_add (pe_op op_add (pe_op op_mulB (pv 5) (pv 5)) (pe_op op_mulB pe_int (pv 5))) (pe_op op_mulB pe_int (pv 3))) pe_int) pa_nil)) pe_int))
        (pss_cons (ps_set (i := 5) sc__law_draw.nd rfl (Or.inl rfl) (pe_op op_fdivP (pe_op op_mod (pe_callTy call_int1 (by rfl) n_int (by decide +kernel) (pa_cons (pe_op op_mulB (pv 5) (pe_op op_add (pv 5) pe_int)) pa_nil)) pe_int) pe_int))
        (pss_cons (ps_if (pt_cmpR op_gt (pv 1) pe_int (nomark _)) (pss_one ps_never) pss_nil)
        (pss_one (ps_ret (pe_op op_mod (pe_callTy call_int1 (by rfl) n_int (by decide +kernel) (pa_cons (pv 5) pa_nil)) (pv 1)))))))))))))), ?_⟩
    show (_ : TS) _ [some _, some _, none, none, none, none] _
    walk_at "w"
    have gr : ∀ {H' : Hp}, H' pen = some (.dK kvs) → DGet H' pen (V.str "rest") (some (.int rst)) := fun h => v3 ▸ DGet.k (k := nK "rest") h
    have gb : ∀ {H' : Hp}, H' pen = some (.dK kvs) → DGet H' pen (V.str "begun") (some (.int b)) := fun h => v2 ▸ DGet.k (k := nK "begun") h
    have gc : ∀ {H' : Hp}, H' pen = some (.dK kvs) → DGet H' pen (V.str "cells") (some (.ref cl)) := fun h => v1 ▸ DGet.k (k := nK "cells") h
    refine ⟨pen, _, rfl, gr hp, ?_⟩
    have mB : Bd many := ⟨by omega, by have : drawM 0 = 6 * 10 ^ 7 := rfl; omega⟩
    have hlen : kvs.length < sizeLine := lt_line (m := 3) hl
    walk_at "w"
    refine iteD (fun hc => ?_) (fun hc => ?_)
    · walk_at "w"
      refine ⟨pen, _, rfl, gr hp, ?_⟩
      walk_at "w"
      refine ⟨pen, _, rfl, gr hp, ?_⟩
      walk_at "w"
      refine ⟨pen, _, rfl, DPut.k (k := nK "rest") hp hlen, ?_⟩
      walk_at "w"
      refine k _ b _ (Int.emod_nonneg _ (by omega)) (Int.emod_lt_of_pos _ hm0) (Int.le_refl _) (by omega) (SB.refl _ _).set ?_
      exact pen_put ⟨kvs, cells, rst, hp, v1, v2, v3, hl, hcl, hb0⟩ hp v3
    · walk_at "w"
      refine ⟨pen, _, rfl, gb hp, ?_⟩
      walk_at "w"
      refine ⟨pen, _, rfl, DPut.k (k := nK "begun") hp hlen, ?_⟩
      have P1 : PenAt K cl (upd H pen (.dK (putK kvs (nK "begun") (.int (b + 1))))) pen (b + 1) := pen_begun ⟨kvs, cells, rst, hp, v1, v2, v3, hl, hcl, hb0⟩ hp (by omega)
      have SB1 : SB pen H (upd H pen (.dK (putK kvs (nK "begun") (.int (b + 1))))) := (SB.refl _ _).set
      generalize upd H pen (.dK (putK kvs (nK "begun") (.int (b + 1)))) = H1 at P1 SB1 ⊢
      obtain ⟨kvs1, cells1, rst1, hp1, w1, w2, w3, hl1, hcl1, hb1'⟩ := id P1
      have gr1 : ∀ {H' : Hp}, H' pen = some (.dK kvs1) → DGet H' pen (V.str "rest") (some (.int rst1)) := fun h => w3 ▸ DGet.k (k := nK "rest") h
      have gc1 : ∀ {H' : Hp}, H' pen = some (.dK kvs1) → DGet H' pen (V.str "cells") (some (.ref cl)) := fun h => w1 ▸ DGet.k (k := nK "cells") h
      have hlen1 : kvs1.length < sizeLine := lt_line (m := 3) hl1
      have bB : Bd b := ⟨by omega, by omega⟩
      have b2 : Bd (61 : Int) := ⟨by decide, by decide⟩
      walk_at "w"
      refine ⟨fun σ' H' => Tk (Same H1 H' ∧ ∃ cell : Int, σ' = [some (.ref pen), some (.int many), none, some (.int b), some (.int cell), none]), ?_, ?_⟩
      · walk_at "w"
        refine ⟨pen, _, rfl, gc1 hp1, ?_⟩
        walk_at "w"
        intro e1 he1
        have S2 := Same.new (o := .lst []) he1
        have hp2 := S2 _ _ hp1
        have hcl2 := S2.seq hcl1
        refine ⟨.list (cells1.map .int), .list [], .lst hcl2 (dpAll_ints _), .lst (SqL.of upd_same) .nil, shaped_ints _, rfl, ?_⟩
        cases cells1 with
        | nil =>
          have e : PyData.eqv (.list (([] : List Int).map .int)) (.list []) = true := by simp [PyData.eqv, PyData.eqvAll]
          rw [e]
          walk_at "w"
          exact tk ⟨S2, _, rfl⟩
        | cons c0 cs =>
          have e : PyData.eqv (.list ((c0 :: cs).map .int)) (.list []) = false := by simp [PyData.eqv, PyData.eqvAll]
          rw [e]
          walk_at "w"
          refine ⟨pen, _, rfl, gc1 hp2, ?_⟩
          walk_at "w"
          refine ⟨pen, _, rfl, gc1 hp2, ?_⟩
          walk_at "w"
          refine ⟨_, _, rfl, .inl ⟨_, hcl2, rfl⟩, ?_⟩
          have hn : (0 : Int) < (((c0 :: cs).map V.int).length : Nat) := by rw [List.length_map, List.length_cons]; omega
          walk_at "w"
          obtain ⟨cz, hcz⟩ := atI_ints (c0 :: cs) (i := b % ((((c0 :: cs).map V.int).length : Nat) : Int)) (Int.emod_nonneg b (by omega)) (by
            have h9 := Int.emod_lt_of_pos b hn
            have h10 : ((c0 :: cs).map V.int).length = (c0 :: cs).length := List.length_map _
            omega)
          refine ⟨cl, _, _, _, rfl, rfl, hcl2, hcz, ?_⟩
          exact tk ⟨S2, cz, rfl⟩
      · rintro σ' H2 ⟨S2, cell, rfl⟩
        have hp2 := S2 _ _ hp1
        have hcl2 := S2.seq hcl1
        have SB2 := SB1.same S2
        have P2 : PenAt K cl H2 pen (b + 1) := ⟨kvs1, cells1, rst1, hp2, w1, w2, w3, hl1, hcl2, hb1'⟩
        refine ⟨fun σ' H' => Tk (H' = H2 ∧ σ' = [some (.ref pen), some (.int many), none, some (.int b), some (.int cell), none]), ?_, ?_⟩
        · walk_at "w"
          refine ⟨pen, _, rfl, gc1 hp2, ?_⟩
          walk_at "w"
          refine ⟨_, _, rfl, .inl ⟨_, hcl2, rfl⟩, ?_⟩
          walk_at "w"
          refine iteD (fun hc => ?_) (fun hc => ?_)
          · walk_at "w"
            refine ⟨cpow18, ?_⟩
            walk_at "w"
            refine iteD (fun hd => ?_) (fun hd => ?_)
            · walk_at "w"
              refine ⟨cpow18, ?_⟩
              walk_at "w"
              refine ⟨pen, _, rfl, DPut.k (k := nK "rest") hp2 hlen1, ?_⟩
              walk_at "w"
              refine ⟨cpow18, ?_⟩
              walk_at "w"
              exact k _ (b + 1) _ (Int.emod_nonneg _ (by omega)) (Int.emod_lt_of_pos _ hm0) (by omega) (by omega) SB2.set (pen_put P2 hp2 w3)
            · walk_at "w"
              rfl
          · walk_at "w"
            rfl
        · rintro σ' H3 ⟨rfl, rfl⟩
          walk_at "w"
          refine iteD (fun hc => ?_) (fun hc => ?_)
          · exfalso
            have : drawM 0 = 6 * 10 ^ 7 := rfl
            omega
          · walk_at "w"
            exact k _ (b + 1) _ (Int.emod_nonneg _ (by omega)) (Int.emod_lt_of_pos _ hm0) (by omega) (by omega) SB2 P2
end
end PK
end
section
set_option Elab.async false
set_option linter.all false
set_option maxRecDepth 100000
set_option maxHeartbeats 4000000
namespace PK
open PySem PySem.Spec PyProof.Rows L2 PM
local macro_rules | `(tactic| walk_at "sd") => `(tactic| (first
  | assumption
  | omega
  | (constructor <;> omega)
  | (refine ⟨by omega, ?_⟩; constructor <;> omega)
  | (constructor <;> (first | assumption | omega | (constructor <;> omega)))))
local macro_rules | `(tactic| walk_at "w") => `(tactic| (repeat (first
  | with_reducible refine ifTT ?_
  | with_reducible refine ifFT ?_
  | with_reducible refine ifnT ?_
  | with_reducible refine ifnF ?_
  | with_reducible refine ifIN ?_
  | with_reducible refine ifNN ?_
  | with_reducible refine ifnIN ?_
  | with_reducible refine ifnNN ?_
  | with_reducible refine ifRN ?_
  | with_reducible refine ifnRN ?_
  | ((fail_if_success with_reducible refine iteB ?_ ?_); first
    | refine ⟨_, rfl, ?_⟩
    | refine ⟨_, _, rfl, rfl, ?_⟩
    | refine ⟨_, _, rfl, ?_⟩
    | refine And.intro (a := (_ : Nat) ≤ sizeLine) (by first | exact len_small (m := 2) rfl | exact len_small (m := 1) rfl | exact len_small (m := 4) rfl | exact len_small (m := 3) rfl | exact len_small (m := 0) rfl) ?_
    | refine Or.inl ⟨_, rfl, ?_⟩
    | refine ⟨rfl, ?_⟩
    | refine And.intro (a := CDivP _ _) (by walk_at "sd") ?_
    | refine And.intro (a := CDivB _ _) (by walk_at "sd") ?_
    | refine And.intro (a := CMulB _ _) (by walk_at "sd") ?_
    | refine And.intro (a := _ ≠ (0 : Int)) (by walk_at "sd") ?_
    | refine And.intro (a := (0 : Int) < _) (by walk_at "sd") ?_
    | refine ⟨_, _, rfl, ‹_›, rfl, ?_⟩
    | refine ⟨_, _, _, _, rfl, rfl, ‹_›, rfl, ?_⟩
    | refine ⟨_, _, _, _, rfl, rfl, by assumption, by assumption, ?_⟩
    | refine ⟨_, _, _, _, _, _, rfl, ‹_›, ‹_›, rfl, ?_⟩
    | refine ⟨_, _, _, _, _, _, rfl, ‹_›, (by exact KCls.f ‹_› rfl), (by rfl), ?_⟩
    | refine ⟨_, _, _, _, _, _, rfl, upd_same, ‹_›, (by rfl), ?_⟩
    | refine ⟨_, _, _, _, _, _, rfl, ‹_›, ‹Cls _ _›, ‹_›, rfl, ?_⟩
    | refine ⟨_, _, _, _, rfl, ‹_›, by decide +kernel, ?_⟩
    | refine ⟨_, _, _, rfl, ‹_›, ?_⟩
    | refine ⟨_, _, _, _, rfl, by assumption, ?_⟩
    | refine And.intro (by assumption) ?_))))
section
variable {P : Program} {w : World} {K : PySem.W.Frag} {mg : Str → Option Value} {base : Heap}
theorem drawM_le (j : Nat) : drawM j ≤ 10 ^ 36 := by
  match j with
  | 0 => decide
  | 1 => decide
  | 2 => decide
  | 3 => decide
  | (n + 4) => exact Int.le_refl _
theorem drawM_step {j : Nat} (hj : j < 4) {m : Int} (h : m ≤ drawM (j + 1)) : m / 60000000 + 1 ≤ drawM j := by
  match j, hj with
  | 0, _ => have h : m ≤ 10 ^ 15 := h; show _ ≤ (6 * 10 ^ 7 : Int); omega
  | 1, _ => have h : m ≤ 10 ^ 22 := h; show _ ≤ (10 ^ 15 : Int); omega
  | 2, _ => have h : m ≤ 10 ^ 29 := h; show _ ≤ (10 ^ 22 : Int); omega
  | 3, _ => have h : m ≤ 10 ^ 36 := h; show _ ≤ (10 ^ 29 : Int); omega
theorem ok_law_drawS {f : Addr} {j : Nat} (hj : j < 4) (c__law_draw : C8.Cal P w K mg base (j + 1) "_law_draw" (spDraw K (drawM j) (j + 1)) []) (F : DF K "_law_draw" "_law_draw" s__law_draw f) (hm : mg "_law_draw" = some (.ref f)) (n_int : mg "int" = none) (n_len : mg "len" = none) (n_abs : mg "abs" = none) :
    C8.Cal P w K mg base (j + 2) "_law_draw" (spDraw K (drawM (j + 1)) (j + 2)) [] := by
  refine cal_of F hm sc__law_draw (fun _ _ _ _ _ _ us hl => match us, hl with | [_, _], _ => rfl) (fun vs H Q E h => ?_) (fun cdv A outer s H vs Q E hr h => ?_)
  · obtain ⟨pen, cl, many, b, rfl, _⟩ := h
    rfl
  · obtain ⟨pen, cl, many, b, rfl, ⟨kvs, cells, rst, hp, v1, v2, v3, hl, hcl, hb0⟩, hb1, hm0, hm1, k⟩ := h
    have hu := units1 hr
    refine ⟨_, (pss_cons (ps_if (pt_cmpR op_gt (pe_dget hu (pv 0) pe_str (fun _ _ => rfl)) pe_int (nomark _)) (pss_cons (ps_set (i := 2) sc__law_draw.nd rfl (Or.inl rfl) (pe_op op_mod (pe_callTy call_int1 (by rfl) n_int (by decide +kernel) (pa_cons (pe_dget hu (pv 0) pe_str (fun _ _ => rfl)) pa_nil)) (pv 1)))
           (pss_cons (ps_dput hu (pv 0) pe_str (pe_op op_fdivP (pe_dget hu (pv 0) pe_str (fun _ _ => rfl)) (pv 1)) rfl)
           (pss_one (ps_ret (pv 2)))))
           pss_nil)
        (pss_cons (ps_set (i := 3) sc__law_draw.nd rfl (Or.inl rfl) (pe_dget hu (pv 0) pe_str (fun _ _ => rfl)))
        (pss_cons (ps_dput hu (pv 0) pe_str (pe_op op_add (pv 3) pe_int) rfl)
        (pss_cons (ps_set (i := 4) sc__law_draw.nd rfl (Or.inl rfl) (pe_op op_add (pe_op op_mulB pe_int (pv 3)) pe_int))
        (C8.pss_cut (ps_if (pt_cmpR (op_neD hr.units) (pe_dget hu (pv 0) pe_str (fun _ _ => rfl)) (pe_lst pa_nil) (nomark _)) (pss_one (ps_set (i := 4) sc__law_draw.nd rfl (Or.inl rfl) (pe_ix ix_list (pe_dget hu (pv 0) pe_str (fun _ _ => rfl)) (pe_op op_mod (pe_callTy call_int1 (by rfl) n_int (by decide +kernel) (pa_cons (pv 3) pa_nil)) (pe_callB call_len (by rfl) n_len (by decide +kernel) (pa_cons (pe_dget hu (pv 0) pe_str (fun _ _ => rfl)) pa_nil))) (fun _ _ => rfl))))
           pss_nil)
        (C8.pss_cut (ps_if (PW.pt (pw_and (pt_cmpR op_lt (pv 3) (pe_callB call_len (by rfl) n_len (by decide +kernel) (pa_cons (pe_dget hu (pv 0) pe_str (fun _ _ => rfl)) pa_nil)) (nomark _)) (pw_and1 (pt_cmpR op_ge (pe_callB call_abs (by rfl) n_abs (by decide +kernel) (pa_cons (pv 4) pa_nil)) (pe_op op_pow pe_int pe_int) (nomark _))))) (pss_cons (ps_dput hu (pv 0) pe_str (pe_op op_fdivP (pe_op op_sub (pe_callB call_abs (by rfl) n_abs (by decide +kernel) (pa_cons (pv 4) pa_nil)) (pe_op op_pow pe_int pe_int)) (pv 1)) rfl)
           (pss_one (ps_ret (pe_op op_mod (pe_op op_sub (pe_callB call_abs (by rfl) n_abs (by decide +kernel) (pa_cons (pv 4) pa_nil)) (pe_op op_pow pe_int pe_int)) (pv 1)))))
           pss_nil)
        (pss_cons (ps_set (i := 5) sc__law_draw.nd rfl (Or.inl rfl) (pe_op op_mod (pe_callTy call_int1 (by rfl) n_int (by decide +kernel) (pa_cons (pe_op op_add (pe_op op_add (pe_op op_mulB (pe_op op_mod (pe_callTy call_int1 (by rfl) n_int (by decide +kernel) (pa_cons (pv 4) pa_nil)) pe_int) pe_int) (pe_op op_mulB (pe_op op_mulB pe_int (pv 3)) (pv 3))) pe_int) pa_nil)) pe_int))
        (pss_cons (ps_set (i := 5) sc__law_draw.nd rfl (Or.inl rfl) (pe_op op_mod (pe_callTy call_int1 (by rfl) n_int (by decide +kernel) (pa_cons (pe_op op_add (pe_op op_add (pe_op op_add (pe_op op_mulB (pv 5) (pv 5)) (pe_op op_mulB pe_int (pv 5))) (pe_op op_mulB pe_int (pv 3))) pe_int) pa_nil)) pe_int))
        (pss_cons (ps_set (i := 5) sc__law_draw.nd rfl (Or.inl rfl) (pe_op op_fdivP (pe_op op_mod (pe_callTy call_int1 (by rfl) n_int (by decide +kernel) (pa_cons (pe_op op_mulB (pv 5) (pe_op op_add (pv 5) pe_int)) pa_nil)) pe_int) pe_int))
        (pss_cons (ps_if (pt_cmpR op_gt (pv 1) pe_int (nomark _)) (pss_one (ps_set (i := 5) sc__law_draw.nd rfl (Or.inl rfl) (pe_op op_add (pe_op op_mod (pe_callTy call_int1 (by rfl) n_int (by decide +kernel) (pa_cons (pv 5) pa_nil)) pe_int) (pe_op op_mulB pe_int (C8.pe_c c__law_draw hr (Nat.le_refl _) rfl (pa_cons (pv 0) (pa_cons (pe_op op_add (pe_op op_fdivP (pv 1) pe_int) pe_int) pa_nil)))))))
           pss_nil)
        (pss_one (ps_ret (pe_op op_mod (pe_callTy call_int1 (by rfl) n_int (by decide +kernel) (pa_cons (pv 5) pa_nil)) (pv 1)))))))))))))), ?_⟩
    show (_ : TS) _ [some _, some _, none, none, none, none] _
    walk_at "w"
    have gr : ∀ {H' : Hp}, H' pen = some (.dK kvs) → DGet H' pen (V.str "rest") (some (.int rst)) := fun h => v3 ▸ DGet.k (k := nK "rest") h
    have gb : ∀ {H' : Hp}, H' pen = some (.dK kvs) → DGet H' pen (V.str "begun") (some (.int b)) := fun h => v2 ▸ DGet.k (k := nK "begun") h
    have gc : ∀ {H' : Hp}, H' pen = some (.dK kvs) → DGet H' pen (V.str "cells") (some (.ref cl)) := fun h => v1 ▸ DGet.k (k := nK "cells") h
    refine ⟨pen, _, rfl, gr hp, ?_⟩
    have hM := drawM_le (j + 1)
    have mB : Bd many := ⟨by omega, by omega⟩
    have hlen : kvs.length < sizeLine := lt_line (m := 3) hl
    walk_at "w"
    refine iteD (fun hc => ?_) (fun hc => ?_)
    · walk_at "w"
      refine ⟨pen, _, rfl, gr hp, ?_⟩
      walk_at "w"
      refine ⟨pen, _, rfl, gr hp, ?_⟩
      walk_at "w"
      refine ⟨pen, _, rfl, DPut.k (k := nK "rest") hp hlen, ?_⟩
      walk_at "w"
      refine k _ b _ (Int.emod_nonneg _ (by omega)) (Int.emod_lt_of_pos _ hm0) (Int.le_refl _) (by omega) (SB.refl _ _).set ?_
      exact pen_put ⟨kvs, cells, rst, hp, v1, v2, v3, hl, hcl, hb0⟩ hp v3
    · walk_at "w"
      refine ⟨pen, _, rfl, gb hp, ?_⟩
      walk_at "w"
      refine ⟨pen, _, rfl, DPut.k (k := nK "begun") hp hlen, ?_⟩
      have P1 : PenAt K cl (upd H pen (.dK (putK kvs (nK "begun") (.int (b + 1))))) pen (b + 1) := pen_begun ⟨kvs, cells, rst, hp, v1, v2, v3, hl, hcl, hb0⟩ hp (by omega)
      have SB1 : SB pen H (upd H pen (.dK (putK kvs (nK "begun") (.int (b + 1))))) := (SB.refl _ _).set
      generalize upd H pen (.dK (putK kvs (nK "begun") (.int (b + 1)))) = H1 at P1 SB1 ⊢
      obtain ⟨kvs1, cells1, rst1, hp1, w1, w2, w3, hl1, hcl1, hb1'⟩ := id P1
      have gr1 : ∀ {H' : Hp}, H' pen = some (.dK kvs1) → DGet H' pen (V.str "rest") (some (.int rst1)) := fun h => w3 ▸ DGet.k (k := nK "rest") h
      have gc1 : ∀ {H' : Hp}, H' pen = some (.dK kvs1) → DGet H' pen (V.str "cells") (some (.ref cl)) := fun h => w1 ▸ DGet.k (k := nK "cells") h
      have hlen1 : kvs1.length < sizeLine := lt_line (m := 3) hl1
      have bB : Bd b := ⟨by omega, by omega⟩
      have b2 : Bd (61 : Int) := ⟨by decide, by decide⟩
      walk_at "w"
      refine ⟨fun σ' H' => Tk (Same H1 H' ∧ ∃ cell : Int, σ' = [some (.ref pen), some (.int many), none, some (.int b), some (.int cell), none]), ?_, ?_⟩
      · walk_at "w"
        refine ⟨pen, _, rfl, gc1 hp1, ?_⟩
        walk_at "w"
        intro e1 he1
        have S2 := Same.new (o := .lst []) he1
        have hp2 := S2 _ _ hp1
        have hcl2 := S2.seq hcl1
        refine ⟨.list (cells1.map .int), .list [], .lst hcl2 (dpAll_ints _), .lst (SqL.of upd_same) .nil, shaped_ints _, rfl, ?_⟩
        cases cells1 with
        | nil =>
          have e : PyData.eqv (.list (([] : List Int).map .int)) (.list []) = true := by simp [PyData.eqv, PyData.eqvAll]
          rw [e]
          walk_at "w"
          exact tk ⟨S2, _, rfl⟩
        | cons c0 cs =>
          have e : PyData.eqv (.list ((c0 :: cs).map .int)) (.list []) = false := by simp [PyData.eqv, PyData.eqvAll]
          rw [e]
          walk_at "w"
          refine ⟨pen, _, rfl, gc1 hp2, ?_⟩
          walk_at "w"
          refine ⟨pen, _, rfl, gc1 hp2, ?_⟩
          walk_at "w"
          refine ⟨_, _, rfl, .inl ⟨_, hcl2, rfl⟩, ?_⟩
          have hn : (0 : Int) < (((c0 :: cs).map V.int).length : Nat) := by rw [List.length_map, List.length_cons]; omega
          walk_at "w"
          obtain ⟨cz, hcz⟩ := atI_ints (c0 :: cs) (i := b % ((((c0 :: cs).map V.int).length : Nat) : Int)) (Int.emod_nonneg b (by omega)) (by
            have h9 := Int.emod_lt_of_pos b hn
            have h10 : ((c0 :: cs).map V.int).length = (c0 :: cs).length := List.length_map _
            omega)
          refine ⟨cl, _, _, _, rfl, rfl, hcl2, hcz, ?_⟩
          exact tk ⟨S2, cz, rfl⟩
      · rintro σ' H2 ⟨S2, cell, rfl⟩
        have hp2 := S2 _ _ hp1
        have hcl2 := S2.seq hcl1
        have SB2 := SB1.same S2
        have P2 : PenAt K cl H2 pen (b + 1) := ⟨kvs1, cells1, rst1, hp2, w1, w2, w3, hl1, hcl2, hb1'⟩
        refine ⟨fun σ' H' => Tk (H' = H2 ∧ σ' = [some (.ref pen), some (.int many), none, some (.int b), some (.int cell), none]), ?_, ?_⟩
        · walk_at "w"
          refine ⟨pen, _, rfl, gc1 hp2, ?_⟩
          walk_at "w"
          refine ⟨_, _, rfl, .inl ⟨_, hcl2, rfl⟩, ?_⟩
          walk_at "w"
          refine iteD (fun hc => ?_) (fun hc => ?_)
          · walk_at "w"
            refine ⟨cpow18, ?_⟩
            walk_at "w"
            refine iteD (fun hd => ?_) (fun hd => ?_)
            · walk_at "w"
              refine ⟨cpow18, ?_⟩
              walk_at "w"
              refine ⟨pen, _, rfl, DPut.k (k := nK "rest") hp2 hlen1, ?_⟩
              walk_at "w"
              refine ⟨cpow18, ?_⟩
              walk_at "w"
              exact k _ (b + 1) _ (Int.emod_nonneg _ (by omega)) (Int.emod_lt_of_pos _ hm0) (by omega) (by omega) SB2.set (pen_put P2 hp2 w3)
            · walk_at "w"
              rfl
          · walk_at "w"
            rfl
        · rintro σ' H3 ⟨rfl, rfl⟩
          walk_at "w"
          refine iteD (fun hc => ?_) (fun hc => ?_)
          · have b6 : Bd (60000000 : Int) := ⟨by decide, by decide⟩
            walk_at "w"
            have hst := drawM_step hj hm1
            have hMj := drawM_le j
            refine ⟨by omega, by omega, hst, fun r b' H4 r0 r1 hb2 hb3 hSB P4 => ?_⟩
            have rB : Bd r := ⟨by omega, by omega⟩
            walk_at "w"
            exact k _ b' _ (Int.emod_nonneg _ (by omega)) (Int.emod_lt_of_pos _ hm0) (by omega) (by omega) (fun b0 o h n => hSB _ _ (SB2 _ _ h n) n) P4
          · walk_at "w"
            exact k _ (b + 1) _ (Int.emod_nonneg _ (by omega)) (Int.emod_lt_of_pos _ hm0) (by omega) (by omega) SB2 P2
abbrev spD (K : PySem.W.Frag) : Sp := spDraw K (10 ^ 36) 5
theorem ok_law_draw {f : Addr} (F : DF K "_law_draw" "_law_draw" s__law_draw f) (hm : mg "_law_draw" = some (.ref f)) (n_int : mg "int" = none) (n_len : mg "len" = none) (n_abs : mg "abs" = none) :
    C8.Cal P w K mg base 5 "_law_draw" (spD K) [] :=
  ok_law_drawS (j := 3) (by decide) (ok_law_drawS (j := 2) (by decide) (ok_law_drawS (j := 1) (by decide) (ok_law_drawS (j := 0) (by decide) (ok_law_draw0 F hm n_int n_len n_abs) F hm n_int n_len n_abs) F hm n_int n_len n_abs) F hm n_int n_len n_abs) F hm n_int n_len n_abs
end
end PK
end
section
set_option Elab.async false
set_option linter.all false
set_option maxRecDepth 100000
set_option maxHeartbeats 4000000
namespace PK
open PySem PySem.Spec PyProof.Rows L2 PM
local macro_rules | `(tactic| walk_at "sd") => `(tactic| (first
  | assumption
  | omega
  | (constructor <;> omega)
  | (refine ⟨by omega, ?_⟩; constructor <;> omega)
  | (constructor <;> (first | assumption | omega | (constructor <;> omega)))))
local macro_rules | `(tactic| walk_at "w") => `(tactic| (repeat (first
  | with_reducible refine ifTT ?_
  | with_reducible refine ifFT ?_
  | with_reducible refine ifnT ?_
  | with_reducible refine ifnF ?_
  | with_reducible refine ifIN ?_
  | with_reducible refine ifNN ?_
  | with_reducible refine ifnIN ?_
  | with_reducible refine ifnNN ?_
  | with_reducible refine ifRN ?_
  | with_reducible refine ifnRN ?_
  | ((fail_if_success with_reducible refine iteB ?_ ?_); first
    | refine ⟨_, rfl, ?_⟩
    | refine ⟨_, _, rfl, rfl, ?_⟩
    | refine ⟨_, _, rfl, ?_⟩
    | refine And.intro (a := (_ : Nat) ≤ sizeLine) (by first | exact len_small (m := 2) rfl | exact len_small (m := 1) rfl | exact len_small (m := 4) rfl | exact len_small (m := 3) rfl | exact len_small (m := 0) rfl) ?_
    | refine Or.inl ⟨_, rfl, ?_⟩
    | refine ⟨rfl, ?_⟩
    | refine And.intro (a := (_ : Int) ≤ _) (by omega) ?_
    | refine And.intro (a := (_ : Int) < _) (by omega) ?_
    | refine And.intro (a := (_ : Nat) ≤ _) (by omega) ?_
    | refine And.intro (a := (_ : Nat) < _) (by omega) ?_
    | refine And.intro (a := CDivP _ _) (by walk_at "sd") ?_
    | refine And.intro (a := CDivB _ _) (by walk_at "sd") ?_
    | refine And.intro (a := CMulB _ _) (by walk_at "sd") ?_
    | refine And.intro (a := _ ≠ (0 : Int)) (by walk_at "sd") ?_
    | refine And.intro (a := (0 : Int) < _) (by walk_at "sd") ?_
    | refine ⟨_, _, rfl, ‹_›, rfl, ?_⟩
    | refine ⟨_, _, _, _, rfl, rfl, ‹_›, rfl, ?_⟩
    | refine ⟨_, _, _, _, rfl, rfl, by assumption, by assumption, ?_⟩
    | refine ⟨_, _, _, _, _, _, rfl, ‹_›, ‹_›, rfl, ?_⟩
    | refine ⟨_, _, _, _, _, _, rfl, ‹_›, (by exact KCls.f ‹_› rfl), (by rfl), ?_⟩
    | refine ⟨_, _, _, _, _, _, rfl, upd_same, ‹_›, (by rfl), ?_⟩
    | refine ⟨_, _, _, _, _, _, rfl, ‹_›, ‹Cls _ _›, ‹_›, rfl, ?_⟩
    | refine ⟨_, _, _, _, rfl, ‹_›, by decide +kernel, ?_⟩
    | refine ⟨_, _, _, rfl, ‹_›, ?_⟩
    | refine ⟨_, _, _, _, rfl, by assumption, ?_⟩
    | refine And.intro (by assumption) ?_))))
section
variable {P : Program} {w : World} {K : PySem.W.Frag} {mg : Str → Option Value} {base : Heap}
/-! ### picks and great numbers -/
theorem PenAt.dict {H : Hp} {pen cl : Addr} {b : Int} (p : PenAt K cl H pen b) : ∃ kvs : Tab, H pen = some (.dK kvs) := by
  obtain ⟨kvs, _, _, h, _⟩ := p
  exact ⟨kvs, h⟩
theorem SB.pSeq {H H' : Hp} {pen cl l : Addr} {b : Int} {xs : List V} (e : SB pen H H') (p : PenAt K cl H pen b) (h : SqL K H l xs) : SqL K H' l xs := by
  obtain ⟨kvs, hp⟩ := p.dict
  exact e.sqlO hp (fun _ z => by cases z) (fun _ _ z => by cases z) h
theorem SB.pSqt {H H' : Hp} {pen cl l : Addr} {b : Int} {xs : List V} (e : SB pen H H') (p : PenAt K cl H pen b) (h : SqT K H l xs) : SqT K H' l xs := by
  obtain ⟨kvs, hp⟩ := p.dict
  exact e.sqtO hp (fun _ z => by cases z) (fun _ _ z => by cases z) h
theorem SB.tr {H H1 H2 : Hp} {x : Addr} (a : SB x H H1) (b : SB x H1 H2) : SB x H H2 := fun c o h n => b _ _ (a _ _ h n) n
theorem PenAt.same {H H' : Hp} {pen cl : Addr} {b : Int} (e : Same H H') (p : PenAt K cl H pen b) : PenAt K cl H' pen b := by
  obtain ⟨kvs, cells, r, h1, h2, h3, h4, h5, h6, h7⟩ := p
  exact ⟨kvs, cells, r, e _ _ h1, h2, h3, h4, h5, e.seq h6, h7⟩
/-- a call that draws: cost e -/
abbrev Drew (K : PySem.W.Frag) (cl : Addr) (pen : Addr) (b e : Int) (H H' : Hp) (b' : Int) : Prop := b ≤ b' ∧ b' ≤ b + e ∧ SB pen H H' ∧ PenAt K cl H' pen b'
def spPickL (K : PySem.W.Frag) : Sp := fun vs H Q _ => ∃ (pen cl l : Addr) (xs : List V) (b : Int), vs = [.ref pen, .ref l] ∧ PenAt K cl H pen b ∧ b + 5 ≤ 10 ^ 9 ∧ SqL K H l xs ∧ xs ≠ [] ∧ xs.length ≤ 1000 ∧ ∀ v b' H', v ∈ xs → Drew K cl pen b 5 H H' b' → Q v H'
theorem pow_nn (i : Nat) : (0 : Int) ≤ 10 ^ i := by
  have e1 : ((10 ^ i : Nat) : Int) = (10 : Int) ^ i := by rw [Int.natCast_pow]; rfl
  rw [← e1]
  exact Int.natCast_nonneg _
theorem pow_le (i : Nat) (h : i ≤ 40) : (10 : Int) ^ i ≤ 10 ^ 250 := by
  have h1 : (10 : Nat) ^ i ≤ 10 ^ 40 := Nat.pow_le_pow_right (by decide) h
  have h2 : (10 : Nat) ^ 40 ≤ 10 ^ 250 := by decide
  have h3 : ((10 ^ i : Nat) : Int) ≤ ((10 ^ 250 : Nat) : Int) := by exact_mod_cast Nat.le_trans h1 h2
  have e1 : ((10 ^ i : Nat) : Int) = (10 : Int) ^ i := by rw [Int.natCast_pow]; rfl
  have e2 : ((10 ^ 250 : Nat) : Int) = (10 : Int) ^ 250 := by decide
  omega
theorem atI_mem {xs : List V} {i : Int} (h0 : 0 ≤ i) (h1 : i < (xs.length : Nat)) : ∃ v, atI xs i = some v ∧ v ∈ xs := by
  have h : i.toNat < xs.length := by omega
  have e : i = ((i.toNat : Nat) : Int) := by omega
  refine ⟨xs[i.toNat], ?_, List.getElem_mem h⟩
  have e2 : atI xs i = xs[i.toNat]? := by
    conv => lhs; rw [e]
    exact atI_nat _ _
  rw [e2, List.getElem?_eq_getElem h]
theorem sc__law_pick : FnScope ["_law_pen_here", "_law_options"] ["_law_pen_here", "_law_options"] (defScope s__law_pick) := C8.fnScope_by (by decide +kernel)
theorem ok_law_pickL {f : Addr} (F : DF K "_law_pick" "_law_pick" s__law_pick f) (hm : mg "_law_pick" = some (.ref f)) (c__law_draw : C8.Cal P w K mg base 5 "_law_draw" (spD K) []) (n_len : mg "len" = none) :
    C8.Cal P w K mg base 6 "_law_pick" (spPickL K) [] := by
  refine cal_of F hm sc__law_pick (fun _ _ _ _ _ _ us hl => match us, hl with | [_, _], _ => rfl) (fun vs H Q E h => ?_) (fun cdv A outer s H vs Q E hr h => ?_)
  · obtain ⟨pen, cl, l, xs, b, rfl, _⟩ := h
    rfl
  · obtain ⟨pen, cl, l, xs, b, rfl, hP, hb, hl, hne, hlen, k⟩ := h
    refine ⟨_, (pss_one (ps_ret (pe_ix ix_list (pv 1) (C8.pe_c c__law_draw hr (by decide) rfl (pa_cons (pv 0) (pa_cons (pe_callB call_len (by rfl) n_len (by decide +kernel) (pa_cons (pv 1) pa_nil)) pa_nil))) (fun _ _ => rfl)))), ?_⟩
    show (_ : TS) _ [some _, some _] _
    have h0 : 0 < xs.length := List.length_pos_iff.mpr hne
    walk_at "w"
    refine ⟨_, _, rfl, .inl ⟨_, hl, rfl⟩, ?_⟩
    walk_at "w"
    intro r b' H1 r0 r1 h1 h2 S1 P1
    obtain ⟨v, hv, hm⟩ := atI_mem r0 r1
    exact ⟨l, _, _, _, rfl, rfl, S1.pSeq hP hl, hv, k v b' H1 hm ⟨h1, h2, S1, P1⟩⟩
def spPickS (K : PySem.W.Frag) : Sp := fun vs H Q _ => ∃ (pen cl : Addr) (z : Str) (b : Int), vs = [.ref pen, .str z] ∧ PenAt K cl H pen b ∧ b + 5 ≤ 10 ^ 9 ∧ 0 < z.length ∧ z.length ≤ 1000 ∧ ∀ c b' H', c ∈ z.cps.toList → Drew K cl pen b 5 H H' b' → Q (.str ⟨#[c]⟩) H'
theorem ok_law_pickS {f : Addr} (F : DF K "_law_pick" "_law_pick" s__law_pick f) (hm : mg "_law_pick" = some (.ref f)) (c__law_draw : C8.Cal P w K mg base 5 "_law_draw" (spD K) []) (n_len : mg "len" = none) :
    C8.Cal P w K mg base 6 "_law_pick" (spPickS K) [] := by
  refine cal_of F hm sc__law_pick (fun _ _ _ _ _ _ us hl => match us, hl with | [_, _], _ => rfl) (fun vs H Q E h => ?_) (fun cdv A outer s H vs Q E hr h => ?_)
  · obtain ⟨pen, cl, z, b, rfl, _⟩ := h
    rfl
  · obtain ⟨pen, cl, z, b, rfl, hP, hb, h0, hlen, k⟩ := h
    refine ⟨_, (pss_one (ps_ret (pe_ix ix_str (pv 1) (C8.pe_c c__law_draw hr (by decide) rfl (pa_cons (pv 0) (pa_cons (pe_callB call_len (by rfl) n_len (by decide +kernel) (pa_cons (pv 1) pa_nil)) pa_nil))) (fun _ _ => rfl)))), ?_⟩
    show (_ : TS) _ [some _, some _] _
    walk_at "w"
    refine ⟨_, _, rfl, ⟨len_of hlen, rfl⟩, ?_⟩
    walk_at "w"
    intro r b' H1 r0 r1 h1 h2 S1 P1
    have e : r = ((r.toNat : Nat) : Int) := by omega
    have hlt : r.toNat < z.cps.toList.length := by
      have : z.cps.toList.length = z.length := by rw [Array.length_toList]; rfl
      omega
    have ea : atI z.cps.toList r = some z.cps.toList[r.toNat] := by
      conv => lhs; rw [e]
      rw [atI_nat, List.getElem?_eq_getElem hlt]
    exact ⟨z, _, _, rfl, rfl, len_of hlen, ea, k _ b' H1 (List.getElem_mem hlt) ⟨h1, h2, S1, P1⟩⟩
def spAround (K : PySem.W.Frag) : Sp := fun vs H Q _ => ∃ (pen cl : Addr) (m b : Int), vs = [.ref pen, .int m] ∧ PenAt K cl H pen b ∧ b + 5 ≤ 10 ^ 9 ∧ 0 ≤ m ∧ m ≤ 10 ^ 30 ∧ ∀ r b' H', -m ≤ r → r ≤ m → Drew K cl pen b 5 H H' b' → Q (.int r) H'
theorem sc__law_around : FnScope ["_law_pen_here", "_law_most"] ["_law_pen_here", "_law_most"] (defScope s__law_around) := C8.fnScope_by (by decide +kernel)
theorem ok_law_around {f : Addr} (F : DF K "_law_around" "_law_around" s__law_around f) (hm : mg "_law_around" = some (.ref f)) (c__law_draw : C8.Cal P w K mg base 5 "_law_draw" (spD K) []) :
    C8.Cal P w K mg base 6 "_law_around" (spAround K) [] := by
  refine cal_of F hm sc__law_around (fun _ _ _ _ _ _ us hl => match us, hl with | [_, _], _ => rfl) (fun vs H Q E h => ?_) (fun cdv A outer s H vs Q E hr h => ?_)
  · obtain ⟨pen, cl, m, b, rfl, _⟩ := h
    rfl
  · obtain ⟨pen, cl, m, b, rfl, hP, hb, h0, h1, k⟩ := h
    refine ⟨_, (pss_one (ps_ret (pe_op op_sub (C8.pe_c c__law_draw hr (by decide) rfl (pa_cons (pv 0) (pa_cons (pe_op op_add (pe_op op_mulB pe_int (pv 1)) pe_int) pa_nil))) (pv 1)))), ?_⟩
    show (_ : TS) _ [some _, some _] _
    have b2 : Bd (2 : Int) := ⟨by decide, by decide⟩
    have mB : Bd m := ⟨by omega, by omega⟩
    walk_at "w"
    intro r b' H1 r0 r1 h1 h2 S1 P1
    walk_at "w"
    exact k _ b' H1 (by omega) (by omega) ⟨h1, h2, S1, P1⟩
def spPower : Sp := fun vs H Q _ => ∃ n : Nat, vs = [.int (n : Nat)] ∧ n ≤ 40 ∧ ∀ H', Same H H' → Q (.int (10 ^ n)) H'
theorem sc__law_power : FnScope ["_law_figures", "_law_found", "_law_k"] ["_law_figures"] (defScope s__law_power) := C8.fnScope_by (by decide +kernel)
theorem ok_law_power {f : Addr} (F : DF K "_law_power" "_law_power" s__law_power f) (hm : mg "_law_power" = some (.ref f)) (n_range : mg "range" = none) :
    C8.Cal P w K mg base 1 "_law_power" spPower [] := by
  refine cal_of F hm sc__law_power (fun _ _ _ _ _ _ us hl => match us, hl with | [_], _ => rfl) (fun vs H Q E h => ?_) (fun cdv A outer s H vs Q E hr h => ?_)
  · obtain ⟨n, rfl, _⟩ := h
    rfl
  · obtain ⟨n, rfl, hn, k⟩ := h
    refine ⟨_, (pss_cons (ps_set (i := 1) sc__law_power.nd rfl (Or.inl rfl) pe_int)
        (pss_cons (ps_for PassesOwn.never rfl (pi_range1 (by rfl) n_range (pa_cons (pv 0) pa_nil)) (pg_name (i := 2) sc__law_power.nd rfl (Or.inl rfl))
           (pss_one (ps_set (i := 1) sc__law_power.nd rfl (Or.inl rfl) (pe_op op_mulB (pv 1) pe_int))))
        (pss_one (ps_ret (pv 1))))), ?_⟩
    show (_ : TS) _ [some _, none, none] _
    walk_at "w"
    refine for_it walk_range (fun i σ H' => Tk (Same H H' ∧ ∃ o, σ = [some (.int (n : Nat)), some (.int (10 ^ i)), o])) (tk ⟨Same.refl _, _, rfl⟩) (fun _ _ _ _ _ => trivial) ?_ ?_
    · rintro i v σ H1 H2 hi ⟨hS, o, rfl⟩ ⟨rfl, rfl⟩
      have hi : i < n := by omega
      have pB : Bd ((10 : Int) ^ i) := ⟨by have := pow_nn i; omega, pow_le i (by omega)⟩
      have b10 : Bd (10 : Int) := ⟨by decide, by decide⟩
      walk_at "w"
      refine tk ⟨hS, some (.int (0 + (i : Nat))), ?_⟩
      have e : (10 : Int) ^ (i + 1) = 10 ^ i * 10 := Int.pow_succ 10 i
      rw [e]
      rfl
    · rintro σ H1 ⟨hS, o, rfl⟩
      walk_at "w"
      have e : ((n : Nat) : Int).toNat = n := Int.toNat_natCast n
      rw [e]
      exact k _ hS
end
end PK
end
section
set_option Elab.async false
set_option linter.all false
set_option maxRecDepth 100000
set_option maxHeartbeats 4000000
namespace PK
open PySem PySem.Spec PyProof.Rows L2 PM
local macro_rules | `(tactic| walk_at "sd") => `(tactic| (first
  | assumption
  | omega
  | (constructor <;> omega)
  | (refine ⟨by omega, ?_⟩; constructor <;> omega)
  | (constructor <;> (first | assumption | omega | (constructor <;> omega)))))
local macro_rules | `(tactic| walk_at "w") => `(tactic| (repeat (first
  | with_reducible refine ifTT ?_
  | with_reducible refine ifFT ?_
  | with_reducible refine ifnT ?_
  | with_reducible refine ifnF ?_
  | with_reducible refine ifIN ?_
  | with_reducible refine ifNN ?_
  | with_reducible refine ifnIN ?_
  | with_reducible refine ifnNN ?_
  | with_reducible refine ifRN ?_
  | with_reducible refine ifnRN ?_
  | ((fail_if_success with_reducible refine iteB ?_ ?_); first
    | refine ⟨_, rfl, ?_⟩
    | refine ⟨_, _, rfl, rfl, ?_⟩
    | refine ⟨_, _, rfl, ?_⟩
    | refine And.intro (a := (_ : Nat) ≤ sizeLine) (by first | exact len_small (m := 2) rfl | exact len_small (m := 1) rfl | exact len_small (m := 4) rfl | exact len_small (m := 3) rfl | exact len_small (m := 0) rfl) ?_
    | refine Or.inl ⟨_, rfl, ?_⟩
    | refine ⟨rfl, ?_⟩
    | refine And.intro (a := (_ : Int) ≤ _) (by omega) ?_
    | refine And.intro (a := (_ : Int) < _) (by omega) ?_
    | refine And.intro (a := (_ : Nat) ≤ _) (by omega) ?_
    | refine And.intro (a := (_ : Nat) < _) (by omega) ?_
    | refine And.intro (a := CDivP _ _) (by walk_at "sd") ?_
    | refine And.intro (a := CDivB _ _) (by walk_at "sd") ?_
    | refine And.intro (a := CMulB _ _) (by walk_at "sd") ?_
    | refine And.intro (a := _ ≠ (0 : Int)) (by walk_at "sd") ?_
    | refine And.intro (a := (0 : Int) < _) (by walk_at "sd") ?_
    | refine ⟨_, _, rfl, ‹_›, rfl, ?_⟩
    | refine ⟨_, _, _, _, rfl, rfl, ‹_›, rfl, ?_⟩
    | refine ⟨_, _, _, _, rfl, rfl, by assumption, by assumption, ?_⟩
    | refine ⟨_, _, _, _, _, _, rfl, ‹_›, ‹_›, rfl, ?_⟩
    | refine ⟨_, _, _, _, _, _, rfl, ‹_›, (by exact KCls.f ‹_› rfl), (by rfl), ?_⟩
    | refine ⟨_, _, _, _, _, _, rfl, upd_same, ‹_›, (by rfl), ?_⟩
    | refine ⟨_, _, _, _, _, _, rfl, ‹_›, ‹Cls _ _›, ‹_›, rfl, ?_⟩
    | refine ⟨_, _, _, _, rfl, ‹_›, by decide +kernel, ?_⟩
    | refine ⟨_, _, _, rfl, ‹_›, ?_⟩
    | refine ⟨_, _, _, _, rfl, by assumption, ?_⟩
    | refine And.intro (by assumption) ?_))))
section
variable {P : Program} {w : World} {K : PySem.W.Frag} {mg : Str → Option Value} {base : Heap}
theorem pow_pos (i : Nat) : (1 : Int) ≤ 10 ^ i := by
  have e1 : ((10 ^ i : Nat) : Int) = (10 : Int) ^ i := by rw [Int.natCast_pow]; rfl
  have := Nat.pow_pos (n := i) (show 0 < 10 by decide)
  rw [← e1]
  omega
theorem pow_le_pow {i j : Nat} (h : i ≤ j) : (10 : Int) ^ i ≤ 10 ^ j := by
  have h1 : (10 : Nat) ^ i ≤ 10 ^ j := Nat.pow_le_pow_right (by decide) h
  have e1 : ((10 ^ i : Nat) : Int) = (10 : Int) ^ i := by rw [Int.natCast_pow]; rfl
  have e2 : ((10 ^ j : Nat) : Int) = (10 : Int) ^ j := by rw [Int.natCast_pow]; rfl
  rw [← e1, ← e2]
  omega
def spGreat (K : PySem.W.Frag) : Sp := fun vs H Q _ => ∃ (pen cl : Addr) (n : Nat) (b : Int), vs = [.ref pen, .int (n : Nat)] ∧ PenAt K cl H pen b ∧ b + 30 ≤ 10 ^ 9 ∧ 1 ≤ n ∧ n ≤ 31 ∧ ∀ r b' H', 0 ≤ r → r < 10 ^ n → Drew K cl pen b 30 H H' b' → Q (.int r) H'
theorem sc__law_great : FnScope ["_law_pen_here", "_law_figures", "_law_most", "_law_some"] ["_law_pen_here", "_law_figures"] (defScope s__law_great) := C8.fnScope_by (by decide +kernel)
theorem ok_law_great {f : Addr} (F : DF K "_law_great" "_law_great" s__law_great f) (hm : mg "_law_great" = some (.ref f)) (c__law_draw : C8.Cal P w K mg base 5 "_law_draw" (spD K) []) (c__law_pick : C8.Cal P w K mg base 6 "_law_pick" (spPickL K) []) (c__law_power : C8.Cal P w K mg base 1 "_law_power" spPower []) :
    C8.Cal P w K mg base 7 "_law_great" (spGreat K) [] := by
  refine cal_of F hm sc__law_great (fun _ _ _ _ _ _ us hl => match us, hl with | [_, _], _ => rfl) (fun vs H Q E h => ?_) (fun cdv A outer s H vs Q E hr h => ?_)
  · obtain ⟨pen, cl, n, b, rfl, _⟩ := h
    rfl
  · obtain ⟨pen, cl, n, b, rfl, hP, hb, h0, h1, k⟩ := h
    refine ⟨_, (pss_cons (ps_set (i := 2) sc__law_great.nd rfl (Or.inl rfl) (C8.pe_c c__law_power hr (by decide) rfl (pa_cons (pv 1) pa_nil)))
        (pss_cons (ps_set (i := 3) sc__law_great.nd rfl (Or.inl rfl) (pe_lst (pa_cons (C8.pe_c c__law_draw hr (by decide) rfl (pa_cons (pv 0) (pa_cons pe_int pa_nil))) (pa_cons (C8.pe_c c__law_draw hr (by decide) rfl (pa_cons (pv 0) (pa_cons (pv 2) pa_nil))) (pa_cons (C8.pe_c c__law_draw hr (by decide) rfl (pa_cons (pv 0) (pa_cons (pv 2) pa_nil))) pa_nil)))))
        (pss_one (ps_ret (C8.pe_c c__law_pick hr (by decide) rfl (pa_cons (pv 0) (pa_cons (pe_op op_cat (pv 3) (pe_lst (pa_cons (pe_op op_add (pe_op op_fdivP (pv 2) pe_int) (C8.pe_c c__law_draw hr (by decide) rfl (pa_cons (pv 0) (pa_cons pe_int pa_nil)))) (pa_cons (pe_op op_sub (pe_op op_sub (pv 2) pe_int) (C8.pe_c c__law_draw hr (by decide) rfl (pa_cons (pv 0) (pa_cons pe_int pa_nil)))) pa_nil)))) pa_nil))))))), ?_⟩
    show (_ : TS) _ [some _, some _, none, none] _
    have hp1 : (10 : Int) ≤ 10 ^ n := by
      obtain ⟨m, rfl⟩ : ∃ m, n = m + 1 := ⟨n - 1, by omega⟩
      have e : (10 : Int) ^ (m + 1) = 10 ^ m * 10 := Int.pow_succ 10 m
      have := pow_pos m
      omega
    have hp2 : (10 : Int) ^ n ≤ 10 ^ 31 := pow_le_pow (by omega)
    walk_at "w"
    intro H1 hS1
    have P1 := hP.same hS1
    generalize (10 : Int) ^ n = M at *
    have b10 : Bd (10 : Int) := ⟨by decide, by decide⟩
    walk_at "w"
    intro r1 b1 H2 r10 r11 h11 h12 SB2 P2
    walk_at "w"
    intro r2 b2 H3 r20 r21 h21 h22 SB3 P3
    walk_at "w"
    intro r3 b3 H4 r30 r31 h31 h32 SB4 P4
    walk_at "w"
    intro l1 hl1
    have S5 := Same.new (o := .lst [V.int r1, .int r2, .int r3]) hl1
    have P5 := P4.same S5
    have hl5 : (upd H4 l1 (.lst [V.int r1, .int r2, .int r3])) l1 = some (.lst [V.int r1, .int r2, .int r3]) := upd_same
    generalize upd H4 l1 (.lst [V.int r1, .int r2, .int r3]) = H5 at S5 P5 hl5 ⊢
    have np5 : l1 ≠ pen := by
      obtain ⟨kv, hpp⟩ := P5.dict
      exact ne_of hl5 hpp (by intro z; cases z)
    walk_at "w"
    intro r4 b4 H6 r40 r41 h41 h42 SB6 P6
    have hl6 := SB6 _ _ hl5 np5
    walk_at "w"
    intro r5 b5 H7 r50 r51 h51 h52 SB7 P7
    have hl7 := SB7 _ _ hl6 np5
    walk_at "w"
    intro l2 hl2
    have S8 := Same.new (o := .lst [V.int (M / 10 + r4), .int (M - 1 - r5)]) hl2
    refine ⟨l1, l2, _, _, rfl, rfl, S8 _ _ hl7, upd_same, (by decide : (5 : Nat) ≤ sizeLine), fun l3 hl3 => ?_⟩
    have S9 := S8.trans (Same.new (o := .lst ([V.int r1, .int r2, .int r3] ++ [V.int (M / 10 + r4), .int (M - 1 - r5)])) hl3)
    have P9 := P7.same S9
    have hl9 : SqL K (upd (upd H7 l2 (.lst [V.int (M / 10 + r4), .int (M - 1 - r5)])) l3 (.lst ([V.int r1, .int r2, .int r3] ++ [V.int (M / 10 + r4), .int (M - 1 - r5)]))) l3 [V.int r1, .int r2, .int r3, .int (M / 10 + r4), .int (M - 1 - r5)] := SqL.of upd_same
    generalize upd (upd H7 l2 (.lst [V.int (M / 10 + r4), .int (M - 1 - r5)])) l3 (.lst ([V.int r1, .int r2, .int r3] ++ [V.int (M / 10 + r4), .int (M - 1 - r5)])) = H9 at S9 P9 hl9 ⊢
    walk_at "w"
    refine ⟨pen, cl, l3, _, b5, rfl, P9, by omega, hl9, by simp, (show (5 : Nat) ≤ 1000 by decide), fun v b' H' hv ⟨d1, d2, d3, d4⟩ => ?_⟩
    have SBa : SB pen H H' := (((((((SB.of hS1).tr SB2).tr SB3).tr SB4).same S5).tr SB6).tr SB7).same S9 |>.tr d3
    have fin : ∀ r : Int, v = .int r → 0 ≤ r → r < M → { nx := fun _ H' => Q .non H', rt := Q : Ends }.rt v H' := fun r e q0 q1 => by
      rw [e]
      exact k r b' H' q0 q1 ⟨by omega, by omega, SBa, d4⟩
    simp only [List.mem_cons, List.not_mem_nil, or_false] at hv
    rcases hv with e | e | e | e | e
    · exact fin _ e r10 (by omega)
    · exact fin _ e r20 r21
    · exact fin _ e r30 r31
    · exact fin _ e (by omega) (by omega)
    · exact fin _ e (by omega) (by omega)
end
end PK
end
section
set_option Elab.async false
set_option linter.all false
set_option maxRecDepth 100000
set_option maxHeartbeats 4000000
namespace PK
open PySem PySem.Spec PyProof.Rows L2 PM
local macro_rules | `(tactic| walk_at "sd") => `(tactic| (first
  | assumption
  | omega
  | (constructor <;> omega)
  | (refine ⟨by omega, ?_⟩; constructor <;> omega)
  | (constructor <;> (first | assumption | omega | (constructor <;> omega)))))
local macro_rules | `(tactic| walk_at "w") => `(tactic| (repeat (first
  | with_reducible refine ifTT ?_
  | with_reducible refine ifFT ?_
  | with_reducible refine ifnT ?_
  | with_reducible refine ifnF ?_
  | with_reducible refine ifIN ?_
  | with_reducible refine ifNN ?_
  | with_reducible refine ifnIN ?_
  | with_reducible refine ifnNN ?_
  | with_reducible refine ifRN ?_
  | with_reducible refine ifnRN ?_
  | ((fail_if_success with_reducible refine iteB ?_ ?_); first
    | refine ⟨_, rfl, ?_⟩
    | refine ⟨_, _, rfl, rfl, ?_⟩
    | refine ⟨_, _, rfl, ?_⟩
    | refine And.intro (a := (_ : Nat) ≤ sizeLine) (by first | exact len_small (m := 2) rfl | exact len_small (m := 1) rfl | exact len_small (m := 4) rfl | exact len_small (m := 3) rfl | exact len_small (m := 0) rfl) ?_
    | refine Or.inl ⟨_, rfl, ?_⟩
    | refine ⟨rfl, ?_⟩
    | refine And.intro (a := (_ : Int) ≤ _) (by omega) ?_
    | refine And.intro (a := (_ : Int) < _) (by omega) ?_
    | refine And.intro (a := (_ : Nat) ≤ _) (by omega) ?_
    | refine And.intro (a := (_ : Nat) < _) (by omega) ?_
    | refine And.intro (a := CDivP _ _) (by walk_at "sd") ?_
    | refine And.intro (a := CDivB _ _) (by walk_at "sd") ?_
    | refine And.intro (a := CMulB _ _) (by walk_at "sd") ?_
    | refine And.intro (a := _ ≠ (0 : Int)) (by walk_at "sd") ?_
    | refine And.intro (a := (0 : Int) < _) (by walk_at "sd") ?_
    | refine ⟨_, _, rfl, ‹_›, rfl, ?_⟩
    | refine ⟨_, _, _, _, rfl, rfl, ‹_›, rfl, ?_⟩
    | refine ⟨_, _, _, _, rfl, rfl, by assumption, by assumption, ?_⟩
    | refine ⟨_, _, _, _, _, _, rfl, ‹_›, ‹_›, rfl, ?_⟩
    | refine ⟨_, _, _, _, _, _, rfl, ‹_›, (by exact KCls.f ‹_› rfl), (by rfl), ?_⟩
    | refine ⟨_, _, _, _, _, _, rfl, upd_same, ‹_›, (by rfl), ?_⟩
    | refine ⟨_, _, _, _, _, _, rfl, ‹_›, ‹Cls _ _›, ‹_›, rfl, ?_⟩
    | refine ⟨_, _, _, _, rfl, ‹_›, by decide +kernel, ?_⟩
    | refine ⟨_, _, _, rfl, ‹_›, ?_⟩
    | refine ⟨_, _, _, _, rfl, by assumption, ?_⟩
    | refine And.intro (by assumption) ?_))))
section
variable {P : Program} {w : World} {K : PySem.W.Frag} {mg : Str → Option Value} {base : Heap}
/-! ### names -/
/-- a comprehension whose elements may change the heap at one place -/
theorem lc_accF {J : It} {n : Nat} {G : Hp → Prop} {Y : Nat → Hp → V → Hp → Prop} (w : Walk J n G Y) {g : TG} {tt : TT} {te : TE} {vs : List Nat} {σ : L2.St} {H1 : Hp} {D : Addr} {Qd : Hp → Prop} (hn : n < 1000) (Fr : Hp → Prop) (hF0 : Fr H1) (hFp : ∀ H o, Fr H → Fr (upd H D o)) (A : Nat → List V → Hp → Prop)
    (h0 : A 0 [] (upd H1 D (.lst []))) (hG : ∀ i acc H, Fr H → A i acc H → G H)
    (hs : ∀ i x acc H H' (Nx : Hp → Prop), i < n → Fr H → H D = some (.lst acc) → A i acc H → Y i H x H' →
      (∀ y H4, H4 D = some (.lst acc) → Fr H4 → A (i + 1) (acc ++ [y]) (upd H4 D (.lst (acc ++ [y]))) → ∃ acc, H4 D = some (.lst acc) ∧ acc.length < sizeLine ∧ Nx (upd H4 D (.lst (acc ++ [y])))) →
      (∀ H3, H3 D = some (.lst acc) → Fr H3 → A (i + 1) acc H3 → Nx H3) →
      g x (wipe σ vs) H' fun σ2 H2 => wipe σ2 vs = wipe σ vs ∧ tt σ2 H2 fun b H3 =>
        if b = true then te σ2 H3 fun y H4 => ∃ acc, H4 D = some (.lst acc) ∧ acc.length < sizeLine ∧ Nx (upd H4 D (.lst (acc ++ [y]))) else Nx H3)
    (hd : ∀ acc H, Fr H → H D = some (.lst acc) → A n acc H → Qd H) :
    ∃ W : Nat → Nat → Hp → Prop, (∃ m, W 0 m (upd H1 D (.lst []))) ∧ ∀ i m H, W i m H →
      (J.stop i H ∧ Qd H) ∨ (J.go i H ∧ ∃ Nx : Hp → Prop, (∀ H', Nx H' → ∃ m', m' < m ∧ W (i + 1) m' H') ∧ ∀ x H', J.yld i H x H' → g x (wipe σ vs) H' fun σ2 H2 => wipe σ2 vs = wipe σ vs ∧ tt σ2 H2 fun b H3 =>
        if b = true then te σ2 H3 fun y H4 => ∃ acc, H4 D = some (.lst acc) ∧ acc.length < sizeLine ∧ Nx (upd H4 D (.lst (acc ++ [y]))) else Nx H3) := by
  refine lc_it w (fun i H => Fr H ∧ ∃ acc, acc.length ≤ i ∧ H D = some (.lst acc) ∧ A i acc H) ⟨hFp _ _ hF0, [], Nat.le_refl _, upd_same, h0⟩ (fun i H _ p => ?_) (fun i x H H' hi p y => ?_) (fun H p => ?_)
  · obtain ⟨p1, acc, _, _, p2⟩ := p
    exact hG i acc H p1 p2
  · obtain ⟨p1, acc, p2, p3, p4⟩ := p
    refine hs i x acc H H' _ hi p1 p3 p4 y (fun z H4 q1 q2 q3 => ?_) (fun H3 q1 q2 q3 => ⟨q2, acc, by omega, q1, q3⟩)
    refine ⟨acc, q1, lt_line (m := i) p2 (by omega), hFp _ _ q2, acc ++ [z], ?_, upd_same, q3⟩
    rw [List.length_append]
    show acc.length + 1 ≤ i + 1
    omega
  · obtain ⟨p1, acc, _, p3, p4⟩ := p
    exact hd acc H p1 p3 p4
def letterAt (i : Int) : Str := ⟨#[abc.cps.toList.getD (i % 26).toNat 97]⟩
def nameAt (stem : Str) (front step : Int) (k : Nat) : Str := if stem.length % 2 = 0 then stem ++ letterAt (front + step * k) else letterAt (front + step * k) ++ stem
def spLNames (K : PySem.W.Frag) : Sp := fun vs H Q _ => ∃ (pen cl : Addr) (many : Nat) (b : Int), vs = [.ref pen, .int (many : Nat)] ∧ PenAt K cl H pen b ∧ b + 50 ≤ 10 ^ 9 ∧ many ≤ 8 ∧ ∀ (l : Addr) (nm : Nat → Str) b' H', (∀ i, i < many → NameOk (nm i)) → (∀ i j, i < many → j < many → nm i = nm j → i = j) → SqL K H' l (firsts (fun i => V.str (nm i)) many) → Drew K cl pen b 50 H H' b' → Q (.ref l) H'
theorem letter_in (i : Int) : ∀ c, c ∈ (letterAt i).cps.toList → inLet c = true := by
  have hall : ∀ k : Nat, k < 26 → inLet (abc.cps.toList.getD k 97) = true := by decide +kernel
  intro c hc
  have : c = abc.cps.toList.getD (i % 26).toNat 97 := by simpa [letterAt] using hc
  rw [this]
  exact hall _ (by omega)
theorem abc_inj (i j : Nat) (hi : i < 26) (hj : j < 26) : abc.cps.toList.getD i 97 = abc.cps.toList.getD j 97 → i = j := by
  have h : ∀ i : Nat, i < 26 → ∀ j : Nat, j < 26 → abc.cps.toList.getD i 97 = abc.cps.toList.getD j 97 → i = j := by decide +kernel
  exact h i hi j hj
theorem letter_inj {i j : Int} (h : letterAt i = letterAt j) : i % 26 = j % 26 := by
  have h1 : abc.cps.toList.getD (i % 26).toNat 97 = abc.cps.toList.getD (j % 26).toNat 97 := by
    have := congrArg (fun z : Str => z.cps.toList) h
    simpa [letterAt] using this
  have := abc_inj _ _ (by omega) (by omega) h1
  omega
theorem str_app (a b : Str) : (a ++ b).cps.toList = a.cps.toList ++ b.cps.toList := by
  show (a.cps ++ b.cps).toList = _
  rw [Array.toList_append]
theorem str_ext {a b : Str} (h : a.cps.toList = b.cps.toList) : a = b := by
  cases a; cases b
  congr 1
  exact Array.ext' h
theorem str_len (a : Str) : a.length = a.cps.toList.length := by rw [Array.length_toList]; rfl
theorem nameAt_inj {stem : Str} {front step : Int} {i j : Nat} (h : nameAt stem front step i = nameAt stem front step j) : (front + step * i) % 26 = (front + step * j) % 26 := by
  have h1 := congrArg (fun z : Str => z.cps.toList) h
  unfold nameAt at h1
  apply letter_inj
  apply str_ext
  split at h1
  · simp only [str_app] at h1
    exact List.append_cancel_left h1
  · simp only [str_app] at h1
    exact List.append_cancel_right h1
theorem nameAt_ok {stem : Str} {front step : Int} {i : Nat} (h : stem.length ≤ 6) (ha : ∀ c, c ∈ stem.cps.toList → inLet c = true) : NameOk (nameAt stem front step i) := by
  have hl : (letterAt (front + step * i)).cps.toList.length = 1 := rfl
  have hs : stem.cps.toList.length ≤ 6 := by rw [← str_len]; exact h
  refine ⟨?_, ?_, ?_⟩
  · rw [str_len]
    unfold nameAt
    split <;> rw [str_app, List.length_append, hl] <;> omega
  · rw [str_len]
    unfold nameAt
    split <;> rw [str_app, List.length_append, hl] <;> omega
  · intro c hc
    unfold nameAt at hc
    split at hc
    · rw [str_app, List.mem_append] at hc
      exact hc.elim (ha c) (letter_in _ c)
    · rw [str_app, List.mem_append] at hc
      exact hc.elim (letter_in _ c) (ha c)
/-- the steps that keep eight letters apart -/
theorem step_apart {step : Int} (h : step ∈ [1, 3, 5, 7, 9, 11, 15, 17, 19, 21, 23, (25 : Int)]) {front : Int} {i j : Nat} (hi : i < 8) (hj : j < 8) (e : (front + step * i) % 26 = (front + step * j) % 26) : i = j := by
  simp only [List.mem_cons, List.not_mem_nil, or_false] at h
  rcases h with h | h | h | h | h | h | h | h | h | h | h | h <;> subst h <;> omega
end
end PK
end
section
set_option Elab.async false
set_option linter.all false
set_option maxRecDepth 100000
set_option maxHeartbeats 4000000
namespace PK
open PySem PySem.Spec PyProof.Rows L2 PM
local macro_rules | `(tactic| walk_at "sd") => `(tactic| (first
  | assumption
  | omega
  | (constructor <;> omega)
  | (refine ⟨by omega, ?_⟩; constructor <;> omega)
  | (constructor <;> (first | assumption | omega | (constructor <;> omega)))))
local macro_rules | `(tactic| walk_at "w") => `(tactic| (repeat (first
  | with_reducible refine ifTT ?_
  | with_reducible refine ifFT ?_
  | with_reducible refine ifnT ?_
  | with_reducible refine ifnF ?_
  | with_reducible refine ifIN ?_
  | with_reducible refine ifNN ?_
  | with_reducible refine ifnIN ?_
  | with_reducible refine ifnNN ?_
  | with_reducible refine ifRN ?_
  | with_reducible refine ifnRN ?_
  | ((fail_if_success with_reducible refine iteB ?_ ?_); first
    | refine ⟨_, rfl, ?_⟩
    | refine ⟨_, _, rfl, rfl, ?_⟩
    | refine ⟨_, _, rfl, ?_⟩
    | refine And.intro (a := (_ : Nat) ≤ sizeLine) (by first | exact len_small (m := 2) rfl | exact len_small (m := 1) rfl | exact len_small (m := 4) rfl | exact len_small (m := 3) rfl | exact len_small (m := 0) rfl) ?_
    | refine Or.inl ⟨_, rfl, ?_⟩
    | refine ⟨rfl, ?_⟩
    | refine And.intro (a := (_ : Int) ≤ _) (by omega) ?_
    | refine And.intro (a := (_ : Int) < _) (by omega) ?_
    | refine And.intro (a := (_ : Nat) ≤ _) (by omega) ?_
    | refine And.intro (a := (_ : Nat) < _) (by omega) ?_
    | refine And.intro (a := CDivP _ _) (by walk_at "sd") ?_
    | refine And.intro (a := CDivB _ _) (by walk_at "sd") ?_
    | refine And.intro (a := CMulB _ _) (by walk_at "sd") ?_
    | refine And.intro (a := _ ≠ (0 : Int)) (by walk_at "sd") ?_
    | refine And.intro (a := (0 : Int) < _) (by walk_at "sd") ?_
    | refine ⟨_, _, rfl, ‹_›, rfl, ?_⟩
    | refine ⟨_, _, _, _, rfl, rfl, ‹_›, rfl, ?_⟩
    | refine ⟨_, _, _, _, rfl, rfl, by assumption, by assumption, ?_⟩
    | refine ⟨_, _, _, _, _, _, rfl, ‹_›, ‹_›, rfl, ?_⟩
    | refine ⟨_, _, _, _, _, _, rfl, ‹_›, (by exact KCls.f ‹_› rfl), (by rfl), ?_⟩
    | refine ⟨_, _, _, _, _, _, rfl, upd_same, ‹_›, (by rfl), ?_⟩
    | refine ⟨_, _, _, _, _, _, rfl, ‹_›, ‹Cls _ _›, ‹_›, rfl, ?_⟩
    | refine ⟨_, _, _, _, rfl, ‹_›, by decide +kernel, ?_⟩
    | refine ⟨_, _, _, rfl, ‹_›, ?_⟩
    | refine ⟨_, _, _, _, rfl, by assumption, ?_⟩
    | refine And.intro (by assumption) ?_))))
section
variable {P : Program} {w : World} {K : PySem.W.Frag} {mg : Str → Option Value} {base : Heap}
theorem str_nil (a : Str) : a ++ (Str.ofString "") = a := by
  apply str_ext
  rw [str_app]
  exact List.append_nil _
theorem atI_lett (i : Int) : atI abc.cps.toList (i % 26) = some (abc.cps.toList.getD (i % 26).toNat 97) := by
  have e : i % 26 = (((i % 26).toNat : Nat) : Int) := by omega
  have hl : abc.cps.toList.length = 26 := by decide +kernel
  have hlt : (i % 26).toNat < abc.cps.toList.length := by omega
  conv => lhs; rw [e]
  rw [atI_nat, List.getD_eq_getElem?_getD, List.getElem?_eq_getElem hlt]
  rfl
theorem join_one_cps : ∀ cs : List Nat, (Str.join (Str.ofString "") (cs.map fun c => (⟨#[c]⟩ : Str))).cps.toList = cs
  | [] => rfl
  | [c] => rfl
  | c :: d :: r => by
    have ih := join_one_cps (d :: r)
    have e : Str.join (Str.ofString "") ((c :: d :: r).map fun c => (⟨#[c]⟩ : Str)) = (⟨#[c]⟩ : Str) ++ (Str.ofString "") ++ Str.join (Str.ofString "") ((d :: r).map fun c => (⟨#[c]⟩ : Str)) := rfl
    rw [e, str_app, str_app, ih]
    rfl
theorem sum_one_len : ∀ cs : List Nat, ((cs.map fun c => (⟨#[c]⟩ : Str)).map (·.length)).sum = cs.length
  | [] => rfl
  | c :: r => by
    have ih := sum_one_len r
    simp only [List.map_cons, List.sum_cons, List.length_cons]
    rw [ih]
    show 1 + r.length = r.length + 1
    omega
theorem letters_in : ∀ c, c ∈ (Str.ofString "abcdefghijklmnopqrstuvwxyz").cps.toList → inLet c = true := by decide +kernel
theorem PenAt.put {H1 H : Hp} {pen cl D : Addr} {b1 b : Int} {o : HO} (p1 : PenAt K cl H1 pen b1) (hD : H1 D = none) (p : PenAt K cl H pen b) : PenAt K cl (upd H D o) pen b := by
  obtain ⟨kvs1, cells1, r1, g1, _, _, _, _, g6, _⟩ := p1
  obtain ⟨kvs, cells, r, h1, h2, h3, h4, h5, h6, h7⟩ := p
  have hne : pen ≠ D := ne_of_none g1 hD
  by_cases hc : cl = D
  · rcases g6 with (q | ⟨od, q⟩) | q
    · exact absurd hc (ne_of_none q hD)
    · exact absurd hc (ne_of_none q hD)
    · exact ⟨kvs, cells1, r, by rw [upd_ne hne]; exact h1, h2, h3, h4, h5, .inr q, h7⟩
  · refine ⟨kvs, cells, r, by rw [upd_ne hne]; exact h1, h2, h3, h4, h5, ?_, h7⟩
    rcases h6 with (q | ⟨od, q⟩) | q
    · exact .inl (.inl (by rw [upd_ne hc]; exact q))
    · exact .inl (.inr ⟨od, by rw [upd_ne hc]; exact q⟩)
    · exact .inr q
theorem SB.back {x D : Addr} {H H' : Hp} (h : SB x H H') (hD : H' D = none) (hn : D ≠ x) : H D = none := by
  cases e : H D with
  | none => rfl
  | some o => rw [h _ _ e hn] at hD; cases hD
theorem PenAt.ne {H1 : Hp} {pen cl D : Addr} {b1 : Int} (p1 : PenAt K cl H1 pen b1) (hD : H1 D = none) : D ≠ pen := by
  obtain ⟨kvs1, cells1, r1, g1, _⟩ := p1
  exact (ne_of_none g1 hD).symm
theorem sc__law_names : FnScope ["_law_pen_here", "_law_many", "_law_letters", "_law_k", "_law_stem", "_law_front", "_law_found", "_law_step", "_law_own", "_law_tail"] ["_law_pen_here", "_law_many"] (defScope s__law_names) := C8.fnScope_by (by decide +kernel)
theorem ok_law_names {f : Addr} (F : DF K "_law_names" "_law_names" s__law_names f) (hm : mg "_law_names" = some (.ref f)) (c__law_draw : C8.Cal P w K mg base 5 "_law_draw" (spD K) []) (c__law_pick : C8.Cal P w K mg base 6 "_law_pick" (spPickL K) []) (c__law_pickS : C8.Cal P w K mg base 6 "_law_pick" (spPickS K) []) (n_range : mg "range" = none) (n_len : mg "len" = none) (n_int : mg "int" = none) :
    C8.Cal P w K mg base 7 "_law_names" (spLNames K) [] := by
  refine cal_of F hm sc__law_names (fun _ _ _ _ _ _ us hl => match us, hl with | [_, _], _ => rfl) (fun vs H Q E h => ?_) (fun cdv A outer s H vs Q E hr h => ?_)
  · obtain ⟨pen, cl, many, b, rfl, _⟩ := h
    rfl
  · obtain ⟨pen, cl, many, b, rfl, hP, hb, hmany, k⟩ := h
    refine ⟨_, (pss_cons (ps_set (i := 2) sc__law_names.nd rfl (Or.inr rfl) pe_str)
        (pss_cons (ps_set (i := 4) sc__law_names.nd rfl (Or.inl rfl) (pe_join pe_str (pe_lc (own := [("_law_k", 3)]) rfl sc__law_names.nd (pi_range1 (by rfl) n_range (pa_cons (C8.pe_c c__law_draw hr (by decide) rfl (pa_cons (pv 0) (pa_cons pe_int pa_nil))) pa_nil)) (blkOk_by (N := ["_law_pen_here", "_law_many", "_law_letters", "_law_k", "_law_stem", "_law_front", "_law_found", "_law_step", "_law_own", "_law_tail"]) (sc := defScope s__law_names) (own := [("_law_k", 3)]) (by decide +kernel)) (fun _ _ _ _ _ => (pg_name (i := 3) sc__law_names.nd rfl (Or.inl rfl))) (fun _ _ _ _ _ => pts_nil) (fun _ _ _ _ _ => (C8.pe_c c__law_pickS hr (by decide) rfl (pa_cons (pv 0) (pa_cons (pv 2) pa_nil)))))))
        (pss_cons (ps_par (i := 5) (j := 6) rfl sc__law_names.nd rfl rfl (by decide) rfl rfl (pa_cons (C8.pe_c c__law_draw hr (by decide) rfl (pa_cons (pv 0) (pa_cons pe_int pa_nil))) (pa_cons (pe_lst pa_nil) pa_nil)) (by rfl))
        (pss_cons (ps_set (i := 7) sc__law_names.nd rfl (Or.inl rfl) (C8.pe_c c__law_pick hr (by decide) rfl (pa_cons (pv 0) (pa_cons (pe_lst (pa_cons pe_int (pa_cons pe_int (pa_cons pe_int (pa_cons pe_int (pa_cons pe_int (pa_cons pe_int (pa_cons pe_int (pa_cons pe_int (pa_cons pe_int (pa_cons pe_int (pa_cons pe_int (pa_cons pe_int pa_nil))))))))))))) pa_nil))))
        (pss_cons (ps_for PassesOwn.never rfl (pi_range1 (by rfl) n_range (pa_cons (pv 1) pa_nil)) (pg_name (i := 3) sc__law_names.nd rfl (Or.inl rfl))
           (pss_cons (ps_set (i := 8) sc__law_names.nd rfl (Or.inl rfl) (pe_ix ix_str (pv 2) (pe_op op_mod (pe_callTy call_int1 (by rfl) n_int (by decide +kernel) (pa_cons (pe_op op_add (pv 5) (pe_op op_mulB (pv 7) (pv 3))) pa_nil)) pe_int) (fun _ _ => rfl)))
           (pss_cons (ps_set (i := 9) sc__law_names.nd rfl (Or.inl rfl) (pe_ifExp (pt_cmpR op_lt (pv 3) pe_int (nomark _)) pe_str (C8.pe_c c__law_pickS hr (by decide) rfl (pa_cons (pv 0) (pa_cons (pv 2) pa_nil)))))
           (pss_one (ps_expr (pe_bm PySem.F.plainAttrs_list PySem.F.slot_list_append PySem.F.type_list_append mt_append (pv 6) (pa_cons (pe_op op_add_str (pe_ix ix_list (pe_lst (pa_cons (pe_op op_add_str (pv 4) (pv 8)) (pa_cons (pe_op op_add_str (pv 8) (pv 4)) pa_nil))) (pe_op op_mod (pe_callB call_len_str (by rfl) n_len (by decide +kernel) (pa_cons (pv 4) pa_nil)) pe_int) (fun _ _ => rfl)) (pv 9)) pa_nil)))))))
        (pss_one (ps_ret (pv 6)))))))), ?_⟩
    show (_ : TS) _ [some _, some _, none, none, none, none, none, none, none, none] _
    walk_at "w"
    refine ⟨⟨_, rfl⟩, ?_⟩
    walk_at "w"
    intro r1 b1 H1 r10 r11 h11 h12 SB1 P1
    walk_at "w"
    intro D hD
    refine lc_accF walk_range (by omega) (SB pen H1) (SB.refl _ _) (fun H o h => h.putN hD) (fun i acc H' => Tk (∃ (b' : Int) (cs : List Nat), b1 ≤ b' ∧ b' ≤ b1 + 5 * (i : Nat) ∧ PenAt K cl H' pen b' ∧ acc = cs.map (fun c => V.str ⟨#[c]⟩) ∧ cs.length = i ∧ ∀ c, c ∈ cs → inLet c = true)) (tk ⟨b1, [], by omega, by omega, P1.same (Same.new hD), rfl, rfl, fun _ h => nomatch h⟩) (fun _ _ _ _ _ => trivial) ?_ ?_
    · rintro i x acc H2 H3 Nx hi hS hD1 ⟨b2, cs, hb1, hb2, P2, rfl, hcs, hall⟩ ⟨rfl, rfl⟩ fin _
      have hi : i < r1.toNat := hi
      walk_at "w"
      refine ⟨by decide +kernel, by decide +kernel, fun c b' H' hc ⟨d1, d2, d3, d4⟩ => ?_⟩
      refine fin _ H' (d3 _ _ hD1 (P1.ne hD)) (hS.tr d3) (tk ⟨b', cs ++ [c], by omega, by omega, P1.put hD d4, by rw [List.map_append]; rfl, by rw [List.length_append, hcs]; rfl, fun x hx => ?_⟩)
      rcases List.mem_append.mp hx with hx | hx
      · exact hall _ hx
      · rw [List.mem_singleton] at hx
        rw [hx]
        exact letters_in _ hc
    · rintro acc H2 hS hD2 ⟨b2, cs, hb1, hb2, P2, rfl, hcs, hall⟩
      refine ⟨_, D, cs.map (fun c => (⟨#[c]⟩ : Str)), rfl, rfl, .inl (by rw [List.map_map]; exact SqL.of hD2), ?_, ?_⟩
      · rw [sum_one_len, List.length_map]
        show _ + _ * 0 ≤ _
        omega
      rw [TL.join_eq]
      have hst := join_one_cps cs
      generalize Str.join (Str.ofString "") (cs.map fun c => (⟨#[c]⟩ : Str)) = stem at hst ⊢
      walk_at "w"
      intro r2 b3 H3 r20 r21 h31 h32 SB3 P3
      walk_at "w"
      intro F hF
      have S4 := Same.new (o := .lst []) hF
      have P4 := P3.same S4
      have hF4 : (upd H3 F (.lst [])) F = some (.lst []) := upd_same
      have SB4 : SB pen H (upd H3 F (.lst [])) := ((SB1.tr hS).tr SB3).same S4
      have hpF := P3.ne hF
      have hFH : H F = none := ((SB1.tr hS).tr SB3).back hF hpF
      generalize upd H3 F (.lst []) = H4 at S4 P4 hF4 SB4 ⊢
      walk_at "w"
      refine ⟨(show (12 : Nat) ≤ sizeLine by decide), fun l hl => ?_⟩
      have S5 := Same.new (o := .lst [V.int 1, .int 3, .int 5, .int 7, .int 9, .int 11, .int 15, .int 17, .int 19, .int 21, .int 23, .int 25]) hl
      have P5 := P4.same S5
      have hl5 : SqL K (upd H4 l (.lst [V.int 1, .int 3, .int 5, .int 7, .int 9, .int 11, .int 15, .int 17, .int 19, .int 21, .int 23, .int 25])) l [V.int 1, .int 3, .int 5, .int 7, .int 9, .int 11, .int 15, .int 17, .int 19, .int 21, .int 23, .int 25] := SqL.of upd_same
      have hF5 := S5 _ _ hF4
      have SB5 := SB4.same S5
      generalize upd H4 l (.lst [V.int 1, .int 3, .int 5, .int 7, .int 9, .int 11, .int 15, .int 17, .int 19, .int 21, .int 23, .int 25]) = H5 at S5 P5 hl5 hF5 SB5 ⊢
      walk_at "w"
      refine ⟨pen, cl, l, _, b3, rfl, P5, by omega, hl5, by simp, (show (12 : Nat) ≤ 1000 by decide), fun v b4 H6 hv ⟨d1, d2, d3, d4⟩ => ?_⟩
      obtain ⟨step, rfl, hstep⟩ : ∃ st : Int, v = .int st ∧ st ∈ [1, 3, 5, 7, 9, 11, 15, 17, 19, 21, 23, (25 : Int)] := by
        have : v ∈ [1, 3, 5, 7, 9, 11, 15, 17, 19, 21, 23, (25 : Int)].map V.int := hv
        obtain ⟨st, q1, q2⟩ := List.mem_map.mp this
        exact ⟨st, q2.symm, q1⟩
      have hF6 := d3 _ _ hF5 hpF
      have SB6 := SB5.tr d3
      have hsb : 1 ≤ step ∧ step ≤ 25 := by
        simp only [List.mem_cons, List.not_mem_nil, or_false] at hstep
        omega
      have hsl : stem.length ≤ 6 := by
        rw [str_len, hst]
        omega
      walk_at "w"
      refine for_it walk_range (fun i σ H' => Tk (SB pen H H' ∧ PenAt K cl H' pen b4 ∧ H' F = some (.lst (firsts (fun i => V.str (nameAt stem r2 step i)) i)) ∧ ∃ o1 o2 o3, σ = [some (.ref pen), some (.int (many : Nat)), some (.str abc), o1, some (.str stem), some (.int r2), some (.ref F), some (.int step), o2, o3])) (tk ⟨SB6, d4, hF6, none, none, none, rfl⟩) (fun _ _ _ _ _ => trivial) ?_ ?_
      · rintro i v σ Hx H7 hi ⟨hS7, P7, hF7, o1, o2, o3, rfl⟩ ⟨rfl, rfl⟩
        have hi : i < many := by omega
        walk_at "w"
        refine ⟨abc, _, _, rfl, rfl, by decide +kernel, atI_lett _, ?_⟩
        have el : (⟨#[abc.cps.toList.getD ((r2 + step * (0 + (i : Nat))) % 26).toNat 97]⟩ : Str) = letterAt (r2 + step * i) := by rw [Int.zero_add]; rfl
        rw [el]
        have hol : (letterAt (r2 + step * i)).length = 1 := rfl
        have hn1 : nameAt stem r2 step i = if stem.length % 2 = 0 then stem ++ letterAt (r2 + step * i) else letterAt (r2 + step * i) ++ stem := rfl
        generalize letterAt (r2 + step * i) = own at hol hn1 ⊢
        walk_at "w"
        refine iteD (fun _ => ?_) (fun hc => absurd (show (0 : Int) + (i : Nat) < 26 by omega) hc)
        walk_at "w"
        refine ⟨tyL hF7, ?_⟩
        walk_at "w"
        refine ⟨len_of (m := 7) (by omega), ?_⟩
        walk_at "w"
        refine ⟨len_of (m := 7) (by omega), ?_⟩
        walk_at "w"
        intro l2 hl2
        have S8 := Same.new (o := .lst [V.str (stem ++ own), .str (own ++ stem)]) hl2
        have P8 := P7.same S8
        have hF8 := S8 _ _ hF7
        have SB8 := hS7.same S8
        have hl8 : SqL K (upd H7 l2 (.lst [V.str (stem ++ own), .str (own ++ stem)])) l2 [V.str (stem ++ own), .str (own ++ stem)] := SqL.of upd_same
        generalize upd H7 l2 (.lst [V.str (stem ++ own), .str (own ++ stem)]) = H8 at S8 P8 hF8 SB8 hl8 ⊢
        walk_at "w"
        refine ⟨len_of (m := 7) (by omega), ?_⟩
        walk_at "w"
        have hat : atI [V.str (stem ++ own), .str (own ++ stem)] ((stem.length : Nat) % 2 : Int) = some (V.str (nameAt stem r2 step i)) := by
          rw [hn1]
          rcases Nat.mod_two_eq_zero_or_one stem.length with z | z
          · rw [if_pos z, show ((stem.length : Nat) % 2 : Int) = 0 by omega]
            rfl
          · rw [if_neg (by omega), show ((stem.length : Nat) % 2 : Int) = 1 by omega]
            rfl
        refine ⟨l2, _, _, _, rfl, rfl, hl8, hat, ?_⟩
        have hnl := (nameAt_ok (front := r2) (step := step) (i := i) hsl (by rw [hst]; exact hall)).hi
        walk_at "w"
        refine ⟨len_of (m := 8) hnl, ?_⟩
        rw [str_nil]
        walk_at "w"
        refine ⟨F, _, _, rfl, rfl, hF8, lt_line (m := 8) (by rw [firsts_len]; omega), ?_⟩
        walk_at "w"
        refine tk ⟨SB8.putN hFH, P3.put hF P8, by rw [firsts_succ]; exact upd_same, some (.int (0 + (i : Nat))), some (.str own), some (.str (Str.ofString "")), rfl⟩
      · rintro σ H7 ⟨hS7, P7, hF7, o1, o2, o3, rfl⟩
        walk_at "w"
        have e : ((many : Nat) : Int).toNat = many := Int.toNat_natCast many
        rw [e] at hF7
        exact k F (fun i => nameAt stem r2 step i) b4 H7 (fun i _ => nameAt_ok hsl (by rw [hst]; exact hall)) (fun i j h1 h2 h3 => step_apart hstep (by omega) (by omega) (nameAt_inj h3)) (SqL.of hF7) ⟨by omega, by omega, hS7, P7⟩
end
end PK
end
section
set_option Elab.async false
set_option linter.all false
set_option maxRecDepth 100000
set_option maxHeartbeats 4000000
namespace PK
open PySem PySem.Spec PyProof.Rows L2 PM
local macro_rules | `(tactic| walk_at "sd") => `(tactic| (first
  | assumption
  | omega
  | (constructor <;> omega)
  | (refine ⟨by omega, ?_⟩; constructor <;> omega)
  | (constructor <;> (first | assumption | omega | (constructor <;> omega)))))
local macro_rules | `(tactic| walk_at "w") => `(tactic| (repeat (first
  | with_reducible refine ifTT ?_
  | with_reducible refine ifFT ?_
  | with_reducible refine ifnT ?_
  | with_reducible refine ifnF ?_
  | with_reducible refine ifIN ?_
  | with_reducible refine ifNN ?_
  | with_reducible refine ifnIN ?_
  | with_reducible refine ifnNN ?_
  | with_reducible refine ifRN ?_
  | with_reducible refine ifnRN ?_
  | ((fail_if_success with_reducible refine iteB ?_ ?_); first
    | refine ⟨_, rfl, ?_⟩
    | refine ⟨_, _, rfl, rfl, ?_⟩
    | refine ⟨_, _, rfl, ?_⟩
    | refine And.intro (a := (_ : Nat) ≤ sizeLine) (by first | exact len_small (m := 2) rfl | exact len_small (m := 1) rfl | exact len_small (m := 4) rfl | exact len_small (m := 3) rfl | exact len_small (m := 0) rfl) ?_
    | refine Or.inl ⟨_, rfl, ?_⟩
    | refine ⟨rfl, ?_⟩
    | refine And.intro (a := (_ : Int) ≤ _) (by omega) ?_
    | refine And.intro (a := (_ : Int) < _) (by omega) ?_
    | refine And.intro (a := (_ : Nat) ≤ _) (by omega) ?_
    | refine And.intro (a := (_ : Nat) < _) (by omega) ?_
    | refine And.intro (a := CDivP _ _) (by walk_at "sd") ?_
    | refine And.intro (a := CDivB _ _) (by walk_at "sd") ?_
    | refine And.intro (a := CMulB _ _) (by walk_at "sd") ?_
    | refine And.intro (a := _ ≠ (0 : Int)) (by walk_at "sd") ?_
    | refine And.intro (a := (0 : Int) < _) (by walk_at "sd") ?_
    | refine ⟨_, _, rfl, ‹_›, rfl, ?_⟩
    | refine ⟨_, _, _, _, rfl, rfl, ‹_›, rfl, ?_⟩
    | refine ⟨_, _, _, _, rfl, rfl, by assumption, by assumption, ?_⟩
    | refine ⟨_, _, _, _, _, _, rfl, ‹_›, ‹_›, rfl, ?_⟩
    | refine ⟨_, _, _, _, _, _, rfl, ‹_›, (by exact KCls.f ‹_› rfl), (by rfl), ?_⟩
    | refine ⟨_, _, _, _, _, _, rfl, upd_same, ‹_›, (by rfl), ?_⟩
    | refine ⟨_, _, _, _, _, _, rfl, ‹_›, ‹Cls _ _›, ‹_›, rfl, ?_⟩
    | refine ⟨_, _, _, _, rfl, ‹_›, by decide +kernel, ?_⟩
    | refine ⟨_, _, _, rfl, ‹_›, ?_⟩
    | refine ⟨_, _, _, _, rfl, by assumption, ?_⟩
    | refine And.intro (by assumption) ?_))))
section
variable {P : Program} {w : World} {K : PySem.W.Frag} {mg : Str → Option Value} {base : Heap}
theorem sc__law_gcd : FnScope ["_law_this", "_law_that"] ["_law_this", "_law_that"] (defScope s__law_gcd) := C8.fnScope_by (by decide +kernel)
theorem ok_law_gcd {f : Addr} (F : DF K "_law_gcd" "_law_gcd" s__law_gcd f) (hm : mg "_law_gcd" = some (.ref f)) (n_abs : mg "abs" = none) (n_int : mg "int" = none) :
    C8.Cal P w K mg base 1 "_law_gcd" spGcd [] := by
  refine cal_of F hm sc__law_gcd (fun _ _ _ _ _ _ us hl => match us, hl with | [_, _], _ => rfl) (fun vs H Q E h => ?_) (fun cdv A outer s H vs Q E hr h => ?_)
  · obtain ⟨i, j, rfl, _⟩ := h
    rfl
  · obtain ⟨i, j, rfl, k⟩ := h
    refine ⟨_, (pss_cons (ps_par (i := 0) (j := 1) rfl sc__law_gcd.nd rfl rfl (by decide) rfl rfl (pa_cons (pe_callB call_abs (by rfl) n_abs (by decide +kernel) (pa_cons (pv 0) pa_nil)) (pa_cons (pe_callB call_abs (by rfl) n_abs (by decide +kernel) (pa_cons (pv 1) pa_nil)) pa_nil)) (by rfl))
        (pss_cons (ps_while PassesOwn.never (pt_cmpR op_gt (pv 1) pe_int (nomark _))
           (pss_one (ps_par (i := 0) (j := 1) rfl sc__law_gcd.nd rfl rfl (by decide) rfl rfl (pa_cons (pv 1) (pa_cons (pe_op op_mod (pe_callTy call_int1 (by rfl) n_int (by decide +kernel) (pa_cons (pv 0) pa_nil)) (pv 1)) pa_nil)) (by rfl))))
        (pss_one (ps_ret (pv 0))))), ?_⟩
    show (_ : TS) _ [some _, some _] _
    walk_at "w"
    refine ⟨fun m σ H' => Tk (H' = H ∧ ∃ a b : Int, σ = [some (.int a), some (.int b)] ∧ 0 ≤ a ∧ 0 ≤ b ∧ Int.gcd a b = Int.gcd i j ∧ m = b.toNat), ⟨(absI j).toNat, tk ⟨rfl, absI i, absI j, rfl, absI_nn i, absI_nn j, ?_, rfl⟩⟩, ?_⟩
    · rw [absI_natAbs, absI_natAbs]
      rfl
    rintro m σ H' ⟨rfl, a, b, rfl, a0, b0, g, rfl⟩
    walk_at "w"
    refine iteD (fun hc => ?_) (fun hc => ?_)
    · have hb : b ≠ 0 := by omega
      refine ⟨fun σ' H2 => ∃ m', m' < b.toNat ∧ Tk (H2 = H' ∧ ∃ a b : Int, σ' = [some (.int a), some (.int b)] ∧ 0 ≤ a ∧ 0 ≤ b ∧ Int.gcd a b = Int.gcd i j ∧ m' = b.toNat), fun _ _ n => n, ?_⟩
      have e2 := Int.emod_nonneg a hb
      have e3 := Int.emod_lt_of_pos a (show 0 < b by omega)
      walk_at "w"
      exact ⟨_, by omega, tk ⟨rfl, _, _, rfl, b0, e2, by rw [gcd_step, g], rfl⟩⟩
    · have hb : b = 0 := by omega
      subst hb
      walk_at "w"
      rw [Int.gcd_zero_right] at g
      have e : a = (Int.gcd i j : Int) := by omega
      rw [e]
      exact k
theorem sc__law_inverse : FnScope ["_law_thing", "_law_size", "_law_this", "_law_that", "_law_front", "_law_second", "_law_times"] ["_law_thing", "_law_size"] (defScope s__law_inverse) := C8.fnScope_by (by decide +kernel)
theorem ok_law_inverse {f : Addr} (F : DF K "_law_inverse" "_law_inverse" s__law_inverse f) (hm : mg "_law_inverse" = some (.ref f)) (n_int : mg "int" = none) :
    C8.Cal P w K mg base 1 "_law_inverse" spInverse [] := by
  refine cal_of F hm sc__law_inverse (fun _ _ _ _ _ _ us hl => match us, hl with | [_, _], _ => rfl) (fun vs H Q E h => ?_) (fun cdv A outer s H vs Q E hr h => ?_)
  · obtain ⟨i, j, rfl, _⟩ := h
    rfl
  · obtain ⟨n, M, rfl, hM, hM2, hg, k⟩ := h
    refine ⟨_, (pss_cons (ps_asg (pe_tup (pa_cons (pe_op op_mod (pe_callTy call_int1 (by rfl) n_int (by decide +kernel) (pa_cons (pv 0) pa_nil)) (pv 1)) (pa_cons (pv 1) (pa_cons pe_int (pa_cons pe_int pa_nil))))) (pg_tup rfl (pgs_cons (pg_name (i := 2) sc__law_inverse.nd rfl (Or.inl rfl)) (pgs_cons (pg_name (i := 3) sc__law_inverse.nd rfl (Or.inl rfl)) (pgs_cons (pg_name (i := 4) sc__law_inverse.nd rfl (Or.inl rfl)) (pgs_cons (pg_name (i := 5) sc__law_inverse.nd rfl (Or.inl rfl)) pgs_nil))))))
        (pss_cons (ps_while PassesOwn.never (pt_cmpR op_gt (pv 3) pe_int (nomark _))
           (pss_cons (ps_set (i := 6) sc__law_inverse.nd rfl (Or.inl rfl) (pe_op op_fdivP (pv 2) (pv 3)))
           (pss_cons (ps_par (i := 2) (j := 3) rfl sc__law_inverse.nd rfl rfl (by decide) rfl rfl (pa_cons (pv 3) (pa_cons (pe_op op_sub (pv 2) (pe_op op_mulB (pv 6) (pv 3))) pa_nil)) (by rfl))
           (pss_one (ps_par (i := 4) (j := 5) rfl sc__law_inverse.nd rfl rfl (by decide) rfl rfl (pa_cons (pv 5) (pa_cons (pe_op op_sub (pv 4) (pe_op op_mulB (pv 6) (pv 5))) pa_nil)) (by rfl))))))
        (pss_one (ps_ret (pe_op op_mod (pe_callTy call_int1 (by rfl) n_int (by decide +kernel) (pa_cons (pv 4) pa_nil)) (pv 1)))))), ?_⟩
    show (_ : TS) _ [some _, some _, none, none, none, none, none] _
    walk_at "w"
    intro t ht
    have S1 := Same.new (o := .tup [.int (n % M), .int M, .int 1, .int 0]) ht
    refine ⟨_, _, rfl, SqT.of upd_same, rfl, ?_⟩
    generalize upd H t (.tup [.int (n % M), .int M, .int 1, .int 0]) = H1 at S1 ⊢
    walk_at "w"
    refine ⟨fun m σ H' => Tk (Same H H' ∧ ∃ (a b x y : Int) (o : Option V), σ = [some (.int n), some (.int M), some (.int a), some (.int b), some (.int x), some (.int y), o] ∧ IvS n M a b x y ∧ m = b.toNat), ⟨M.toNat, tk ⟨S1, _, _, _, _, none, rfl, IvS.start hM hg, rfl⟩⟩, ?_⟩
    rintro m σ H' ⟨hS', a, b, x, y, o, rfl, I, rfl⟩
    walk_at "w"
    have b0 := I.b0
    refine iteD (fun hc => ?_) (fun hc => ?_)
    · have hb : b ≠ 0 := by omega
      obtain ⟨I2, ht2, t0, t1⟩ := I.step hb
      have am := I.am
      have bm := I.bm
      refine ⟨fun σ' H2 => ∃ m', m' < b.toNat ∧ Tk (Same H H2 ∧ ∃ (a b x y : Int) (o : Option V), σ' = [some (.int n), some (.int M), some (.int a), some (.int b), some (.int x), some (.int y), o] ∧ IvS n M a b x y ∧ m' = b.toNat), fun _ _ n => n, ?_⟩
      have hx := I.hx
      have hy := I.hy
      have hx1 : -M ≤ x ∧ x ≤ M := by unfold absI at hx; split at hx <;> omega
      have hy1 : -M ≤ y ∧ y ≤ M := by unfold absI at hy; split at hy <;> omega
      walk_at "w"
      exact ⟨_, ht2, tk ⟨hS', _, _, _, _, _, rfl, I2, rfl⟩⟩
    · have hb : b = 0 := by omega
      subst hb
      walk_at "w"
      exact k _ _ (Int.emod_nonneg _ (by omega)) (Int.emod_lt_of_pos _ hM) (I.end_ hM) hS'
end
end PK
end
section
set_option Elab.async false
set_option linter.all false
set_option maxRecDepth 100000
set_option maxHeartbeats 4000000
namespace PK
open PySem PySem.Spec PyProof.Rows L2 PM
local macro_rules | `(tactic| walk_at "sd") => `(tactic| (first
  | assumption
  | omega
  | (constructor <;> omega)
  | (refine ⟨by omega, ?_⟩; constructor <;> omega)
  | (constructor <;> (first | assumption | omega | (constructor <;> omega)))))
local macro_rules | `(tactic| walk_at "w") => `(tactic| (repeat (first
  | with_reducible refine ifTT ?_
  | with_reducible refine ifFT ?_
  | with_reducible refine ifnT ?_
  | with_reducible refine ifnF ?_
  | with_reducible refine ifIN ?_
  | with_reducible refine ifNN ?_
  | with_reducible refine ifnIN ?_
  | with_reducible refine ifnNN ?_
  | with_reducible refine ifRN ?_
  | with_reducible refine ifnRN ?_
  | ((fail_if_success with_reducible refine iteB ?_ ?_); first
    | refine ⟨_, rfl, ?_⟩
    | refine ⟨_, _, rfl, rfl, ?_⟩
    | refine ⟨_, _, rfl, ?_⟩
    | refine And.intro (a := (_ : Nat) ≤ sizeLine) (by first | exact len_small (m := 2) rfl | exact len_small (m := 1) rfl | exact len_small (m := 4) rfl | exact len_small (m := 3) rfl | exact len_small (m := 0) rfl) ?_
    | refine Or.inl ⟨_, rfl, ?_⟩
    | refine ⟨rfl, ?_⟩
    | refine And.intro (a := (_ : Int) ≤ _) (by omega) ?_
    | refine And.intro (a := (_ : Int) < _) (by omega) ?_
    | refine And.intro (a := (_ : Nat) ≤ _) (by omega) ?_
    | refine And.intro (a := (_ : Nat) < _) (by omega) ?_
    | refine And.intro (a := CDivP _ _) (by walk_at "sd") ?_
    | refine And.intro (a := CDivB _ _) (by walk_at "sd") ?_
    | refine And.intro (a := CMulB _ _) (by walk_at "sd") ?_
    | refine And.intro (a := _ ≠ (0 : Int)) (by walk_at "sd") ?_
    | refine And.intro (a := (0 : Int) < _) (by walk_at "sd") ?_
    | refine ⟨_, _, rfl, ‹_›, rfl, ?_⟩
    | refine ⟨_, _, _, _, rfl, rfl, ‹_›, rfl, ?_⟩
    | refine ⟨_, _, _, _, rfl, rfl, by assumption, by assumption, ?_⟩
    | refine ⟨_, _, _, _, _, _, rfl, ‹_›, ‹_›, rfl, ?_⟩
    | refine ⟨_, _, _, _, _, _, rfl, ‹_›, (by exact KCls.f ‹_› rfl), (by rfl), ?_⟩
    | refine ⟨_, _, _, _, _, _, rfl, upd_same, ‹_›, (by rfl), ?_⟩
    | refine ⟨_, _, _, _, _, _, rfl, ‹_›, ‹Cls _ _›, ‹_›, rfl, ?_⟩
    | refine ⟨_, _, _, _, rfl, ‹_›, by decide +kernel, ?_⟩
    | refine ⟨_, _, _, rfl, ‹_›, ?_⟩
    | refine ⟨_, _, _, _, rfl, by assumption, ?_⟩
    | refine And.intro (by assumption) ?_))))
section
variable {P : Program} {w : World} {K : PySem.W.Frag} {mg : Str → Option Value} {base : Heap}
/-! ### two lines of posts, as the law tells them -/
def lpV (z : Str) (p : Pt) : List V := [.str z, .int p.day, .int p.post, .int p.stride]
def ComV (K : PySem.W.Frag) (H : Hp) (a b : Pt) (v : V) : Prop := ∃ (emp : Bool) (step ostep start ostart : Int), CrOk a.post a.stride b.post b.stride emp step ostep start ostart ∧ CrB step ostep start ostart ∧ ((emp = true ∧ v = .non) ∨ (emp = false ∧ ∃ c, v = .ref c ∧ SqT K H c [.int start, .int step, .int ostart, .int ostep]))
theorem ComV.same {H H' : Hp} {a b : Pt} {v : V} (e : Same H H') (h : ComV K H a b v) : ComV K H' a b v := by
  obtain ⟨emp, step, ostep, start, ostart, h1, h2, h3⟩ := h
  refine ⟨emp, step, ostep, start, ostart, h1, h2, h3.imp id fun ⟨h4, c, h5, h6⟩ => ⟨h4, c, h5, e.sqt h6⟩⟩
theorem cr_none {p1 s1 p2 s2 : Int} (h2 : s2 ≠ 0) (h : (p2 - p1) % (Int.gcd s1 s2 : Int) ≠ 0) : CrOk p1 s1 p2 s2 true 1 0 0 0 := by
  refine ⟨fun _ k j e => ?_, by decide, by decide, by decide, fun z => by cases z⟩
  have d1 := Int.gcd_dvd_left s1 s2
  have d2 := Int.gcd_dvd_right s1 s2
  have e2 : p2 - p1 = k * s1 - j * s2 := by omega
  apply h
  rw [e2]
  exact Int.emod_eq_zero_of_dvd (Int.dvd_sub (Int.dvd_mul_of_dvd_right d1) (Int.dvd_mul_of_dvd_right d2))
theorem sign_fdiv {s x : Int} (hs : s ≠ 0) : x * (absI s).fdiv s = if 0 < s then x else -x := by
  unfold absI
  by_cases h : 0 < s
  · rw [if_neg (by omega), if_pos h, Int.fdiv_self hs, Int.mul_one]
  · rw [if_pos (by omega), if_neg h, Int.neg_fdiv, if_pos (Or.inr (Int.dvd_refl s)), Int.fdiv_self hs]
    omega
def spCommon (K : PySem.W.Frag) : Sp := fun vs H Q _ => ∃ (t u : Addr) (z y : Str) (a b : Pt), vs = [.ref t, .ref u] ∧ SqT K H t (lpV z a) ∧ SqT K H u (lpV y b) ∧ PtOk a ∧ PtOk b ∧ ∀ v H', Same H H' → ComV K H' a b v → Q v H'
theorem sc__law_common : FnScope ["_law_this", "_law_that", "_law_gap", "_law_part", "_law_period", "_law_k", "_law_j"] ["_law_this", "_law_that"] (defScope s__law_common) := C8.fnScope_by (by decide +kernel)
theorem ok_law_common {f : Addr} (F : DF K "_law_common" "_law_common" s__law_common f) (hm : mg "_law_common" = some (.ref f)) (c__law_gcd : C8.Cal P w K mg base 1 "_law_gcd" spGcd []) (c__law_inverse : C8.Cal P w K mg base 1 "_law_inverse" spInverse []) (n_abs : mg "abs" = none) (n_int : mg "int" = none) :
    C8.Cal P w K mg base 2 "_law_common" (spCommon K) [] := by
  refine cal_of F hm sc__law_common (fun _ _ _ _ _ _ us hl => match us, hl with | [_, _], _ => rfl) (fun vs H Q E h => ?_) (fun cdv A outer s H vs Q E hr h => ?_)
  · obtain ⟨t, u, z, y, a, b, rfl, _⟩ := h
    rfl
  · obtain ⟨t, u, z, y, a, b, rfl, ht, hu, ha, hb, k⟩ := h
    refine ⟨_, (pss_cons (ps_par (i := 2) (j := 3) rfl sc__law_common.nd rfl rfl (by decide) rfl rfl (pa_cons (pe_op op_sub (pe_ix ix_tup (pv 1) pe_int (fun _ _ => rfl)) (pe_ix ix_tup (pv 0) pe_int (fun _ _ => rfl))) (pa_cons (C8.pe_c c__law_gcd hr (by decide) rfl (pa_cons (pe_ix ix_tup (pv 0) pe_int (fun _ _ => rfl)) (pa_cons (pe_ix ix_tup (pv 1) pe_int (fun _ _ => rfl)) pa_nil))) pa_nil)) (by rfl))
        (pss_cons (ps_if (pt_cmpR op_ne (pe_op op_mod (pe_callTy call_int1 (by rfl) n_int (by decide +kernel) (pa_cons (pv 2) pa_nil)) (pv 3)) pe_int (nomark _)) (pss_one (ps_ret pe_non))
           pss_nil)
        (pss_cons (ps_set (i := 4) sc__law_common.nd rfl (Or.inl rfl) (pe_op op_fdivP (pe_callB call_abs (by rfl) n_abs (by decide +kernel) (pa_cons (pe_ix ix_tup (pv 1) pe_int (fun _ _ => rfl)) pa_nil)) (pv 3)))
        (pss_cons (ps_set (i := 5) sc__law_common.nd rfl (Or.inl rfl) (pe_op op_mod (pe_callTy call_int1 (by rfl) n_int (by decide +kernel) (pa_cons (pe_op op_mulB (pe_op op_fdivP (pv 2) (pv 3)) (C8.pe_c c__law_inverse hr (by decide) rfl (pa_cons (pe_op op_fdivP (pe_ix ix_tup (pv 0) pe_int (fun _ _ => rfl)) (pv 3)) (pa_cons (pv 4) pa_nil)))) pa_nil)) (pv 4)))
        (pss_cons (ps_set (i := 6) sc__law_common.nd rfl (Or.inl rfl) (pe_op op_fdivG (pe_op op_sub (pe_op op_add (pe_ix ix_tup (pv 0) pe_int (fun _ _ => rfl)) (pe_op op_mulB (pv 5) (pe_ix ix_tup (pv 0) pe_int (fun _ _ => rfl)))) (pe_ix ix_tup (pv 1) pe_int (fun _ _ => rfl))) (pe_ix ix_tup (pv 1) pe_int (fun _ _ => rfl))))
        (pss_one (ps_ret (pe_tup (pa_cons (pv 5) (pa_cons (pv 4) (pa_cons (pv 6) (pa_cons (pe_op op_mulB (pe_op op_fdivP (pe_ix ix_tup (pv 0) pe_int (fun _ _ => rfl)) (pv 3)) (pe_op op_fdivG (pe_callB call_abs (by rfl) n_abs (by decide +kernel) (pa_cons (pe_ix ix_tup (pv 1) pe_int (fun _ _ => rfl)) pa_nil)) (pe_ix ix_tup (pv 1) pe_int (fun _ _ => rfl)))) pa_nil)))))))))))), ?_⟩
    show (_ : TS) _ [some _, some _, none, none, none, none, none] _
    have hg := gcd_pos (s1 := a.stride) hb.nz
    have hst := step_pos (s1 := a.stride) hb.nz
    obtain ⟨a1, a2, a3, a4, a5, a6, a7⟩ := id ha
    obtain ⟨b1, b2, b3, b4, b5, b6, b7⟩ := id hb
    have hs2 : -(10 ^ 18) ≤ absI b.stride ∧ absI b.stride ≤ 10 ^ 18 := by unfold absI; split <;> omega
    have hg2 : (Int.gcd a.stride b.stride : Int) ≤ 10 ^ 18 := by
      have d3 : (Int.gcd a.stride b.stride : Int) ∣ absI b.stride := by
        rw [absI_natAbs]
        exact Int.dvd_natAbs.mpr (Int.gcd_dvd_right a.stride b.stride)
      have := Int.le_of_dvd (by unfold absI; omega) d3
      omega
    have hgB : Bd (Int.gcd a.stride b.stride : Int) := ⟨by omega, by omega⟩
    have e1 := ediv_small hg hs2.1 hs2.2 (by decide)
    have e2 := ediv_small hg a5 a6 (by decide)
    have e3 := ediv_small hg (show -(10 ^ 31) ≤ b.post - a.post by omega) (show b.post - a.post ≤ 10 ^ 31 by omega) (by decide)
    walk_at "w"
    refine iteND (fun hc => ?_) (fun hc => ?_)
    · have hne : (b.post - a.post) % (Int.gcd a.stride b.stride : Int) ≠ 0 := fun z => hc (congrArg V.int z)
      walk_at "w"
      exact k _ _ (Same.refl _) ⟨true, 1, 0, 0, 0, cr_none hb.nz hne, ⟨by decide, by decide, by decide⟩, .inl ⟨rfl, rfl⟩⟩
    · have heq : (b.post - a.post) % (Int.gcd a.stride b.stride : Int) = 0 := by injection hc
      have hs2g : absI b.stride / (Int.gcd a.stride b.stride : Int) ≤ 10 ^ 100 := by omega
      walk_at "w"
      refine ⟨gcd_unit hb.nz, fun r H2 r0 r1 hr hS2 => ?_⟩
      replace r1 : r < absI b.stride / (Int.gcd a.stride b.stride : Int) := r1
      have cB := cr_bounds ha hb r0 r1
      have cO := cr_ok (p1 := a.post) (p2 := b.post) hb.nz hr
      have rB : Bd r := ⟨by omega, by omega⟩
      have gB : Bd ((b.post - a.post) / (Int.gcd a.stride b.stride : Int)) := ⟨by omega, by omega⟩
      have e4 := Int.emod_nonneg ((b.post - a.post) / (Int.gcd a.stride b.stride : Int) * r) (show absI b.stride / (Int.gcd a.stride b.stride : Int) ≠ 0 by omega)
      have e5 := Int.emod_lt_of_pos ((b.post - a.post) / (Int.gcd a.stride b.stride : Int) * r) hst
      have stB : Bd ((b.post - a.post) / (Int.gcd a.stride b.stride : Int) * r % (absI b.stride / (Int.gcd a.stride b.stride : Int))) := ⟨by omega, by omega⟩
      have aB : Bd a.stride := ⟨by omega, by omega⟩
      have bB : Bd b.stride := ⟨by omega, by omega⟩
      have sB : Bd (a.stride / (Int.gcd a.stride b.stride : Int)) := ⟨by omega, by omega⟩
      have ht2 := hS2.sqt ht
      have hu2 := hS2.sqt hu
      walk_at "w"
      have gnB : Bd ((absI b.stride).fdiv b.stride) := by
        have e := sign_fdiv (x := 1) hb.nz
        rw [Int.one_mul] at e
        rw [e]
        split <;> exact ⟨by omega, by omega⟩
      rw [← sign_fdiv hb.nz] at cO cB
      refine ⟨⟨sB, gnB⟩, ?_⟩
      walk_at "w"
      intro c hc
      have hS3 := hS2.trans (Same.new (o := .tup [.int ((b.post - a.post) / (Int.gcd a.stride b.stride : Int) * r % (absI b.stride / (Int.gcd a.stride b.stride : Int))), .int (absI b.stride / (Int.gcd a.stride b.stride : Int)), .int ((a.post + (b.post - a.post) / (Int.gcd a.stride b.stride : Int) * r % (absI b.stride / (Int.gcd a.stride b.stride : Int)) * a.stride - b.post).fdiv b.stride), .int (a.stride / (Int.gcd a.stride b.stride : Int) * (absI b.stride).fdiv b.stride)]) hc)
      exact k _ _ hS3 ⟨_, _, _, _, _, cO, cB, .inr ⟨decide_eq_false (fun z => z heq), c, rfl, SqT.of upd_same⟩⟩
end
end PK
end
section
set_option Elab.async false
set_option linter.all false
set_option maxRecDepth 100000
set_option maxHeartbeats 4000000
namespace PK
open PySem PySem.Spec PyProof.Rows L2 PM
local macro_rules | `(tactic| walk_at "sd") => `(tactic| (first
  | assumption
  | omega
  | (constructor <;> omega)
  | (refine ⟨by omega, ?_⟩; constructor <;> omega)
  | (constructor <;> (first | assumption | omega | (constructor <;> omega)))))
local macro_rules | `(tactic| walk_at "w") => `(tactic| (repeat (first
  | with_reducible refine ifTT ?_
  | with_reducible refine ifFT ?_
  | with_reducible refine ifnT ?_
  | with_reducible refine ifnF ?_
  | with_reducible refine ifIN ?_
  | with_reducible refine ifNN ?_
  | with_reducible refine ifnIN ?_
  | with_reducible refine ifnNN ?_
  | with_reducible refine ifRN ?_
  | with_reducible refine ifnRN ?_
  | ((fail_if_success with_reducible refine iteB ?_ ?_); first
    | refine ⟨_, rfl, ?_⟩
    | refine ⟨_, _, rfl, rfl, ?_⟩
    | refine ⟨_, _, rfl, ?_⟩
    | refine And.intro (a := (_ : Nat) ≤ sizeLine) (by first | exact len_small (m := 2) rfl | exact len_small (m := 1) rfl | exact len_small (m := 4) rfl | exact len_small (m := 3) rfl | exact len_small (m := 0) rfl) ?_
    | refine Or.inl ⟨_, rfl, ?_⟩
    | refine ⟨rfl, ?_⟩
    | refine And.intro (a := (_ : Int) ≤ _) (by omega) ?_
    | refine And.intro (a := (_ : Int) < _) (by omega) ?_
    | refine And.intro (a := (_ : Nat) ≤ _) (by omega) ?_
    | refine And.intro (a := (_ : Nat) < _) (by omega) ?_
    | refine And.intro (a := CDivP _ _) (by walk_at "sd") ?_
    | refine And.intro (a := CDivB _ _) (by walk_at "sd") ?_
    | refine And.intro (a := CMulB _ _) (by walk_at "sd") ?_
    | refine And.intro (a := _ ≠ (0 : Int)) (by walk_at "sd") ?_
    | refine And.intro (a := (0 : Int) < _) (by walk_at "sd") ?_
    | refine ⟨_, _, rfl, ‹_›, rfl, ?_⟩
    | refine ⟨_, _, _, _, rfl, rfl, ‹_›, rfl, ?_⟩
    | refine ⟨_, _, _, _, rfl, rfl, by assumption, by assumption, ?_⟩
    | refine ⟨_, _, _, _, _, _, rfl, ‹_›, ‹_›, rfl, ?_⟩
    | refine ⟨_, _, _, _, _, _, rfl, ‹_›, (by exact KCls.f ‹_› rfl), (by rfl), ?_⟩
    | refine ⟨_, _, _, _, _, _, rfl, upd_same, ‹_›, (by rfl), ?_⟩
    | refine ⟨_, _, _, _, _, _, rfl, ‹_›, ‹Cls _ _›, ‹_›, rfl, ?_⟩
    | refine ⟨_, _, _, _, rfl, ‹_›, by decide +kernel, ?_⟩
    | refine ⟨_, _, _, rfl, ‹_›, ?_⟩
    | refine ⟨_, _, _, _, rfl, by assumption, ?_⟩
    | refine And.intro (by assumption) ?_))))
section
variable {P : Program} {w : World} {K : PySem.W.Frag} {mg : Str → Option Value} {base : Heap}
/-! ### the first block, as the law tells it -/
def pairR (q : Int × Int) : List V := [.int q.2, .int q.1]
def spFirstL (K : PySem.W.Frag) : Sp := fun vs H Q _ => ∃ (t u : Addr) (z y : Str) (a b : Pt) (v : V) (cnt : Option Int) (early : Bool), vs = [.ref t, .ref u, v, optV cnt, .bl early] ∧ SqT K H t (lpV z a) ∧ SqT K H u (lpV y b) ∧ PtOk a ∧ PtOk b ∧ ComV K H a b v ∧ (∀ z, cnt = some z → 0 ≤ z) ∧
  ∀ r H', Same H H' → FB a b early cnt r → (∀ k, r = some k → 0 ≤ k ∧ k ≤ 10 ^ 60) → Q (optV r) H'
theorem sc__law_first : FnScope ["_law_this", "_law_that", "_law_common_here", "_law_number_here", "_law_early", "_law_k", "_law_period", "_law_j", "_law_step", "_law_late", "_law_bounds", "_law_low", "_law_high", "_law_growth", "_law_free"] ["_law_this", "_law_that", "_law_common_here", "_law_number_here", "_law_early"] (defScope s__law_first) := C8.fnScope_by (by decide +kernel)
theorem ok_law_first {f : Addr} (F : DF K "_law_first" "_law_first" s__law_first f) (hm : mg "_law_first" = some (.ref f)) (n_max : mg "max" = none) (n_int : mg "int" = none) :
    C8.Cal P w K mg base 1 "_law_first" (spFirstL K) [] := by
  refine cal_of F hm sc__law_first (fun _ _ _ _ _ _ us hl => match us, hl with | [_, _, _, _, _], _ => rfl) (fun vs H Q E h => ?_) (fun cdv A outer s H vs Q E hr h => ?_)
  · obtain ⟨t, u, z, y, a, b, v, cnt, early, rfl, _⟩ := h
    rfl
  · obtain ⟨t, u, z, y, a, b, v, cnt, early, rfl, ht, hu, ha, hb, ⟨emp, step, ostep, start, ostart, hC, hB, hv⟩, hz, k⟩ := h
    refine ⟨_, (pss_cons (ps_if (pt_cmpR op_isN (pv 2) pe_non (nomark _)) (pss_one (ps_ret pe_non))
           pss_nil)
        (pss_cons (ps_asg (pv 2) (pg_tup rfl (pgs_cons (pg_name (i := 5) sc__law_first.nd rfl (Or.inl rfl)) (pgs_cons (pg_name (i := 6) sc__law_first.nd rfl (Or.inl rfl)) (pgs_cons (pg_name (i := 7) sc__law_first.nd rfl (Or.inl rfl)) (pgs_cons (pg_name (i := 8) sc__law_first.nd rfl (Or.inl rfl)) pgs_nil))))))
        (pss_cons (ps_set (i := 9) sc__law_first.nd rfl (Or.inl rfl) (pe_op op_sub (pe_op op_sub (pe_op op_sub (pe_op op_add (pe_ix ix_tup (pv 0) pe_int (fun _ _ => rfl)) (pv 5)) (pe_ix ix_tup (pv 1) pe_int (fun _ _ => rfl))) (pv 7)) (pe_callTy call_int1 (by rfl) n_int (by decide +kernel) (pa_cons (pe_not (pv 4)) pa_nil))))
        (pss_cons (ps_set (i := 10) sc__law_first.nd rfl (Or.inl rfl) (pe_lst (pa_cons (pe_tup (pa_cons (pv 8) (pa_cons (pv 7) pa_nil))) (pa_cons (pe_tup (pa_cons (pe_op op_sub (pv 6) (pv 8)) (pa_cons (pv 9) pa_nil))) pa_nil))))
        (C8.pss_cut (ps_if (pt_cmpR op_notN (pv 3) pe_non (nomark _)) (pss_one (ps_expr (pe_bm PySem.F.plainAttrs_list PySem.F.slot_list_append PySem.F.type_list_append mt_append (pv 10) (pa_cons (pe_tup (pa_cons (pe_op op_sub pe_int (pv 8)) (pa_cons (pe_op op_sub (pe_op op_sub (pv 3) pe_int) (pv 7)) pa_nil))) pa_nil))))
           pss_nil)
        (pss_cons (ps_asg (pe_tup (pa_cons pe_int (pa_cons pe_non pa_nil))) (pg_tup rfl (pgs_cons (pg_name (i := 11) sc__law_first.nd rfl (Or.inl rfl)) (pgs_cons (pg_name (i := 12) sc__law_first.nd rfl (Or.inl rfl)) pgs_nil))))
        (pss_cons (ps_for PassesOwn.never rfl (pi_list (pv 10)) (pg_tup rfl (pgs_cons (pg_name (i := 13) sc__law_first.nd rfl (Or.inl rfl)) (pgs_cons (pg_name (i := 14) sc__law_first.nd rfl (Or.inl rfl)) pgs_nil)))
           (pss_cons (ps_if (PW.pt (pw_and (pt_cmpR op_eq (pv 13) pe_int (nomark _)) (pw_and1 (pt_cmpR op_lt (pv 14) pe_int (nomark _))))) (pss_one (ps_ret pe_non))
              pss_nil)
           (pss_cons (ps_if (pt_cmpR op_gt (pv 13) pe_int (nomark _)) (pss_one (ps_set (i := 11) sc__law_first.nd rfl (Or.inl rfl) (pe_callB (call_max2 rfl) (by rfl) n_max (by decide +kernel) (pa_cons (pv 11) (pa_cons (pe_op op_sub pe_int (pe_op op_fdivP (pv 14) (pv 13))) pa_nil)))))
              pss_nil)
           (pss_one (ps_if (PW.pt (pw_and (pt_cmpR op_lt (pv 13) pe_int (nomark _)) (pw_and1 (PW.pt (pw_or (pt_cmpR op_isN (pv 12) pe_non (nomark _)) (pw_or1 (pt_cmpR op_lt (pe_op op_fdivP (pv 14) (pe_op op_sub pe_int (pv 13))) (pv 12) (nomark _)))))))) (pss_one (ps_set (i := 12) sc__law_first.nd rfl (Or.inl rfl) (pe_op op_fdivP (pv 14) (pe_op op_sub pe_int (pv 13)))))
             pss_nil)))))
        (pss_one (ps_ret (pe_ifExp (PW.pt (pw_or (pt_cmpR op_isN (pv 12) pe_non (nomark _)) (pw_or1 (pt_cmpR op_le (pv 11) (pv 12) (nomark _))))) (pe_op op_add (pv 5) (pe_op op_mulB (pv 11) (pv 6))) pe_non)))))))))), ?_⟩
    show (_ : TS) _ [some _, some _, some _, some _, some _, none, none, none, none, none, none, none, none, none, none] _
    have kk : ∀ H', Same H H' → Q (optV (fbVal a.day b.day emp step ostep start ostart early cnt)) H' := fun H' hS => k _ _ hS (fb_ok hC) (fun z e => fb_le e ⟨ha.d0, by have := ha.d1; omega⟩ ⟨hb.d0, by have := hb.d1; omega⟩ ⟨hC.pos, hB.a⟩ ⟨hC.lo, hC.hi⟩ hB.c hz)
    have low : ∀ z, fbVal a.day b.day emp step ostep start ostart early cnt = some z → 0 ≤ z ∧ z ≤ 10 ^ 60 := fun z e => fb_le e ⟨ha.d0, by have := ha.d1; omega⟩ ⟨hb.d0, by have := hb.d1; omega⟩ ⟨hC.pos, hB.a⟩ ⟨hC.lo, hC.hi⟩ hB.c hz
    rcases hv with ⟨rfl, rfl⟩ | ⟨rfl, c, rfl, hc⟩
    · walk_at "w"
      exact kk _ (Same.refl _)
    · walk_at "w"
      refine .inr ⟨_, rfl, ?_⟩
      rw [not_early]
      walk_at "w"
      intro p1 hp1
      have S1 := Same.new (o := .tup [.int ostep, .int ostart]) hp1
      have k1 : (upd H p1 (.tup [.int ostep, .int ostart])) p1 = some (.tup [.int ostep, .int ostart]) := upd_same
      generalize upd H p1 (.tup [.int ostep, .int ostart]) = H1 at S1 k1 ⊢
      walk_at "w"
      intro p2 hp2
      have S2' := Same.new (o := .tup [.int (step - ostep), .int (a.day + start - b.day - ostart - (if early = true then 0 else 1))]) hp2
      have S2 := S1.trans S2'
      replace k1 := S2' _ _ k1
      have k2 : (upd H1 p2 (.tup [.int (step - ostep), .int (a.day + start - b.day - ostart - (if early = true then 0 else 1))])) p2 = some (.tup [.int (step - ostep), .int (a.day + start - b.day - ostart - (if early = true then 0 else 1))]) := upd_same
      generalize upd H1 p2 (.tup [.int (step - ostep), .int (a.day + start - b.day - ostart - (if early = true then 0 else 1))]) = H2 at S2 S2' k1 k2 ⊢
      walk_at "w"
      intro l hl
      have hlH : H l = none := by
        cases e : H l with
        | none => rfl
        | some u => rw [S2 _ _ e] at hl; cases hl
      have S3' := Same.new (o := .lst [.ref p1, .ref p2]) hl
      have S3 := S2.trans S3'
      replace k1 := S3' _ _ k1
      replace k2 := S3' _ _ k2
      have k3 : (upd H2 l (.lst [.ref p1, .ref p2])) l = some (.lst [.ref p1, .ref p2]) := upd_same
      generalize upd H2 l (.lst [.ref p1, .ref p2]) = H3 at S3 S3' k1 k2 k3 ⊢
      walk_at "w"
      refine ⟨fun σ H' => Tk (Same H H' ∧ LT K H' l ((fbConds a.day b.day step ostep start ostart early cnt).map pairR) ∧ σ = [some (.ref t), some (.ref u), some (.ref c), some (optV cnt), some (.bl early), some (.int start), some (.int step), some (.int ostart), some (.int ostep), some (.int (a.day + start - b.day - ostart - (if early = true then 0 else 1))), some (.ref l), none, none, none, none]), ?_, ?_⟩
      · cases cnt with
        | none =>
          walk_at "w"
          exact tk ⟨S3, ⟨[p1, p2], SqL.of k3, .cons (SqT.of k1) (.cons (SqT.of k2) .nil)⟩, rfl⟩
        | some cc =>
          walk_at "w"
          refine ⟨tyL k3, ?_⟩
          walk_at "w"
          intro p3 hp3
          have S4' := Same.new (o := .tup [.int (0 - ostep), .int (cc - 1 - ostart)]) hp3
          have S4 := S3.trans S4'
          replace k1 := S4' _ _ k1
          replace k2 := S4' _ _ k2
          replace k3 := S4' _ _ k3
          have k4 : (upd H3 p3 (.tup [.int (0 - ostep), .int (cc - 1 - ostart)])) p3 = some (.tup [.int (0 - ostep), .int (cc - 1 - ostart)]) := upd_same
          generalize upd H3 p3 (.tup [.int (0 - ostep), .int (cc - 1 - ostart)]) = H4 at S4 S4' k1 k2 k3 k4 ⊢
          refine ⟨l, [.ref p1, .ref p2], .ref p3, rfl, rfl, k3, lt_line (m := 2) (Nat.le_refl _), ?_⟩
          have n1 : p1 ≠ l := ne_of k1 k3 (by intro z; cases z)
          have n2 : p2 ≠ l := ne_of k2 k3 (by intro z; cases z)
          have n3 : p3 ≠ l := ne_of k4 k3 (by intro z; cases z)
          have S5 := Same.put (o := .lst ([.ref p1, .ref p2] ++ [.ref p3])) hlH S4
          have e1 : SqT K (upd H4 l (.lst ([.ref p1, .ref p2] ++ [.ref p3]))) p1 [.int ostep, .int ostart] := SqT.of (by rw [upd_ne n1]; exact k1)
          have e2 : SqT K (upd H4 l (.lst ([.ref p1, .ref p2] ++ [.ref p3]))) p2 [.int (step - ostep), .int (a.day + start - b.day - ostart - (if early = true then 0 else 1))] := SqT.of (by rw [upd_ne n2]; exact k2)
          have e3 : SqT K (upd H4 l (.lst ([.ref p1, .ref p2] ++ [.ref p3]))) p3 [.int (-ostep), .int (cc - 1 - ostart)] := by
            rw [← Int.zero_sub]
            exact SqT.of (by rw [upd_ne n3]; exact k4)
          walk_at "w"
          exact tk ⟨S5, ⟨[p1, p2, p3], SqL.of upd_same, .cons e1 (.cons e2 (.cons e3 .nil))⟩, rfl⟩
      · rintro σ H4 ⟨hS4, ⟨rs, hL, hP⟩, rfl⟩
        have hBd : ∀ q, q ∈ fbConds a.day b.day step ostep start ostart early cnt → -(10 ^ 20) ≤ q.2 ∧ q.2 ≤ 10 ^ 20 := by
          intro q hq
          have := hB.a
          have := hB.b
          have := hC.pos
          unfold fbConds at hq
          have hq2 : q.2 = ostep ∨ q.2 = step - ostep ∨ q.2 = -ostep := by
            rcases List.mem_append.mp hq with hq | hq
            · simp only [List.mem_cons, List.not_mem_nil, or_false] at hq
              rcases hq with rfl | rfl
              · exact .inl rfl
              · exact .inr (.inl rfl)
            · cases cnt with
              | none => cases hq
              | some c => rw [List.mem_singleton.mp hq]; exact .inr (.inr rfl)
          omega
        have hfv : fbVal a.day b.day false step ostep start ostart early cnt = (lowOf (fbConds a.day b.day step ostep start ostart early cnt)).map fun l => start + l * step := rfl
        rw [hfv] at kk low
        have hln : (fbConds a.day b.day step ostep start ostart early cnt).length ≤ 3 := by
          unfold fbConds
          cases cnt <;> simp
        generalize fbConds a.day b.day step ostep start ostart early cnt = cs at *
        walk_at "w"
        intro t0 ht0
        walk_at "w"
        refine ⟨_, _, rfl, SqT.of upd_same, rfl, ?_⟩
        have S6 := hS4.trans (Same.new (o := .tup [.int 0, .non]) ht0)
        have hL6 := (Same.new (o := .tup [.int 0, .non]) ht0).seq hL
        have hP6 := (Same.new (o := .tup [.int 0, .non]) ht0).paired hP
        generalize upd H4 t0 (.tup [.int 0, .non]) = H6 at S6 hL6 hP6 ⊢
        walk_at "w"
        refine ⟨⟨_, hL6⟩, for_list (K := K) (a := l) (xs := rs.map V.ref) (fun i σ H' => Tk (Same H H' ∧ Same H6 H' ∧ ∃ (low : Int) (high : Option Int) (o1 o2 : Option V), σ = [some (.ref t), some (.ref u), some (.ref c), some (optV cnt), some (.bl early), some (.int start), some (.int step), some (.int ostart), some (.int ostep), some (.int (a.day + start - b.day - ostart - (if early = true then 0 else 1))), some (.ref l), some (.int low), some (optV high), o1, o2] ∧ lfGo cs 0 none = lfGo (cs.drop i) low high))
          (tk ⟨S6, Same.refl _, 0, none, none, none, rfl, rfl⟩) (fun i σ H' _ p => p.h.2.1.seq hL6) ?_ ?_⟩
        · rintro i x σ H' hx ⟨hS', hS6, lo, high, o1, o2, rfl, hgo⟩
          obtain ⟨r, xs, rfl, h1, h2, h3⟩ := pair_at hP6 hx
          obtain ⟨⟨fr, g⟩, hq, rfl⟩ := map_at h2
          have h3' : SqT K H' r [.int g, .int fr] := hS6.sqt h3
          obtain ⟨hg1, hg2⟩ := hBd _ (List.mem_iff_getElem?.mpr ⟨i, hq⟩)
          rw [drop_at hq, lfGo_cons] at hgo
          have gB : Bd g := ⟨by omega, by omega⟩
          walk_at "w"
          refine iteD (fun hc => ?_) (fun hc => ?_)
          · have hg0 : g = 0 := by injection hc
            rw [if_neg (by omega), if_neg (by omega)] at hgo
            walk_at "w"
            refine iteD (fun hd => ?_) (fun hd => ?_)
            · rw [if_pos hd] at hgo
              walk_at "w"
              have e : lowOf cs = none := by unfold lowOf; rw [hgo]
              rw [e] at kk
              exact kk _ hS'
            · rw [if_neg hd] at hgo
              walk_at "w"
              refine iteD (fun he => absurd (show (0 : Int) < g from he) (by omega)) (fun _ => ?_)
              walk_at "w"
              refine iteD (fun he => absurd (show g < (0 : Int) from he) (by omega)) (fun _ => ?_)
              walk_at "w"
              exact tk ⟨hS', hS6, lo, high, _, _, rfl, hgo⟩
          · have hg0 : g ≠ 0 := fun z => hc (congrArg V.int z)
            walk_at "w"
            refine iteD (fun hd => ?_) (fun hd => ?_)
            · rw [if_pos hd] at hgo
              have hd : 0 < g := hd
              walk_at "w"
              refine iteD (fun he => absurd (show g < (0 : Int) from he) (by omega)) (fun _ => ?_)
              walk_at "w"
              refine tk ⟨hS', hS6, _, high, _, _, rfl, ?_⟩
              rw [hgo]
              congr 1
              show max lo (-(fr / g)) = if 0 - fr / g > lo then 0 - fr / g else lo
              split <;> omega
            · rw [if_neg hd] at hgo
              have hd : ¬ 0 < g := hd
              rw [if_pos (by omega)] at hgo
              have hgn : g < 0 := by omega
              have ngB : Bd (0 - g) := ⟨by omega, by omega⟩
              have ngp : 0 < 0 - g := by omega
              rw [show -g = 0 - g by omega] at hgo
              walk_at "w"
              refine iteD (fun _ => ?_) (fun he => absurd hgn he)
              cases high with
              | none =>
                walk_at "w"
                exact tk ⟨hS', hS6, lo, some _, _, _, rfl, hgo⟩
              | some hh =>
                walk_at "w"
                refine iteD (fun he => ?_) (fun he => ?_)
                · walk_at "w"
                  refine tk ⟨hS', hS6, lo, some (fr / (0 - g)), _, _, rfl, ?_⟩
                  rw [hgo]
                  congr 2
                  have he : fr / (0 - g) < hh := he
                  show min hh (fr / (0 - g)) = fr / (0 - g)
                  omega
                · walk_at "w"
                  refine tk ⟨hS', hS6, lo, some hh, _, _, rfl, ?_⟩
                  rw [hgo]
                  congr 2
                  have he : ¬ fr / (0 - g) < hh := he
                  show min hh (fr / (0 - g)) = hh
                  omega
        · rintro σ H' ⟨hS', hS6, lo, high, o1, o2, rfl, hgo⟩
          have hlen : (rs.map V.ref).length = cs.length := by
            rw [List.length_map, paired_len hP6, List.length_map]
          rw [hlen, List.drop_length, lfGo_nil] at hgo
          cases high with
          | none =>
            have e : lowOf cs = some lo := by unfold lowOf; rw [hgo]
            rw [e] at kk low
            obtain ⟨w0, w1⟩ := low _ rfl
            have lB : Bd lo := fb_low rfl w0 w1 hC.lo hC.hi
            have sB : Bd step := ⟨by have := hC.pos; omega, by have := hB.a; omega⟩
            walk_at "w"
            exact kk _ hS'
          | some hh =>
            have e : lowOf cs = if lo ≤ hh then some lo else none := by unfold lowOf; rw [hgo]
            rw [e] at kk low
            walk_at "w"
            refine iteD (fun hd => ?_) (fun hd => ?_)
            · rw [if_pos hd] at kk low
              obtain ⟨w0, w1⟩ := low _ rfl
              have lB : Bd lo := fb_low rfl w0 w1 hC.lo hC.hi
              have sB : Bd step := ⟨by have := hC.pos; omega, by have := hB.a; omega⟩
              walk_at "w"
              exact kk _ hS'
            · rw [if_neg hd] at kk
              walk_at "w"
              exact kk _ hS'
end
end PK
end
section
set_option Elab.async false
set_option linter.all false
set_option maxRecDepth 100000
set_option maxHeartbeats 4000000
namespace PK
open PySem PySem.Spec PyProof.Rows L2 PM
local macro_rules | `(tactic| walk_at "sd") => `(tactic| (first
  | assumption
  | omega
  | (constructor <;> omega)
  | (refine ⟨by omega, ?_⟩; constructor <;> omega)
  | (constructor <;> (first | assumption | omega | (constructor <;> omega)))))
local macro_rules | `(tactic| walk_at "w") => `(tactic| (repeat (first
  | with_reducible refine ifTT ?_
  | with_reducible refine ifFT ?_
  | with_reducible refine ifnT ?_
  | with_reducible refine ifnF ?_
  | with_reducible refine ifIN ?_
  | with_reducible refine ifNN ?_
  | with_reducible refine ifnIN ?_
  | with_reducible refine ifnNN ?_
  | with_reducible refine ifRN ?_
  | with_reducible refine ifnRN ?_
  | ((fail_if_success with_reducible refine iteB ?_ ?_); first
    | refine ⟨_, rfl, ?_⟩
    | refine ⟨_, _, rfl, rfl, ?_⟩
    | refine ⟨_, _, rfl, ?_⟩
    | refine And.intro (a := (_ : Nat) ≤ sizeLine) (by first | exact len_small (m := 2) rfl | exact len_small (m := 1) rfl | exact len_small (m := 4) rfl | exact len_small (m := 3) rfl | exact len_small (m := 0) rfl) ?_
    | refine Or.inl ⟨_, rfl, ?_⟩
    | refine ⟨rfl, ?_⟩
    | refine And.intro (a := (_ : Int) ≤ _) (by omega) ?_
    | refine And.intro (a := (_ : Int) < _) (by omega) ?_
    | refine And.intro (a := (_ : Nat) ≤ _) (by omega) ?_
    | refine And.intro (a := (_ : Nat) < _) (by omega) ?_
    | refine And.intro (a := CDivP _ _) (by walk_at "sd") ?_
    | refine And.intro (a := CDivB _ _) (by walk_at "sd") ?_
    | refine And.intro (a := CMulB _ _) (by walk_at "sd") ?_
    | refine And.intro (a := _ ≠ (0 : Int)) (by walk_at "sd") ?_
    | refine And.intro (a := (0 : Int) < _) (by walk_at "sd") ?_
    | refine ⟨_, _, rfl, ‹_›, rfl, ?_⟩
    | refine ⟨_, _, _, _, rfl, rfl, ‹_›, rfl, ?_⟩
    | refine ⟨_, _, _, _, rfl, rfl, by assumption, by assumption, ?_⟩
    | refine ⟨_, _, _, _, _, _, rfl, ‹_›, ‹_›, rfl, ?_⟩
    | refine ⟨_, _, _, _, _, _, rfl, ‹_›, (by exact KCls.f ‹_› rfl), (by rfl), ?_⟩
    | refine ⟨_, _, _, _, _, _, rfl, upd_same, ‹_›, (by rfl), ?_⟩
    | refine ⟨_, _, _, _, _, _, rfl, ‹_›, ‹Cls _ _›, ‹_›, rfl, ?_⟩
    | refine ⟨_, _, _, _, rfl, ‹_›, by decide +kernel, ?_⟩
    | refine ⟨_, _, _, rfl, ‹_›, ?_⟩
    | refine ⟨_, _, _, _, rfl, by assumption, ?_⟩
    | refine And.intro (by assumption) ?_))))
section
variable {P : Program} {w : World} {K : PySem.W.Frag} {mg : Str → Option Value} {base : Heap}
/-! ### the law's painters, all pairs of them -/
def LpAt (K : PySem.W.Frag) (H : Hp) (l : Addr) (c : Crew) (ad : Nat → Addr) : Prop := SqL K H l (refsV ad c.n) ∧ ∀ i, i < c.n → SqT K H (ad i) (lpV (c.nm i) (c.p i))
theorem LpAt.same {H H' : Hp} {l : Addr} {c : Crew} {ad : Nat → Addr} (e : Same H H') (h : LpAt K H l c ad) : LpAt K H' l c ad := ⟨e.seq h.1, fun i hi => e.sqt (h.2 i hi)⟩
theorem ComV.put {H : Hp} {d : Addr} {T : List (List Key × V)} {o : HO} {a b : Pt} {v : V} (hd : H d = some (.dT T)) (h : ComV K H a b v) : ComV K (upd H d o) a b v := by
  obtain ⟨emp, step, ostep, start, ostart, h1, h2, h3⟩ := h
  refine ⟨emp, step, ostep, start, ostart, h1, h2, h3.imp id fun ⟨h4, c, h5, h6⟩ => ⟨h4, c, h5, (SB.refl _ _).set.sqtO hd (fun _ z => by cases z) (fun _ _ z => by cases z) h6⟩⟩
def PairsAt (K : PySem.W.Frag) (H : Hp) (d : Addr) (c : Crew) : Prop := ∃ T : List (List Key × V), H d = some (.dT T) ∧ ∀ a b, a < c.n → b < c.n → b ≠ a → ∃ v, valV T [jK a, jK b] = some v ∧ ComV K H (c.p a) (c.p b) v
def spPairs (K : PySem.W.Frag) : Sp := fun vs H Q _ => ∃ (l : Addr) (c : Crew) (ad : Nat → Addr), vs = [.ref l] ∧ LpAt K H l c ad ∧ c.Ok ∧ ∀ d H', Same H H' → H d = none → PairsAt K H' d c → Q (.ref d) H'
theorem sc__law_pairs : FnScope ["_law_painters", "_law_found", "_law_a", "_law_b"] ["_law_painters"] (defScope s__law_pairs) := C8.fnScope_by (by decide +kernel)
theorem ok_law_pairs {f : Addr}  (F : DF K "_law_pairs" "_law_pairs" s__law_pairs f) (hm : mg "_law_pairs" = some (.ref f)) (c__law_common : C8.Cal P w K mg base 2 "_law_common" (spCommon K) []) (n_range : mg "range" = none) (n_len : mg "len" = none) :
    C8.Cal P w K mg base 3 "_law_pairs" (spPairs K) [] := by
  refine cal_of F hm sc__law_pairs (fun _ _ _ _ _ _ us hl => match us, hl with | [_], _ => rfl) (fun vs H Q E h => ?_) (fun cdv A outer s H vs Q E hr h => ?_)
  · obtain ⟨l, c, ad, rfl, _⟩ := h
    rfl
  · obtain ⟨l, c, ad, rfl, hl, ok, k⟩ := h
    have hu := units1 hr
    refine ⟨_, (pss_cons (ps_set (i := 1) sc__law_pairs.nd rfl (Or.inl rfl) pe_dnewT)
        (pss_cons (ps_for PassesOwn.never rfl (pi_range1 (by rfl) n_range (pa_cons (pe_callB call_len (by rfl) n_len (by decide +kernel) (pa_cons (pv 0) pa_nil)) pa_nil)) (pg_name (i := 2) sc__law_pairs.nd rfl (Or.inl rfl))
           (pss_one (ps_for PassesOwn.never rfl (pi_range1 (by rfl) n_range (pa_cons (pe_callB call_len (by rfl) n_len (by decide +kernel) (pa_cons (pv 0) pa_nil)) pa_nil)) (pg_name (i := 3) sc__law_pairs.nd rfl (Or.inl rfl))
             (pss_one (ps_if (pt_cmpR op_ne (pv 2) (pv 3) (nomark _)) (pss_one (ps_dput hu (pv 1) (pe_tup (pa_cons (pv 2) (pa_cons (pv 3) pa_nil))) (C8.pe_c c__law_common hr (by decide) rfl (pa_cons (pe_ix ix_list (pv 0) (pv 2) (fun _ _ => rfl)) (pa_cons (pe_ix ix_list (pv 0) (pv 3) (fun _ _ => rfl)) pa_nil))) rfl))
               pss_nil)))))
        (pss_one (ps_ret (pv 1))))), ?_⟩
    show (_ : TS) _ [some _, none, none, none] _
    have few := ok.few
    have hlen : (refsV ad c.n).length = c.n := firsts_len _ _
    walk_at "w"
    intro d hd
    have S1 := Same.new (o := .dT []) hd
    have hd1 : (upd H d (.dT [])) d = some (.dT []) := upd_same
    generalize upd H d (.dT []) = H1 at S1 hd1 ⊢
    have hl1 := hl.same S1
    walk_at "w"
    refine ⟨_, _, rfl, .inl ⟨_, hl1.1, rfl⟩, ?_⟩
    rw [hlen]
    walk_at "w"
    refine for_it walk_range (fun i σ H' => Tk (Same H H' ∧ ∃ (T : List (List Key × V)) (o1 o2 : Option V), σ = [some (.ref l), some (.ref d), o1, o2] ∧ H' d = some (.dT T) ∧ T.length ≤ i * 40 ∧ ∀ a b, a < c.n → b < c.n → b ≠ a → a < i → ∃ v, valV T [jK a, jK b] = some v ∧ ComV K H' (c.p a) (c.p b) v)) (tk ⟨S1, [], none, none, rfl, hd1, Nat.zero_le _, fun a b _ _ _ h => absurd h (Nat.not_lt_zero _)⟩) (fun _ _ _ _ _ => trivial) ?_ ?_
    · rintro i v σ H2 H3 hi ⟨hS, T1, o1, o2, rfl, hd2, hT1, P1⟩ ⟨rfl, rfl⟩
      have hi : i < c.n := by omega
      have hl3 := hl.same hS
      walk_at "w"
      refine ⟨_, _, rfl, .inl ⟨_, hl3.1, rfl⟩, ?_⟩
      rw [hlen]
      walk_at "w"
      refine for_it walk_range (fun j σ H' => Tk (Same H H' ∧ ∃ (T : List (List Key × V)) (o2 : Option V), σ = [some (.ref l), some (.ref d), some (.int (0 + (i : Nat))), o2] ∧ H' d = some (.dT T) ∧ T.length ≤ i * 40 + j ∧ ∀ a b, a < c.n → b < c.n → b ≠ a → (a < i ∨ (a = i ∧ b < j)) → ∃ v, valV T [jK a, jK b] = some v ∧ ComV K H' (c.p a) (c.p b) v)) (tk ⟨hS, T1, o2, rfl, hd2, by omega, fun a b h1 h2 h3 h4 => P1 a b h1 h2 h3 (by omega)⟩) (fun _ _ _ _ _ => trivial) ?_ ?_
      · rintro j v σ H4 H5 hj ⟨hS5, T2, o3, rfl, hd5, hT2, P2⟩ ⟨rfl, rfl⟩
        have hj : j < c.n := by omega
        walk_at "w"
        refine iteND (fun hc => ?_) (fun hc => ?_)
        · have ne : j ≠ i := fun z => hc (by rw [z])
          walk_at "w"
          have hl5 := hl.same hS5
          have at_ : ∀ q : Nat, q < c.n → atI (refsV ad c.n) (0 + (q : Nat)) = some (.ref (ad q)) := fun q hq => by
            rw [Int.zero_add, atI_nat]
            exact firsts_get hq
          refine ⟨l, _, _, _, rfl, rfl, hl5.1, at_ i hi, ?_⟩
          walk_at "w"
          refine ⟨l, _, _, _, rfl, rfl, hl5.1, at_ j hj, ?_⟩
          walk_at "w"
          refine ⟨_, _, c.nm i, c.nm j, c.p i, c.p j, rfl, hl5.2 i hi, hl5.2 j hj, ok.pts i hi, ok.pts j hj, fun v H6 hS6 hC => ?_⟩
          walk_at "w"
          intro q3 hq3
          have ek : [V.int (0 + (i : Nat)), .int (0 + (j : Nat))] = [jK i, jK j].map kV := by
            rw [Int.zero_add, Int.zero_add]
            rfl
          have S7' := Same.new (o := .tup [.int (0 + (i : Nat)), .int (0 + (j : Nat))]) hq3
          have S7 := hS5.trans (hS6.trans S7')
          have hk7 : (upd H6 q3 (.tup [.int (0 + (i : Nat)), .int (0 + (j : Nat))])) q3 = some (.tup ([jK i, jK j].map kV)) := by rw [upd_same, ek]
          have hd7 := S7' _ _ (hS6 _ _ hd5)
          have C7 := hC.same S7'
          have P7 := fun a b h1 h2 h3 h4 => let ⟨v, g1, g2⟩ := P2 a b h1 h2 h3 h4; (⟨v, g1, (g2.same hS6).same S7'⟩ : ∃ v, valV T2 [jK a, jK b] = some v ∧ ComV K (upd H6 q3 (.tup [.int (0 + (i : Nat)), .int (0 + (j : Nat))])) (c.p a) (c.p b) v)
          generalize upd H6 q3 (.tup [.int (0 + (i : Nat)), .int (0 + (j : Nat))]) = H7 at S7 hk7 hd7 C7 P7 ⊢
          have hlen : T2.length < sizeLine := lt_line' (m := 1700) (by
            have : i * 40 ≤ 39 * 40 := Nat.mul_le_mul_right 40 (by omega)
            omega)
          refine ⟨d, _, rfl, DPut.t (k := [jK i, jK j]) hd7 hk7 hlen, ?_⟩
          have key : ∀ {a b : Nat}, [jK a, jK b] = [jK i, jK j] → a = i ∧ b = j := fun {a b} z => by
            injection z with z1 z2
            injection z2 with z2 z3
            exact ⟨jK_inj z1, jK_inj z2⟩
          refine tk ⟨Same.put hd S7, _, _, rfl, upd_same, ?_, fun a b h1 h2 h3 h4 => ?_⟩
          · have := length_putK T2 [jK i, jK j] v
            omega
          · by_cases e2 : a = i ∧ b = j
            · obtain ⟨rfl, rfl⟩ := e2
              exact ⟨v, by rw [valV_put, if_pos rfl], C7.put hd7⟩
            · obtain ⟨v', g1, g2⟩ := P7 a b h1 h2 h3 (by omega)
              exact ⟨v', by rw [valV_put, if_neg (fun z => e2 (key z))]; exact g1, g2.put hd7⟩
        · have hij : i = j := by
            have : (V.int (0 + (i : Nat))) = V.int (0 + (j : Nat)) := hc
            injection this with this
            omega
          walk_at "w"
          exact tk ⟨hS5, T2, _, rfl, hd5, by omega, fun a b h1 h2 h3 h4 => P2 a b h1 h2 h3 (by omega)⟩
      · rintro σ H4 ⟨hS5, T2, o3, rfl, hd5, hT2, P2⟩
        exact tk ⟨hS5, T2, _, _, rfl, hd5, by omega, fun a b h1 h2 h3 h4 => P2 a b h1 h2 h3 (by omega)⟩
    · rintro σ H2 ⟨hS, T1, o1, o2, rfl, hd2, hT1, P1⟩
      walk_at "w"
      exact k _ _ hS hd ⟨T1, hd2, fun a b h1 h2 h3 => P1 a b h1 h2 h3 (by omega)⟩
end
end PK
end
section
set_option Elab.async false
set_option linter.all false
set_option maxRecDepth 100000
set_option maxHeartbeats 4000000
namespace PK
open PySem PySem.Spec PyProof.Rows L2 PM
local macro_rules | `(tactic| walk_at "sd") => `(tactic| (first
  | assumption
  | omega
  | (constructor <;> omega)
  | (refine ⟨by omega, ?_⟩; constructor <;> omega)
  | (constructor <;> (first | assumption | omega | (constructor <;> omega)))))
local macro_rules | `(tactic| walk_at "w") => `(tactic| (repeat (first
  | with_reducible refine ifTT ?_
  | with_reducible refine ifFT ?_
  | with_reducible refine ifnT ?_
  | with_reducible refine ifnF ?_
  | with_reducible refine ifIN ?_
  | with_reducible refine ifNN ?_
  | with_reducible refine ifnIN ?_
  | with_reducible refine ifnNN ?_
  | with_reducible refine ifRN ?_
  | with_reducible refine ifnRN ?_
  | ((fail_if_success with_reducible refine iteB ?_ ?_); first
    | refine ⟨_, rfl, ?_⟩
    | refine ⟨_, _, rfl, rfl, ?_⟩
    | refine ⟨_, _, rfl, ?_⟩
    | refine And.intro (a := (_ : Nat) ≤ sizeLine) (by first | exact len_small (m := 2) rfl | exact len_small (m := 1) rfl | exact len_small (m := 4) rfl | exact len_small (m := 3) rfl | exact len_small (m := 0) rfl) ?_
    | refine Or.inl ⟨_, rfl, ?_⟩
    | refine ⟨rfl, ?_⟩
    | refine And.intro (a := (_ : Int) ≤ _) (by omega) ?_
    | refine And.intro (a := (_ : Int) < _) (by omega) ?_
    | refine And.intro (a := (_ : Nat) ≤ _) (by omega) ?_
    | refine And.intro (a := (_ : Nat) < _) (by omega) ?_
    | refine And.intro (a := CDivP _ _) (by walk_at "sd") ?_
    | refine And.intro (a := CDivB _ _) (by walk_at "sd") ?_
    | refine And.intro (a := CMulB _ _) (by walk_at "sd") ?_
    | refine And.intro (a := _ ≠ (0 : Int)) (by walk_at "sd") ?_
    | refine And.intro (a := (0 : Int) < _) (by walk_at "sd") ?_
    | refine ⟨_, _, rfl, ‹_›, rfl, ?_⟩
    | refine ⟨_, _, _, _, rfl, rfl, ‹_›, rfl, ?_⟩
    | refine ⟨_, _, _, _, rfl, rfl, by assumption, by assumption, ?_⟩
    | refine ⟨_, _, _, _, _, _, rfl, ‹_›, ‹_›, rfl, ?_⟩
    | refine ⟨_, _, _, _, _, _, rfl, ‹_›, (by exact KCls.f ‹_› rfl), (by rfl), ?_⟩
    | refine ⟨_, _, _, _, _, _, rfl, upd_same, ‹_›, (by rfl), ?_⟩
    | refine ⟨_, _, _, _, _, _, rfl, ‹_›, ‹Cls _ _›, ‹_›, rfl, ?_⟩
    | refine ⟨_, _, _, _, rfl, ‹_›, by decide +kernel, ?_⟩
    | refine ⟨_, _, _, rfl, ‹_›, ?_⟩
    | refine ⟨_, _, _, _, rfl, by assumption, ?_⟩
    | refine And.intro (by assumption) ?_))))
section
variable {P : Program} {w : World} {K : PySem.W.Frag} {mg : Str → Option Value} {base : Heap}
/-! ### the next stop of one painter -/
/-- the law's next stop: none, or (day, a, k, b) -/
def BestV (K : PySem.W.Frag) (H : Hp) (c : Crew) (L : Nat → Option Int) (a i : Nat) (v : V) : Prop := (v = .non ∧ ∀ b, b < i → b ≠ a → ∀ k, ¬ HitB (c.p a) (c.p b) (decide (b < a)) (L b) k) ∨ ∃ t k b, v = .ref t ∧ b < i ∧ b ≠ a ∧ (∀ b', b' < i → b' ≠ a → ∀ k', HitB (c.p a) (c.p b') (decide (b' < a)) (L b') k' → k ≤ k') ∧ 0 ≤ k ∧ k ≤ 10 ^ 60 ∧ HitB (c.p a) (c.p b) (decide (b < a)) (L b) k ∧ SqT K H t [.int ((c.p a).day + k), .int (a : Nat), .int k, .int (b : Nat)]
theorem BestV.same {H H' : Hp} {c : Crew} {L : Nat → Option Int} {a i : Nat} {v : V} (e : Same H H') (h : BestV K H c L a i v) : BestV K H' c L a i v := by
  rcases h with h | ⟨t, k, b, h1, h2, h3, h4, h5, h6, h7, h8⟩
  · exact .inl h
  · exact .inr ⟨t, k, b, h1, h2, h3, h4, h5, h6, h7, e.sqt h8⟩
def spNext (K : PySem.W.Frag) : Sp := fun vs H Q _ => ∃ (l d m : Addr) (c : Crew) (ad : Nat → Addr) (L : Nat → Option Int) (a : Nat), vs = [.ref l, .ref d, .ref m, .int (a : Nat)] ∧ LpAt K H l c ad ∧ PairsAt K H d c ∧ SqL K H m (firsts (fun i => optV (L i)) c.n) ∧ c.Ok ∧ a < c.n ∧ (∀ b z, L b = some z → 0 ≤ z) ∧ ∀ v H', Same H H' → BestV K H' c L a c.n v → Q v H'
theorem sc__law_next : FnScope ["_law_painters", "_law_pairs_here", "_law_counts", "_law_a", "_law_best", "_law_b", "_law_k"] ["_law_painters", "_law_pairs_here", "_law_counts", "_law_a"] (defScope s__law_next) := C8.fnScope_by (by decide +kernel)
theorem ok_law_next {f : Addr} (F : DF K "_law_next" "_law_next" s__law_next f) (hm : mg "_law_next" = some (.ref f)) (c__law_first : C8.Cal P w K mg base 1 "_law_first" (spFirstL K) []) (n_range : mg "range" = none) (n_len : mg "len" = none) :
    C8.Cal P w K mg base 2 "_law_next" (spNext K) [] := by
  refine cal_of F hm sc__law_next (fun _ _ _ _ _ _ us hl => match us, hl with | [_, _, _, _], _ => rfl) (fun vs H Q E h => ?_) (fun cdv A outer s H vs Q E hr h => ?_)
  · obtain ⟨l, d, m, c, ad, L, a, rfl, _⟩ := h
    rfl
  · obtain ⟨l, d, m, c, ad, L, a, rfl, hl, hd, hL, ok, ha, hz, k⟩ := h
    have hu := units1 hr
    refine ⟨_, (pss_cons (ps_set (i := 4) sc__law_next.nd rfl (Or.inl rfl) pe_non)
        (pss_cons (ps_for PassesOwn.never rfl (pi_range1 (by rfl) n_range (pa_cons (pe_callB call_len (by rfl) n_len (by decide +kernel) (pa_cons (pv 0) pa_nil)) pa_nil)) (pg_name (i := 5) sc__law_next.nd rfl (Or.inl rfl))
           (pss_one (ps_if (pt_cmpR op_ne (pv 5) (pv 3) (nomark _)) (pss_cons (ps_set (i := 6) sc__law_next.nd rfl (Or.inl rfl) (C8.pe_c c__law_first hr (by decide) rfl (pa_cons (pe_ix ix_list (pv 0) (pv 3) (fun _ _ => rfl)) (pa_cons (pe_ix ix_list (pv 0) (pv 5) (fun _ _ => rfl)) (pa_cons (pe_dget hu (pv 1) (pe_tup (pa_cons (pv 3) (pa_cons (pv 5) pa_nil))) (fun _ _ => rfl)) (pa_cons (pe_ix ix_list (pv 2) (pv 5) (fun _ _ => rfl)) (pa_cons (pe_cmpR op_lt (pv 5) (pv 3) (nomark _)) pa_nil)))))))
             (pss_one (ps_if (PW.pt (pw_and (pt_cmpR op_notN (pv 6) pe_non (nomark _)) (pw_and1 (PW.pt (pw_or (pt_cmpR op_isN (pv 4) pe_non (nomark _)) (pw_or1 (pt_cmpR op_lt (pe_op op_add (pe_ix ix_tup (pe_ix ix_list (pv 0) (pv 3) (fun _ _ => rfl)) pe_int (fun _ _ => rfl)) (pv 6)) (pe_ix ix_tup (pv 4) pe_int (fun _ _ => rfl)) (nomark _)))))))) (pss_one (ps_set (i := 4) sc__law_next.nd rfl (Or.inl rfl) (pe_tup (pa_cons (pe_op op_add (pe_ix ix_tup (pe_ix ix_list (pv 0) (pv 3) (fun _ _ => rfl)) pe_int (fun _ _ => rfl)) (pv 6)) (pa_cons (pv 3) (pa_cons (pv 6) (pa_cons (pv 5) pa_nil)))))))
               pss_nil)))
             pss_nil)))
        (pss_one (ps_ret (pv 4))))), ?_⟩
    show (_ : TS) _ [some _, some _, some _, some _, none, none, none] _
    have few := ok.few
    have hlen : (refsV ad c.n).length = c.n := firsts_len _ _
    walk_at "w"
    refine ⟨_, _, rfl, .inl ⟨_, hl.1, rfl⟩, ?_⟩
    rw [hlen]
    walk_at "w"
    refine for_it walk_range (fun i σ H' => Tk (Same H H' ∧ ∃ (v : V) (o1 o2 : Option V), σ = [some (.ref l), some (.ref d), some (.ref m), some (.int (a : Nat)), some v, o1, o2] ∧ BestV K H' c L a i v)) (tk ⟨Same.refl _, .non, none, none, rfl, .inl ⟨rfl, fun _ h => absurd h (Nat.not_lt_zero _)⟩⟩) (fun _ _ _ _ _ => trivial) ?_ ?_
    · rintro i x σ Hx H1 hi ⟨hS, v, o1, o2, rfl, hv⟩ ⟨rfl, rfl⟩
      have hi : i < c.n := by omega
      walk_at "w"
      refine iteND (fun hc => ?_) (fun hc => ?_)
      · have ne : i ≠ a := fun z => hc (congrArg V.int (show (0 : Int) + (i : Nat) = (a : Nat) by omega))
        walk_at "w"
        have hl1 := hl.same hS
        have at_ : ∀ q : Nat, q < c.n → atI (refsV ad c.n) (0 + (q : Nat)) = some (.ref (ad q)) := fun q hq => by
          rw [Int.zero_add, atI_nat]
          exact firsts_get hq
        have ata : atI (refsV ad c.n) (a : Nat) = some (.ref (ad a)) := by
          rw [atI_nat]
          exact firsts_get ha
        have atL : atI (firsts (fun i => optV (L i)) c.n) (0 + (i : Nat)) = some (optV (L i)) := by
          rw [Int.zero_add, atI_nat]
          exact firsts_get hi
        refine ⟨l, _, _, _, rfl, rfl, hl1.1, ata, ?_⟩
        walk_at "w"
        refine ⟨l, _, _, _, rfl, rfl, hl1.1, at_ i hi, ?_⟩
        walk_at "w"
        intro q3 hq3
        have S2' := Same.new (o := .tup [.int (a : Nat), .int (0 + (i : Nat))]) hq3
        have S2 := hS.trans S2'
        have hk2 : (upd H1 q3 (.tup [.int (a : Nat), .int (0 + (i : Nat))])) q3 = some (.tup ([jK a, jK i].map kV)) := by
          rw [upd_same, Int.zero_add]
          rfl
        generalize upd H1 q3 (.tup [.int (a : Nat), .int (0 + (i : Nat))]) = H2 at S2 S2' hk2 ⊢
        obtain ⟨T, hT, hPs⟩ := hd
        obtain ⟨cv, hcv, hCV⟩ := hPs a i ha hi ne
        refine ⟨d, cv, rfl, hcv ▸ DGet.t (k := [jK a, jK i]) (S2 _ _ hT) hk2, ?_⟩
        walk_at "w"
        refine ⟨m, _, _, _, rfl, rfl, S2.seq hL, atL, ?_⟩
        walk_at "w"
        have ed : decide ((0 : Int) + (i : Nat) < (a : Nat)) = decide (i < a) := by
          apply decide_eq_decide.mpr
          omega
        have hl2 := hl.same S2
        refine ⟨ad a, ad i, c.nm a, c.nm i, c.p a, c.p i, cv, L i, decide ((0 : Int) + (i : Nat) < (a : Nat)), rfl, hl2.2 a ha, hl2.2 i hi, ok.pts a ha, ok.pts i hi, hCV.same S2, hz i, fun r H3 hS3 hF hr => ?_⟩
        rw [ed] at hF
        have S3 := S2.trans hS3
        have hl3 := hl2.same hS3
        have hv3 := (hv.same S2').same hS3
        walk_at "w"
        have new : ∀ (k1 : Int) (t : Addr) (H4 : Hp), r = some k1 → Same H H4 → SqT K H4 t [.int ((c.p a).day + k1), .int (a : Nat), .int k1, .int (i : Nat)] → (∀ b', b' < i → b' ≠ a → ∀ k', HitB (c.p a) (c.p b') (decide (b' < a)) (L b') k' → k1 ≤ k') → BestV K H4 c L a (i + 1) (.ref t) := fun k1 t H4 e hS4 hq hlt => by
          rw [e] at hF
          obtain ⟨w0, w1⟩ := hr k1 e
          refine .inr ⟨t, k1, i, rfl, by omega, ne, fun b' hb' nb k' hk' => ?_, w0, w1, hF.1, hq⟩
          by_cases eb : b' = i
          · rw [eb] at hk'
            exact hF.2 k' hk'
          · exact hlt b' (by omega) nb k' hk'
        cases r with
        | none =>
          walk_at "w"
          refine tk ⟨S3, v, _, _, rfl, ?_⟩
          rcases hv3 with ⟨h1, h2⟩ | ⟨t, k0, b, h1, h2, h3, h4, h5, h6, h7, h8⟩
          · refine .inl ⟨h1, fun b hb nb => ?_⟩
            by_cases eb : b = i
            · rw [eb]
              exact hF
            · exact h2 b (by omega) nb
          · refine .inr ⟨t, k0, b, h1, by omega, h3, fun b' hb' nb k' hk' => ?_, h5, h6, h7, h8⟩
            by_cases eb : b' = i
            · rw [eb] at hk'
              exact absurd hk' (hF k')
            · exact h4 b' (by omega) nb k' hk'
        | some k1 =>
          obtain ⟨w0, w1⟩ := hr k1 rfl
          rcases hv3 with ⟨rfl, h2⟩ | ⟨t, k0, b, rfl, h2, h3, h4, h5, h6, h7, h8⟩
          · walk_at "w"
            have hta := hl3.2 a ha
            refine ⟨l, _, _, _, rfl, rfl, hl3.1, ata, ?_⟩
            walk_at "w"
            intro t ht
            walk_at "w"
            refine tk ⟨S3.trans (Same.new ht), _, _, _, rfl, new k1 t _ rfl (S3.trans (Same.new ht)) ?_ fun b' hb' nb k' hk' => absurd hk' (h2 b' hb' nb k')⟩
            rw [← Int.zero_add (i : Int)]
            exact SqT.of upd_same
          · walk_at "w"
            have hta := hl3.2 a ha
            refine ⟨l, _, _, _, rfl, rfl, hl3.1, ata, ?_⟩
            walk_at "w"
            refine iteD (fun hd => ?_) (fun hd => ?_)
            · have hd : (c.p a).day + k1 < (c.p a).day + k0 := hd
              walk_at "w"
              refine ⟨l, _, _, _, rfl, rfl, hl3.1, ata, ?_⟩
              walk_at "w"
              intro t2 ht2
              walk_at "w"
              refine tk ⟨S3.trans (Same.new ht2), _, _, _, rfl, new k1 t2 _ rfl (S3.trans (Same.new ht2)) ?_ fun b' hb' nb k' hk' => ?_⟩
              · rw [← Int.zero_add (i : Int)]
                exact SqT.of upd_same
              · have := h4 b' hb' nb k' hk'
                omega
            · have hd : ¬ (c.p a).day + k1 < (c.p a).day + k0 := hd
              walk_at "w"
              refine tk ⟨S3, _, _, _, rfl, .inr ⟨t, k0, b, rfl, by omega, h3, fun b' hb' nb k' hk' => ?_, h5, h6, h7, h8⟩⟩
              by_cases eb : b' = i
              · rw [eb] at hk'
                have := hF.2 k' hk'
                omega
              · exact h4 b' (by omega) nb k' hk'
      · have e : i = a := by
          have : (V.int (0 + (i : Nat))) = V.int (a : Nat) := hc
          injection this with this
          omega
        walk_at "w"
        refine tk ⟨hS, v, _, _, rfl, ?_⟩
        rcases hv with ⟨h1, h2⟩ | ⟨t, k0, b, h1, h2, h3, h4, h5, h6, h7, h8⟩
        · exact .inl ⟨h1, fun b hb ne => h2 b (by omega) ne⟩
        · exact .inr ⟨t, k0, b, h1, by omega, h3, fun b' hb' ne => h4 b' (by omega) ne, h5, h6, h7, h8⟩
    · rintro σ H1 ⟨hS, v, o1, o2, rfl, hv⟩
      walk_at "w"
      have e : ((c.n : Nat) : Int).toNat = c.n := Int.toNat_natCast _
      rw [e] at hv
      exact k _ _ hS hv
end
end PK
end
section
set_option Elab.async false
set_option linter.all false
set_option maxRecDepth 100000
set_option maxHeartbeats 4000000
namespace PK
open PySem PySem.Spec PyProof.Rows L2 PM
local macro_rules | `(tactic| walk_at "sd") => `(tactic| (first
  | assumption
  | omega
  | (constructor <;> omega)
  | (refine ⟨by omega, ?_⟩; constructor <;> omega)
  | (constructor <;> (first | assumption | omega | (constructor <;> omega)))))
local macro_rules | `(tactic| walk_at "w") => `(tactic| (repeat (first
  | with_reducible refine ifTT ?_
  | with_reducible refine ifFT ?_
  | with_reducible refine ifnT ?_
  | with_reducible refine ifnF ?_
  | with_reducible refine ifIN ?_
  | with_reducible refine ifNN ?_
  | with_reducible refine ifnIN ?_
  | with_reducible refine ifnNN ?_
  | with_reducible refine ifRN ?_
  | with_reducible refine ifnRN ?_
  | ((fail_if_success with_reducible refine iteB ?_ ?_); first
    | refine ⟨_, rfl, ?_⟩
    | refine ⟨_, _, rfl, rfl, ?_⟩
    | refine ⟨_, _, rfl, ?_⟩
    | refine And.intro (a := (_ : Nat) ≤ sizeLine) (by first | exact len_small (m := 2) rfl | exact len_small (m := 1) rfl | exact len_small (m := 4) rfl | exact len_small (m := 3) rfl | exact len_small (m := 0) rfl) ?_
    | refine Or.inl ⟨_, rfl, ?_⟩
    | refine ⟨rfl, ?_⟩
    | refine And.intro (a := (_ : Int) ≤ _) (by omega) ?_
    | refine And.intro (a := (_ : Int) < _) (by omega) ?_
    | refine And.intro (a := (_ : Nat) ≤ _) (by omega) ?_
    | refine And.intro (a := (_ : Nat) < _) (by omega) ?_
    | refine And.intro (a := CDivP _ _) (by walk_at "sd") ?_
    | refine And.intro (a := CDivB _ _) (by walk_at "sd") ?_
    | refine And.intro (a := CMulB _ _) (by walk_at "sd") ?_
    | refine And.intro (a := _ ≠ (0 : Int)) (by walk_at "sd") ?_
    | refine And.intro (a := (0 : Int) < _) (by walk_at "sd") ?_
    | refine ⟨_, _, rfl, ‹_›, rfl, ?_⟩
    | refine ⟨_, _, _, _, rfl, rfl, ‹_›, rfl, ?_⟩
    | refine ⟨_, _, _, _, rfl, rfl, by assumption, by assumption, ?_⟩
    | refine ⟨_, _, _, _, _, _, rfl, ‹_›, ‹_›, rfl, ?_⟩
    | refine ⟨_, _, _, _, _, _, rfl, ‹_›, (by exact KCls.f ‹_› rfl), (by rfl), ?_⟩
    | refine ⟨_, _, _, _, _, _, rfl, upd_same, ‹_›, (by rfl), ?_⟩
    | refine ⟨_, _, _, _, _, _, rfl, ‹_›, ‹Cls _ _›, ‹_›, rfl, ?_⟩
    | refine ⟨_, _, _, _, rfl, ‹_›, by decide +kernel, ?_⟩
    | refine ⟨_, _, _, rfl, ‹_›, ?_⟩
    | refine ⟨_, _, _, _, rfl, by assumption, ?_⟩
    | refine And.intro (by assumption) ?_))))
section
variable {P : Program} {w : World} {K : PySem.W.Frag} {mg : Str → Option Value} {base : Heap}
/-! ### the history, as the law finds it -/
theorem shaped_rows (xss : List (List Int)) : SeqAt.shaped (.list (xss.map rowD)) = true := by
  unfold SeqAt.shaped
  rw [Bool.and_eq_true]
  have one : ∀ ns : List Int, PyData.canLayAll0 (ns.map .int) = true := fun ns => by
    induction ns with
    | nil => rfl
    | cons n ns ih =>
      show PyData.canLayAll0 (PyData.int n :: ns.map .int) = true
      simp [PyData.canLay0, PyData.canLayAll0, ih]
  constructor
  · induction xss with
    | nil => rfl
    | cons n ns ih =>
      have ih : PyData.canLayAll0 (ns.map rowD) = true := by simpa [PyData.canLay0] using ih
      show PyData.canLay0 (.list (rowD n :: ns.map rowD)) = true
      simp [PyData.canLay0, PyData.canLayAll0, ih, rowD, one]
  · refine decide_eq_true ?_
    have h := rows_depth xss
    show PyData.depth (.list (xss.map rowD)) ≤ 64
    simp only [PyData.depth]
    omega
theorem BestV.sb {H H' : Hp} {x : Addr} {xs : List V} {c : Crew} {L : Nat → Option Int} {a i : Nat} {v : V} (e : SB x H H') (hx : H x = some (.lst xs)) (h : BestV K H c L a i v) : BestV K H' c L a i v := by
  rcases h with h | ⟨t, k, b, h1, h2, h3, h4, h5, h6, h7, h8⟩
  · exact .inl h
  · exact .inr ⟨t, k, b, h1, h2, h3, h4, h5, h6, h7, e.sqtO hx (fun _ z => by cases z) (fun _ _ z => by cases z) h8⟩
theorem hitB_set {p : Nat → Pt} {L : Nat → Option Int} {a b x : Nat} {k z : Int} {e : Bool} (hL : L a = none) (h : HitB (p x) (p b) e (setL L a z b) k) : HitB (p x) (p b) e (L b) k := by
  by_cases q : b = a
  · subst q
    rw [setL_same] at h
    rw [hL]
    exact h.less
  · rw [setL_ne q] at h
    exact h
/-- a new limit of another than the blocker -/
theorem BestV.set {H : Hp} {c : Crew} {L : Nat → Option Int} {a x n : Nat} {z : Int} {v : V} (hL : L a = none) (h : BestV K H c L x n v) (nb : ∀ t k b, v = .ref t → SqT K H t [.int ((c.p x).day + k), .int (x : Nat), .int k, .int (b : Nat)] → b ≠ a) : BestV K H c (setL L a z) x n v := by
  rcases h with ⟨h1, h2⟩ | ⟨t, k, b, h1, h2, h3, h4, h5, h6, h7, h8⟩
  · exact .inl ⟨h1, fun b hb ne k hk => h2 b hb ne k (hitB_set hL hk)⟩
  · refine .inr ⟨t, k, b, h1, h2, h3, fun b' hb' ne k' hk' => h4 b' hb' ne k' (hitB_set hL hk'), h5, h6, ?_, h8⟩
    rw [setL_ne (nb t k b h1 h8)]
    exact h7
/-- the law's list of next stops: what stands at a place -/
def NxV (K : PySem.W.Frag) (H : Hp) (c : Crew) (L : Nat → Option Int) (a : Nat) (v : V) : Prop := (L a = none → BestV K H c L a c.n v) ∧ ((L a).isSome = true → v = .non)
theorem NxV.same {H H' : Hp} {c : Crew} {L : Nat → Option Int} {a : Nat} {v : V} (e : Same H H') (h : NxV K H c L a v) : NxV K H' c L a v := ⟨fun q => (h.1 q).same e, h.2⟩
theorem NxV.sb {H H' : Hp} {x : Addr} {xs : List V} {c : Crew} {L : Nat → Option Int} {a : Nat} {v : V} (e : SB x H H') (hx : H x = some (.lst xs)) (h : NxV K H c L a v) : NxV K H' c L a v := ⟨fun q => (h.1 q).sb e hx, h.2⟩
theorem NxV.some_ {H : Hp} {c : Crew} {L : Nat → Option Int} {a : Nat} {v : V} (h : NxV K H c L a v) (hv : v ≠ .non) : ∃ t k b, v = .ref t ∧ L a = none ∧ b < c.n ∧ b ≠ a ∧ Least c.n c.p L a k ∧ 0 ≤ k ∧ k ≤ 10 ^ 60 ∧ SqT K H t [.int ((c.p a).day + k), .int (a : Nat), .int k, .int (b : Nat)] := by
  cases hL : L a with
  | some z => exact absurd (h.2 (by rw [hL]; rfl)) hv
  | none =>
    rcases h.1 hL with h | ⟨t, k, b, h1, h2, h3, h4, h5, h6, h7, h8⟩
    · exact absurd h.1 hv
    · exact ⟨t, k, b, h1, rfl, h2, h3, ⟨⟨b, h2, h3, h7⟩, fun k' ⟨b', q1, q2, q3⟩ => h4 b' q1 q2 k' q3⟩, h5, h6, h8⟩
theorem NxV.none_ {H : Hp} {c : Crew} {L : Nat → Option Int} {a : Nat} (h : NxV K H c L a .non) (hL : L a = none) (k : Int) : ¬ Hit c.n c.p L a k := by
  rintro ⟨b, q1, q2, q3⟩
  rcases h.1 hL with h | ⟨t, k, b, h1, _⟩
  · exact h.2 b q1 q2 k q3
  · cases h1
theorem PairsAt.same {H H' : Hp} {d : Addr} {c : Crew} (e : Same H H') (h : PairsAt K H d c) : PairsAt K H' d c := by
  obtain ⟨T, h1, h2⟩ := h
  refine ⟨T, e _ _ h1, fun a b ha hb ne => ?_⟩
  obtain ⟨v, h3, h4⟩ := h2 a b ha hb ne
  exact ⟨v, h3, h4.same e⟩
theorem rep_firsts (x : V) (n : Nat) : (List.replicate ((n : Nat) : Int).toNat [x]).flatten = firsts (fun _ => x) n := by
  rw [Int.toNat_natCast]
  induction n with
  | zero => rfl
  | succ n ih =>
    rw [firsts_succ, ← ih, List.replicate_succ', List.flatten_append]
    rfl
def spLHist (K : PySem.W.Frag) : Sp := fun vs H Q _ => ∃ (l : Addr) (c : Crew) (ad : Nat → Addr), vs = [.ref l] ∧ LpAt K H l c ad ∧ c.Ok ∧ ∀ m L H', Same H H' → LimOk c L → SqL K H' m (firsts (fun i => optV (L i)) c.n) → Q (.ref m) H'
theorem sc__law_history : FnScope ["_law_painters", "_law_many", "_law_pairs_here", "_law_counts", "_law_halts", "_law_a", "_law_nexts", "_law_date", "_law_k", "_law_b", "_law_c", "_law_one"] ["_law_painters"] (defScope s__law_history) := C8.fnScope_by (by decide +kernel)
theorem ok_law_history {f : Addr} (F : DF K "_law_history" "_law_history" s__law_history f) (hm : mg "_law_history" = some (.ref f)) (c__law_pairs : C8.Cal P w K mg base 3 "_law_pairs" (spPairs K) []) (c__law_next : C8.Cal P w K mg base 2 "_law_next" (spNext K) []) (n_range : mg "range" = none) (n_len : mg "len" = none) (n_min : mg "min" = none) :
    C8.Cal P w K mg base 4 "_law_history" (spLHist K) [] := by
  refine cal_of F hm sc__law_history (fun _ _ _ _ _ _ us hl => match us, hl with | [_], _ => rfl) (fun vs H Q E h => ?_) (fun cdv A outer s H vs Q E hr h => ?_)
  · obtain ⟨l, c, ad, rfl, _⟩ := h
    rfl
  · obtain ⟨l, c, ad, rfl, hl, ok, k⟩ := h
    have hu := units1 hr
    refine ⟨_, (pss_cons (ps_asg (pe_tup (pa_cons (pe_callB call_len (by rfl) n_len (by decide +kernel) (pa_cons (pv 0) pa_nil)) (pa_cons (C8.pe_c c__law_pairs hr (by decide) rfl (pa_cons (pv 0) pa_nil)) pa_nil))) (pg_tup rfl (pgs_cons (pg_name (i := 1) sc__law_history.nd rfl (Or.inl rfl)) (pgs_cons (pg_name (i := 2) sc__law_history.nd rfl (Or.inr rfl)) pgs_nil))))
        (pss_cons (ps_asg (pe_tup (pa_cons (pe_op op_rep (pe_lst (pa_cons pe_non pa_nil)) (pv 1)) (pa_cons (pe_op op_rep (pe_lst (pa_cons pe_non pa_nil)) (pv 1)) pa_nil))) (pg_tup rfl (pgs_cons (pg_name (i := 3) sc__law_history.nd rfl (Or.inr rfl)) (pgs_cons (pg_name (i := 4) sc__law_history.nd rfl (Or.inl rfl)) pgs_nil))))
        (pss_cons (ps_setLc (i := 6) (own := [("_law_a", 5)]) rfl sc__law_history.nd rfl rfl (sw_true rfl rfl rfl (by decide +kernel)) (pi_range1 (by rfl) n_range (pa_cons (pv 1) pa_nil)) (blkOk_by (N := ["_law_painters", "_law_many", "_law_pairs_here", "_law_counts", "_law_halts", "_law_a", "_law_nexts", "_law_date", "_law_k", "_law_b", "_law_c", "_law_one"]) (sc := defScope s__law_history) (own := [("_law_a", 5)]) (by decide +kernel)) (fun _ _ _ _ _ => (pg_name (i := 5) sc__law_history.nd rfl (Or.inl rfl))) (fun _ _ _ _ _ => pts_nil) (fun _ _ _ _ _ => (C8.pe_c c__law_next hr (by decide) rfl (pa_cons (pv 0) (pa_cons (pv 2) (pa_cons (pv 3) (pa_cons (pv 5) pa_nil)))))))
        (pss_cons (ps_while PassesOwn.never (pt_cmpR (op_neD hr.units) (pe_lc (own := [("_law_one", 11)]) rfl sc__law_history.nd (pi_list (pv 6)) (blkOk_by (N := ["_law_painters", "_law_many", "_law_pairs_here", "_law_counts", "_law_halts", "_law_a", "_law_nexts", "_law_date", "_law_k", "_law_b", "_law_c", "_law_one"]) (sc := defScope s__law_history) (own := [("_law_one", 11)]) (by decide +kernel)) (fun _ _ _ _ _ => (pg_name (i := 11) sc__law_history.nd rfl (Or.inl rfl))) (fun _ _ _ _ _ => (pts_one (pt_cmpR op_notN (pv 11) pe_non (nomark _)))) (fun _ _ _ _ _ => (pv 11))) (pe_lst pa_nil) (nomark _))
           (pss_cons (ps_asg (pe_callB (cr_minT rfl hr.units) (by rfl) n_min (by decide +kernel) (pa_cons (pe_lc (own := [("_law_one", 11)]) rfl sc__law_history.nd (pi_list (pv 6)) (blkOk_by (N := ["_law_painters", "_law_many", "_law_pairs_here", "_law_counts", "_law_halts", "_law_a", "_law_nexts", "_law_date", "_law_k", "_law_b", "_law_c", "_law_one"]) (sc := defScope s__law_history) (own := [("_law_one", 11)]) (by decide +kernel)) (fun _ _ _ _ _ => (pg_name (i := 11) sc__law_history.nd rfl (Or.inl rfl))) (fun _ _ _ _ _ => (pts_one (pt_cmpR op_notN (pv 11) pe_non (nomark _)))) (fun _ _ _ _ _ => (pv 11))) pa_nil)) (pg_tup rfl (pgs_cons (pg_name (i := 7) sc__law_history.nd rfl (Or.inl rfl)) (pgs_cons (pg_name (i := 5) sc__law_history.nd rfl (Or.inl rfl)) (pgs_cons (pg_name (i := 8) sc__law_history.nd rfl (Or.inl rfl)) (pgs_cons (pg_name (i := 9) sc__law_history.nd rfl (Or.inl rfl)) pgs_nil))))))
           (pss_cons (ps_asg (pe_tup (pa_cons (pv 8) (pa_cons (pe_tup (pa_cons (pv 7) (pa_cons (pe_op op_add (pe_ix ix_tup (pe_ix ix_list (pv 0) (pv 5) (fun _ _ => rfl)) pe_int (fun _ _ => rfl)) (pe_op op_mulB (pv 8) (pe_ix ix_tup (pe_ix ix_list (pv 0) (pv 5) (fun _ _ => rfl)) pe_int (fun _ _ => rfl)))) (pa_cons (pe_ix ix_tup (pe_ix ix_list (pv 0) (pv 9) (fun _ _ => rfl)) pe_int (fun _ _ => rfl)) pa_nil)))) (pa_cons pe_non pa_nil)))) (pg_tup rfl (pgs_cons (pg_sub (pv 3) (pv 5) set_list) (pgs_cons (pg_sub (pv 4) (pv 5) set_list) (pgs_cons (pg_sub (pv 6) (pv 5) set_list) pgs_nil)))))
           (pss_one (ps_for PassesOwn.never rfl (pi_range1 (by rfl) n_range (pa_cons (pv 1) pa_nil)) (pg_name (i := 10) sc__law_history.nd rfl (Or.inl rfl))
             (pss_one (ps_if (PW.pt (pw_and (pt_cmpR op_notN (pe_ix ix_list (pv 6) (pv 10) (fun _ _ => rfl)) pe_non (nomark _)) (pw_and1 (pt_cmpR op_eq (pe_ix ix_tup (pe_ix ix_list (pv 6) (pv 10) (fun _ _ => rfl)) pe_int (fun _ _ => rfl)) (pv 5) (nomark _))))) (pss_one (ps_asg (C8.pe_c c__law_next hr (by decide) rfl (pa_cons (pv 0) (pa_cons (pv 2) (pa_cons (pv 3) (pa_cons (pv 10) pa_nil))))) (pg_sub (pv 6) (pv 10) set_list)))
               pss_nil)))))))
        (pss_one (ps_ret (pv 3))))))), ?_⟩
    show (_ : TS) _ [some _, none, none, none, none, none, none, none, none, none, none, none] _
    have few := ok.few
    have hlen : (refsV ad c.n).length = c.n := firsts_len _ _
    walk_at "w"
    refine ⟨_, _, rfl, .inl ⟨_, hl.1, rfl⟩, ?_⟩
    rw [hlen]
    walk_at "w"
    intro d H1 hS1 hd hPs
    walk_at "w"
    intro t0 ht0
    have S2 := hS1.trans (Same.new (o := .tup [.int (c.n : Nat), .ref d]) ht0)
    have hPs2 := hPs.same (Same.new (o := .tup [.int (c.n : Nat), .ref d]) ht0)
    refine ⟨_, _, rfl, SqT.of upd_same, rfl, ?_⟩
    generalize upd H1 t0 (.tup [.int (c.n : Nat), .ref d]) = H2 at S2 hPs2 ⊢
    walk_at "w"
    intro l1 hl1
    walk_at "w"
    refine ⟨l1, _, _, rfl, rfl, upd_same, by omega, by omega, by rw [List.length_singleton, Int.toNat_natCast]; exact len_of (m := 40) (by omega), fun cn hcn => ?_⟩
    rw [rep_firsts]
    walk_at "w"
    intro l2 hl2
    walk_at "w"
    refine ⟨l2, _, _, rfl, rfl, upd_same, by omega, by omega, by rw [List.length_singleton, Int.toNat_natCast]; exact len_of (m := 40) (by omega), fun hn hhn => ?_⟩
    rw [rep_firsts]
    walk_at "w"
    intro t3 ht3
    have hcn2 : H2 cn = none := none_back (Same.new hl1) hcn
    have hhn2 : H2 hn = none := none_back (((Same.new hl1).trans (Same.new hcn)).trans (Same.new hl2)) hhn
    have ncl : l2 ≠ cn := fun z => by rw [z, upd_same] at hl2; cases hl2
    have nch : hn ≠ cn := fun z => by rw [z, upd_ne ncl.symm, upd_same] at hhn; cases hhn
    have ntc : t3 ≠ cn := fun z => by rw [z, upd_ne nch.symm, upd_ne ncl.symm, upd_same] at ht3; cases ht3
    have nth : t3 ≠ hn := fun z => by rw [z, upd_same] at ht3; cases ht3
    have S3 : Same H2 _ := ((((Same.new (o := .lst [.non]) hl1).trans (Same.new (o := .lst (firsts (fun _ => V.non) c.n)) hcn)).trans (Same.new (o := .lst [.non]) hl2)).trans (Same.new (o := .lst (firsts (fun _ => V.non) c.n)) hhn)).trans (Same.new (o := .tup [.ref cn, .ref hn]) ht3)
    refine ⟨_, _, rfl, SqT.of upd_same, rfl, ?_⟩
    have hcn3 : (upd (upd (upd (upd (upd H2 l1 (.lst [.non])) cn (.lst (firsts (fun _ => V.non) c.n))) l2 (.lst [.non])) hn (.lst (firsts (fun _ => V.non) c.n))) t3 (.tup [.ref cn, .ref hn])) cn = some (.lst (firsts (fun _ => V.non) c.n)) := by
      rw [upd_ne ntc.symm, upd_ne nch.symm, upd_ne ncl.symm, upd_same]
    have hhn3 : (upd (upd (upd (upd (upd H2 l1 (.lst [.non])) cn (.lst (firsts (fun _ => V.non) c.n))) l2 (.lst [.non])) hn (.lst (firsts (fun _ => V.non) c.n))) t3 (.tup [.ref cn, .ref hn])) hn = some (.lst (firsts (fun _ => V.non) c.n)) := by
      rw [upd_ne nth.symm, upd_same]
    generalize (upd (upd (upd (upd (upd H2 l1 (.lst [.non])) cn (.lst (firsts (fun _ => V.non) c.n))) l2 (.lst [.non])) hn (.lst (firsts (fun _ => V.non) c.n))) t3 (.tup [.ref cn, .ref hn])) = H3 at S3 hcn3 hhn3 ⊢
    walk_at "w"
    intro nx hnx
    have hl3 := (hl.same S2).same S3
    refine lc_acc walk_range hnx (by omega) (fun i acc H' => Tk (∃ N : Nat → V, acc = firsts N i ∧ ∀ j, j < i → NxV K H' c LN j (N j))) (tk ⟨fun _ => .non, rfl, fun j h => absurd h (Nat.not_lt_zero _)⟩) (fun _ _ _ _ _ => trivial) ?_ ?_
    · rintro i v acc H4 H5 Nx hi hS4 hD4 ⟨N, rfl, hN⟩ ⟨rfl, rfl⟩ fin _
      have hi : i < c.n := by omega
      walk_at "w"
      refine tNil_of ?_
      refine ⟨l, d, cn, c, ad, LN, i, by rw [← Int.zero_add (i : Int)]; rfl, hl3.same hS4, (hPs2.same S3).same hS4, SqL.of (hS4 _ _ hcn3), ok, hi, fun b z e => (by cases e), fun v H6 hS6 hB => ?_⟩
      have hD6 := hS6 _ _ hD4
      refine fin v H6 hD6 (hS4.trans hS6) (tk ⟨fun j => if j = i then v else N j, ?_, fun j hj => ?_⟩)
      · rw [firsts_succ, if_pos rfl]
        congr 1
        exact firsts_congr fun j hj => by rw [if_neg (by omega)]
      · have SBD : SB nx H6 (upd H6 nx (.lst (firsts N i ++ [v]))) := (SB.refl _ _).set
        show NxV K _ c LN j (if j = i then v else N j)
        by_cases e : j = i
        · subst e
          rw [if_pos rfl]
          exact ⟨fun _ => hB.sb SBD hD6, fun q => by cases q⟩
        · rw [if_neg e]
          exact ((hN j (by omega)).same hS6).sb SBD hD6
    · rintro acc H4 hS4 hD4 ⟨N, rfl, hN⟩
      rw [show ((c.n : Nat) : Int).toNat = c.n from Int.toNat_natCast _] at hD4 hN
      have S4 := S3.trans hS4
      have ncx : cn ≠ nx := ne_of_none hcn3 hnx
      have nhx : hn ≠ nx := ne_of_none hhn3 hnx
      have hnx2 : H2 nx = none := none_back S3 hnx
      refine ⟨fun m σ H' => Tk (∃ (L : Nat → Option Int) (N : Nat → V) (hs : List V) (o1 o2 o3 o4 o5 : Option V), σ = [some (.ref l), some (.int (c.n : Nat)), some (.ref d), some (.ref cn), some (.ref hn), o1, some (.ref nx), o2, o3, o4, o5, none] ∧ m = openN L c.n ∧ Same H2 H' ∧ H' cn = some (.lst (firsts (fun i => optV (L i)) c.n)) ∧ H' hn = some (.lst hs) ∧ hs.length = c.n ∧ H' nx = some (.lst (firsts N c.n)) ∧ (∀ j, j < c.n → NxV K H' c L j (N j)) ∧ Sofar c.n c.p L ∧ ∀ a z, L a = some z → 0 ≤ z ∧ z ≤ 10 ^ 60),
        ⟨c.n, tk ⟨LN, N, _, none, none, none, none, none, rfl, (openN_all _).symm, S4, hS4 _ _ hcn3, hS4 _ _ hhn3, firsts_len _ _, hD4, hN, Sofar.start, fun _ _ z => by cases z⟩⟩, ?_⟩
      rintro m σ H' ⟨L, N, hs, o1, o2, o3, o4, o5, rfl, rfl, S5, hcn5, hhn5, hsl, hnx5, hN5, hSo, hz⟩
      have comp : ∀ (H5 : Hp), Same H' H5 → SqL K H5 nx (firsts N c.n) := fun H5 e => SqL.of (e _ _ hnx5)
      walk_at "w"
      refine ⟨⟨_, comp _ (Same.refl _)⟩, fun D hD => ?_⟩
      refine lc_acc walk_list hD (by rw [firsts_len]; omega) (fun i acc H6 => Tk (∃ (rs : List Addr) (R : List (List Int)), acc = rs.map V.ref ∧ rs.length = R.length ∧ Paired (fun r xs => SqT K H6 r xs) rs (R.map (·.map V.int)) ∧ StopsTo c.n c.p L i R)) (tk ⟨[], [], rfl, rfl, .nil, StopsTo.nil⟩) (fun i acc H6 e _ => comp _ e) ?_ ?_
      · rintro i v acc H6 H7 Nx hi hS6 hD6 ⟨rs, R, rfl, hrl, hP, hSt⟩ ⟨rfl, hz2⟩ fin skip
        obtain ⟨hi, rfl⟩ := firsts_at hz2
        have hv := (hN5 i hi).same hS6
        walk_at "w"
        by_cases e : N i = .non
        · rw [e] at hv ⊢
          walk_at "w"
          exact skip _ hD6 hS6 (tk ⟨rs, R, rfl, hrl, hP, hSt.skip fun hL => hv.none_ hL⟩)
        · obtain ⟨t, kk, b, e2, q1, q2, q3, q4, q5, q6, q7⟩ := hv.some_ e
          rw [e2]
          walk_at "w"
          have SB6 : SB D H7 (upd H7 D (.lst (rs.map V.ref ++ [V.ref t]))) := (SB.refl _ _).set
          refine fin _ _ hD6 hS6 (tk ⟨rs ++ [t], _, by rw [List.map_append]; rfl, ?_, ?_, hSt.add q1 q2 q4 q5 q6⟩)
          · rw [List.length_append, List.length_append, hrl]
            rfl
          · rw [List.map_append]
            exact paired_snoc (SB6.paired hD6 (fun _ z => by cases z) (fun _ _ z => by cases z) hP) (SB6.sqtO hD6 (fun _ z => by cases z) (fun _ _ z => by cases z) q7)
      · rintro acc H6 hS6 hD6 ⟨rs, R, rfl, hrl, hP, hSt⟩
        rw [firsts_len] at hSt
        walk_at "w"
        intro e1 he1
        have S7' := Same.new (o := .lst []) he1
        refine ⟨.list (R.map rowD), .list [], .lst (SqL.of (S7' _ _ hD6)) (dpAll_rows (S7'.paired hP)), .lst (SqL.of upd_same) .nil, shaped_rows _, rfl, ?_⟩
        have S7 := hS6.trans S7'
        generalize upd H6 e1 (.lst []) = H7 at S7 ⊢
        have hStA := hSt
        cases hR : R with
        | nil =>
          have e : PyData.eqv (.list (([] : List (List Int)).map rowD)) (.list []) = true := by simp [PyData.eqv, PyData.eqvAll]
          rw [e]
          walk_at "w"
          rw [hR] at hSt
          exact k cn L H7 ((S2.trans S5).trans S7) ⟨hSo.end_ fun a kk ha hL => hSt.none a kk ha hL, fun a kk _ e => hz a kk e⟩ (SqL.of (S7 _ _ hcn5))
        | cons row0 R0 =>
          have e : PyData.eqv (.list ((row0 :: R0).map rowD)) (.list []) = false := by simp [PyData.eqv, PyData.eqvAll]
          rw [e]
          walk_at "w"
          refine ⟨_, fun _ _ n => n, ?_⟩
          have hN7 : ∀ j, j < c.n → NxV K H7 c L j (N j) := fun j hj => (hN5 j hj).same S7
          have comp7 : ∀ (H8 : Hp), Same H7 H8 → SqL K H8 nx (firsts N c.n) := fun H8 e => comp _ (S7.trans e)
          walk_at "w"
          refine ⟨⟨_, comp7 _ (Same.refl _)⟩, fun D8 hD8 => ?_⟩
          refine lc_acc walk_list hD8 (by rw [firsts_len]; omega) (fun i acc H9 => Tk (∃ (rs : List Addr) (R : List (List Int)), acc = rs.map V.ref ∧ rs.length = R.length ∧ Paired (fun r xs => SqT K H9 r xs) rs (R.map (·.map V.int)) ∧ StopsTo c.n c.p L i R)) (tk ⟨[], [], rfl, rfl, .nil, StopsTo.nil⟩) (fun i acc H9 e _ => comp7 _ e) ?_ ?_
          · rintro i v acc H9 H10 Nx hi hS9 hD9 ⟨rs, R, rfl, hrl, hP, hSt⟩ ⟨rfl, hz2⟩ fin skip
            obtain ⟨hi, rfl⟩ := firsts_at hz2
            have hv := (hN7 i hi).same hS9
            walk_at "w"
            by_cases e : N i = .non
            · rw [e] at hv ⊢
              walk_at "w"
              exact skip _ hD9 hS9 (tk ⟨rs, R, rfl, hrl, hP, hSt.skip fun hL => hv.none_ hL⟩)
            · obtain ⟨t, kk, b, e2, q1, q2, q3, q4, q5, q6, q7⟩ := hv.some_ e
              rw [e2]
              walk_at "w"
              have SB9 : SB D8 H10 (upd H10 D8 (.lst (rs.map V.ref ++ [V.ref t]))) := (SB.refl _ _).set
              refine fin _ _ hD9 hS9 (tk ⟨rs ++ [t], _, by rw [List.map_append]; rfl, ?_, ?_, hSt.add q1 q2 q4 q5 q6⟩)
              · rw [List.length_append, List.length_append, hrl]
                rfl
              · rw [List.map_append]
                exact paired_snoc (SB9.paired hD9 (fun _ z => by cases z) (fun _ _ z => by cases z) hP) (SB9.sqtO hD9 (fun _ z => by cases z) (fun _ _ z => by cases z) q7)
          · rintro acc H9 hS9 hD9 ⟨rs, R, rfl, hrl, hP, hSt⟩
            rw [firsts_len] at hSt
            refine tNil_of ?_
            have hRne : R ≠ [] := fun z => by
              rw [z] at hSt
              obtain ⟨row, hrow⟩ : ∃ row, row ∈ row0 :: R0 := ⟨row0, List.mem_cons_self ..⟩
              obtain ⟨a, b, kk, _, q1, q2, q3, q4, q5, q6⟩ := hStA.of row (by rw [hR]; exact hrow)
              exact hSt.none a kk q1 q3 q4.1
            refine ⟨D8, rs, R, rfl, SqL.of hD9, hP, hRne, fun i rr row hr' hx hmin => ?_⟩
            obtain ⟨a, b, kk, erow, hNx⟩ := hSt.next (List.mem_of_getElem? hx) hmin
            obtain ⟨r', xs', e1, e2, e3, e4⟩ := pair_at hP (i := i) (x := .ref rr) (by rw [List.getElem?_map, hr']; rfl)
            injection e1 with e1
            rw [List.getElem?_map, hx] at e3
            injection e3 with e3
            rw [← e3, ← e1, erow] at e4
            refine ⟨_, _, rfl, e4, rfl, ?_⟩
            have S9 := S7.trans hS9
            have hl9 := (hl.same S2).same (S5.trans S9)
            have at_ : ∀ q : Nat, q < c.n → atI (refsV ad c.n) (q : Nat) = some (.ref (ad q)) := fun q hq => by
              rw [atI_nat]
              exact firsts_get hq
            obtain ⟨ha, hb, hLa, hLeast, k0, k1, hBef⟩ := hNx
            have hta := hl9.2 a ha
            have htb := hl9.2 b hb
            have pa := ok.pts a ha
            have kB : Bd kk := ⟨by omega, by omega⟩
            have sB : Bd (c.p a).stride := ⟨by have := pa.s0; omega, by have := pa.s1; omega⟩
            walk_at "w"
            refine ⟨l, _, _, _, rfl, rfl, hl9.1, at_ a ha, ?_⟩
            walk_at "w"
            refine ⟨l, _, _, _, rfl, rfl, hl9.1, at_ a ha, ?_⟩
            walk_at "w"
            refine ⟨l, _, _, _, rfl, rfl, hl9.1, at_ b hb, ?_⟩
            walk_at "w"
            intro q1 hq1
            have S10 := S9.trans (Same.new (o := .tup [.int ((c.p a).day + kk), .int ((c.p a).post + kk * (c.p a).stride), .str (c.nm b)]) hq1)
            generalize upd H9 q1 (.tup [.int ((c.p a).day + kk), .int ((c.p a).post + kk * (c.p a).stride), .str (c.nm b)]) = H10 at S10 ⊢
            walk_at "w"
            intro q2 hq2
            have S11 := S10.trans (Same.new (o := .tup [.int kk, .ref q1, .non]) hq2)
            refine ⟨_, _, rfl, SqT.of upd_same, rfl, ?_⟩
            generalize upd H10 q2 (.tup [.int kk, .ref q1, .non]) = H11 at S11 ⊢
            have hcn11 := S11 _ _ hcn5
            have hhn11 := S11 _ _ hhn5
            have hnx11 := S11 _ _ hnx5
            have hN11 : ∀ j, j < c.n → NxV K H11 c L j (N j) := fun j hj => (hN5 j hj).same S11
            have S11b := S5.trans S11
            walk_at "w"
            refine ⟨cn, _, _, a, rfl, rfl, hcn11, ixN_nat (by rw [firsts_len]; exact ha), ?_⟩
            have SB12 : SB cn H11 (upd H11 cn (.lst ((firsts (fun i => optV (L i)) c.n).set a (.int kk)))) := (SB.refl _ _).set
            have hcn12 : (upd H11 cn (.lst ((firsts (fun i => optV (L i)) c.n).set a (.int kk)))) cn = some (.lst (firsts (fun i => optV (setL L a kk i)) c.n)) := by
              rw [upd_same, firsts_set]
              congr 2
              refine firsts_congr fun i _ => ?_
              unfold setL
              by_cases q : i = a
              · rw [if_pos q, if_pos q]
              · rw [if_neg q, if_neg q]
            have S12 : Same H2 (upd H11 cn (.lst ((firsts (fun i => optV (L i)) c.n).set a (.int kk)))) := Same.put hcn2 S11b
            generalize upd H11 cn (.lst ((firsts (fun i => optV (L i)) c.n).set a (.int kk))) = H12 at SB12 hcn12 S12 ⊢
            have hhn12 := SB12 _ _ hhn11 nch
            have hnx12 := SB12 _ _ hnx11 ncx.symm
            have hN12 : ∀ j, j < c.n → NxV K H12 c L j (N j) := fun j hj => (hN11 j hj).sb SB12 hcn11
            walk_at "w"
            refine ⟨hn, _, _, a, rfl, rfl, hhn12, ixN_nat (by rw [hsl]; exact ha), ?_⟩
            have SB13 : SB hn H12 (upd H12 hn (.lst (hs.set a (.ref q1)))) := (SB.refl _ _).set
            have hhn13 : (upd H12 hn (.lst (hs.set a (.ref q1)))) hn = some (.lst (hs.set a (.ref q1))) := upd_same
            have S13 : Same H2 (upd H12 hn (.lst (hs.set a (.ref q1)))) := Same.put hhn2 S12
            generalize upd H12 hn (.lst (hs.set a (.ref q1))) = H13 at SB13 hhn13 S13 ⊢
            have hcn13 := SB13 _ _ hcn12 nch.symm
            have hnx13 := SB13 _ _ hnx12 nhx.symm
            have hN13 : ∀ j, j < c.n → NxV K H13 c L j (N j) := fun j hj => (hN12 j hj).sb SB13 hhn12
            walk_at "w"
            refine ⟨nx, _, _, a, rfl, rfl, hnx13, ixN_nat (by rw [firsts_len]; exact ha), ?_⟩
            have SB14 : SB nx H13 (upd H13 nx (.lst ((firsts N c.n).set a .non))) := (SB.refl _ _).set
            have hnx14 : (upd H13 nx (.lst ((firsts N c.n).set a .non))) nx = some (.lst (firsts (fun i => if i = a then V.non else N i) c.n)) := by
              rw [upd_same, firsts_set]
            have S14 : Same H2 (upd H13 nx (.lst ((firsts N c.n).set a .non))) := Same.put hnx2 S13
            generalize upd H13 nx (.lst ((firsts N c.n).set a .non)) = H14 at SB14 hnx14 S14 ⊢
            have hcn14 := SB14 _ _ hcn13 ncx
            have hhn14 := SB14 _ _ hhn13 nhx
            have hN14 : ∀ j, j < c.n → NxV K H14 c L j (N j) := fun j hj => (hN13 j hj).sb SB14 hnx13
            walk_at "w"
            have big : ∀ x z, setL L a kk x = some z → 0 ≤ z ∧ z ≤ 10 ^ 60 := fun x z e => by
              unfold setL at e
              split at e
              · injection e with e
                omega
              · exact hz x z e
            refine for_it walk_range (fun i σ H' => Tk (∃ (M : Nat → V) (o1 : Option V), σ = [some (.ref l), some (.int (c.n : Nat)), some (.ref d), some (.ref cn), some (.ref hn), some (.int (a : Nat)), some (.ref nx), some (.int ((c.p a).day + kk)), some (.int kk), some (.int (b : Nat)), o1, none] ∧ Same H2 H' ∧ H' cn = some (.lst (firsts (fun i => optV (setL L a kk i)) c.n)) ∧ H' hn = some (.lst (hs.set a (.ref q1))) ∧ H' nx = some (.lst (firsts M c.n)) ∧ (∀ j, j < c.n → (j < i ∨ j = a → NxV K H' c (setL L a kk) j (M j)) ∧ (¬ (j < i ∨ j = a) → NxV K H' c L j (M j))))) (tk ⟨_, o5, rfl, S14, hcn14, hhn14, hnx14, fun j hj => ⟨fun q => ?_, fun q => ?_⟩⟩) (fun _ _ _ _ _ => trivial) ?_ ?_
            · have e : j = a := by omega
              show NxV K _ c _ j (if j = a then V.non else N j)
              rw [if_pos e, e]
              exact ⟨fun z => absurd (setL_same.symm.trans z) (fun z => by cases z), fun _ => rfl⟩
            · show NxV K _ c _ j (if j = a then V.non else N j)
              rw [if_neg (by omega)]
              exact hN14 j hj
            · rintro i v σ H15 H16 hi ⟨M, o1, rfl, S15, hcn15, hhn15, hnx15, hM⟩ ⟨rfl, rfl⟩
              have hi : i < c.n := by omega
              walk_at "w"
              have atM : atI (firsts M c.n) (0 + (i : Nat)) = some (M i) := by
                rw [Int.zero_add, atI_nat]
                exact firsts_get hi
              refine ⟨nx, _, _, _, rfl, rfl, SqL.of hnx15, atM, ?_⟩
              -- what stands at i, once it is right for the new limits
              have done : ∀ (H' : Hp) (M' : Nat → V), NxV K H' c (setL L a kk) i (M' i) → (∀ j, j < c.n → j ≠ i → (j < i ∨ j = a → NxV K H' c (setL L a kk) j (M' j)) ∧ (¬ (j < i ∨ j = a) → NxV K H' c L j (M' j))) → ∀ j, j < c.n → (j < i + 1 ∨ j = a → NxV K H' c (setL L a kk) j (M' j)) ∧ (¬ (j < i + 1 ∨ j = a) → NxV K H' c L j (M' j)) := fun H' M' h1 h2 j hj => by
                by_cases e : j = i
                · subst e
                  exact ⟨fun _ => h1, fun q => absurd (.inl (Nat.lt_succ_self _)) q⟩
                · exact ⟨fun q => (h2 j hj e).1 (by omega), fun q => (h2 j hj e).2 (by omega)⟩
              have keep : NxV K H16 c (setL L a kk) i (M i) → Tk (∃ (M : Nat → V) (o1 : Option V), [some (V.ref l), some (.int (c.n : Nat)), some (.ref d), some (.ref cn), some (.ref hn), some (.int (a : Nat)), some (.ref nx), some (.int ((c.p a).day + kk)), some (.int kk), some (.int (b : Nat)), some (.int (0 + (i : Nat))), none] = [some (V.ref l), some (.int (c.n : Nat)), some (.ref d), some (.ref cn), some (.ref hn), some (.int (a : Nat)), some (.ref nx), some (.int ((c.p a).day + kk)), some (.int kk), some (.int (b : Nat)), o1, none] ∧ Same H2 H16 ∧ H16 cn = some (.lst (firsts (fun i => optV (setL L a kk i)) c.n)) ∧ H16 hn = some (.lst (hs.set a (.ref q1))) ∧ H16 nx = some (.lst (firsts M c.n)) ∧ (∀ j, j < c.n → (j < i + 1 ∨ j = a → NxV K H16 c (setL L a kk) j (M j)) ∧ (¬ (j < i + 1 ∨ j = a) → NxV K H16 c L j (M j)))) := fun h1 =>
                tk ⟨M, _, rfl, S15, hcn15, hhn15, hnx15, done H16 M h1 fun j hj _ => hM j hj⟩
              by_cases ea : i = a
              · have h1 := (hM i hi).1 (.inr ea)
                have e0 : M i = .non := h1.2 (by rw [ea, setL_same]; rfl)
                rw [e0] at keep h1 ⊢
                walk_at "w"
                exact keep h1
              · have h1 := (hM i hi).2 (by omega)
                have hset : setL L a kk i = L i := setL_ne ea
                by_cases e0 : M i = .non
                · rw [e0] at keep h1 ⊢
                  walk_at "w"
                  refine keep ⟨fun z => ?_, fun _ => rfl⟩
                  rw [hset] at z
                  exact .inl ⟨rfl, fun b' hb' ne k' hk' => h1.none_ z k' ⟨b', hb', ne, hitB_set hLa hk'⟩⟩
                · obtain ⟨t', _, _, _, hLi, _⟩ := h1.some_ e0
                  rcases h1.1 hLi with h9 | ⟨t, k', b', g1, g2, g3, g4, g5, g6, g7, g8⟩
                  · exact absurd h9.1 e0
                  · rw [g1] at keep atM ⊢
                    walk_at "w"
                    refine ⟨nx, _, _, _, rfl, rfl, SqL.of hnx15, atM, ?_⟩
                    walk_at "w"
                    refine iteD (fun hc => ?_) (fun hc => ?_)
                    · have hc : b' = a := by
                        have : V.int (b' : Nat) = V.int (a : Nat) := hc
                        injection this with this
                        omega
                      walk_at "w"
                      refine tNil_of ?_
                      refine ⟨l, d, cn, c, ad, setL L a kk, i, by rw [← Int.zero_add (i : Int)]; rfl, (hl.same S2).same S15, hPs2.same S15, SqL.of hcn15, ok, hi, fun x z e => (big x z e).1, fun v H17 hS17 hB => ?_⟩
                      walk_at "w"
                      have hnx17 := hS17 _ _ hnx15
                      refine ⟨nx, _, _, i, rfl, rfl, hnx17, by rw [firsts_len, Int.zero_add]; exact ixN_nat hi, ?_⟩
                      have SB18 : SB nx H17 (upd H17 nx (.lst ((firsts M c.n).set i v))) := (SB.refl _ _).set
                      refine tk ⟨fun j => if j = i then v else M j, _, rfl, Same.put hnx2 (S15.trans hS17), SB18 _ _ (hS17 _ _ hcn15) ncx, SB18 _ _ (hS17 _ _ hhn15) nhx, by rw [upd_same, firsts_set], done _ _ ?_ fun j hj ne => ?_⟩
                      · show NxV K _ c _ i (if i = i then v else M i)
                        rw [if_pos rfl]
                        refine ⟨fun _ => hB.sb SB18 hnx17, fun z => ?_⟩
                        rw [hset, hLi] at z
                        cases z
                      · show (_ → NxV K _ c _ j (if j = i then v else M j)) ∧ (_ → NxV K _ c _ j (if j = i then v else M j))
                        rw [if_neg ne]
                        exact ⟨fun q => (((hM j hj).1 q).same hS17).sb SB18 hnx17, fun q => (((hM j hj).2 q).same hS17).sb SB18 hnx17⟩
                    · have hc : b' ≠ a := fun z => hc (by rw [z])
                      walk_at "w"
                      refine keep ⟨fun z => .inr ⟨t, k', b', rfl, g2, g3, fun b'' hb'' ne k'' hk'' => g4 b'' hb'' ne k'' (hitB_set hLa hk''), g5, g6, by rw [setL_ne hc]; exact g7, g8⟩, fun z => ?_⟩
                      rw [hset, hLi] at z
                      cases z
            · rintro σ H15 ⟨M, o1, rfl, S15, hcn15, hhn15, hnx15, hM⟩
              rw [show ((c.n : Nat) : Int).toNat = c.n from Int.toNat_natCast _] at hM
              refine ⟨openN (setL L a kk) c.n, openN_lt hLa ha, tk ⟨setL L a kk, M, _, _, _, _, _, _, rfl, rfl, S15, hcn15, hhn15, ?_, hnx15, fun j hj => (hM j hj).1 (.inl hj), hSo.step ha hLa hLeast hBef, big⟩⟩
              rw [List.length_set]
              exact hsl
end
end PK
end
section
set_option Elab.async false
set_option linter.all false
set_option maxRecDepth 100000
set_option maxHeartbeats 4000000
namespace PK
open PySem PySem.Spec PyProof.Rows L2 PM
local macro_rules | `(tactic| walk_at "sd") => `(tactic| (first
  | assumption
  | omega
  | (constructor <;> omega)
  | (refine ⟨by omega, ?_⟩; constructor <;> omega)
  | (constructor <;> (first | assumption | omega | (constructor <;> omega)))))
local macro_rules | `(tactic| walk_at "w") => `(tactic| (repeat (first
  | with_reducible refine ifTT ?_
  | with_reducible refine ifFT ?_
  | with_reducible refine ifnT ?_
  | with_reducible refine ifnF ?_
  | with_reducible refine ifIN ?_
  | with_reducible refine ifNN ?_
  | with_reducible refine ifnIN ?_
  | with_reducible refine ifnNN ?_
  | with_reducible refine ifRN ?_
  | with_reducible refine ifnRN ?_
  | ((fail_if_success with_reducible refine iteB ?_ ?_); first
    | refine ⟨_, rfl, ?_⟩
    | refine ⟨_, _, rfl, rfl, ?_⟩
    | refine ⟨_, _, rfl, ?_⟩
    | refine And.intro (a := (_ : Nat) ≤ sizeLine) (by first | exact len_small (m := 2) rfl | exact len_small (m := 1) rfl | exact len_small (m := 4) rfl | exact len_small (m := 3) rfl | exact len_small (m := 0) rfl) ?_
    | refine Or.inl ⟨_, rfl, ?_⟩
    | refine ⟨rfl, ?_⟩
    | refine And.intro (a := (_ : Int) ≤ _) (by omega) ?_
    | refine And.intro (a := (_ : Int) < _) (by omega) ?_
    | refine And.intro (a := (_ : Nat) ≤ _) (by omega) ?_
    | refine And.intro (a := (_ : Nat) < _) (by omega) ?_
    | refine And.intro (a := CDivP _ _) (by walk_at "sd") ?_
    | refine And.intro (a := CDivB _ _) (by walk_at "sd") ?_
    | refine And.intro (a := CMulB _ _) (by walk_at "sd") ?_
    | refine And.intro (a := _ ≠ (0 : Int)) (by walk_at "sd") ?_
    | refine And.intro (a := (0 : Int) < _) (by walk_at "sd") ?_
    | refine ⟨_, _, rfl, ‹_›, rfl, ?_⟩
    | refine ⟨_, _, _, _, rfl, rfl, ‹_›, rfl, ?_⟩
    | refine ⟨_, _, _, _, rfl, rfl, by assumption, by assumption, ?_⟩
    | refine ⟨_, _, _, _, _, _, rfl, ‹_›, ‹_›, rfl, ?_⟩
    | refine ⟨_, _, _, _, _, _, rfl, ‹_›, (by exact KCls.f ‹_› rfl), (by rfl), ?_⟩
    | refine ⟨_, _, _, _, _, _, rfl, upd_same, ‹_›, (by rfl), ?_⟩
    | refine ⟨_, _, _, _, _, _, rfl, ‹_›, ‹Cls _ _›, ‹_›, rfl, ?_⟩
    | refine ⟨_, _, _, _, rfl, ‹_›, by decide +kernel, ?_⟩
    | refine ⟨_, _, _, rfl, ‹_›, ?_⟩
    | refine ⟨_, _, _, _, rfl, by assumption, ?_⟩
    | refine And.intro (by assumption) ?_))))
section
variable {X : Cx} {x y z u : Str} {i j l n k : Nat} {p1 p2 p3 p4 pos : Pos} {K : PySem.W.Frag}
theorem ix_tupK (hK : X.K = K) : IxR X (rIxT K) := hK ▸ ix_tup
theorem ix_listK (hK : X.K = K) : IxR X (rIxL K) := hK ▸ ix_list
theorem pg_tup4 (hK : X.K = K) (hc : X.calm = true) (hN : X.N.Nodup) (hi : X.N[i]? = some x) (hx : Loc X.env.scope x) (hj : X.N[j]? = some y) (hy : Loc X.env.scope y) (hl : X.N[l]? = some z) (hz : Loc X.env.scope z) (hn : X.N[n]? = some u) (hu : Loc X.env.scope u)
    (hf : X.fn x = true ∨ X.env.scope.names.lookup x = some .local := by first | exact .inl rfl | exact .inr rfl | assumption) (hg : X.fn y = true ∨ X.env.scope.names.lookup y = some .local := by first | exact .inl rfl | exact .inr rfl | assumption) (hh : X.fn z = true ∨ X.env.scope.names.lookup z = some .local := by first | exact .inl rfl | exact .inr rfl | assumption) (hh4 : X.fn u = true ∨ X.env.scope.names.lookup u = some .local := by first | exact .inl rfl | exact .inr rfl | assumption) :
    PG X (.Tuple [.Name x p1, .Name y p2, .Name z p3, .Name u p4] k pos) (gTup K 4 (gCons (gName i) (gCons (gName j) (gCons (gName l) (gCons (gName n) gNil))))) := hK ▸ pg_tup hc (pgs_cons (pg_name hN hi hx hf) (pgs_cons (pg_name hN hj hy hg) (pgs_cons (pg_name hN hl hz hh) (pgs_cons (pg_name hN hn hu hh4) pgs_nil))))
end
section
variable {P : Program} {w : World} {K : PySem.W.Frag} {mg : Str → Option Value} {base : Heap}
/-! ### the mirrored painters, and small helpers -/
def mirCrew (c : Crew) : Crew := ⟨c.n, c.nm, fun a => mirP (c.p a)⟩
def spLOpp (K : PySem.W.Frag) : Sp := fun vs H Q _ => ∃ (l : Addr) (c : Crew) (ad : Nat → Addr), vs = [.ref l] ∧ LpAt K H l c ad ∧ c.Ok ∧ ∀ l' ad' H', Same H H' → LpAt K H' l' (mirCrew c) ad' → Q (.ref l') H'
theorem sc__law_opposite : FnScope ["_law_painters", "_law_name", "_law_start", "_law_post", "_law_stride"] ["_law_painters"] (defScope s__law_opposite) := C8.fnScope_by (by decide +kernel)
theorem ok_law_opposite {f : Addr} (F : DF K "_law_opposite" "_law_opposite" s__law_opposite f) (hm : mg "_law_opposite" = some (.ref f)) :
    C8.Cal P w K mg base 1 "_law_opposite" (spLOpp K) [] := by
  refine cal_of F hm sc__law_opposite (fun _ _ _ _ _ _ us hl => match us, hl with | [_], _ => rfl) (fun vs H Q E h => ?_) (fun cdv A outer s H vs Q E hr h => ?_)
  · obtain ⟨l, c, ad, rfl, _⟩ := h
    rfl
  · obtain ⟨l, c, ad, rfl, hl, ok, k⟩ := h
    refine ⟨_, (pss_one (ps_ret (pe_lc (own := [("_law_name", 1), ("_law_start", 2), ("_law_post", 3), ("_law_stride", 4)]) rfl sc__law_opposite.nd (pi_list (pv 0)) (blkOk_by (N := ["_law_painters", "_law_name", "_law_start", "_law_post", "_law_stride"]) (sc := defScope s__law_opposite) (own := [("_law_name", 1), ("_law_start", 2), ("_law_post", 3), ("_law_stride", 4)]) (by decide +kernel)) (fun _ _ _ _ _ => (pg_tup4 (K := K) (i := 1) (j := 2) (l := 3) (n := 4) rfl rfl sc__law_opposite.nd rfl (Or.inl rfl) rfl (Or.inl rfl) rfl (Or.inl rfl) rfl (Or.inl rfl))) (fun _ _ _ _ _ => pts_nil) (fun _ _ _ _ _ => (pe_tup (pa_cons (pv 1) (pa_cons (pv 2) (pa_cons (pe_op op_sub pe_int (pv 3)) (pa_cons (pe_op op_sub pe_int (pv 4)) pa_nil))))))))), ?_⟩
    show (_ : TS) _ [some _, none, none, none, none] _
    have few := ok.few
    have hlen : (refsV ad c.n).length = c.n := firsts_len _ _
    walk_at "w"
    refine ⟨⟨_, hl.1⟩, fun D hD => ?_⟩
    refine lc_acc (walk_list (xs := refsV ad c.n)) hD (by omega) (fun i acc H' => Tk (∃ ad' : Nat → Addr, acc = refsV ad' i ∧ ∀ j, j < i → SqT K H' (ad' j) (lpV (c.nm j) (mirP (c.p j))))) (tk ⟨ad, rfl, fun j h => absurd h (Nat.not_lt_zero _)⟩) (fun i acc H' e _ => (hl.same e).1) ?_ ?_
    · rintro i v acc H4 H5 Nx hi hS4 hD4 ⟨ad', rfl, hA⟩ ⟨rfl, hz⟩ fin _
      obtain ⟨hi, rfl⟩ := firsts_at hz
      refine ⟨_, _, rfl, (hl.same hS4).2 i hi, rfl, ?_⟩
      walk_at "w"
      intro q hq
      have S5 := Same.new (o := .tup [.str (c.nm i), .int (c.p i).day, .int (0 - (c.p i).post), .int (0 - (c.p i).stride)]) hq
      have hq5 : SqT K (upd H5 q (.tup [.str (c.nm i), .int (c.p i).day, .int (0 - (c.p i).post), .int (0 - (c.p i).stride)])) q (lpV (c.nm i) (mirP (c.p i))) := by
        rw [Int.zero_sub, Int.zero_sub]
        exact SqT.of upd_same
      have hD5 := S5 _ _ hD4
      refine fin _ _ hD5 (hS4.trans S5) (tk ⟨fun j => if j = i then q else ad' j, ?_, fun j hj => ?_⟩)
      · show _ = firsts (fun j => V.ref (if j = i then q else ad' j)) (i + 1)
        rw [firsts_succ, if_pos rfl]
        congr 1
        exact firsts_congr fun j hj => by rw [if_neg (by omega)]
      · show SqT K _ (if j = i then q else ad' j) _
        by_cases e : j = i
        · rw [if_pos e, e]
          exact (SB.refl _ _).set.sqtO hD5 (fun _ z => by cases z) (fun _ _ z => by cases z) hq5
        · rw [if_neg e]
          exact (SB.refl _ _).set.sqtO hD5 (fun _ z => by cases z) (fun _ _ z => by cases z) (S5.sqt (hA j (by omega)))
    · rintro acc H4 hS4 hD4 ⟨ad', rfl, hA⟩
      rw [hlen] at hA hD4
      exact k D ad' H4 hS4 ⟨SqL.of hD4, hA⟩
def spLWhole : Sp := fun vs H Q _ => ∃ i, vs = [.int i] ∧ Q (.bl true) H
theorem sc__law_is_whole : FnScope ["_law_thing"] ["_law_thing"] (defScope s__law_is_whole) := C8.fnScope_by (by decide +kernel)
theorem ok_law_is_whole {f : Addr} (F : DF K "_law_is_whole" "_law_is_whole" s__law_is_whole f) (hm : mg "_law_is_whole" = some (.ref f)) (n_isinstance : mg "isinstance" = none) (n_int : mg "int" = none) (n_bool : mg "bool" = none) :
    C8.Cal P w K mg base 1 "_law_is_whole" spLWhole [] := by
  refine cal_of F hm sc__law_is_whole (fun _ _ _ _ _ _ us hl => match us, hl with | [_], _ => rfl) (fun vs H Q E h => ?_) (fun cdv A outer s H vs Q E hr h => ?_)
  · obtain ⟨i, rfl, _⟩ := h
    rfl
  · obtain ⟨i, rfl, k⟩ := h
    refine ⟨_, (pss_one (ps_ret (pe_and (pe_callB call_isi (by rfl) n_isinstance (by decide +kernel) (pa_cons (pv 0) (pa_cons (pe_bltn (v := .ty "int") (u := .type "int") (by rfl) n_int (by decide +kernel) rfl) pa_nil))) (pe_one (pe_not (pe_callB call_isi (by rfl) n_isinstance (by decide +kernel) (pa_cons (pv 0) (pa_cons (pe_bltn (v := .ty "bool") (u := .type "bool") (by rfl) n_bool (by decide +kernel) rfl) pa_nil)))))))), ?_⟩
    show (_ : TS) _ [some _] _
    walk_at "w"
    refine ⟨_, _, _, _, _, rfl, .ty _, .base (.int _), kit_ty (r := true) (by decide +kernel), ?_⟩
    walk_at "w"
    refine ⟨_, _, _, _, _, rfl, .ty _, .base (.int _), kit_ty (r := false) (by decide +kernel), ?_⟩
    walk_at "w"
    exact k
def spLBack : Sp := fun vs H Q _ => ∃ r : Option Int, vs = [optV r] ∧ Q (optV (r.map fun x => -x)) H
theorem sc__law_back : FnScope ["_law_told"] ["_law_told"] (defScope s__law_back) := C8.fnScope_by (by decide +kernel)
theorem ok_law_back {f : Addr} (F : DF K "_law_back" "_law_back" s__law_back f) (hm : mg "_law_back" = some (.ref f)) :
    C8.Cal P w K mg base 1 "_law_back" spLBack [] := by
  refine cal_of F hm sc__law_back (fun _ _ _ _ _ _ us hl => match us, hl with | [_], _ => rfl) (fun vs H Q E h => ?_) (fun cdv A outer s H vs Q E hr h => ?_)
  · obtain ⟨i, rfl, _⟩ := h
    rfl
  · obtain ⟨r, rfl, k⟩ := h
    refine ⟨_, (pss_one (ps_ret (pe_ifExp (pt_cmpR op_isN (pv 0) pe_non (nomark _)) pe_non (pe_op op_sub pe_int (pv 0))))), ?_⟩
    show (_ : TS) _ [some _] _
    cases r with
    | none =>
      walk_at "w"
      exact k
    | some z =>
      walk_at "w"
      show Q (.int (0 - z)) H
      rw [Int.zero_sub]
      exact k
/-! ### a small fence's last date -/
structure SmC (c : Crew) : Prop where
  lo : 1 ≤ c.n
  few : c.n ≤ 6
  d0 : ∀ i, i < c.n → 0 ≤ (c.p i).day
  d1 : ∀ i, i < c.n → (c.p i).day ≤ 6
  p0 : ∀ i, i < c.n → -8 ≤ (c.p i).post
  p1 : ∀ i, i < c.n → (c.p i).post ≤ 8
  s0 : ∀ i, i < c.n → -6 ≤ (c.p i).stride
  s1 : ∀ i, i < c.n → (c.p i).stride ≤ 6
  nz : ∀ i, i < c.n → (c.p i).stride ≠ 0
def spLFar (K : PySem.W.Frag) : Sp := fun vs H Q _ => ∃ (l : Addr) (c : Crew) (ad : Nat → Addr), vs = [.ref l] ∧ LpAt K H l c ad ∧ SmC c ∧ ∀ r H', Same H H' → 0 ≤ r → r ≤ 100 → Q (.int r) H'
theorem sc__law_far_date : FnScope ["_law_painters", "_law_reach", "_law_speed", "_law_late", "_law_painter"] ["_law_painters"] (defScope s__law_far_date) := C8.fnScope_by (by decide +kernel)
theorem ok_law_far_date {f : Addr} (F : DF K "_law_far_date" "_law_far_date" s__law_far_date f) (hm : mg "_law_far_date" = some (.ref f)) (n_max : mg "max" = none) (n_abs : mg "abs" = none) :
    C8.Cal P w K mg base 1 "_law_far_date" (spLFar K) [] := by
  refine cal_of F hm sc__law_far_date (fun _ _ _ _ _ _ us hl => match us, hl with | [_], _ => rfl) (fun vs H Q E h => ?_) (fun cdv A outer s H vs Q E hr h => ?_)
  · obtain ⟨l, c, ad, rfl, _⟩ := h
    rfl
  · obtain ⟨l, c, ad, rfl, hl, sm, k⟩ := h
    refine ⟨_, (pss_cons (ps_set (i := 1) sc__law_far_date.nd rfl (Or.inl rfl) (pe_callB (cr_max rfl) (by rfl) n_max (by decide +kernel) (pa_cons (pe_lc (own := [("_law_painter", 4)]) rfl sc__law_far_date.nd (pi_list (pv 0)) (blkOk_by (N := ["_law_painters", "_law_reach", "_law_speed", "_law_late", "_law_painter"]) (sc := defScope s__law_far_date) (own := [("_law_painter", 4)]) (by decide +kernel)) (fun _ _ _ _ _ => (pg_name (i := 4) sc__law_far_date.nd rfl (Or.inl rfl))) (fun _ _ _ _ _ => pts_nil) (fun _ _ _ _ _ => (pe_callB call_abs (by rfl) n_abs (by decide +kernel) (pa_cons (pe_ix (ix_tupK (K := K) rfl) (pv 4) pe_int (fun _ _ => rfl)) pa_nil)))) pa_nil)))
        (pss_cons (ps_set (i := 2) sc__law_far_date.nd rfl (Or.inl rfl) (pe_callB (cr_max rfl) (by rfl) n_max (by decide +kernel) (pa_cons (pe_lc (own := [("_law_painter", 4)]) rfl sc__law_far_date.nd (pi_list (pv 0)) (blkOk_by (N := ["_law_painters", "_law_reach", "_law_speed", "_law_late", "_law_painter"]) (sc := defScope s__law_far_date) (own := [("_law_painter", 4)]) (by decide +kernel)) (fun _ _ _ _ _ => (pg_name (i := 4) sc__law_far_date.nd rfl (Or.inl rfl))) (fun _ _ _ _ _ => pts_nil) (fun _ _ _ _ _ => (pe_callB call_abs (by rfl) n_abs (by decide +kernel) (pa_cons (pe_ix (ix_tupK (K := K) rfl) (pv 4) pe_int (fun _ _ => rfl)) pa_nil)))) pa_nil)))
        (pss_cons (ps_set (i := 3) sc__law_far_date.nd rfl (Or.inl rfl) (pe_callB (cr_max rfl) (by rfl) n_max (by decide +kernel) (pa_cons (pe_lc (own := [("_law_painter", 4)]) rfl sc__law_far_date.nd (pi_list (pv 0)) (blkOk_by (N := ["_law_painters", "_law_reach", "_law_speed", "_law_late", "_law_painter"]) (sc := defScope s__law_far_date) (own := [("_law_painter", 4)]) (by decide +kernel)) (fun _ _ _ _ _ => (pg_name (i := 4) sc__law_far_date.nd rfl (Or.inl rfl))) (fun _ _ _ _ _ => pts_nil) (fun _ _ _ _ _ => (pe_ix (ix_tupK (K := K) rfl) (pv 4) pe_int (fun _ _ => rfl)))) pa_nil)))
        (pss_one (ps_ret (pe_op op_add (pe_op op_add (pe_op op_add (pe_op op_add (pe_op op_mulB pe_int (pv 1)) (pe_op op_mulB (pv 2) (pv 3))) (pe_op op_mulB pe_int (pv 2))) (pv 3)) pe_int)))))), ?_⟩
    show (_ : TS) _ [some _, none, none, none, none] _
    have few := sm.few
    have lo := sm.lo
    have hlen : (refsV ad c.n).length = c.n := firsts_len _ _
    walk_at "w"
    refine ⟨⟨_, hl.1⟩, fun D hD => ?_⟩
    refine lc_acc (walk_list (xs := refsV ad c.n)) hD (by omega) (fun i acc H' => acc = (firsts (fun i => if (c.p i).post < 0 then -(c.p i).post else (c.p i).post) i).map V.int) rfl (fun i acc H' e _ => (hl.same e).1) ?_ ?_
    · rintro i v acc H4 H5 Nx hi hS4 hD4 rfl ⟨rfl, hz⟩ fin _
      obtain ⟨hi, rfl⟩ := firsts_at hz
      have hti := (hl.same hS4).2 i hi
      walk_at "w"
      exact fin _ _ hD4 hS4 (by rw [firsts_succ, List.map_append]; rfl)
    rintro acc H1 hS1 hD1 rfl
    rw [hlen] at hD1
    have S1 := (Same.refl H).trans hS1
    refine tNil_of ?_
    refine ⟨D, _, rfl, SqL.of hD1, by rw [firsts_len]; omega, fun reach hm1 _ => ?_⟩
    have b1 : 0 ≤ reach ∧ reach ≤ 8 := by
      obtain ⟨j, hj, rfl⟩ := firsts_mem.mp hm1
      have := sm.d0 j hj
      have := sm.d1 j hj
      have := sm.p0 j hj
      have := sm.p1 j hj
      have := sm.s0 j hj
      have := sm.s1 j hj
      constructor <;> (try split) <;> omega
    clear hD hD1
    walk_at "w"
    refine ⟨⟨_, (hl.same S1).1⟩, fun D hD => ?_⟩
    refine lc_acc (walk_list (xs := refsV ad c.n)) hD (by omega) (fun i acc H' => acc = (firsts (fun i => if (c.p i).stride < 0 then -(c.p i).stride else (c.p i).stride) i).map V.int) rfl (fun i acc H' e _ => ((hl.same S1).same e).1) ?_ ?_
    · rintro i v acc H4 H5 Nx hi hS4 hD4 rfl ⟨rfl, hz⟩ fin _
      obtain ⟨hi, rfl⟩ := firsts_at hz
      have hti := ((hl.same S1).same hS4).2 i hi
      walk_at "w"
      exact fin _ _ hD4 hS4 (by rw [firsts_succ, List.map_append]; rfl)
    rintro acc H2 hS2 hD2 rfl
    rw [hlen] at hD2
    have S2 := S1.trans hS2
    refine tNil_of ?_
    refine ⟨D, _, rfl, SqL.of hD2, by rw [firsts_len]; omega, fun speed hm2 _ => ?_⟩
    have b2 : 0 ≤ speed ∧ speed ≤ 6 := by
      obtain ⟨j, hj, rfl⟩ := firsts_mem.mp hm2
      have := sm.d0 j hj
      have := sm.d1 j hj
      have := sm.p0 j hj
      have := sm.p1 j hj
      have := sm.s0 j hj
      have := sm.s1 j hj
      constructor <;> (try split) <;> omega
    clear hD hD2
    walk_at "w"
    refine ⟨⟨_, (hl.same S2).1⟩, fun D hD => ?_⟩
    refine lc_acc (walk_list (xs := refsV ad c.n)) hD (by omega) (fun i acc H' => acc = (firsts (fun i => (c.p i).day) i).map V.int) rfl (fun i acc H' e _ => ((hl.same S2).same e).1) ?_ ?_
    · rintro i v acc H4 H5 Nx hi hS4 hD4 rfl ⟨rfl, hz⟩ fin _
      obtain ⟨hi, rfl⟩ := firsts_at hz
      have hti := ((hl.same S2).same hS4).2 i hi
      walk_at "w"
      exact fin _ _ hD4 hS4 (by rw [firsts_succ, List.map_append]; rfl)
    rintro acc H3 hS3 hD3 rfl
    rw [hlen] at hD3
    have S3 := S2.trans hS3
    refine tNil_of ?_
    refine ⟨D, _, rfl, SqL.of hD3, by rw [firsts_len]; omega, fun late hm3 _ => ?_⟩
    have b3 : 0 ≤ late ∧ late ≤ 6 := by
      obtain ⟨j, hj, rfl⟩ := firsts_mem.mp hm3
      have := sm.d0 j hj
      have := sm.d1 j hj
      have := sm.p0 j hj
      have := sm.p1 j hj
      have := sm.s0 j hj
      have := sm.s1 j hj
      constructor <;> (try split) <;> omega
    clear hD hD3
    have B1 : Bd reach := ⟨by omega, by omega⟩
    have B2 : Bd speed := ⟨by omega, by omega⟩
    have B3 : Bd late := ⟨by omega, by omega⟩
    have B0 : Bd (2 : Int) := ⟨by decide, by decide⟩
    walk_at "w"
    have q0 : 0 ≤ speed * late := Int.mul_nonneg b2.1 b3.1
    have q1 : speed * late ≤ 6 * 6 := Int.mul_le_mul b2.2 b3.2 b3.1 (by decide)
    exact k _ _ S3 (by omega) (by omega)
end
end PK
end
section
set_option linter.all false
/-! the walk day by day, turn by turn -/
namespace PM
structure DayS (n : Nat) (p : Nat → Pt) (L : Nat → Option Int) (T : Int) (k : Nat) (painted : Int → Option Int) (fs : List Int) (bs : Nat → Bool) : Prop where
  pt : ∀ x d, painted x = some d ↔ PaintedAt n p L x d ∧ d < T
  fr : ∀ x, x ∈ fs ↔ ∃ a j, a < k ∧ Pa L a j ∧ (p a).at_ j = x ∧ (p a).day + j = T
  ha : ∀ a, a < n → (bs a = true ↔ ∃ c, L a = some c ∧ ((p a).day + c < T ∨ (a < k ∧ (p a).day + c = T)))
section
variable {n : Nat} {p : Nat → Pt} {L : Nat → Option Int} {T : Int} {k : Nat} {painted : Int → Option Int} {fs : List Int} {bs : Nat → Bool}
theorem DayS.start (hd : ∀ a, a < n → 0 ≤ (p a).day) (nn : ∀ a c, a < n → L a = some c → 0 ≤ c) : DayS n p L 0 0 (fun _ => none) [] (fun _ => false) := by
  refine ⟨fun x d => ⟨fun z => (by cases z), fun ⟨⟨a, j, ha, pa, e1, e2⟩, h⟩ => ?_⟩, fun x => ⟨fun z => (by cases z), fun ⟨a, j, h, _⟩ => absurd h (Nat.not_lt_zero _)⟩, fun a ha => ⟨fun z => (by cases z), fun ⟨c, e, h⟩ => ?_⟩⟩
  · have := hd a ha
    have := pa.1
    omega
  · have := hd a ha
    have := nn a c ha e
    omega
/-- the post of a on the day T -/
theorem DayS.skip (D : DayS n p L T k painted fs bs) (hk : k < n) (nn : ∀ a c, a < n → L a = some c → 0 ≤ c) (h : T < (p k).day ∨ bs k = true) : DayS n p L T (k + 1) painted fs bs := by
  have no : ∀ j, Pa L k j → (p k).day + j ≠ T := fun j pj e => by
    rcases h with h | h
    · have := pj.1
      omega
    · obtain ⟨c, e2, h2⟩ := (D.ha k hk).mp h
      have := pj.2 c e2
      omega
  have no2 : ∀ c, L k = some c → (p k).day + c ≠ T := fun c e2 e => by
    rcases h with h | h
    · have := nn k c hk e2
      omega
    · obtain ⟨c', e3, h2⟩ := (D.ha k hk).mp h
      rw [e2] at e3
      injection e3 with e3
      omega
  refine ⟨D.pt, fun x => ⟨fun z => ?_, fun ⟨a, j, ha, pa, e1, e2⟩ => ?_⟩, fun a ha => ⟨fun z => ?_, fun ⟨c, e, h⟩ => ?_⟩⟩
  · obtain ⟨a, j, ha, pa, e1, e2⟩ := (D.fr x).mp z
    exact ⟨a, j, by omega, pa, e1, e2⟩
  · by_cases q : a = k
    · rw [q] at e2 pa
      exact absurd e2 (no j pa)
    · exact (D.fr x).mpr ⟨a, j, by omega, pa, e1, e2⟩
  · obtain ⟨c, e, h⟩ := (D.ha a ha).mp z
    exact ⟨c, e, by omega⟩
  · by_cases q : a = k
    · rw [q] at e h
      have := no2 c e
      exact (D.ha a ha).mpr ⟨c, by rw [q]; exact e, by rw [q]; omega⟩
    · exact (D.ha a ha).mpr ⟨c, e, by omega⟩
theorem DayS.lim (D : DayS n p L T k painted fs bs) (hk : k < n) (hb : bs k = false) : ∀ c, L k = some c → T ≤ (p k).day + c := fun c e => by
  by_cases q : (p k).day + c < T
  · have := (D.ha k hk).mpr ⟨c, e, .inl q⟩
    rw [hb] at this
    cases this
  · omega
theorem DayS.hit_iff (D : DayS n p L T k painted fs bs) (h : IsHist n p L) (hk : k < n) (hs : (p k).stride ≠ 0) (hd : (p k).day ≤ T) (hb : bs k = false) :
    ((∃ d, painted ((p k).at_ (T - (p k).day)) = some d) ∨ (p k).at_ (T - (p k).day) ∈ fs) ↔ L k = some (T - (p k).day) := by
  rw [← sim_hit h hk hs hd (D.lim hk hb)]
  constructor
  · rintro (⟨d, e⟩ | e)
    · obtain ⟨⟨a, j, ha, pa, e1, e2⟩, h2⟩ := (D.pt _ _).mp e
      exact ⟨a, j, ha, pa, e1, .inl (by omega)⟩
    · obtain ⟨a, j, ha, pa, e1, e2⟩ := (D.fr _).mp e
      exact ⟨a, j, by omega, pa, e1, .inr ⟨ha, e2⟩⟩
  · rintro ⟨b, j, hb', pb, e1, e2 | ⟨e2, e3⟩⟩
    · exact .inl ⟨_, (D.pt _ _).mpr ⟨⟨b, j, hb', pb, e1, rfl⟩, e2⟩⟩
    · exact .inr ((D.fr _).mpr ⟨b, j, e2, pb, e1, e3⟩)
theorem DayS.halt (D : DayS n p L T k painted fs bs) (h : IsHist n p L) (hk : k < n) (hs : (p k).stride ≠ 0) (hd : (p k).day ≤ T) (hb : bs k = false) (hh : (∃ d, painted ((p k).at_ (T - (p k).day)) = some d) ∨ (p k).at_ (T - (p k).day) ∈ fs) :
    DayS n p L T (k + 1) painted fs (fun a => if a = k then true else bs a) := by
  have e0 := (D.hit_iff h hk hs hd hb).mp hh
  refine ⟨D.pt, fun x => ⟨fun z => ?_, fun ⟨a, j, ha, pa, e1, e2⟩ => ?_⟩, fun a ha => ?_⟩
  · obtain ⟨a, j, ha, pa, e1, e2⟩ := (D.fr x).mp z
    exact ⟨a, j, by omega, pa, e1, e2⟩
  · by_cases q : a = k
    · rw [q] at e2 pa
      have := pa.2 _ e0
      omega
    · exact (D.fr x).mpr ⟨a, j, by omega, pa, e1, e2⟩
  · show (if a = k then true else bs a) = true ↔ _
    by_cases q : a = k
    · rw [if_pos q, q]
      exact ⟨fun _ => ⟨_, e0, .inr ⟨Nat.lt_succ_self _, by omega⟩⟩, fun _ => rfl⟩
    · rw [if_neg q, D.ha a ha]
      constructor
      · rintro ⟨c, e, h⟩
        exact ⟨c, e, by omega⟩
      · rintro ⟨c, e, h⟩
        exact ⟨c, e, by omega⟩
theorem DayS.paint (D : DayS n p L T k painted fs bs) (h : IsHist n p L) (hk : k < n) (hs : (p k).stride ≠ 0) (hd : (p k).day ≤ T) (hb : bs k = false) (hh : ¬ ((∃ d, painted ((p k).at_ (T - (p k).day)) = some d) ∨ (p k).at_ (T - (p k).day) ∈ fs)) :
    DayS n p L T (k + 1) painted (fs ++ [(p k).at_ (T - (p k).day)]) bs := by
  have e0 : ¬ L k = some (T - (p k).day) := fun e => hh ((D.hit_iff h hk hs hd hb).mpr e)
  have pk := sim_paint hd (D.lim hk hb) e0
  refine ⟨D.pt, fun x => ?_, fun a ha => ?_⟩
  · rw [List.mem_append, List.mem_singleton, D.fr]
    constructor
    · rintro (⟨a, j, ha, pa, e1, e2⟩ | e)
      · exact ⟨a, j, by omega, pa, e1, e2⟩
      · exact ⟨k, _, Nat.lt_succ_self _, pk, e.symm, by omega⟩
    · rintro ⟨a, j, ha, pa, e1, e2⟩
      by_cases q : a = k
      · refine .inr ?_
        rw [q] at e1 e2
        rw [← e1, show j = T - (p k).day by omega]
      · exact .inl ⟨a, j, by omega, pa, e1, e2⟩
  · rw [D.ha a ha]
    constructor
    · rintro ⟨c, e, h⟩
      exact ⟨c, e, by omega⟩
    · rintro ⟨c, e, h⟩
      by_cases q : a = k
      · rw [q] at e h
        have := e0
        by_cases q2 : c = T - (p k).day
        · rw [q2] at e
          exact absurd e e0
        · exact ⟨c, by rw [q]; exact e, by rw [q]; omega⟩
      · exact ⟨c, e, by omega⟩
theorem DayS.next (D : DayS n p L T n painted fs bs) (h : IsHist n p L) (hs : ∀ a, a < n → (p a).stride ≠ 0) : DayS n p L (T + 1) 0 (fun x => if x ∈ fs then some T else painted x) [] bs := by
  refine ⟨fun x d => ?_, fun x => ⟨fun z => (by cases z), fun ⟨a, j, h, _⟩ => absurd h (Nat.not_lt_zero _)⟩, fun a ha => ?_⟩
  · show (if x ∈ fs then some T else painted x) = some d ↔ _
    by_cases q : x ∈ fs
    · rw [if_pos q]
      obtain ⟨a, j, ha, pa, e1, e2⟩ := (D.fr x).mp q
      have h1 : PaintedAt n p L x T := ⟨a, j, ha, pa, e1, e2⟩
      constructor
      · intro e
        injection e with e
        rw [← e]
        exact ⟨h1, by omega⟩
      · rintro ⟨h2, _⟩
        rw [painted_uniq h hs h1 h2]
    · rw [if_neg q, D.pt]
      constructor
      · rintro ⟨h1, h2⟩
        exact ⟨h1, by omega⟩
      · rintro ⟨h1, h2⟩
        refine ⟨h1, ?_⟩
        by_cases e : d = T
        · obtain ⟨a, j, ha, pa, e1, e2⟩ := h1
          exact absurd ((D.fr x).mpr ⟨a, j, ha, pa, e1, by omega⟩) q
        · omega
  · rw [D.ha a ha]
    constructor
    · rintro ⟨c, e, h⟩
      exact ⟨c, e, by omega⟩
    · rintro ⟨c, e, h⟩
      exact ⟨c, e, by omega⟩
end
end PM
end
section
set_option Elab.async false
set_option linter.all false
set_option maxRecDepth 100000
set_option maxHeartbeats 4000000
namespace PK
open PySem PySem.Spec PyProof.Rows L2
/-! ### d.update(d2) -/
def rUpdate : V → List V → Hp → VK → Prop := fun x vs H Q => ∃ a b kvs more, x = .ref a ∧ vs = [.ref b] ∧ H a = some (.dK kvs) ∧ H b = some (.dK more) ∧ a ≠ b ∧ kvs.length + more.length ≤ sizeLine ∧ Q .non (upd H a (.dK (mergeK kvs more)))
theorem mt_update {X : Cx} : MtR X "dict.update" rUpdate := by
  intro pins s σ H x vs v us Q I rx rv h
  obtain ⟨a, b, kvs, more, rfl, rfl, hA, hB, hne, hz, q⟩ := h
  cases rx
  obtain ⟨u, rfl, ru⟩ := rv.one
  cases ru
  obtain ⟨z, hd, vs, rel, dd⟩ := dk_of I.hok hA
  obtain ⟨z2, hd2, vs2, rel2, dd2⟩ := dk_of I.hok hB
  refine call_meetsIn PySem.F.slot_dict_update dd.typeIs PySem.F.entry_dict_update (PySem.F.args_dict_update_2 _ _) (meets_dict_update (mixKind X.prog X.w) a b hne hd2)
    ⟨vs, vs2, dd, dd2, by rw [← rel.length, ← rel2.length]; exact hz, fun h' dd' _ hs => ?_⟩
  have he : ∃ q, h'.get? a = some q := let ⟨q, _, _, hq, _⟩ := dd'; ⟨q, hq⟩
  exact ⟨.non, _, d_write I (by rw [hA]; exact True.intro) hs he (dk_new (Nat.le_trans (length_mergeK more kvs) hz) hd (rel2.merge rel) dd'), rfl, q⟩
theorem merge_all {more : List (Key × V)} {v : V} {k : Key} : ∀ {kvs : List (Key × V)}, (∀ q, q ∈ more → q.2 = v) → valV (mergeK kvs more) k = if (valV more k).isSome = true then some v else valV kvs k := by
  induction more with
  | nil => intro kvs _; rfl
  | cons p r ih =>
    intro kvs h
    show valV (mergeK (putK kvs p.1 p.2) r) k = _
    rw [ih fun q hq => h q (List.mem_cons_of_mem _ hq), valV_put, h p (List.mem_cons_self ..)]
    by_cases e : p.1 = k
    · rw [valV_pos e, if_pos e.symm]
      show _ = some v
      by_cases q : (valV r k).isSome = true
      · rw [if_pos q]
      · rw [if_neg q]
    · rw [valV_neg e]
      by_cases q : (valV r k).isSome = true
      · rw [if_pos q, if_pos q]
      · rw [if_neg q, if_neg q, if_neg fun z => e z.symm]
theorem put_all {kvs : List (Key × V)} {k : Key} {v : V} (h : ∀ q, q ∈ kvs → q.2 = v) : ∀ q, q ∈ putK kvs k v → q.2 = v := by
  intro q hq
  unfold putK at hq
  split at hq
  · obtain ⟨p, hp, rfl⟩ := List.mem_map.mp hq
    split
    · rfl
    · exact h p hp
  · rcases List.mem_append.mp hq with hq | hq
    · exact h q hq
    · rw [List.mem_singleton.mp hq]
theorem merged_all {more : List (Key × V)} {v : V} : ∀ {kvs : List (Key × V)}, (∀ q, q ∈ kvs → q.2 = v) → (∀ q, q ∈ more → q.2 = v) → ∀ q, q ∈ mergeK kvs more → q.2 = v := by
  induction more with
  | nil => intro kvs h _; exact h
  | cons p r ih =>
    intro kvs h h2
    refine ih (kvs := putK kvs p.1 p.2) ?_ fun q hq => h2 q (List.mem_cons_of_mem _ hq)
    rw [h2 p (List.mem_cons_self ..)]
    exact put_all h
theorem valV_ints {fs : List Int} {x : Int} {v : V} : valV (fs.map fun y => ((Sum.inl y : Key), v)) (Sum.inl x) = if x ∈ fs then some v else none := by
  induction fs with
  | nil => rfl
  | cons y r ih =>
    rw [List.map_cons]
    by_cases e : (Sum.inl y : Key) = Sum.inl x
    · have e' : y = x := by injection e
      rw [valV_pos e, if_pos (by rw [e']; exact List.mem_cons_self ..)]
    · have e' : ¬ x = y := fun z => e (by rw [z])
      rw [valV_neg e, ih]
      by_cases q : x ∈ r
      · rw [if_pos q, if_pos (List.mem_cons_of_mem _ q)]
      · rw [if_neg q, if_neg fun z => by
          rcases List.mem_cons.mp z with z | z
          · exact e' z
          · exact q z]
/-- the posts of a day, told with it -/
theorem merge_day {kvs : List (Key × V)} {fs : List Int} {x : Int} {v : V} : valV (mergeK kvs (mergeK [] (fs.map fun y => ((Sum.inl y : Key), v)))) (Sum.inl x) = if x ∈ fs then some v else valV kvs (Sum.inl x) := by
  have h1 : ∀ q, q ∈ fs.map (fun y => ((Sum.inl y : Key), v)) → q.2 = v := fun q hq => by
    obtain ⟨y, _, rfl⟩ := List.mem_map.mp hq
    rfl
  rw [merge_all (v := v) (merged_all (fun q hq => absurd hq (List.not_mem_nil)) h1), merge_all h1, valV_ints]
  by_cases q : x ∈ fs
  · rw [if_pos q, if_pos q]
    rfl
  · rw [if_neg q, if_neg q]
    rfl
end PK
end
section
set_option Elab.async false
set_option linter.all false
set_option maxRecDepth 100000
set_option maxHeartbeats 4000000
namespace PK
open PySem PySem.Spec PyProof.Rows L2 PM
local macro_rules | `(tactic| walk_at "sd") => `(tactic| (first
  | assumption
  | omega
  | (constructor <;> omega)
  | (refine ⟨by omega, ?_⟩; constructor <;> omega)
  | (constructor <;> (first | assumption | omega | (constructor <;> omega)))))
local macro_rules | `(tactic| walk_at "w") => `(tactic| (repeat (first
  | with_reducible refine ifTT ?_
  | with_reducible refine ifFT ?_
  | with_reducible refine ifnT ?_
  | with_reducible refine ifnF ?_
  | with_reducible refine ifIN ?_
  | with_reducible refine ifNN ?_
  | with_reducible refine ifnIN ?_
  | with_reducible refine ifnNN ?_
  | with_reducible refine ifRN ?_
  | with_reducible refine ifnRN ?_
  | ((fail_if_success with_reducible refine iteB ?_ ?_); first
    | refine ⟨_, rfl, ?_⟩
    | refine ⟨_, _, rfl, rfl, ?_⟩
    | refine ⟨_, _, rfl, ?_⟩
    | refine And.intro (a := (_ : Nat) ≤ sizeLine) (by first | exact len_small (m := 2) rfl | exact len_small (m := 1) rfl | exact len_small (m := 4) rfl | exact len_small (m := 3) rfl | exact len_small (m := 0) rfl) ?_
    | refine Or.inl ⟨_, rfl, ?_⟩
    | refine ⟨rfl, ?_⟩
    | refine And.intro (a := (_ : Int) ≤ _) (by omega) ?_
    | refine And.intro (a := (_ : Int) < _) (by omega) ?_
    | refine And.intro (a := (_ : Nat) ≤ _) (by omega) ?_
    | refine And.intro (a := (_ : Nat) < _) (by omega) ?_
    | refine And.intro (a := CDivP _ _) (by walk_at "sd") ?_
    | refine And.intro (a := CDivB _ _) (by walk_at "sd") ?_
    | refine And.intro (a := CMulB _ _) (by walk_at "sd") ?_
    | refine And.intro (a := _ ≠ (0 : Int)) (by walk_at "sd") ?_
    | refine And.intro (a := (0 : Int) < _) (by walk_at "sd") ?_
    | refine ⟨_, _, rfl, ‹_›, rfl, ?_⟩
    | refine ⟨_, _, _, _, rfl, rfl, ‹_›, rfl, ?_⟩
    | refine ⟨_, _, _, _, rfl, rfl, by assumption, by assumption, ?_⟩
    | refine ⟨_, _, _, _, _, _, rfl, ‹_›, ‹_›, rfl, ?_⟩
    | refine ⟨_, _, _, _, _, _, rfl, ‹_›, (by exact KCls.f ‹_› rfl), (by rfl), ?_⟩
    | refine ⟨_, _, _, _, _, _, rfl, upd_same, ‹_›, (by rfl), ?_⟩
    | refine ⟨_, _, _, _, _, _, rfl, ‹_›, ‹Cls _ _›, ‹_›, rfl, ?_⟩
    | refine ⟨_, _, _, _, rfl, ‹_›, by decide +kernel, ?_⟩
    | refine ⟨_, _, _, rfl, ‹_›, ?_⟩
    | refine ⟨_, _, _, _, rfl, by assumption, ?_⟩
    | refine And.intro (by assumption) ?_))))
section
variable {P : Program} {w : World} {K : PySem.W.Frag} {mg : Str → Option Value} {base : Heap}
/-! ### the law's walk day by day -/
theorem inV_ints {x : Int} {fs : List Int} : inV (.int x) (fs.map V.int) = decide (x ∈ fs) := by
  unfold inV
  induction fs with
  | nil => rfl
  | cons y r ih =>
    rw [List.map_cons, List.any_cons, ih]
    have e1 : eqV (V.int y) (V.int x) = decide (x = y) := by
      show (y == x) = decide (x = y)
      by_cases e : x = y
      · rw [decide_eq_true e, e]
        exact beq_self_eq_true y
      · rw [decide_eq_false e]
        exact beq_eq_false_iff_ne.mpr fun z => e z.symm
    rw [e1]
    by_cases e : x = y
    · rw [decide_eq_true e, decide_eq_true (show x ∈ y :: r by rw [e]; exact List.mem_cons_self ..)]
      rfl
    · rw [decide_eq_false e, Bool.false_or]
      apply decide_eq_decide.mpr
      constructor
      · exact fun h => List.mem_cons_of_mem _ h
      · intro h
        rcases List.mem_cons.mp h with h | h
        · exact absurd h e
        · exact h
theorem paired_snocG {α β : Type} {F : α → β → Prop} : ∀ {l : List α} {m : List β} {x : α} {y : β}, Paired F l m → F x y → Paired F (l ++ [x]) (m ++ [y])
  | _, _, _, _, .nil, h => .cons h .nil
  | _, _, _, _, .cons a b, h => .cons a (paired_snocG b h)
/-- what is painted, as the dict tells it -/
def DictP (kvs : Tab) (painted : Int → Option Int) : Prop := ∀ x, valV kvs (Sum.inl x) = (painted x).map V.int
def spLWalked (K : PySem.W.Frag) : Sp := fun vs H Q _ => ∃ (l : Addr) (c : Crew) (ad : Nat → Addr) (U : Int), vs = [.ref l, .int U] ∧ LpAt K H l c ad ∧ SmC c ∧ 0 ≤ U ∧ U ≤ 300
  ∧ ∀ r hl pd kvs painted H', Same H H' → SqT K H' r [.ref hl, .ref pd] → H' pd = some (.dK kvs) → H pd = none → DictP kvs painted → (∀ L, LimOk c L → ∀ x d, painted x = some d ↔ PaintedAt c.n c.p L x d ∧ d < U + 1) → Q (.ref r) H'
theorem sc__law_walked : FnScope ["_law_painters", "_law_until", "_law_painted", "_law_halted", "_law_date", "_law_fresh", "_law_k", "_law_post"] ["_law_painters", "_law_until"] (defScope s__law_walked) := C8.fnScope_by (by decide +kernel)
theorem ok_law_walked {f : Addr} (F : DF K "_law_walked" "_law_walked" s__law_walked f) (hm : mg "_law_walked" = some (.ref f)) (n_len : mg "len" = none) (n_range : mg "range" = none) (n_dict : mg "dict" = none) :
    C8.Cal P w K mg base 1 "_law_walked" (spLWalked K) [] := by
  refine cal_of F hm sc__law_walked (fun _ _ _ _ _ _ us hl => match us, hl with | [_, _], _ => rfl) (fun vs H Q E h => ?_) (fun cdv A outer s H vs Q E hr h => ?_)
  · obtain ⟨l, c, ad, U, rfl, _⟩ := h
    rfl
  · obtain ⟨l, c, ad, U, rfl, hl, sm, u0, u1, k⟩ := h
    have hu := units1 hr
    refine ⟨_, (pss_cons (ps_par (i := 2) (j := 3) rfl sc__law_walked.nd rfl rfl (by decide) rfl rfl (pa_cons pe_dnewK (pa_cons (pe_op op_rep (pe_lst (pa_cons pe_bl pa_nil)) (pe_callB call_len (by rfl) n_len (by decide +kernel) (pa_cons (pv 0) pa_nil))) pa_nil)) (by rfl))
        (pss_cons (ps_for PassesOwn.never rfl (pi_range1 (by rfl) n_range (pa_cons (pe_op op_add (pv 1) pe_int) pa_nil)) (pg_name (i := 4) sc__law_walked.nd rfl (Or.inr rfl))
           (pss_cons (ps_set (i := 5) sc__law_walked.nd rfl (Or.inl rfl) (pe_lst pa_nil))
           (pss_cons (ps_for PassesOwn.never rfl (pi_range1 (by rfl) n_range (pa_cons (pe_callB call_len (by rfl) n_len (by decide +kernel) (pa_cons (pv 0) pa_nil)) pa_nil)) (pg_name (i := 6) sc__law_walked.nd rfl (Or.inl rfl))
              (pss_cons (ps_set (i := 7) sc__law_walked.nd rfl (Or.inl rfl) (pe_op op_add (pe_ix ix_tup (pe_ix ix_list (pv 0) (pv 6) (fun _ _ => rfl)) pe_int (fun _ _ => rfl)) (pe_op op_mulB (pe_op op_sub (pv 4) (pe_ix ix_tup (pe_ix ix_list (pv 0) (pv 6) (fun _ _ => rfl)) pe_int (fun _ _ => rfl))) (pe_ix ix_tup (pe_ix ix_list (pv 0) (pv 6) (fun _ _ => rfl)) pe_int (fun _ _ => rfl)))))
              (pss_one (ps_if (PW.pt (pw_and (pt_cmpR op_ge (pv 4) (pe_ix ix_tup (pe_ix ix_list (pv 0) (pv 6) (fun _ _ => rfl)) pe_int (fun _ _ => rfl)) (nomark _)) (pw_and1 (pt_not (pt_val (pe_ix ix_list (pv 3) (pv 6) (fun _ _ => rfl))))))) (pss_one (ps_if (PW.pt (pw_or (pt_cmp (pc_din hu (pv 7) (pv 2))) (pw_or1 (pt_cmpR op_in_seq (pv 7) (pv 5) (by rfl))))) (pss_one (ps_asg pe_bl (pg_sub (pv 3) (pv 6) set_list)))
                  (pss_one (ps_expr (pe_bm PySem.F.plainAttrs_list PySem.F.slot_list_append PySem.F.type_list_append mt_append (pv 5) (pa_cons (pv 7) pa_nil))))))
                pss_nil))))
           (pss_one (ps_expr (pe_bm PySem.F.plainAttrs_dict PySem.F.slot_dict_update PySem.F.type_dict_update mt_update (pv 2) (pa_cons (pe_callTy (call_dictP rfl) (by rfl) n_dict (by decide +kernel) (pa_cons (pe_lc (own := [("_law_post", 7)]) rfl sc__law_walked.nd (pi_list (pv 5)) (blkOk_by (N := ["_law_painters", "_law_until", "_law_painted", "_law_halted", "_law_date", "_law_fresh", "_law_k", "_law_post"]) (sc := defScope s__law_walked) (own := [("_law_post", 7)]) (by decide +kernel)) (fun _ _ _ _ _ => (pg_name (i := 7) sc__law_walked.nd rfl (Or.inl rfl))) (fun _ _ _ _ _ => pts_nil) (fun _ _ _ _ _ => (pe_tup (pa_cons (pv 7) (pa_cons (pv 4) pa_nil))))) pa_nil)) pa_nil)))))))
        (pss_one (ps_ret (pe_tup (pa_cons (pv 3) (pa_cons (pv 2) pa_nil))))))), ?_⟩
    show (_ : TS) _ [some _, some _, none, none, none, none, none, none] _
    have few := sm.few
    have hlen : (refsV ad c.n).length = c.n := firsts_len _ _
    walk_at "w"
    intro pd hpd
    have S1 := Same.new (o := .dK []) hpd
    walk_at "w"
    intro l1 hl1
    have S2 := S1.trans (Same.new (o := .lst [.bl false]) hl1)
    walk_at "w"
    refine tNil_of ?_
    refine ⟨_, _, rfl, .inl ⟨_, (hl.same S2).1, rfl⟩, ?_⟩
    rw [hlen]
    refine ⟨l1, _, _, rfl, rfl, upd_same, by omega, by omega, by rw [List.length_singleton, Int.toNat_natCast]; exact len_of (m := 40) (by omega), fun ha hha => ?_⟩
    rw [rep_firsts] at *
    have S3 := S2.trans (Same.new (o := .lst (firsts (fun _ => V.bl false) c.n)) hha)
    have hpdn : l1 ≠ pd := fun z => by rw [z, upd_same] at hl1; cases hl1
    have hhap : ha ≠ pd := fun z => by rw [z, upd_ne hpdn.symm, upd_same] at hha; cases hha
    have hpd3 : (upd (upd (upd H pd (.dK [])) l1 (.lst [.bl false])) ha (.lst (firsts (fun _ => V.bl false) c.n))) pd = some (.dK []) := by
      rw [upd_ne hhap.symm, upd_ne hpdn.symm, upd_same]
    have hha3 : (upd (upd (upd H pd (.dK [])) l1 (.lst [.bl false])) ha (.lst (firsts (fun _ => V.bl false) c.n))) ha = some (.lst (firsts (fun _ => V.bl false) c.n)) := upd_same
    have hhaH : H ha = none := none_back S2 hha
    generalize (upd (upd (upd H pd (.dK [])) l1 (.lst [.bl false])) ha (.lst (firsts (fun _ => V.bl false) c.n))) = H3 at S3 hpd3 hha3 ⊢
    walk_at "w"
    have nz : ∀ a, a < c.n → (c.p a).stride ≠ 0 := sm.nz
    refine for_it walk_range (fun i σ H' => Tk (Same H H' ∧ ∃ (kvs : Tab) (painted : Int → Option Int) (bs : Nat → Bool) (o4 o5 o6 o7 : Option V), σ = [some (.ref l), some (.int U), some (.ref pd), some (.ref ha), o4, o5, o6, o7] ∧ H' pd = some (.dK kvs) ∧ H' ha = some (.lst (firsts (fun a => V.bl (bs a)) c.n)) ∧ kvs.length ≤ i * 6 ∧ DictP kvs painted ∧ ∀ L, LimOk c L → DayS c.n c.p L (0 + (i : Nat)) 0 painted [] bs))
      (tk ⟨S3, [], fun _ => none, fun _ => false, none, none, none, none, rfl, hpd3, hha3, Nat.zero_le _, fun _ => rfl, fun L lim => (by rw [show (0 : Int) + ((0 : Nat) : Int) = 0 from rfl]; exact DayS.start sm.d0 fun a z ha e => (lim.nn a z ha e).1)⟩) (fun _ _ _ _ _ => trivial) ?_ ?_
    · rintro i v σ H4 H5 hi ⟨S4, kvs, painted, bs, o4, o5, o6, o7, rfl, hpd4, hha4, hkl, hD, hS⟩ ⟨rfl, rfl⟩
      have hi : i < 301 := by omega
      walk_at "w"
      intro fa hfa
      have S5' := Same.new (o := .lst []) hfa
      have S5 := S4.trans S5'
      have hpd5 := S5' _ _ hpd4
      have hha5 := S5' _ _ hha4
      have hfaH : H fa = none := none_back S4 hfa
      have nfh : ha ≠ fa := ne_of_none hha4 hfa
      have hfa5 : (upd H5 fa (.lst [])) fa = some (.lst (([] : List Int).map V.int)) := upd_same
      generalize upd H5 fa (.lst []) = H6 at S5 hpd5 hha5 hfa5 ⊢
      walk_at "w"
      refine tNil_of ?_
      refine ⟨_, _, rfl, .inl ⟨_, (hl.same S5).1, rfl⟩, ?_⟩
      rw [hlen]
      walk_at "w"
      refine for_it walk_range (fun j σ H' => Tk (Same H H' ∧ ∃ (fs : List Int) (bs : Nat → Bool) (o6 o7 : Option V), σ = [some (.ref l), some (.int U), some (.ref pd), some (.ref ha), some (.int (0 + (i : Nat))), some (.ref fa), o6, o7] ∧ H' pd = some (.dK kvs) ∧ H' ha = some (.lst (firsts (fun a => V.bl (bs a)) c.n)) ∧ H' fa = some (.lst (fs.map V.int)) ∧ fs.length ≤ j ∧ ∀ L, LimOk c L → DayS c.n c.p L (0 + (i : Nat)) j painted fs bs))
        (tk ⟨S5, [], bs, o6, o7, rfl, hpd5, hha5, hfa5, Nat.le_refl _, hS⟩) (fun _ _ _ _ _ => trivial) ?_ ?_
      · rintro j v σ H7 H8 hj ⟨S7, fs, bs, o6, o7, rfl, hpd7, hha7, hfa7, hfl, hS⟩ ⟨rfl, rfl⟩
        have hj : j < c.n := by omega
        have at_ : atI (refsV ad c.n) (0 + (j : Nat)) = some (.ref (ad j)) := by
          rw [Int.zero_add, atI_nat]
          exact firsts_get hj
        have atb : atI (firsts (fun a => V.bl (bs a)) c.n) (0 + (j : Nat)) = some (.bl (bs j)) := by
          rw [Int.zero_add, atI_nat]
          exact firsts_get hj
        have hl7 := hl.same S7
        have htj := hl7.2 j hj
        have d0 := sm.d0 j hj
        have d1 := sm.d1 j hj
        have s0 := sm.s0 j hj
        have s1 := sm.s1 j hj
        have B1 : Bd (0 + (i : Nat) - (c.p j).day) := ⟨by omega, by omega⟩
        have B2 : Bd (c.p j).stride := ⟨by omega, by omega⟩
        walk_at "w"
        refine ⟨l, _, _, _, rfl, rfl, hl7.1, at_, ?_⟩
        walk_at "w"
        refine ⟨l, _, _, _, rfl, rfl, hl7.1, at_, ?_⟩
        walk_at "w"
        refine ⟨l, _, _, _, rfl, rfl, hl7.1, at_, ?_⟩
        walk_at "w"
        refine ⟨l, _, _, _, rfl, rfl, hl7.1, at_, ?_⟩
        walk_at "w"
        have fin : ∀ (H' : Hp) (fs' : List Int) (bs' : Nat → Bool), Same H H' → H' pd = some (.dK kvs) → H' ha = some (.lst (firsts (fun a => V.bl (bs' a)) c.n)) → H' fa = some (.lst (fs'.map V.int)) → fs'.length ≤ j + 1 → (∀ L, LimOk c L → DayS c.n c.p L (0 + (i : Nat)) (j + 1) painted fs' bs') → Tk (Same H H' ∧ ∃ (fs : List Int) (bs : Nat → Bool) (o6 o7 : Option V), [some (V.ref l), some (.int U), some (.ref pd), some (.ref ha), some (.int (0 + (i : Nat))), some (.ref fa), some (.int (0 + (j : Nat))), some (.int ((c.p j).post + (0 + (i : Nat) - (c.p j).day) * (c.p j).stride))] = [some (V.ref l), some (.int U), some (.ref pd), some (.ref ha), some (.int (0 + (i : Nat))), some (.ref fa), o6, o7] ∧ H' pd = some (.dK kvs) ∧ H' ha = some (.lst (firsts (fun a => V.bl (bs a)) c.n)) ∧ H' fa = some (.lst (fs.map V.int)) ∧ fs.length ≤ j + 1 ∧ ∀ L, LimOk c L → DayS c.n c.p L (0 + (i : Nat)) (j + 1) painted fs bs) := fun H' fs' bs' h1 h2 h3 h4 h5 h6 => tk ⟨h1, fs', bs', _, _, rfl, h2, h3, h4, h5, h6⟩
        have npa : pd ≠ ha := ne_of hpd7 hha7 (by intro z; cases z)
        have npf : pd ≠ fa := ne_of hpd7 hfa7 (by intro z; cases z)
        refine iteD (fun hc => ?_) (fun hc => ?_)
        · have hc : (c.p j).day ≤ 0 + (i : Nat) := hc
          walk_at "w"
          refine ⟨ha, _, _, _, rfl, rfl, SqL.of hha7, atb, ?_⟩
          cases hb : bs j with
          | true =>
            walk_at "w"
            exact fin _ fs bs S7 hpd7 hha7 hfa7 (by omega) fun L lim => (hS L lim).skip hj (fun a z ha e => (lim.nn a z ha e).1) (.inr hb)
          | false =>
            walk_at "w"
            refine ⟨pd, _, rfl, DGet.k (k := Sum.inl _) hpd7, ?_⟩
            rw [hD]
            have halt : ((∃ d, painted ((c.p j).at_ (0 + (i : Nat) - (c.p j).day)) = some d) ∨ (c.p j).at_ (0 + (i : Nat) - (c.p j).day) ∈ fs) → ∃ p xs k1 j1, V.ref ha = .ref p ∧ V.int (0 + (j : Nat)) = .int k1 ∧ H8 p = some (.lst xs) ∧ ixN xs.length k1 = some j1 ∧ Tk (Same H (upd H8 p (.lst (xs.set j1 (.bl true)))) ∧ ∃ (fs : List Int) (bs : Nat → Bool) (o6 o7 : Option V), [some (V.ref l), some (.int U), some (.ref pd), some (.ref ha), some (.int (0 + (i : Nat))), some (.ref fa), some (.int (0 + (j : Nat))), some (.int ((c.p j).post + (0 + (i : Nat) - (c.p j).day) * (c.p j).stride))] = [some (V.ref l), some (.int U), some (.ref pd), some (.ref ha), some (.int (0 + (i : Nat))), some (.ref fa), o6, o7] ∧ (upd H8 p (.lst (xs.set j1 (.bl true)))) pd = some (.dK kvs) ∧ (upd H8 p (.lst (xs.set j1 (.bl true)))) ha = some (.lst (firsts (fun a => V.bl (bs a)) c.n)) ∧ (upd H8 p (.lst (xs.set j1 (.bl true)))) fa = some (.lst (fs.map V.int)) ∧ fs.length ≤ j + 1 ∧ ∀ L, LimOk c L → DayS c.n c.p L (0 + (i : Nat)) (j + 1) painted fs bs) := fun hh => by
              refine ⟨ha, _, _, j, rfl, rfl, hha7, by rw [firsts_len, Int.zero_add]; exact ixN_nat hj, ?_⟩
              refine fin _ fs (fun a => if a = j then true else bs a) (Same.put hhaH S7) (by rw [upd_ne npa]; exact hpd7) ?_ (by rw [upd_ne nfh.symm]; exact hfa7) (by omega) fun L lim => (hS L lim).halt lim.hist hj (nz j hj) hc hb hh
              rw [upd_same, firsts_set]
              congr 2
              exact firsts_congr fun a _ => by
                show (if a = j then V.bl true else V.bl (bs a)) = V.bl (if a = j then true else bs a)
                by_cases q : a = j
                · rw [if_pos q, if_pos q]
                · rw [if_neg q, if_neg q]
            cases hpx : painted ((c.p j).at_ (0 + (i : Nat) - (c.p j).day)) with
            | some dd =>
              have e0 : painted ((c.p j).post + (0 + (i : Nat) - (c.p j).day) * (c.p j).stride) = some dd := hpx
              rw [e0, Option.map_some, Option.isSome_some]
              walk_at "w"
              exact halt (.inl ⟨dd, hpx⟩)
            | none =>
              have e0 : painted ((c.p j).post + (0 + (i : Nat) - (c.p j).day) * (c.p j).stride) = none := hpx
              rw [e0, Option.map_none, Option.isSome_none]
              walk_at "w"
              refine ⟨fa, _, rfl, .inl (SqL.of hfa7), rfl, ?_, ?_⟩
              · rw [List.all_eq_true]
                intro z hz
                obtain ⟨y, _, rfl⟩ := List.mem_map.mp hz
                rfl
              rw [inV_ints]
              by_cases hin : (c.p j).at_ (0 + (i : Nat) - (c.p j).day) ∈ fs
              · have e1 : decide ((c.p j).post + (0 + (i : Nat) - (c.p j).day) * (c.p j).stride ∈ fs) = true := decide_eq_true hin
                rw [e1]
                refine ⟨_, rfl, iteB (fun _ => ?_) (fun z => absurd z (by decide))⟩
                walk_at "w"
                exact halt (.inr hin)
              · have e1 : decide ((c.p j).post + (0 + (i : Nat) - (c.p j).day) * (c.p j).stride ∈ fs) = false := decide_eq_false hin
                rw [e1]
                refine ⟨_, rfl, iteB (fun z => absurd z (by decide)) (fun _ => ?_)⟩
                walk_at "w"
                refine ⟨tyL hfa7, ?_⟩
                walk_at "w"
                refine ⟨fa, _, _, rfl, rfl, hfa7, by rw [List.length_map]; exact lt_line (m := j) hfl (by omega), ?_⟩
                refine fin _ (fs ++ [(c.p j).at_ (0 + (i : Nat) - (c.p j).day)]) bs (Same.put hfaH S7) (by rw [upd_ne npf]; exact hpd7) (by rw [upd_ne nfh]; exact hha7) (by rw [upd_same, List.map_append]; rfl) (by rw [List.length_append]; show fs.length + 1 ≤ j + 1; omega) fun L lim => (hS L lim).paint lim.hist hj (nz j hj) hc hb ?_
                rintro (⟨d, e⟩ | e)
                · rw [hpx] at e
                  cases e
                · exact hin e
        · have hc : ¬ (c.p j).day ≤ 0 + (i : Nat) := hc
          walk_at "w"
          exact fin _ fs bs S7 hpd7 hha7 hfa7 (by omega) fun L lim => (hS L lim).skip hj (fun a z ha e => (lim.nn a z ha e).1) (.inl (by omega))
      · rintro σ H7 ⟨S7, fs, bs, o6, o7, rfl, hpd7, hha7, hfa7, hfl, hS⟩
        rw [show ((c.n : Nat) : Int).toNat = c.n from Int.toNat_natCast _] at hfl hS
        obtain npa : pd ≠ ha := ne_of hpd7 hha7 (by intro z; cases z)
        have npf : pd ≠ fa := ne_of hpd7 hfa7 (by intro z; cases z)
        walk_at "w"
        refine ⟨tyD hpd7, ?_⟩
        walk_at "w"
        refine ⟨⟨_, SqL.of hfa7⟩, fun D hDn => ?_⟩
        refine lc_acc (walk_list (xs := fs.map V.int)) hDn (by rw [List.length_map]; omega) (fun m acc H' => Tk (∃ ts : List Addr, acc = ts.map V.ref ∧ Paired (fun p kv => SqT K H' p [kV kv.1, kv.2]) ts ((fs.take m).map fun y => ((Sum.inl y : Key), V.int (0 + (i : Nat)))))) (tk ⟨[], rfl, .nil⟩) (fun m acc H' e _ => SqL.of (e _ _ hfa7)) ?_ ?_
        · rintro m v acc H8 H9 Nx hm' hS8 hD8 ⟨ts, rfl, hP⟩ ⟨rfl, hz⟩ fin _
          obtain ⟨y, hy, rfl⟩ := map_at hz
          walk_at "w"
          intro q hq
          have S9 := Same.new (o := .tup [V.int y, .int (0 + (i : Nat))]) hq
          have hq9 : SqT K (upd H9 q (.tup [V.int y, .int (0 + (i : Nat))])) q [kV (Sum.inl y), .int (0 + (i : Nat))] := SqT.of upd_same
          have hD9 := S9 _ _ hD8
          have SBD : SB D (upd H9 q (.tup [V.int y, .int (0 + (i : Nat))])) (upd (upd H9 q (.tup [V.int y, .int (0 + (i : Nat))])) D (.lst (ts.map V.ref ++ [V.ref q]))) := (SB.refl _ _).set
          refine fin _ _ hD9 (hS8.trans S9) (tk ⟨ts ++ [q], by rw [List.map_append]; rfl, ?_⟩)
          rw [take_snoc hy, List.map_append]
          have up : ∀ {rs : List Addr} {kvs : List (Key × V)} {Ha Hb : Hp}, (∀ p xs, SqT K Ha p xs → SqT K Hb p xs) → Paired (fun p kv => SqT K Ha p [kV kv.1, kv.2]) rs kvs → Paired (fun p kv => SqT K Hb p [kV kv.1, kv.2]) rs kvs := fun {rs kvs Ha Hb} hh hp => by
            induction hp with
            | nil => exact .nil
            | cons a _ ih => exact .cons (hh _ _ a) ih
          have st : ∀ p xs, SqT K H9 p xs → SqT K (upd (upd H9 q (.tup [V.int y, .int (0 + (i : Nat))])) D (.lst (ts.map V.ref ++ [V.ref q]))) p xs := fun p xs h => SBD.sqtO hD9 (fun _ z => by cases z) (fun _ _ z => by cases z) (S9.sqt h)
          exact paired_snocG (up st hP) (SBD.sqtO hD9 (fun _ z => by cases z) (fun _ _ z => by cases z) hq9)
        · rintro acc H8 hS8 hD8 ⟨ts, rfl, hP⟩
          rw [List.length_map, List.take_length] at hP
          refine tNil_of ?_
          refine ⟨D, ts, _, rfl, SqL.of hD8, hP, fun dd hdd => ?_⟩
          have S9 := Same.new (o := .dK (mergeK [] (fs.map fun y => ((Sum.inl y : Key), V.int (0 + (i : Nat)))))) hdd
          have S10 := hS8.trans S9
          have hdd9 : (upd H8 dd (.dK (mergeK [] (fs.map fun y => ((Sum.inl y : Key), V.int (0 + (i : Nat))))))) dd = some (.dK (mergeK [] (fs.map fun y => ((Sum.inl y : Key), V.int (0 + (i : Nat)))))) := upd_same
          have npd : pd ≠ dd := ne_of_none (hS8 _ _ hpd7) hdd
          generalize upd H8 dd (.dK (mergeK [] (fs.map fun y => ((Sum.inl y : Key), V.int (0 + (i : Nat)))))) = H9 at S10 hdd9 ⊢
          have hpd9 := S10 _ _ hpd7
          have hha9 := S10 _ _ hha7
          have hlen2 := length_mergeK (fs.map fun y => ((Sum.inl y : Key), V.int (0 + (i : Nat)))) []
          rw [List.length_map, List.length_nil, Nat.zero_add] at hlen2
          refine ⟨pd, dd, kvs, _, rfl, rfl, hpd9, hdd9, npd, ?_, ?_⟩
          · exact Nat.le_trans (show _ ≤ 2000 by omega) (by decide)
          refine tk ⟨Same.put hpd (S7.trans S10), _, (fun x => if x ∈ fs then some (0 + (i : Nat) : Int) else painted x), bs, _, _, _, _, rfl, upd_same, by rw [upd_ne npa.symm]; exact hha9, ?_, fun x => ?_, fun L lim => ?_⟩
          · have := length_mergeK (mergeK [] (fs.map fun y => ((Sum.inl y : Key), V.int (0 + (i : Nat))))) kvs
            omega
          · rw [merge_day, hD x]
            show _ = (if x ∈ fs then some (0 + (i : Nat) : Int) else painted x).map V.int
            by_cases q : x ∈ fs
            · rw [if_pos q, if_pos q]
              rfl
            · rw [if_neg q, if_neg q]
          · have := (hS L lim).next lim.hist nz
            rw [show (0 : Int) + ((i + 1 : Nat) : Int) = 0 + (i : Nat) + 1 by omega]
            exact this
    · rintro σ H4 ⟨S4, kvs, painted, bs, o4, o5, o6, o7, rfl, hpd4, hha4, hkl, hD, hS⟩
      walk_at "w"
      intro r hr
      have S5 := Same.new (o := .tup [V.ref ha, .ref pd]) hr
      refine k r ha pd kvs painted _ (S4.trans S5) (SqT.of upd_same) (S5 _ _ hpd4) hpd hD fun L lim x d => ?_
      have := (hS L lim).pt x d
      rw [show (0 : Int) + ((U + 1).toNat : Int) = U + 1 by omega] at this
      exact this
end
end PK
end
section
set_option Elab.async false
set_option linter.all false
set_option maxRecDepth 100000
set_option maxHeartbeats 4000000
namespace PK
open PySem PySem.Spec PyProof.Rows L2 PM
local macro_rules | `(tactic| walk_at "sd") => `(tactic| (first
  | assumption
  | omega
  | (constructor <;> omega)
  | (refine ⟨by omega, ?_⟩; constructor <;> omega)
  | (constructor <;> (first | assumption | omega | (constructor <;> omega)))))
local macro_rules | `(tactic| walk_at "w") => `(tactic| (repeat (first
  | with_reducible refine ifTT ?_
  | with_reducible refine ifFT ?_
  | with_reducible refine ifnT ?_
  | with_reducible refine ifnF ?_
  | with_reducible refine ifIN ?_
  | with_reducible refine ifNN ?_
  | with_reducible refine ifnIN ?_
  | with_reducible refine ifnNN ?_
  | with_reducible refine ifRN ?_
  | with_reducible refine ifnRN ?_
  | ((fail_if_success with_reducible refine iteB ?_ ?_); first
    | refine ⟨_, rfl, ?_⟩
    | refine ⟨_, _, rfl, rfl, ?_⟩
    | refine ⟨_, _, rfl, ?_⟩
    | refine And.intro (a := (_ : Nat) ≤ sizeLine) (by first | exact len_small (m := 2) rfl | exact len_small (m := 1) rfl | exact len_small (m := 4) rfl | exact len_small (m := 3) rfl | exact len_small (m := 0) rfl) ?_
    | refine Or.inl ⟨_, rfl, ?_⟩
    | refine ⟨rfl, ?_⟩
    | refine And.intro (a := (_ : Int) ≤ _) (by omega) ?_
    | refine And.intro (a := (_ : Int) < _) (by omega) ?_
    | refine And.intro (a := (_ : Nat) ≤ _) (by omega) ?_
    | refine And.intro (a := (_ : Nat) < _) (by omega) ?_
    | refine And.intro (a := CDivP _ _) (by walk_at "sd") ?_
    | refine And.intro (a := CDivB _ _) (by walk_at "sd") ?_
    | refine And.intro (a := CMulB _ _) (by walk_at "sd") ?_
    | refine And.intro (a := _ ≠ (0 : Int)) (by walk_at "sd") ?_
    | refine And.intro (a := (0 : Int) < _) (by walk_at "sd") ?_
    | refine ⟨_, _, rfl, ‹_›, rfl, ?_⟩
    | refine ⟨_, _, _, _, rfl, rfl, ‹_›, rfl, ?_⟩
    | refine ⟨_, _, _, _, rfl, rfl, by assumption, by assumption, ?_⟩
    | refine ⟨_, _, _, _, _, _, rfl, ‹_›, ‹_›, rfl, ?_⟩
    | refine ⟨_, _, _, _, _, _, rfl, ‹_›, (by exact KCls.f ‹_› rfl), (by rfl), ?_⟩
    | refine ⟨_, _, _, _, _, _, rfl, upd_same, ‹_›, (by rfl), ?_⟩
    | refine ⟨_, _, _, _, _, _, rfl, ‹_›, ‹Cls _ _›, ‹_›, rfl, ?_⟩
    | refine ⟨_, _, _, _, rfl, ‹_›, by decide +kernel, ?_⟩
    | refine ⟨_, _, _, rfl, ‹_›, ?_⟩
    | refine ⟨_, _, _, _, rfl, by assumption, ?_⟩
    | refine And.intro (by assumption) ?_))))
section
variable {P : Program} {w : World} {K : PySem.W.Frag} {mg : Str → Option Value} {base : Heap} {CP CF : Addr}
/-! ### the package's fence, made by the law -/
def takeCrew (c : Crew) (i : Nat) : Crew := ⟨i, c.nm, c.p⟩
theorem takeCrew_all (c : Crew) : takeCrew c c.n = c := rfl
theorem addCrew_take (c : Crew) (i : Nat) : addCrew (takeCrew c i) (c.nm i) (c.p i) = takeCrew c (i + 1) := by
  have e1 : (fun j => if j = i then c.nm i else c.nm j) = c.nm := by
    funext j
    by_cases e : j = i
    · rw [if_pos e, e]
    · rw [if_neg e]
  have e2 : (fun j => if j = i then c.p i else c.p j) = c.p := by
    funext j
    by_cases e : j = i
    · rw [if_pos e, e]
    · rw [if_neg e]
  show Crew.mk (i + 1) (fun j => if j = i then c.nm i else c.nm j) (fun j => if j = i then c.p i else c.p j) = Crew.mk (i + 1) c.nm c.p
  rw [e1, e2]
theorem takeCrew_ok {c : Crew} (ok : c.Ok) {i : Nat} (h : i ≤ c.n) : (takeCrew c i).Ok := by
  have few := ok.few
  exact ⟨show i ≤ 40 by omega, fun j (hj : j < i) => ok.names j (by omega), fun j k (hj : j < i) (hk : k < i) e => ok.apart j k (by omega) (by omega) e, fun j (hj : j < i) => ok.pts j (by omega)⟩
def spLFence (K : PySem.W.Frag) (CP CF : Addr) : Sp := fun vs H Q _ => ∃ (l : Addr) (c : Crew) (ad : Nat → Addr), vs = [.ref l] ∧ LpAt K H l c ad ∧ c.Ok ∧ ∀ x r H', Same H H' → FnAt K CP CF H' x c r → Q (.ref x) H'
theorem sc__law_fence : FnScope ["_law_painters", "_law_fence_here", "_law_name", "_law_start", "_law_post", "_law_stride"] ["_law_painters"] (defScope s__law_fence) := C8.fnScope_by (by decide +kernel)
theorem ok_law_fence {f : Addr} (F : DF K "_law_fence" "_law_fence" s__law_fence f) (hm : mg "_law_fence" = some (.ref f)) (c_Fence : MakR P w K mg base 3 "Fence" CF (spFenceR K CP CF)) (c_Painter : C8.Mak P w K mg base 3 "Painter" CP (spPainterInit K CP) []) (c_add : Adr P w K mg base 5 CF CP (spFenceAdd K CP CF)) :
    C8.Cal P w K mg base 6 "_law_fence" (spLFence K CP CF) [] := by
  refine cal_of F hm sc__law_fence (fun _ _ _ _ _ _ us hl => match us, hl with | [_], _ => rfl) (fun vs H Q E h => ?_) (fun cdv A outer s H vs Q E hr h => ?_)
  · obtain ⟨l, c, ad, rfl, _⟩ := h
    rfl
  · obtain ⟨l, c, ad, rfl, hl, ok, k⟩ := h
    refine ⟨_, (pss_cons (ps_set (i := 1) sc__law_fence.nd rfl (Or.inl rfl) (pe_mkR0 c_Fence hr (by decide) rfl))
        (pss_cons (ps_for PassesOwn.never rfl (pi_list (pv 0)) (pg_tup rfl (pgs_cons (pg_name (i := 2) sc__law_fence.nd rfl (Or.inl rfl)) (pgs_cons (pg_name (i := 3) sc__law_fence.nd rfl (Or.inl rfl)) (pgs_cons (pg_name (i := 4) sc__law_fence.nd rfl (Or.inl rfl)) (pgs_cons (pg_name (i := 5) sc__law_fence.nd rfl (Or.inl rfl)) pgs_nil)))))
           (pss_one (ps_set (i := 1) sc__law_fence.nd rfl (Or.inl rfl) (pe_op (op_addOwn c_add hr (by decide)) (pv 1) (C8.pe_mk c_Painter hr (by decide) rfl (pa_cons (pv 2) (pa_cons (pv 3) (pa_cons (pv 4) (pa_cons (pv 5) pa_nil)))))))))
        (pss_one (ps_ret (pv 1))))), ?_⟩
    show (_ : TS) _ [some _, none, none, none, none, none] _
    have few := ok.few
    have hlen' : (refsV ad c.n).length = c.n := firsts_len _ _
    walk_at "w"
    intro x dx nx ndx hne
    have hH : ∀ {a o}, H a = some o → upd (upd H dx (.own x)) x (.ins CF dx []) a = some o := fun {a o} e => by
      rw [upd_ne (ne_of_none e nx), upd_ne (ne_of_none e ndx)]
      exact e
    have S1 : Same H (upd (upd H dx (.own x)) x (.ins CF dx [])) := fun b o e => hH e
    refine ⟨[.ref x], [], rfl, rfl, Nat.zero_le _, fun q hq => ?_⟩
    have S2 := S1.trans (Same.new (o := .tup []) hq)
    refine ⟨x, dx, q, takeCrew c 0, (fun _ => x), rfl, Same.new hq _ _ upd_same, SqT.of upd_same, fun i hi => absurd hi (Nat.not_lt_zero _), fun i hi => absurd hi (Nat.not_lt_zero _), takeCrew_ok ok (Nat.zero_le _), fun H2 hS2 hF2 => ?_⟩
    have S3 : Same H H2 := fun b o e => hS2 b o (S2 b o e) (ne_of_none e nx)
    walk_at "w"
    refine ⟨⟨_, (hl.same S3).1⟩, ?_⟩
    refine for_it (walk_list (xs := refsV ad c.n)) (fun i σ H' => Tk (Same H H' ∧ ∃ (x : Addr) (r : Nat → Addr) (o1 o2 o3 o4 : Option V), σ = [some (.ref l), some (.ref x), o1, o2, o3, o4] ∧ FnAt K CP CF H' x (takeCrew c i) r)) (tk ⟨S3, x, _, none, none, none, none, rfl, hF2⟩) (fun i σ H' _ p => (hl.same p.h.1).1) ?_ ?_
    · rintro i v σ H4 H5 hi ⟨hS4, x, r, o1, o2, o3, o4, rfl, hF4⟩ ⟨rfl, hz⟩
      obtain ⟨hi, rfl⟩ := firsts_at hz
      refine ⟨_, _, rfl, (hl.same hS4).2 i hi, rfl, ?_⟩
      obtain ⟨fdx, ft, fd, hf4, _⟩ := id hF4
      walk_at "w"
      intro px pdx npx npd npe
      have S5 : Same H5 (upd (upd H5 pdx (.own px)) px (.ins CP pdx [])) := fun b o e => by
        rw [upd_ne (ne_of_none e npx), upd_ne (ne_of_none e npd)]
        exact e
      refine ⟨px, pdx, c.nm i, c.p i, rfl, upd_same, ok.names i hi, ok.pts i hi, fun H6 hS6 hP6 => ⟨rfl, ?_⟩⟩
      have S6 : Same H5 H6 := fun b o e => hS6 b o (S5 b o e) (ne_of_none e npx)
      obtain ⟨pdx2, pt, hp6, _⟩ := id hP6
      have hf6 := S6 _ _ hf4
      refine ⟨x, px, fdx, _, pdx2, _, rfl, rfl, hf6, hp6, x, px, takeCrew c i, r, c.nm i, c.p i, rfl, hF4.same S6, hP6, by rw [addCrew_take]; exact takeCrew_ok ok (by omega), fun x' r' H7 hS7 hF7 => ?_⟩
      rw [addCrew_take] at hF7
      exact tk ⟨(hS4.trans S6).trans hS7, x', r', _, _, _, _, rfl, hF7⟩
    · rintro σ H4 ⟨hS4, x, r, o1, o2, o3, o4, rfl, hF4⟩
      rw [hlen'] at hF4
      walk_at "w"
      exact k x r H4 hS4 hF4
end
end PK
end
section
set_option Elab.async false
set_option linter.all false
set_option maxRecDepth 100000
set_option maxHeartbeats 4000000
namespace PK
open PySem PySem.Spec PyProof.Rows L2 PM
local macro_rules | `(tactic| walk_at "sd") => `(tactic| (first
  | assumption
  | omega
  | (constructor <;> omega)
  | (refine ⟨by omega, ?_⟩; constructor <;> omega)
  | (constructor <;> (first | assumption | omega | (constructor <;> omega)))))
local macro_rules | `(tactic| walk_at "w") => `(tactic| (repeat (first
  | with_reducible refine ifTT ?_
  | with_reducible refine ifFT ?_
  | with_reducible refine ifnT ?_
  | with_reducible refine ifnF ?_
  | with_reducible refine ifIN ?_
  | with_reducible refine ifNN ?_
  | with_reducible refine ifnIN ?_
  | with_reducible refine ifnNN ?_
  | with_reducible refine ifRN ?_
  | with_reducible refine ifnRN ?_
  | ((fail_if_success with_reducible refine iteB ?_ ?_); first
    | refine ⟨_, rfl, ?_⟩
    | refine ⟨_, _, rfl, rfl, ?_⟩
    | refine ⟨_, _, rfl, ?_⟩
    | refine And.intro (a := (_ : Nat) ≤ sizeLine) (by first | exact len_small (m := 2) rfl | exact len_small (m := 1) rfl | exact len_small (m := 4) rfl | exact len_small (m := 3) rfl | exact len_small (m := 0) rfl) ?_
    | refine Or.inl ⟨_, rfl, ?_⟩
    | refine ⟨rfl, ?_⟩
    | refine And.intro (a := (_ : Int) ≤ _) (by omega) ?_
    | refine And.intro (a := (_ : Int) < _) (by omega) ?_
    | refine And.intro (a := (_ : Nat) ≤ _) (by omega) ?_
    | refine And.intro (a := (_ : Nat) < _) (by omega) ?_
    | refine And.intro (a := CDivP _ _) (by walk_at "sd") ?_
    | refine And.intro (a := CDivB _ _) (by walk_at "sd") ?_
    | refine And.intro (a := CMulB _ _) (by walk_at "sd") ?_
    | refine And.intro (a := _ ≠ (0 : Int)) (by walk_at "sd") ?_
    | refine And.intro (a := (0 : Int) < _) (by walk_at "sd") ?_
    | refine ⟨_, _, rfl, ‹_›, rfl, ?_⟩
    | refine ⟨_, _, _, _, rfl, rfl, ‹_›, rfl, ?_⟩
    | refine ⟨_, _, _, _, rfl, rfl, by assumption, by assumption, ?_⟩
    | refine ⟨_, _, _, _, _, _, rfl, ‹_›, ‹_›, rfl, ?_⟩
    | refine ⟨_, _, _, _, _, _, rfl, ‹_›, (by exact KCls.f ‹_› rfl), (by rfl), ?_⟩
    | refine ⟨_, _, _, _, _, _, rfl, upd_same, ‹_›, (by rfl), ?_⟩
    | refine ⟨_, _, _, _, _, _, rfl, ‹_›, ‹Cls _ _›, ‹_›, rfl, ?_⟩
    | refine ⟨_, _, _, _, rfl, ‹_›, by decide +kernel, ?_⟩
    | refine ⟨_, _, _, rfl, ‹_›, ?_⟩
    | refine ⟨_, _, _, _, rfl, by assumption, ?_⟩
    | refine And.intro (by assumption) ?_))))
section
variable {P : Program} {w : World} {K : PySem.W.Frag} {mg : Str → Option Value} {base : Heap}
/-! ### painters drawn one after the other -/
/-- a list of ints, one of them taken -/
theorem pickI {ns : List Int} {Q : V → Prop} (h : ∀ r, r ∈ ns → Q (.int r)) : ∀ v, v ∈ ns.map V.int → Q v := fun v hv => by
  obtain ⟨r, h1, rfl⟩ := List.mem_map.mp hv
  exact h r h1
/-- all is kept but at two places -/
def SB2 (x D : Addr) (H H' : Hp) : Prop := ∀ b o, H b = some o → b ≠ x → b ≠ D → H' b = some o
theorem SB2.refl (x D : Addr) (H : Hp) : SB2 x D H H := fun _ _ h _ _ => h
theorem SB2.tr {x D : Addr} {H H1 H2 : Hp} (a : SB2 x D H H1) (b : SB x H1 H2) : SB2 x D H H2 := fun c o h n1 n2 => b _ _ (a _ _ h n1 n2) n1
theorem SB2.same {x D : Addr} {H H1 H2 : Hp} (a : SB2 x D H H1) (b : Same H1 H2) : SB2 x D H H2 := fun c o h n1 n2 => b _ _ (a _ _ h n1 n2)
theorem SB2.put {x D : Addr} {H H1 : Hp} {o : HO} (a : SB2 x D H H1) : SB2 x D H (upd H1 D o) := fun c u h n1 n2 => by
  rw [upd_ne n2]
  exact a _ _ h n1 n2
theorem SB2.fin {x D : Addr} {H0 H H1 : Hp} (s : SB x H0 H) (h : H0 D = none) (a : SB2 x D H H1) : SB x H0 H1 := fun c o e n => a _ _ (s _ _ e n) n (ne_of_none e h)
theorem SB2.sql {H H' : Hp} {pen cl D l : Addr} {b : Int} {xs ys : List V} (e : SB2 pen D H H') (p : PenAt K cl H pen b) (hD : H D = some (.lst ys)) (ne : xs ≠ ys) (h : SqL K H l xs) : SqL K H' l xs := by
  obtain ⟨kvs, hp⟩ := p.dict
  rcases h with (q | ⟨od, q⟩) | q
  · exact .inl (.inl (e _ _ q (ne_of q hp (by intro z; cases z)) (ne_of q hD (by intro z; injection z with z; exact ne z))))
  · exact .inl (.inr ⟨od, e _ _ q (ne_of q hp (by intro z; cases z)) (ne_of q hD (by intro z; cases z))⟩)
  · exact .inr q
def GrowAt (K : PySem.W.Frag) (H : Hp) (D : Addr) (nm : Nat → Str) (G : Pt → Prop) (i : Nat) : Prop := ∃ (ad : Nat → Addr) (p : Nat → Pt), H D = some (.lst (refsV ad i)) ∧ (∀ j, j < i → SqT K H (ad j) (lpV (nm j) (p j))) ∧ ∀ j, j < i → G (p j)
theorem GrowAt.sb {H H' : Hp} {pen cl D : Addr} {b : Int} {nm : Nat → Str} {G : Pt → Prop} {i : Nat} (e : SB pen H H') (pa : PenAt K cl H pen b) (g : GrowAt K H D nm G i) : GrowAt K H' D nm G i := by
  obtain ⟨ad, p, h1, h2, h3⟩ := g
  obtain ⟨kvs, hp⟩ := pa.dict
  exact ⟨ad, p, e _ _ h1 (ne_of h1 hp (by intro z; cases z)), fun j hj => e.pSqt pa (h2 j hj), h3⟩
theorem GrowAt.same {H H' : Hp} {D : Addr} {nm : Nat → Str} {G : Pt → Prop} {i : Nat} (e : Same H H') (g : GrowAt K H D nm G i) : GrowAt K H' D nm G i := by
  obtain ⟨ad, p, h1, h2, h3⟩ := g
  exact ⟨ad, p, e _ _ h1, fun j hj => e.sqt (h2 j hj), h3⟩
theorem GrowAt.zero {H : Hp} {D : Addr} {nm : Nat → Str} {G : Pt → Prop} (h : H D = some (.lst [])) : GrowAt K H D nm G 0 := ⟨fun _ => D, fun _ => ⟨0, 0, 0⟩, h, fun j hj => absurd hj (Nat.not_lt_zero _), fun j hj => absurd hj (Nat.not_lt_zero _)⟩
theorem GrowAt.nm0 {H : Hp} {D : Addr} {nm : Nat → Str} {G : Pt → Prop} (g : GrowAt K H D nm G 0) (nm' : Nat → Str) : GrowAt K H D nm' G 0 := by
  obtain ⟨ad, p, h1, _, h3⟩ := g
  exact ⟨ad, p, h1, fun j hj => absurd hj (Nat.not_lt_zero _), h3⟩
theorem GrowAt.app {H : Hp} {D t : Addr} {nm : Nat → Str} {G : Pt → Prop} {i : Nat} {q : Pt} (g : GrowAt K H D nm G i) (ht : SqT K H t (lpV (nm i) q)) (hq : G q) (hi : i ≤ 40) :
    ∃ xs, H D = some (.lst xs) ∧ xs.length < sizeLine ∧ GrowAt K (upd H D (.lst (xs ++ [.ref t]))) D nm G (i + 1) := by
  obtain ⟨ad, p, h1, h2, h3⟩ := g
  refine ⟨_, h1, lt_line (m := i) (Nat.le_of_eq (firsts_len _ _)) (by omega), fun j => if j = i then t else ad j, fun j => if j = i then q else p j, ?_, fun j hj => ?_, fun j hj => ?_⟩
  · rw [upd_same]
    congr 2
    show _ = firsts (fun j => V.ref (if j = i then t else ad j)) (i + 1)
    rw [firsts_succ, if_pos rfl]
    congr 1
    exact firsts_congr fun j hj => by rw [if_neg (by omega)]
  · have SBD : SB D H (upd H D (.lst (refsV ad i ++ [.ref t]))) := (SB.refl _ _).set
    show SqT K _ (if j = i then t else ad j) (lpV (nm j) (if j = i then q else p j))
    by_cases e : j = i
    · rw [if_pos e, if_pos e, e]
      exact SBD.sqtO h1 (fun _ z => by cases z) (fun _ _ z => by cases z) ht
    · rw [if_neg e, if_neg e]
      exact SBD.sqtO h1 (fun _ z => by cases z) (fun _ _ z => by cases z) (h2 j (by omega))
  · show G (if j = i then q else p j)
    by_cases e : j = i
    · rw [if_pos e]
      exact hq
    · rw [if_neg e]
      exact h3 j (by omega)
theorem ixN_last (n : Nat) : ixN (n + 1) (-1) = some n := by
  unfold ixN
  rw [if_neg (by decide), if_pos (by omega)]
  congr 1
  omega
theorem cutV_init {xs : List V} : cutV xs none (some (-1)) = xs.take (xs.length - 1) := by
  unfold cutV
  show (xs.drop 0).take ((if (-1 : Int) < 0 then (-1 + (xs.length : Int)).toNat else min (-1 : Int).toNat xs.length) - 0) = _
  rw [if_pos (by decide), List.drop_zero]
  congr 1
  omega
theorem cutV_rest {x : V} {xs : List V} : cutV (x :: xs) (some 1) none = xs := by
  have e1 : HT.sIx (x :: xs).length 0 (some 1) = 1 := by
    show min 1 (xs.length + 1) = 1
    omega
  have e2 : HT.sIx (x :: xs).length (x :: xs).length none = xs.length + 1 := rfl
  unfold cutV
  rw [e1, e2]
  show xs.take (xs.length + 1 - 1) = xs
  exact List.take_length
/-- the last painter is told anew -/
theorem GrowAt.last {H : Hp} {D t : Addr} {nm : Nat → Str} {G : Pt → Prop} {i : Nat} {q : Pt} (g : GrowAt K H D nm G (i + 1)) (ht : SqT K H t (lpV (nm i) q)) (hq : G q) :
    ∃ xs, H D = some (.lst xs) ∧ ixN xs.length (-1) = some i ∧ GrowAt K (upd H D (.lst (xs.set i (.ref t)))) D nm G (i + 1) := by
  obtain ⟨ad, p, h1, h2, h3⟩ := g
  refine ⟨_, h1, by rw [firsts_len]; exact ixN_last i, fun j => if j = i then t else ad j, fun j => if j = i then q else p j, ?_, fun j hj => ?_, fun j hj => ?_⟩
  · rw [upd_same, firsts_set]
    congr 2
    exact firsts_congr fun j _ => by
      show (if j = i then V.ref t else V.ref (ad j)) = V.ref (if j = i then t else ad j)
      by_cases e : j = i
      · rw [if_pos e, if_pos e]
      · rw [if_neg e, if_neg e]
  · have SBD : SB D H (upd H D (.lst ((refsV ad (i + 1)).set i (.ref t)))) := (SB.refl _ _).set
    show SqT K _ (if j = i then t else ad j) (lpV (nm j) (if j = i then q else p j))
    by_cases e : j = i
    · rw [if_pos e, if_pos e, e]
      exact SBD.sqtO h1 (fun _ z => by cases z) (fun _ _ z => by cases z) ht
    · rw [if_neg e, if_neg e]
      exact SBD.sqtO h1 (fun _ z => by cases z) (fun _ _ z => by cases z) (h2 j hj)
  · show G (if j = i then q else p j)
    by_cases e : j = i
    · rw [if_pos e]
      exact hq
    · rw [if_neg e]
      exact h3 j hj
theorem GrowAt.lp {H : Hp} {D : Addr} {nm : Nat → Str} {G : Pt → Prop} {n : Nat} (g : GrowAt K H D nm G n) : ∃ (p : Nat → Pt) (ad : Nat → Addr), LpAt K H D ⟨n, nm, p⟩ ad ∧ ∀ j, j < n → G (p j) := by
  obtain ⟨ad, p, h1, h2, h3⟩ := g
  exact ⟨p, ad, ⟨SqL.of h1, h2⟩, h3⟩
/-- what the pen's steps keep -/
def KeepW (K : PySem.W.Frag) (cl pen : Addr) (X : Hp → Prop) : Prop := ∀ H H' b, PenAt K cl H pen b → SB pen H H' → X H → X H'
theorem KeepW.and {cl pen : Addr} {X Y : Hp → Prop} (a : KeepW K cl pen X) (b : KeepW K cl pen Y) : KeepW K cl pen (fun H => X H ∧ Y H) := fun H H' c p s h => ⟨a H H' c p s h.1, b H H' c p s h.2⟩
theorem KeepW.sb2 (cl pen D : Addr) (H0 : Hp) : KeepW K cl pen (SB2 pen D H0) := fun _ _ _ _ s h => h.tr s
theorem KeepW.sb (cl pen : Addr) (H0 : Hp) : KeepW K cl pen (SB pen H0) := fun _ _ _ _ s h => h.tr s
theorem KeepW.grow (cl pen D : Addr) (nm : Nat → Str) (G : Pt → Prop) (i : Nat) : KeepW K cl pen (fun H => GrowAt K H D nm G i) := fun _ _ _ p s h => h.sb s p
theorem KeepW.same {cl pen : Addr} {X : Hp → Prop} (a : KeepW K cl pen X) {H H' : Hp} {b : Int} (p : PenAt K cl H pen b) (s : Same H H') (x : X H) : X H' := a _ _ _ p (SB.of s) x
theorem pickW {H : Hp} {cl pen : Addr} {b : Int} {X : Hp → Prop} {ns : List Int} {Q : VK} {E : XK} (st : KeepW K cl pen X) (P : PenAt K cl H pen b) (x : X H) (hb : b + 5 ≤ 10 ^ 9) (h0 : ns ≠ []) (h1 : ns.length ≤ 1000) (k : ∀ r b' H', r ∈ ns → b ≤ b' → b' ≤ b + 5 → PenAt K cl H' pen b' → X H' → Q (.int r) H') :
    ∀ p, H p = none → spPickL K [.ref pen, .ref p] (upd H p (.lst (ns.map V.int))) Q E := fun p hp => by
  have S := Same.new (o := .lst (ns.map V.int)) hp
  refine ⟨pen, cl, p, _, b, rfl, P.same S, hb, SqL.of upd_same, fun z => h0 (List.map_eq_nil_iff.mp z), by rw [List.length_map]; exact h1, fun v b' H' hv ⟨d1, d2, d3, d4⟩ => ?_⟩
  obtain ⟨r, hr, rfl⟩ := List.mem_map.mp hv
  exact k r b' H' hr d1 d2 d4 (st _ _ _ (P.same S) d3 (st.same P S x))
end
end PK
end
section
set_option Elab.async false
set_option linter.all false
set_option maxRecDepth 100000
set_option maxHeartbeats 4000000
namespace PK
open PySem PySem.Spec PyProof.Rows L2 PM
local macro_rules | `(tactic| walk_at "sd") => `(tactic| (first
  | assumption
  | omega
  | (constructor <;> omega)
  | (refine ⟨by omega, ?_⟩; constructor <;> omega)
  | (constructor <;> (first | assumption | omega | (constructor <;> omega)))))
local macro_rules | `(tactic| walk_at "w") => `(tactic| (repeat (first
  | with_reducible refine ifTT ?_
  | with_reducible refine ifFT ?_
  | with_reducible refine ifnT ?_
  | with_reducible refine ifnF ?_
  | with_reducible refine ifIN ?_
  | with_reducible refine ifNN ?_
  | with_reducible refine ifnIN ?_
  | with_reducible refine ifnNN ?_
  | with_reducible refine ifRN ?_
  | with_reducible refine ifnRN ?_
  | ((fail_if_success with_reducible refine iteB ?_ ?_); first
    | refine ⟨_, rfl, ?_⟩
    | refine ⟨_, _, rfl, rfl, ?_⟩
    | refine ⟨_, _, rfl, ?_⟩
    | refine And.intro (a := (_ : Nat) ≤ sizeLine) (by first | exact len_small (m := 2) rfl | exact len_small (m := 1) rfl | exact len_small (m := 4) rfl | exact len_small (m := 3) rfl | exact len_small (m := 0) rfl) ?_
    | refine Or.inl ⟨_, rfl, ?_⟩
    | refine ⟨rfl, ?_⟩
    | refine And.intro (a := (_ : Int) ≤ _) (by omega) ?_
    | refine And.intro (a := (_ : Int) < _) (by omega) ?_
    | refine And.intro (a := (_ : Nat) ≤ _) (by omega) ?_
    | refine And.intro (a := (_ : Nat) < _) (by omega) ?_
    | refine And.intro (a := CDivP _ _) (by walk_at "sd") ?_
    | refine And.intro (a := CDivB _ _) (by walk_at "sd") ?_
    | refine And.intro (a := CMulB _ _) (by walk_at "sd") ?_
    | refine And.intro (a := _ ≠ (0 : Int)) (by walk_at "sd") ?_
    | refine And.intro (a := (0 : Int) < _) (by walk_at "sd") ?_
    | refine ⟨_, _, rfl, ‹_›, rfl, ?_⟩
    | refine ⟨_, _, _, _, rfl, rfl, ‹_›, rfl, ?_⟩
    | refine ⟨_, _, _, _, rfl, rfl, by assumption, by assumption, ?_⟩
    | refine ⟨_, _, _, _, _, _, rfl, ‹_›, ‹_›, rfl, ?_⟩
    | refine ⟨_, _, _, _, _, _, rfl, ‹_›, (by exact KCls.f ‹_› rfl), (by rfl), ?_⟩
    | refine ⟨_, _, _, _, _, _, rfl, upd_same, ‹_›, (by rfl), ?_⟩
    | refine ⟨_, _, _, _, _, _, rfl, ‹_›, ‹Cls _ _›, ‹_›, rfl, ?_⟩
    | refine ⟨_, _, _, _, rfl, ‹_›, by decide +kernel, ?_⟩
    | refine ⟨_, _, _, rfl, ‹_›, ?_⟩
    | refine ⟨_, _, _, _, rfl, by assumption, ?_⟩
    | refine And.intro (by assumption) ?_))))
section
variable {P : Program} {w : World} {K : PySem.W.Frag} {mg : Str → Option Value} {base : Heap}
/-! ### small painters -/
structure SmP (p : Pt) : Prop where
  d0 : 0 ≤ p.day
  d1 : p.day ≤ 6
  p0 : -8 ≤ p.post
  p1 : p.post ≤ 8
  s0 : -6 ≤ p.stride
  s1 : p.stride ≤ 6
  nz : p.stride ≠ 0
theorem SmP.ok {p : Pt} (h : SmP p) : PtOk p := ⟨h.d0, by have := h.d1; omega, by have := h.p0; omega, by have := h.p1; omega, by have := h.s0; omega, by have := h.s1; omega, h.nz⟩
def spLSmall (K : PySem.W.Frag) : Sp := fun vs H Q _ => ∃ (pen cl : Addr) (b : Int), vs = [.ref pen, .int 6] ∧ PenAt K cl H pen b ∧ b + 400 ≤ 10 ^ 9 ∧ ∀ (l : Addr) (c : Crew) (ad : Nat → Addr) b' H', SmC c → c.Ok → LpAt K H' l c ad → Drew K cl pen b 400 H H' b' → Q (.ref l) H'
theorem sc__law_small : FnScope ["_law_pen_here", "_law_most", "_law_found", "_law_many", "_law_name", "_law_stride", "_law_start"] ["_law_pen_here", "_law_most"] (defScope s__law_small) := C8.fnScope_by (by decide +kernel)
theorem ok_law_small {f : Addr} (F : DF K "_law_small" "_law_small" s__law_small f) (hm : mg "_law_small" = some (.ref f)) (c__law_draw : C8.Cal P w K mg base 5 "_law_draw" (spD K) []) (c__law_pick : C8.Cal P w K mg base 6 "_law_pick" (spPickL K) []) (c__law_around : C8.Cal P w K mg base 6 "_law_around" (spAround K) []) (c__law_names : C8.Cal P w K mg base 7 "_law_names" (spLNames K) []) (n_len : mg "len" = none) :
    C8.Cal P w K mg base 8 "_law_small" (spLSmall K) [] := by
  refine cal_of F hm sc__law_small (fun _ _ _ _ _ _ us hl => match us, hl with | [_, _], _ => rfl) (fun vs H Q E h => ?_) (fun cdv A outer s H vs Q E hr h => ?_)
  · obtain ⟨pen, cl, b, rfl, _⟩ := h
    rfl
  · obtain ⟨pen, cl, b, rfl, hP, hb, k⟩ := h
    refine ⟨_, (pss_cons (ps_par (i := 2) (j := 3) rfl sc__law_small.nd rfl rfl (by decide) rfl rfl (pa_cons (pe_lst pa_nil) (pa_cons (pe_op op_add pe_int (C8.pe_c c__law_draw hr (by decide) rfl (pa_cons (pv 0) (pa_cons (pv 1) pa_nil)))) pa_nil)) (by rfl))
        (pss_cons (ps_for PassesOwn.never rfl (pi_list (C8.pe_c c__law_names hr (by decide) rfl (pa_cons (pv 0) (pa_cons (pv 3) pa_nil)))) (pg_name (i := 4) sc__law_small.nd rfl (Or.inl rfl))
           (pss_cons (ps_set (i := 5) sc__law_small.nd rfl (Or.inl rfl) (pe_op op_add pe_int (C8.pe_c c__law_pick hr (by decide) rfl (pa_cons (pv 0) (pa_cons (pe_lst (pa_cons (C8.pe_c c__law_draw hr (by decide) rfl (pa_cons (pv 0) (pa_cons pe_int pa_nil))) (pa_cons (C8.pe_c c__law_draw hr (by decide) rfl (pa_cons (pv 0) (pa_cons pe_int pa_nil))) pa_nil))) pa_nil)))))
           (C8.pss_cut (ps_set (i := 5) sc__law_small.nd rfl (Or.inl rfl) (pe_op op_mulB (pv 5) (C8.pe_c c__law_pick hr (by decide) rfl (pa_cons (pv 0) (pa_cons (pe_lst (pa_cons pe_int (pa_cons (pe_un un_neg pe_int) pa_nil))) pa_nil)))))
           (C8.pss_cut (ps_set (i := 6) sc__law_small.nd rfl (Or.inl rfl) (C8.pe_c c__law_pick hr (by decide) rfl (pa_cons (pv 0) (pa_cons (pe_lst (pa_cons pe_int (pa_cons pe_int (pa_cons (C8.pe_c c__law_draw hr (by decide) rfl (pa_cons (pv 0) (pa_cons pe_int pa_nil))) pa_nil)))) pa_nil))))
           (C8.pss_cut (ps_expr (pe_bm PySem.F.plainAttrs_list PySem.F.slot_list_append PySem.F.type_list_append mt_append (pv 2) (pa_cons (pe_tup (pa_cons (pv 4) (pa_cons (pv 6) (pa_cons (C8.pe_c c__law_around hr (by decide) rfl (pa_cons (pv 0) (pa_cons pe_int pa_nil))) (pa_cons (pv 5) pa_nil))))) pa_nil)))
           (pss_one (ps_if (PW.pt (pw_and (pt_cmpR op_gt (pe_callB call_len (by rfl) n_len (by decide +kernel) (pa_cons (pv 2) pa_nil)) pe_int (nomark _)) (pw_and1 (pt_cmpR op_eq (C8.pe_c c__law_draw hr (by decide) rfl (pa_cons (pv 0) (pa_cons pe_int pa_nil))) pe_int (nomark _))))) (pss_one (ps_asg (pe_op op_catT (pe_tup (pa_cons (pv 4) pa_nil)) (pe_slice sl_tup (C8.pe_c c__law_pick hr (by decide) rfl (pa_cons (pv 0) (pa_cons (pe_slice sl_list (pv 2) po_none (po_some (pe_un un_neg pe_int))) pa_nil))) (po_some pe_int) po_none)) (pg_sub (pv 2) (pe_un un_neg pe_int) set_list)))
             pss_nil)))))))
        (pss_one (ps_ret (pv 2))))), ?_⟩
    show (_ : TS) _ [some _, some _, none, none, none, none, none] _
    walk_at "w"
    intro D hD
    have S1 := Same.new (o := .lst []) hD
    have P1 := hP.same S1
    have hDp := hP.ne hD
    have g1 : GrowAt K (upd H D (.lst [])) D (fun _ => Str.ofString "") SmP 0 := GrowAt.zero upd_same
    generalize upd H D (.lst []) = H1 at S1 P1 g1 ⊢
    walk_at "w"
    intro r1 b1 H2 r10 r11 h11 h12 SBr P2
    have g2 := g1.sb SBr P1
    have SBa := (SB.of S1).tr SBr
    walk_at "w"
    refine tNil_of ?_
    refine ⟨pen, cl, (1 + r1).toNat, b1, by rw [Int.toNat_of_nonneg (by omega)]; rfl, P2, by omega, by omega, fun ln nm b2 H3 hnm hap hln ⟨d1, d2, SB3, P3⟩ => ?_⟩
    have g3 := g2.sb SB3 P2
    have hD3 : H3 D = some (.lst []) := by
      obtain ⟨_, _, z, _⟩ := id g3
      exact z
    have SBb := SBa.tr SB3
    generalize hn : (1 + r1).toNat = n at *
    have hn1 : 1 ≤ n := by omega
    have hn6 : n ≤ 6 := by omega
    have hne : firsts (fun i => V.str (nm i)) n ≠ [] := fun z => by
      have e := firsts_len (fun i => V.str (nm i)) n
      rw [z] at e
      have e : 0 = n := e
      omega
    walk_at "w"
    refine ⟨⟨_, hln⟩, ?_⟩
    have hlen : (firsts (fun i => V.str (nm i)) n).length = n := firsts_len _ _
    refine for_it (walk_list (xs := firsts (fun i => V.str (nm i)) n)) (fun i σ H' => Tk (SB2 pen D H3 H' ∧ ∃ (b' : Int) (o1 o2 o3 : Option V), b2 ≤ b' ∧ b' ≤ b2 + 50 * (i : Nat) ∧ PenAt K cl H' pen b' ∧ GrowAt K H' D nm SmP i ∧ σ = [some (.ref pen), some (.int 6), some (.ref D), some (.int (1 + r1)), o1, o2, o3])) (tk ⟨SB2.refl _ _ _, b2, none, none, none, Int.le_refl _, by omega, P3, g3.nm0 nm, rfl⟩) (fun i σ H' _ p => p.h.1.sql P3 hD3 hne hln) ?_ ?_
    · rintro i v σ H4 H5 hi ⟨S4, b4, o1, o2, o3, l4, u4, P4, g4, rfl⟩ ⟨rfl, hz⟩
      obtain ⟨hi, rfl⟩ := firsts_at hz
      walk_at "w"
      intro q1 c1 H6 q10 q11 w11 w12 SB6 P6
      walk_at "w"
      intro q2 c2 H7 q20 q21 w21 w22 SB7 P7
      walk_at "w"
      intro l1 hl1
      have S8 := Same.new (o := .lst [V.int q1, .int q2]) hl1
      have P8 := P7.same S8
      have hl8 : SqL K (upd H7 l1 (.lst [V.int q1, .int q2])) l1 ([q1, q2].map V.int) := SqL.of upd_same
      have g8 := ((g4.sb SB6 P4).sb SB7 P6).same S8
      have SB8 := ((S4.tr SB6).tr SB7).same S8
      generalize upd H7 l1 (.lst [V.int q1, .int q2]) = H8 at S8 P8 hl8 g8 SB8 ⊢
      walk_at "w"
      refine ⟨pen, cl, l1, _, c2, rfl, P8, by omega, hl8, by simp, (show (2 : Nat) ≤ 1000 by decide), fun v c3 H9 hv ⟨d1, d2, SB9', P9⟩ => ?_⟩
      have g9 := g8.sb SB9' P8
      have SB9 := SB8.tr SB9'
      revert v
      refine pickI fun q3 hq3 => ?_
      have q3b : 0 ≤ q3 ∧ q3 ≤ 5 := by
        simp only [List.mem_cons, List.not_mem_nil, or_false] at hq3
        omega
      clear hq3
      have sB : Bd (1 + q3) := ⟨by omega, by omega⟩
      walk_at "w"
      refine ⟨fun σ' H' => Tk (SB2 pen D H3 H' ∧ ∃ (b' st : Int) (o3 : Option V), b4 ≤ b' ∧ b' ≤ b4 + 20 ∧ PenAt K cl H' pen b' ∧ GrowAt K H' D nm SmP i ∧ (-6 ≤ st ∧ st ≤ 6 ∧ st ≠ 0) ∧ σ' = [some (V.ref pen), some (.int 6), some (.ref D), some (.int (1 + r1)), some (.str (nm i)), some (.int st), o3]), ?_, ?_⟩
      · walk_at "w"
        intro l2 hl2
        have S10 := Same.new (o := .lst [V.int 1, .int (-1)]) hl2
        have P10 := P9.same S10
        have hl10 : SqL K (upd H9 l2 (.lst [V.int 1, .int (-1)])) l2 ([1, -1].map V.int) := SqL.of upd_same
        have g10 := g9.same S10
        have SB10 := SB9.same S10
        generalize upd H9 l2 (.lst [V.int 1, .int (-1)]) = H10 at S10 P10 hl10 g10 SB10 ⊢
        walk_at "w"
        refine ⟨pen, cl, l2, _, c3, rfl, P10, by omega, hl10, by simp, (show (2 : Nat) ≤ 1000 by decide), fun v c4 H11 hv ⟨e1, e2, SB11, P11⟩ => ?_⟩
        revert v
        refine pickI fun q4 hq4 => ?_
        have q4b : q4 = 1 ∨ q4 = -1 := by
          simp only [List.mem_cons, List.not_mem_nil, or_false] at hq4
          omega
        have q4B : Bd q4 := ⟨by omega, by omega⟩
        clear hq4
        walk_at "w"
        refine tk ⟨SB10.tr SB11, c4, (1 + q3) * q4, _, by omega, by omega, P11, g10.sb SB11 P10, ?_, rfl⟩
        rcases q4b with rfl | rfl <;> omega
      · rintro σ' H12 ⟨SB12, c5, st, o3', l5, u5, P12, g12, hst, rfl⟩
        clear g9 g8 g4 SB9 SB8 SB9' P9 P8 hl8 S8 P7 P6
        walk_at "w"
        refine ⟨fun σ' H' => Tk (SB2 pen D H3 H' ∧ ∃ (b' da : Int), b4 ≤ b' ∧ b' ≤ b4 + 30 ∧ PenAt K cl H' pen b' ∧ GrowAt K H' D nm SmP i ∧ (0 ≤ da ∧ da ≤ 6) ∧ σ' = [some (V.ref pen), some (.int 6), some (.ref D), some (.int (1 + r1)), some (.str (nm i)), some (.int st), some (.int da)]), ?_, ?_⟩
        · walk_at "w"
          intro q5 c6 H13 q50 q51 w51 w52 SB13 P13
          walk_at "w"
          intro l3 hl3
          have S14 := Same.new (o := .lst [V.int 0, .int 0, .int q5]) hl3
          have P14 := P13.same S14
          have hl14 : SqL K (upd H13 l3 (.lst [V.int 0, .int 0, .int q5])) l3 ([0, 0, q5].map V.int) := SqL.of upd_same
          have g14 := (g12.sb SB13 P12).same S14
          have SB14 := (SB12.tr SB13).same S14
          generalize upd H13 l3 (.lst [V.int 0, .int 0, .int q5]) = H14 at S14 P14 hl14 g14 SB14 ⊢
          walk_at "w"
          refine ⟨pen, cl, l3, _, c6, rfl, P14, by omega, hl14, by simp, (show (3 : Nat) ≤ 1000 by decide), fun v c7 H15 hv ⟨e1, e2, SB15, P15⟩ => ?_⟩
          revert v
          refine pickI fun q6 hq6 => ?_
          simp only [List.mem_cons, List.not_mem_nil, or_false] at hq6
          exact tk ⟨SB14.tr SB15, c7, q6, by omega, by omega, P15, g14.sb SB15 P14, by omega, rfl⟩
        · rintro σ' H16 ⟨SB16, c8, da, l8, u8, P16, g16, hda, rfl⟩
          walk_at "w"
          refine ⟨fun σ' H' => Tk (SB2 pen D H3 H' ∧ ∃ (b' : Int), b4 ≤ b' ∧ b' ≤ b4 + 35 ∧ PenAt K cl H' pen b' ∧ GrowAt K H' D nm SmP (i + 1) ∧ σ' = [some (V.ref pen), some (.int 6), some (.ref D), some (.int (1 + r1)), some (.str (nm i)), some (.int st), some (.int da)]), ?_, ?_⟩
          · obtain ⟨ad0, p0, hD16, _⟩ := id g16
            walk_at "w"
            refine ⟨tyL hD16, ?_⟩
            walk_at "w"
            rintro q7 c9 H17 q70 q71 ⟨w71, w72, SB17, P17⟩
            have g17 := g16.sb SB17 P16
            walk_at "w"
            intro t ht
            have S18 := Same.new (o := .tup [V.str (nm i), .int da, .int q7, .int st]) ht
            have P18 := P17.same S18
            have g18 := g17.same S18
            have SB18 := (SB16.tr SB17).same S18
            have ht18 : SqT K (upd H17 t (.tup [V.str (nm i), .int da, .int q7, .int st])) t (lpV (nm i) ⟨da, q7, st⟩) := SqT.of upd_same
            generalize upd H17 t (.tup [V.str (nm i), .int da, .int q7, .int st]) = H18 at S18 P18 g18 SB18 ht18 ⊢
            obtain ⟨xs, hx1, hx2, hx3⟩ := g18.app ht18 ⟨hda.1, hda.2, q70, q71, hst.1, hst.2.1, hst.2.2⟩ (by omega)
            refine ⟨D, xs, _, rfl, rfl, hx1, hx2, ?_⟩
            exact tk ⟨SB18.put, c9, by omega, by omega, hP.put hD P18, hx3, rfl⟩
          · rintro σ' H19 ⟨SB19, c10, l10, u10, P19, g19, rfl⟩
            obtain ⟨ad1, p1, hD19, ht19, hp19⟩ := id g19
            walk_at "w"
            refine tNil_of ?_
            refine ⟨_, _, rfl, .inl ⟨_, SqL.of hD19, rfl⟩, ?_⟩
            rw [firsts_len]
            have fin : ∀ H', SB2 pen D H3 H' → (∃ b', b2 ≤ b' ∧ b' ≤ b2 + 50 * ((i + 1 : Nat) : Int) ∧ PenAt K cl H' pen b') → GrowAt K H' D nm SmP (i + 1) → Tk (SB2 pen D H3 H' ∧ ∃ (b' : Int) (o1 o2 o3 : Option V), b2 ≤ b' ∧ b' ≤ b2 + 50 * ((i + 1 : Nat) : Int) ∧ PenAt K cl H' pen b' ∧ GrowAt K H' D nm SmP (i + 1) ∧ [some (V.ref pen), some (.int 6), some (.ref D), some (.int (1 + r1)), some (.str (nm i)), some (.int st), some (.int da)] = [some (.ref pen), some (.int 6), some (.ref D), some (.int (1 + r1)), o1, o2, o3]) := fun H' h1 ⟨b', h2, h3, h4⟩ h5 => tk ⟨h1, b', _, _, _, h2, h3, h4, h5, rfl⟩
            walk_at "w"
            refine iteD (fun hc => ?_) (fun hc => ?_)
            · have hi0 : 0 < i := by
                have hc : (1 : Int) < ((i + 1 : Nat) : Int) := hc
                omega
              walk_at "w"
              intro q8 c11 H20 q80 q81 w81 w82 SB20 P20
              have g20 := g19.sb SB20 P19
              walk_at "w"
              refine iteD (fun hc2 => ?_) (fun hc2 => ?_)
              · obtain ⟨ad2, p2, hD20, ht20, hp20⟩ := id g20
                walk_at "w"
                intro t1 ht1
                have S21 := Same.new (o := .tup [V.str (nm i)]) ht1
                have P21 := P20.same S21
                have g21 := g20.same S21
                have ht21 : (upd H20 t1 (.tup [V.str (nm i)])) t1 = some (.tup [V.str (nm i)]) := upd_same
                have SB21 := (SB19.tr SB20).same S21
                generalize upd H20 t1 (.tup [V.str (nm i)]) = H21 at S21 P21 g21 ht21 SB21 ⊢
                obtain ⟨ad2, p2, hD21, htt21, hpp21⟩ := id g21
                walk_at "w"
                refine ⟨D, _, rfl, SqL.of hD21, fun l4 hl4 => ?_⟩
                rw [cutV_init, firsts_len, show i + 1 - 1 = i from rfl, firsts_take (by omega)]
                have S22 := Same.new (o := .lst (refsV ad2 i)) hl4
                have P22 := P21.same S22
                have g22 := g21.same S22
                have ht22 := S22 _ _ ht21
                have htt22 : ∀ j, j < i → SqT K (upd H21 l4 (.lst (refsV ad2 i))) (ad2 j) (lpV (nm j) (p2 j)) := fun j hj => S22.sqt (htt21 j (by omega))
                have hl22 : SqL K (upd H21 l4 (.lst (refsV ad2 i))) l4 (refsV ad2 i) := SqL.of upd_same
                have SB22 := SB21.same S22
                generalize upd H21 l4 (.lst (refsV ad2 i)) = H22 at S22 P22 g22 ht22 htt22 hl22 SB22 ⊢
                walk_at "w"
                refine ⟨pen, cl, l4, _, c11, rfl, P22, by omega, hl22, fun z => ?_, by rw [firsts_len]; omega, fun v c12 H23 hv ⟨e1, e2, SB23, P23⟩ => ?_⟩
                · have := congrArg List.length z
                  rw [firsts_len] at this
                  have this : i = 0 := this
                  omega
                · obtain ⟨j, hj, rfl⟩ := firsts_mem.mp hv
                  have hq23 := SB23.pSqt P22 (htt22 j hj)
                  have g23 := g22.sb SB23 P22
                  have ht23 := SB23 _ _ ht22 (by
                    obtain ⟨kv, hk⟩ := P22.dict
                    exact ne_of ht22 hk (by intro z; cases z))
                  have SBx := SB22.tr SB23
                  walk_at "w"
                  refine ⟨ad2 j, _, rfl, hq23, fun z => ?_, fun q2 hq2 => ?_⟩
                  · have z1 : min 1 4 = 0 := z.1
                    cases z1
                  rw [show cutV (lpV (nm j) (p2 j)) (some 1) none = [V.int (p2 j).day, .int (p2 j).post, .int (p2 j).stride] from cutV_rest]
                  have S24 := Same.new (o := .tup [V.int (p2 j).day, .int (p2 j).post, .int (p2 j).stride]) hq2
                  have P24 := P23.same S24
                  have g24 := g23.same S24
                  have ht24 := S24 _ _ ht23
                  have SB24 := SBx.same S24
                  have hq24 : (upd H23 q2 (.tup [V.int (p2 j).day, .int (p2 j).post, .int (p2 j).stride])) q2 = some (.tup [V.int (p2 j).day, .int (p2 j).post, .int (p2 j).stride]) := upd_same
                  generalize upd H23 q2 (.tup [V.int (p2 j).day, .int (p2 j).post, .int (p2 j).stride]) = H24 at S24 P24 g24 ht24 SB24 hq24 ⊢
                  refine ⟨t1, q2, _, _, rfl, rfl, SqT.of ht24, SqT.of hq24, fun z => (by cases z), (show (4 : Nat) ≤ sizeLine by decide), fun z => (by cases z), fun _ t2 ht2 => ?_⟩
                  have S25 := Same.new (o := .tup ([V.str (nm i)] ++ [V.int (p2 j).day, .int (p2 j).post, .int (p2 j).stride])) ht2
                  have P25 := P24.same S25
                  have g25 := g24.same S25
                  have SB25 := SB24.same S25
                  have ht25 : SqT K (upd H24 t2 (.tup ([V.str (nm i)] ++ [V.int (p2 j).day, .int (p2 j).post, .int (p2 j).stride]))) t2 (lpV (nm i) (p2 j)) := SqT.of upd_same
                  generalize upd H24 t2 (.tup ([V.str (nm i)] ++ [V.int (p2 j).day, .int (p2 j).post, .int (p2 j).stride])) = H25 at S25 P25 g25 SB25 ht25 ⊢
                  walk_at "w"
                  obtain ⟨xs, hx1, hx2, hx3⟩ := g25.last ht25 (hpp21 j (by omega))
                  refine ⟨D, xs, _, i, rfl, rfl, hx1, hx2, ?_⟩
                  exact fin _ SB25.put ⟨c12, by omega, by omega, hP.put hD P25⟩ hx3
              · walk_at "w"
                exact fin _ (SB19.tr SB20) ⟨c11, by omega, by omega, P20⟩ g20
            · walk_at "w"
              exact fin _ SB19 ⟨c10, by omega, by omega, P19⟩ g19
    · rintro σ H4 ⟨S4, b4, o1, o2, o3, l4, u4, P4, g4, rfl⟩
      rw [hlen] at g4 u4
      obtain ⟨p, ad, hLp, hG⟩ := g4.lp
      walk_at "w"
      exact k D ⟨n, nm, p⟩ ad b4 H4 ⟨hn1, hn6, fun i hi => (hG i hi).d0, fun i hi => (hG i hi).d1, fun i hi => (hG i hi).p0, fun i hi => (hG i hi).p1, fun i hi => (hG i hi).s0, fun i hi => (hG i hi).s1, fun i hi => (hG i hi).nz⟩ ⟨show n ≤ 40 by omega, hnm, hap, fun i hi => (hG i hi).ok⟩ hLp ⟨by omega, by omega, S4.fin SBb hD, P4⟩
end
end PK
end
section
set_option Elab.async false
set_option linter.all false
set_option maxRecDepth 100000
set_option maxHeartbeats 4000000
namespace PK
open PySem PySem.Spec PyProof.Rows L2
/-! ### repr of a whole number or None -/
def reprO : Option Int → Str
  | none => "None"
  | some i => toString i
theorem call_repr_opt {X : Cx} : CallR X (.builtin "repr") (fun xs H Q => ∃ o : Option Int, xs = [optV o] ∧ (∀ i, o = some i → i.natAbs.log2 < 1920) ∧ Q (.str (reprO o)) H) := by
  intro pins s σ H xs us Q I r h
  obtain ⟨o, rfl, hz, q⟩ := h
  cases o with
  | some i =>
    obtain ⟨u, rfl, t, rfl⟩ := vals1 r
    exact PySem.P.repr_of_int (hz i rfl) ⟨.str _, H, I.tok _, ⟨_, rfl⟩, q⟩
  | none =>
    obtain ⟨u, rfl, e⟩ := vals1 r
    have e : u = Value.none := e
    subst e
    exact PySem.P.repr_of_none ⟨.str _, H, I.tok _, ⟨_, rfl⟩, q⟩
end PK
end
section
set_option Elab.async false
set_option linter.all false
set_option maxRecDepth 100000
set_option maxHeartbeats 4000000
namespace PK
open PySem PySem.Spec PyProof.Rows L2 PM
local macro_rules | `(tactic| walk_at "sd") => `(tactic| (first
  | assumption
  | omega
  | (constructor <;> omega)
  | (refine ⟨by omega, ?_⟩; constructor <;> omega)
  | (constructor <;> (first | assumption | omega | (constructor <;> omega)))))
local macro_rules | `(tactic| walk_at "w") => `(tactic| (repeat (first
  | with_reducible refine ifTT ?_
  | with_reducible refine ifFT ?_
  | with_reducible refine ifnT ?_
  | with_reducible refine ifnF ?_
  | with_reducible refine ifIN ?_
  | with_reducible refine ifNN ?_
  | with_reducible refine ifnIN ?_
  | with_reducible refine ifnNN ?_
  | with_reducible refine ifRN ?_
  | with_reducible refine ifnRN ?_
  | ((fail_if_success with_reducible refine iteB ?_ ?_); first
    | refine ⟨_, rfl, ?_⟩
    | refine ⟨_, _, rfl, rfl, ?_⟩
    | refine ⟨_, _, rfl, ?_⟩
    | refine And.intro (a := (_ : Nat) ≤ sizeLine) (by first | exact len_small (m := 2) rfl | exact len_small (m := 1) rfl | exact len_small (m := 4) rfl | exact len_small (m := 3) rfl | exact len_small (m := 0) rfl) ?_
    | refine Or.inl ⟨_, rfl, ?_⟩
    | refine ⟨rfl, ?_⟩
    | refine And.intro (a := (_ : Int) ≤ _) (by omega) ?_
    | refine And.intro (a := (_ : Int) < _) (by omega) ?_
    | refine And.intro (a := (_ : Nat) ≤ _) (by omega) ?_
    | refine And.intro (a := (_ : Nat) < _) (by omega) ?_
    | refine And.intro (a := CDivP _ _) (by walk_at "sd") ?_
    | refine And.intro (a := CDivB _ _) (by walk_at "sd") ?_
    | refine And.intro (a := CMulB _ _) (by walk_at "sd") ?_
    | refine And.intro (a := _ ≠ (0 : Int)) (by walk_at "sd") ?_
    | refine And.intro (a := (0 : Int) < _) (by walk_at "sd") ?_
    | refine ⟨_, _, rfl, ‹_›, rfl, ?_⟩
    | refine ⟨_, _, _, _, rfl, rfl, ‹_›, rfl, ?_⟩
    | refine ⟨_, _, _, _, rfl, rfl, by assumption, by assumption, ?_⟩
    | refine ⟨_, _, _, _, _, _, rfl, ‹_›, ‹_›, rfl, ?_⟩
    | refine ⟨_, _, _, _, _, _, rfl, ‹_›, (by exact KCls.f ‹_› rfl), (by rfl), ?_⟩
    | refine ⟨_, _, _, _, _, _, rfl, upd_same, ‹_›, (by rfl), ?_⟩
    | refine ⟨_, _, _, _, _, _, rfl, ‹_›, ‹Cls _ _›, ‹_›, rfl, ?_⟩
    | refine ⟨_, _, _, _, rfl, ‹_›, by decide +kernel, ?_⟩
    | refine ⟨_, _, _, rfl, ‹_›, ?_⟩
    | refine ⟨_, _, _, _, rfl, by assumption, ?_⟩
    | refine And.intro (by assumption) ?_))))
section
variable {P : Program} {w : World} {K : PySem.W.Frag} {mg : Str → Option Value} {base : Heap} {CP CF : Addr}
/-! ### small fences: what the window tells -/
def okP (painted : Int → Option Int) (day : Option Int) (x : Int) : Bool := match painted x with
  | none => false
  | some d => match day with
    | none => true
    | some z => decide (d ≤ z)
theorem okP_iff {painted : Int → Option Int} {day : Option Int} {x : Int} : okP painted day x = true ↔ ∃ d, painted x = some d ∧ ∀ z, day = some z → d ≤ z := by
  unfold okP
  cases painted x with
  | none => exact ⟨fun z => (by cases z), fun ⟨d, e, _⟩ => (by cases e)⟩
  | some d => cases day with
    | none => exact ⟨fun _ => ⟨d, rfl, fun z e => (by cases e)⟩, fun _ => rfl⟩
    | some z =>
      show decide (d ≤ z) = true ↔ _
      rw [decide_eq_true_eq]
      exact ⟨fun h => ⟨d, rfl, fun z' e => (by injection e with e; omega)⟩, fun ⟨d', e, h⟩ => (by injection e with e; rw [e]; exact h z rfl)⟩
theorem firsts_filter_map {P : Int → Bool} {g : Int → Int} {f : Nat → Int} {n : Nat} : ((firsts f n).filter fun x => P (g x)).map g = (firsts (fun k => g (f k)) n).filter P := by
  rw [← map_firsts g f n, List.filter_map]
  rfl
theorem small_found {c : Crew} {L : Nat → Option Int} {day : Option Int} {post s U : Int} {index : Nat} {painted : Int → Option Int} (sm : SmC c) (lim : LimOk c L) (hp : ∀ x d, painted x = some d ↔ PaintedAt c.n c.p L x d ∧ d < U + 1) (hU : 119 ≤ U) (hs : s = 1 ∨ s = -1) (h0 : -12 ≤ post) (h1 : post ≤ 12) (hi : index < 8) {r : Option Int} (F : FoundBy c L day post (index : Int) (decide (s < 0)) r) :
    r = ((firsts (fun k : Nat => post + s * (k : Nat)) 90).filter (okP painted day))[index]? := by
  have hnz : AllNZ (partsOf c.n c.p L day) := fun q hq => by
    obtain ⟨a, ha, rfl⟩ := parts_mem.mp hq
    exact sm.nz a ha
  have hap := parts_apart lim.hist day
  have near : ∀ x, -101 ≤ x → x ≤ 101 → (okP painted day x = true ↔ ∃ q, q ∈ partsOf c.n c.p L day ∧ MemP q x) := fun x x0 x1 => by
    rw [okP_iff, painted_parts]
    constructor
    · rintro ⟨d, e, h⟩
      exact ⟨d, ((hp x d).mp e).1, h⟩
    · rintro ⟨d, e, h⟩
      refine ⟨d, (hp x d).mpr ⟨e, ?_⟩, h⟩
      have := near_early sm.nz sm.d1 (fun a ha => ⟨sm.p0 a ha, sm.p1 a ha⟩) ⟨x0, x1⟩ e
      omega
  have hsm : ∀ q, q ∈ partsOf c.n c.p L day → (-8 ≤ q.1 ∧ q.1 ≤ 8) ∧ (-6 ≤ q.2.1 ∧ q.2.1 ≤ 6 ∧ q.2.1 ≠ 0) := fun q hq => by
    obtain ⟨a, ha, rfl⟩ := parts_mem.mp hq
    exact ⟨⟨sm.p0 a ha, sm.p1 a ha⟩, sm.s0 a ha, sm.s1 a ha, sm.nz a ha⟩
  rcases hs with rfl | rfl
  · have F : Found (partsOf c.n c.p L day) post (index : Int) r ∧ _ := F
    have e := win_found hnz hap hsm ⟨h0, h1⟩ (P := okP painted day) (fun k hk => near _ (by omega) (by omega)) hi F.1
    rw [e]
    have e2 : firsts (fun k : Nat => post + 1 * ((k : Nat) : Int)) 90 = (List.range 90).map fun k : Nat => post + ((k : Nat) : Int) := firsts_congr (f := fun k : Nat => post + 1 * ((k : Nat) : Int)) (g := fun k : Nat => post + ((k : Nat) : Int)) fun i _ => by rw [Int.one_mul]
    rw [e2]
    rfl
  · obtain ⟨r', rfl, F, _⟩ := (F : ∃ r' : Option Int, r = r'.map (fun x => -x) ∧ Found ((partsOf c.n c.p L day).map oppP) (-post) (index : Int) r' ∧ ∀ x, r' = some x → -post ≤ x ∧ x ≤ 10 ^ 79)
    have e := win_found (l := (partsOf c.n c.p L day).map oppP) (fun q hq => by
        obtain ⟨q', hq', rfl⟩ := List.mem_map.mp hq
        have := hnz q' hq'
        show -q'.2.1 ≠ 0
        omega) (opp_apart hap) (fun q hq => by
        obtain ⟨q', hq', rfl⟩ := List.mem_map.mp hq
        obtain ⟨⟨a1, a2⟩, a3, a4, a5⟩ := hsm q' hq'
        exact ⟨⟨by show -8 ≤ -q'.1; omega, by show -q'.1 ≤ 8; omega⟩, by show -6 ≤ -q'.2.1; omega, by show -q'.2.1 ≤ 6; omega, by show -q'.2.1 ≠ 0; omega⟩) (post := -post) ⟨by omega, by omega⟩ (P := fun x => okP painted day (-x)) (fun k hk => by
        rw [near _ (by omega) (by omega)]
        constructor
        · rintro ⟨q, hq, h⟩
          refine ⟨oppP q, List.mem_map.mpr ⟨q, hq, rfl⟩, mem_opp.mpr h⟩
        · rintro ⟨q, hq, h⟩
          obtain ⟨q', hq', rfl⟩ := List.mem_map.mp hq
          exact ⟨q', hq', mem_opp.mp h⟩) hi F
    rw [e, ← List.getElem?_map]
    have e2 := firsts_filter_map (P := okP painted day) (g := fun x => -x) (f := fun k : Nat => -post + ((k : Nat) : Int)) (n := 90)
    have e3 : firsts (fun k : Nat => post + -1 * ((k : Nat) : Int)) 90 = firsts (fun k : Nat => -(-post + ((k : Nat) : Int))) 90 := firsts_congr fun i _ => by omega
    rw [e3, ← e2]
    rfl
/-! ### what the pen leaves as it is -/
theorem fence_ne_pen {H : Hp} {pen cl f : Addr} {b : Int} {c : Crew} {r : Nat → Addr} (p : PenAt K cl H pen b) (q : FnAt K CP CF H f c r) : ∀ dy t d, H f = some (.ins CF dy (feN.zip [.ref t, .ref d])) → d ≠ pen := fun dy t d h e => by
  obtain ⟨kvs, cells, rst, h1, h2, _⟩ := p
  obtain ⟨dy', t', d', g1, _, _, g4⟩ := q
  rw [h] at g1
  injection g1 with g1
  injection g1 with g1 g2 g3
  have e2 : d = d' := by
    injection g3 with g3 g5
    injection g5 with g5 g6
    injection g5 with g5 g7
    injection g7
  rw [← e2, e, h1] at g4
  injection g4 with g4
  injection g4 with g4
  rw [g4] at h2
  obtain ⟨i, _, e3⟩ := firsts_mem.mp (valV_mem h2)
  injection e3 with _ e3
  cases e3
theorem KeepW.fence (cl pen f : Addr) (c : Crew) (r : Nat → Addr) : KeepW K cl pen (fun H => FnAt K CP CF H f c r) := fun H H' b p s q => by
  obtain ⟨kvs, hp⟩ := p.dict
  exact SB.fn s hp q (fence_ne_pen p q)
theorem KeepW.tabs (cl pen PT : Addr) : KeepW K cl pen (fun H => LamX.Tabs (TabT PT) H) := fun H H' b p s q => by
  obtain ⟨kvs, hp⟩ := p.dict
  intro z hz
  obtain ⟨ps, h1, h2, h3⟩ := q z hz
  refine ⟨ps, s _ _ h1 (ne_of h1 hp (by intro z; cases z)), h2, fun pos cv hc => ?_⟩
  obtain ⟨cc, e1, e2⟩ := h3 pos cv hc
  exact ⟨cc, e1, s _ _ e2 (ne_of e2 hp (by intro z; cases z))⟩
theorem KeepW.obj (cl pen a : Addr) (o : HO) (hne : a ≠ pen) : KeepW K cl pen (fun H => H a = some o) := fun _ _ _ _ s q => s _ _ q hne
theorem PenAt.ext {H H' : Hp} {pen cl : Addr} {b : Int} (e : LamX.ExtN H H') (p : PenAt K cl H pen b) : PenAt K cl H' pen b := by
  obtain ⟨kvs, cells, rst, h1, h2, h3, h4, h5, h6, h7⟩ := p
  exact ⟨kvs, cells, rst, e _ _ h1 (fun _ z => by cases z), h2, h3, h4, h5, LamX.ExtN.seq e h6, h7⟩
end
end PK
end
section
set_option Elab.async false
set_option linter.all false
set_option maxRecDepth 100000
set_option maxHeartbeats 4000000
namespace PK
open PySem PySem.Spec PyProof.Rows L2 PM
local macro_rules | `(tactic| walk_at "sd") => `(tactic| (first
  | assumption
  | omega
  | (constructor <;> omega)
  | (refine ⟨by omega, ?_⟩; constructor <;> omega)
  | (constructor <;> (first | assumption | omega | (constructor <;> omega)))))
local macro_rules | `(tactic| walk_at "w") => `(tactic| (repeat (first
  | with_reducible refine ifTT ?_
  | with_reducible refine ifFT ?_
  | with_reducible refine ifnT ?_
  | with_reducible refine ifnF ?_
  | with_reducible refine ifIN ?_
  | with_reducible refine ifNN ?_
  | with_reducible refine ifnIN ?_
  | with_reducible refine ifnNN ?_
  | with_reducible refine ifRN ?_
  | with_reducible refine ifnRN ?_
  | ((fail_if_success with_reducible refine iteB ?_ ?_); first
    | refine ⟨_, rfl, ?_⟩
    | refine ⟨_, _, rfl, rfl, ?_⟩
    | refine ⟨_, _, rfl, ?_⟩
    | refine And.intro (a := (_ : Nat) ≤ sizeLine) (by first | exact len_small (m := 2) rfl | exact len_small (m := 1) rfl | exact len_small (m := 4) rfl | exact len_small (m := 3) rfl | exact len_small (m := 0) rfl) ?_
    | refine Or.inl ⟨_, rfl, ?_⟩
    | refine ⟨rfl, ?_⟩
    | refine And.intro (a := (_ : Int) ≤ _) (by omega) ?_
    | refine And.intro (a := (_ : Int) < _) (by omega) ?_
    | refine And.intro (a := (_ : Nat) ≤ _) (by omega) ?_
    | refine And.intro (a := (_ : Nat) < _) (by omega) ?_
    | refine And.intro (a := CDivP _ _) (by walk_at "sd") ?_
    | refine And.intro (a := CDivB _ _) (by walk_at "sd") ?_
    | refine And.intro (a := CMulB _ _) (by walk_at "sd") ?_
    | refine And.intro (a := _ ≠ (0 : Int)) (by walk_at "sd") ?_
    | refine And.intro (a := (0 : Int) < _) (by walk_at "sd") ?_
    | refine ⟨_, _, rfl, ‹_›, rfl, ?_⟩
    | refine ⟨_, _, _, _, rfl, rfl, ‹_›, rfl, ?_⟩
    | refine ⟨_, _, _, _, rfl, rfl, by assumption, by assumption, ?_⟩
    | refine ⟨_, _, _, _, _, _, rfl, ‹_›, ‹_›, rfl, ?_⟩
    | refine ⟨_, _, _, _, _, _, rfl, ‹_›, (by exact KCls.f ‹_› rfl), (by rfl), ?_⟩
    | refine ⟨_, _, _, _, _, _, rfl, upd_same, ‹_›, (by rfl), ?_⟩
    | refine ⟨_, _, _, _, _, _, rfl, ‹_›, ‹Cls _ _›, ‹_›, rfl, ?_⟩
    | refine ⟨_, _, _, _, rfl, ‹_›, by decide +kernel, ?_⟩
    | refine ⟨_, _, _, rfl, ‹_›, ?_⟩
    | refine ⟨_, _, _, _, rfl, by assumption, ?_⟩
    | refine And.intro (by assumption) ?_))))
section
variable {P : Program} {w : World} {K : PySem.W.Frag} {mg : Str → Option Value} {base : Heap} {CP CF PT : Addr}
theorem found_bd {c : Crew} {L : Nat → Option Int} {day : Option Int} {post index : Int} {left : Bool} {r : Option Int} (F : FoundBy c L day post index left r) (h0 : -(10 ^ 40) ≤ post) (h1 : post ≤ 10 ^ 40) : ∀ i, r = some i → i.natAbs.log2 < 1920 := fun i e => by
  have hb : Bd i := by
    cases left with
    | false =>
      obtain ⟨_, F⟩ := (F : Found (partsOf c.n c.p L day) post index r ∧ ∀ x, r = some x → post ≤ x ∧ x ≤ 10 ^ 79)
      have := F i e
      exact ⟨by omega, by omega⟩
    | true =>
      obtain ⟨r', e2, _, F⟩ := (F : ∃ r' : Option Int, r = r'.map (fun x => -x) ∧ Found ((partsOf c.n c.p L day).map oppP) (-post) index r' ∧ ∀ x, r' = some x → -post ≤ x ∧ x ≤ 10 ^ 79)
      rw [e] at e2
      cases r' with
      | none => cases e2
      | some y =>
        injection e2 with e2
        have e2 : i = -y := e2
        have := F y rfl
        exact ⟨by omega, by omega⟩
  exact Nat.lt_trans hb.log (by decide)
/-! ### a small fence is right -/
def spLSmallR (K : PySem.W.Frag) (PT : Addr) : Sp := fun vs H Q _ => ∃ (pen cl : Addr) (b : Int), vs = [.ref pen] ∧ PenAt K cl H pen b ∧ b + 700 ≤ 10 ^ 9 ∧ LamX.Tabs (TabT PT) H ∧ ∀ b' H', b ≤ b' → b' ≤ b + 700 → PenAt K cl H' pen b' → LamX.Tabs (TabT PT) H' → Q (.bl true) H'
theorem sc__law_small_right : FnScope ["_law_pen_here", "_law_painters", "_law_fence_here", "_law_painted", "_law_again", "_law_post", "_law_index", "_law_sign", "_law_date", "_law_posts", "_law_some", "_law_due", "_law_k", "_law_one"] ["_law_pen_here"] (defScope s__law_small_right) := C8.fnScope_by (by decide +kernel)
theorem ok_law_small_right {f : Addr} (F : DF K "_law_small_right" "_law_small_right" s__law_small_right f) (hm : mg "_law_small_right" = some (.ref f)) (c__law_small : C8.Cal P w K mg base 8 "_law_small" (spLSmall K) []) (c__law_fence : C8.Cal P w K mg base 6 "_law_fence" (spLFence K CP CF) []) (c__law_walked : C8.Cal P w K mg base 1 "_law_walked" (spLWalked K) []) (c__law_far_date : C8.Cal P w K mg base 1 "_law_far_date" (spLFar K) [])
    (c__law_draw : C8.Cal P w K mg base 5 "_law_draw" (spD K) []) (c__law_pick : C8.Cal P w K mg base 6 "_law_pick" (spPickL K) []) (c__law_around : C8.Cal P w K mg base 6 "_law_around" (spAround K) []) (c_painted_from : CalN P w K mg base 11 "painted_from" (spPaintedFrom K CP CF PT) 3 ["day", "left"] (fun vs zs => vs ++ zs)) (n_len : mg "len" = none) (n_range : mg "range" = none) (n_repr : mg "repr" = none) :
    C8.Cal P w K mg base 12 "_law_small_right" (spLSmallR K PT) [] := by
  refine cal_of F hm sc__law_small_right (fun _ _ _ _ _ _ us hl => match us, hl with | [_], _ => rfl) (fun vs H Q E h => ?_) (fun cdv A outer s H vs Q E hr h => ?_)
  · obtain ⟨pen, cl, b, rfl, _⟩ := h
    rfl
  · obtain ⟨pen, cl, b, rfl, hP, hb, hT, k⟩ := h
    have hu := units1 hr
    refine ⟨_, (pss_cons (ps_set (i := 1) sc__law_small_right.nd rfl (Or.inl rfl) (C8.pe_c c__law_small hr (by decide) rfl (pa_cons (pv 0) (pa_cons pe_int pa_nil))))
        (pss_cons (ps_asg (pe_tup (pa_cons (C8.pe_c c__law_fence hr (by decide) rfl (pa_cons (pv 1) pa_nil)) (pa_cons (pe_ix ix_tup (C8.pe_c c__law_walked hr (by decide) rfl (pa_cons (pv 1) (pa_cons (pe_op op_add (C8.pe_c c__law_far_date hr (by decide) rfl (pa_cons (pv 1) pa_nil)) pe_int) pa_nil))) pe_int (fun _ _ => rfl)) pa_nil))) (pg_tup rfl (pgs_cons (pg_name (i := 2) sc__law_small_right.nd rfl (Or.inl rfl)) (pgs_cons (pg_name (i := 3) sc__law_small_right.nd rfl (Or.inr rfl)) pgs_nil))))
        (pss_cons (ps_for PassesOwn.never rfl (pi_range1 (by rfl) n_range (pa_cons pe_int pa_nil)) (pg_name (i := 4) sc__law_small_right.nd rfl (Or.inl rfl))
           (C8.pss_cut (ps_asg (pe_tup (pa_cons (C8.pe_c c__law_around hr (by decide) rfl (pa_cons (pv 0) (pa_cons pe_int pa_nil))) (pa_cons (C8.pe_c c__law_draw hr (by decide) rfl (pa_cons (pv 0) (pa_cons pe_int pa_nil))) (pa_cons (C8.pe_c c__law_pick hr (by decide) rfl (pa_cons (pv 0) (pa_cons (pe_lst (pa_cons pe_int (pa_cons (pe_un un_neg pe_int) pa_nil))) pa_nil))) pa_nil)))) (pg_tup rfl (pgs_cons (pg_name (i := 5) sc__law_small_right.nd rfl (Or.inr rfl)) (pgs_cons (pg_name (i := 6) sc__law_small_right.nd rfl (Or.inl rfl)) (pgs_cons (pg_name (i := 7) sc__law_small_right.nd rfl (Or.inr rfl)) pgs_nil)))))
           (C8.pss_cut (ps_set (i := 8) sc__law_small_right.nd rfl (Or.inr rfl) (C8.pe_c c__law_pick hr (by decide) rfl (pa_cons (pv 0) (pa_cons (pe_lst (pa_cons pe_non (pa_cons (C8.pe_c c__law_draw hr (by decide) rfl (pa_cons (pv 0) (pa_cons pe_int pa_nil))) pa_nil))) pa_nil))))
           (C8.pss_cut (ps_setLc (i := 9) (own := [("_law_k", 12)]) rfl sc__law_small_right.nd rfl rfl (sw_true rfl rfl rfl (by decide +kernel)) (pi_range1 (by rfl) n_range (pa_cons pe_int pa_nil)) (blkOk_by (N := ["_law_pen_here", "_law_painters", "_law_fence_here", "_law_painted", "_law_again", "_law_post", "_law_index", "_law_sign", "_law_date", "_law_posts", "_law_some", "_law_due", "_law_k", "_law_one"]) (sc := defScope s__law_small_right) (own := [("_law_k", 12)]) (by decide +kernel)) (fun _ _ _ _ _ => (pg_name (i := 12) sc__law_small_right.nd rfl (Or.inl rfl))) (fun _ _ _ _ _ => pts_nil) (fun _ _ _ _ _ => (pe_op op_add (pv 5) (pe_op op_mulB (pv 7) (pv 12)))))
           (C8.pss_cut (ps_setLc (i := 10) (own := [("_law_one", 13)]) rfl sc__law_small_right.nd rfl rfl (sw_true rfl rfl rfl (by decide +kernel)) (pi_list (pv 9)) (blkOk_by (N := ["_law_pen_here", "_law_painters", "_law_fence_here", "_law_painted", "_law_again", "_law_post", "_law_index", "_law_sign", "_law_date", "_law_posts", "_law_some", "_law_due", "_law_k", "_law_one"]) (sc := defScope s__law_small_right) (own := [("_law_one", 13)]) (by decide +kernel)) (fun _ _ _ _ _ => (pg_name (i := 13) sc__law_small_right.nd rfl (Or.inl rfl))) (fun _ _ _ _ _ => (pts_one (PW.pt (pw_and (pt_cmp (pc_din hu (pv 13) (pv 3))) (pw_and1 (PW.pt (pw_or (pt_cmpR op_isN (pv 8) pe_non (nomark _)) (pw_or1 (pt_cmpR op_le (pe_dget hu (pv 3) (pv 13) (fun _ _ => rfl)) (pv 8) (nomark _)))))))))) (fun _ _ _ _ _ => (pv 13)))
           (C8.pss_cut (ps_set (i := 11) sc__law_small_right.nd rfl (Or.inl rfl) (pe_ifExp (pt_cmpR op_gt (pe_callB call_len (by rfl) n_len (by decide +kernel) (pa_cons (pv 10) pa_nil)) (pv 6) (nomark _)) (pe_ix ix_list (pv 10) (pv 6) (fun _ _ => rfl)) pe_non))
           (pss_one (ps_if (pt_cmpR op_ne (pe_callB call_repr_opt (by rfl) n_repr (by decide +kernel) (pa_cons (pe_cN c_painted_from hr (by decide) rfl (pa_cons (pv 2) (pa_cons (pv 5) (pa_cons (pv 6) pa_nil))) (pk_cons (pv 8) (pk_cons (pe_cmpR op_lt (pv 7) pe_int (nomark _)) pk_nil))) pa_nil)) (pe_callB call_repr_opt (by rfl) n_repr (by decide +kernel) (pa_cons (pv 11) pa_nil)) (nomark _)) (pss_one (ps_ret pe_bl))
             pss_nil))))))))
        (pss_one (ps_ret pe_bl))))), ?_⟩
    show (_ : TS) _ [some _, none, none, none, none, none, none, none, none, none, none, none, none, none] _
    walk_at "w"
    rintro l c ad b1 H1 sm ok hl ⟨d1, d2, S1, P1⟩
    have T1 := KeepW.tabs (K := K) cl pen PT _ _ _ hP S1 hT
    walk_at "w"
    intro x r H2 hS2 hF
    have P2 := P1.same hS2
    have T2 := T1.ext hS2
    walk_at "w"
    refine ⟨l, c, ad, rfl, hl.same hS2, sm, fun u H3 hS3 u0 u1 => ?_⟩
    have P3 := P2.same hS3
    have T3 := T2.ext hS3
    have hF3 := hF.same hS3
    walk_at "w"
    refine ⟨l, c, ad, u + 120, rfl, (hl.same hS2).same hS3, sm, by omega, by omega, fun tr hlt pd kvs painted H4 hS4 htr hpd npd hD hp => ?_⟩
    have P4 := P3.same hS4
    have T4 := T3.ext hS4
    have hF4 := hF3.same hS4
    have hpp := P3.ne npd
    walk_at "w"
    intro t ht
    have S5 := Same.new (o := .tup [.ref x, .ref pd]) ht
    refine ⟨_, _, rfl, SqT.of upd_same, rfl, ?_⟩
    have P5 := P4.same S5
    have T5 := T4.ext S5
    have hF5 := hF4.same S5
    have hpd5 := S5 _ _ hpd
    generalize upd H4 t (.tup [.ref x, .ref pd]) = H5 at S5 P5 T5 hF5 hpd5 ⊢
    have kX : KeepW K cl pen (fun H' => ((FnAt K CP CF H' x c r ∧ H' pd = some (.dK kvs)) ∧ LamX.Tabs (TabT PT) H')) := ((KeepW.fence cl pen x c r).and (KeepW.obj cl pen pd _ hpp)).and (KeepW.tabs cl pen PT)
    refine ⟨_, _, rfl, _, _, rfl, rfl, 6, rfl, by decide, by decide, ?_⟩
    refine for_it walk_range (fun i σ H' => Tk (((FnAt K CP CF H' x c r ∧ H' pd = some (.dK kvs)) ∧ LamX.Tabs (TabT PT) H') ∧ ∃ (b' : Int) (o4 o5 o6 o7 o8 o9 o10 o11 : Option V), b1 ≤ b' ∧ b' ≤ b1 + 40 * (i : Nat) ∧ PenAt K cl H' pen b' ∧ σ = [some (.ref pen), some (.ref l), some (.ref x), some (.ref pd), o4, o5, o6, o7, o8, o9, o10, o11, none, none])) (tk ⟨⟨⟨hF5, hpd5⟩, T5⟩, b1, none, none, none, none, none, none, none, none, Int.le_refl _, by omega, P5, rfl⟩) (fun _ _ _ _ _ => trivial) ?_ ?_
    · rintro i v σ H6 H7 hi ⟨X6, b5, o4, o5, o6, o7, o8, o9, o10, o11, l5, u5, P6, rfl⟩ ⟨rfl, rfl⟩
      have hi : i < 6 := hi
      walk_at "w"
      refine ⟨fun σ' H' => Tk (((FnAt K CP CF H' x c r ∧ H' pd = some (.dK kvs)) ∧ LamX.Tabs (TabT PT) H') ∧ ∃ (b' q1 q2 q3 : Int) (o8 o9 o10 o11 : Option V), b5 ≤ b' ∧ b' ≤ b5 + 15 ∧ PenAt K cl H' pen b' ∧ (-12 ≤ q1 ∧ q1 ≤ 12) ∧ (0 ≤ q2 ∧ q2 < 8) ∧ (q3 = 1 ∨ q3 = -1) ∧ σ' = [some (V.ref pen), some (.ref l), some (.ref x), some (.ref pd), some (.int (0 + (i : Nat))), some (.int q1), some (.int q2), some (.int q3), o8, o9, o10, o11, none, none]), ?_, ?_⟩
      · walk_at "w"
        rintro q1 c8 H8 q10 q11 ⟨w1, w2, S8, P8⟩
        have q10 : -12 ≤ q1 := q10
        have q11 : q1 ≤ 12 := q11
        have X8 := kX _ _ _ P6 S8 X6
        walk_at "w"
        intro q2 c9 H9 q20 q21 w3 w4 S9 P9
        have X9 := kX _ _ _ P8 S9 X8
        walk_at "w"
        refine pickW (E := C8.E0) (ns := [1, -1]) kX P9 X9 (by omega) (by simp) (by decide) fun q3 c10 H10 hq3 w5 w6 P10 X10 => ?_
        have q3b : q3 = 1 ∨ q3 = -1 := by
          simp only [List.mem_cons, List.not_mem_nil, or_false] at hq3
          omega
        walk_at "w"
        intro t2 ht2
        have S11 := Same.new (o := .tup [.int q1, .int q2, .int q3]) ht2
        refine ⟨_, _, rfl, SqT.of upd_same, rfl, ?_⟩
        walk_at "w"
        exact tk ⟨kX.same P10 S11 X10, c10, q1, q2, q3, _, _, _, _, by omega, by omega, P10.same S11, ⟨q10, q11⟩, ⟨q20, q21⟩, q3b, rfl⟩
      · rintro σ' H8 ⟨X8, b8, q1, q2, q3, o8a, o9a, o10a, o11a, l8, u8, P8, hq1, hq2, hq3, rfl⟩
        refine ⟨fun σ' H' => Tk (((FnAt K CP CF H' x c r ∧ H' pd = some (.dK kvs)) ∧ LamX.Tabs (TabT PT) H') ∧ ∃ (b' q1 q2 q3 : Int) (day : Option Int) (o9 o10 o11 : Option V), b5 ≤ b' ∧ b' ≤ b5 + 25 ∧ PenAt K cl H' pen b' ∧ (-12 ≤ q1 ∧ q1 ≤ 12) ∧ (0 ≤ q2 ∧ q2 < 8) ∧ (q3 = 1 ∨ q3 = -1) ∧ (∀ z, day = some z → 0 ≤ z ∧ z < 40) ∧ σ' = [some (V.ref pen), some (.ref l), some (.ref x), some (.ref pd), some (.int (0 + (i : Nat))), some (.int q1), some (.int q2), some (.int q3), some (optV day), o9, o10, o11, none, none]), ?_, ?_⟩
        · walk_at "w"
          intro q4 c9 H9 q40 q41 w3 w4 S9 P9
          have X9 := kX _ _ _ P8 S9 X8
          walk_at "w"
          intro l2 hl2
          have S10 := Same.new (o := .lst [V.non, .int q4]) hl2
          have P10 := P9.same S10
          have X10 := kX.same P9 S10 X9
          have hl10 : SqL K (upd H9 l2 (.lst [V.non, .int q4])) l2 [V.non, .int q4] := SqL.of upd_same
          generalize upd H9 l2 (.lst [V.non, .int q4]) = H10 at S10 P10 X10 hl10 ⊢
          walk_at "w"
          refine ⟨pen, cl, l2, _, c9, rfl, P10, by omega, hl10, by simp, (show (2 : Nat) ≤ 1000 by decide), fun v c11 H11 hv ⟨w5, w6, S11, P11⟩ => ?_⟩
          have X11 := kX _ _ _ P10 S11 X10
          simp only [List.mem_cons, List.not_mem_nil, or_false] at hv
          rcases hv with rfl | rfl
          · exact tk ⟨X11, c11, q1, q2, q3, none, _, _, _, by omega, by omega, P11, hq1, hq2, hq3, fun z e => (by cases e), rfl⟩
          · exact tk ⟨X11, c11, q1, q2, q3, some q4, _, _, _, by omega, by omega, P11, hq1, hq2, hq3, fun z e => (by injection e with e; omega), rfl⟩
        · rintro σ' H9 ⟨X9, b9, q1, q2, q3, day, o9a, o10a, o11a, l9, u9, P9, hq1, hq2, hq3, hday, rfl⟩
          refine ⟨fun σ' H' => Tk (((FnAt K CP CF H' x c r ∧ H' pd = some (.dK kvs)) ∧ LamX.Tabs (TabT PT) H') ∧ ∃ (b' q1 q2 q3 : Int) (day : Option Int) (pl : Addr) (o10 o11 : Option V), b5 ≤ b' ∧ b' ≤ b5 + 25 ∧ PenAt K cl H' pen b' ∧ (-12 ≤ q1 ∧ q1 ≤ 12) ∧ (0 ≤ q2 ∧ q2 < 8) ∧ (q3 = 1 ∨ q3 = -1) ∧ (∀ z, day = some z → 0 ≤ z ∧ z < 40) ∧ SqL K H' pl ((firsts (fun k : Nat => q1 + q3 * (k : Nat)) 90).map V.int) ∧ σ' = [some (V.ref pen), some (.ref l), some (.ref x), some (.ref pd), some (.int (0 + (i : Nat))), some (.int q1), some (.int q2), some (.int q3), some (optV day), some (.ref pl), o10, o11, none, none]), ?_, ?_⟩
          · refine ⟨90, rfl, by decide, by decide, fun D hDn => ?_⟩
            have q3B : Bd q3 := ⟨by omega, by omega⟩
            refine lc_acc walk_range hDn (by decide) (fun m acc H' => acc = (firsts (fun k : Nat => q1 + q3 * (k : Nat)) m).map V.int) rfl (fun _ _ _ _ _ => trivial) ?_ ?_
            · rintro m v acc Ha Hb Nx hm' hSa hDa rfl ⟨rfl, rfl⟩ fin _
              have hm' : m < 90 := hm'
              have mB : Bd (0 + (m : Nat)) := ⟨by omega, by omega⟩
              walk_at "w"
              refine fin _ _ hDa hSa ?_
              rw [firsts_succ, List.map_append, Int.zero_add]
              rfl
            · rintro acc Ha hSa hDa rfl
              walk_at "w"
              have hDa : Ha D = some (.lst ((firsts (fun k : Nat => q1 + q3 * (k : Nat)) 90).map V.int)) := hDa
              exact tk ⟨kX.same P9 hSa X9, b9, q1, q2, q3, day, D, _, _, by omega, by omega, P9.same hSa, hq1, hq2, hq3, hday, SqL.of hDa, rfl⟩
          · rintro σ' H10 ⟨X10, b10, q1, q2, q3, day, pl, o10a, o11a, l10, u10, P10, hq1, hq2, hq3, hday, hpl, rfl⟩
            refine ⟨fun σ' H' => Tk (((FnAt K CP CF H' x c r ∧ H' pd = some (.dK kvs)) ∧ LamX.Tabs (TabT PT) H') ∧ ∃ (b' q1 q2 q3 : Int) (day : Option Int) (pl sl : Addr) (o11 : Option V), b5 ≤ b' ∧ b' ≤ b5 + 25 ∧ PenAt K cl H' pen b' ∧ (-12 ≤ q1 ∧ q1 ≤ 12) ∧ (0 ≤ q2 ∧ q2 < 8) ∧ (q3 = 1 ∨ q3 = -1) ∧ (∀ z, day = some z → 0 ≤ z ∧ z < 40) ∧ SqL K H' sl (((firsts (fun k : Nat => q1 + q3 * (k : Nat)) 90).filter (okP painted day)).map V.int) ∧ σ' = [some (V.ref pen), some (.ref l), some (.ref x), some (.ref pd), some (.int (0 + (i : Nat))), some (.int q1), some (.int q2), some (.int q3), some (optV day), some (.ref pl), some (.ref sl), o11, none, none]), ?_, ?_⟩
            · walk_at "w"
              refine ⟨⟨_, hpl⟩, fun D hDn => ?_⟩
              have hpd10 := X10.1.2
              refine lc_acc (walk_list (xs := (firsts (fun k : Nat => q1 + q3 * (k : Nat)) 90).map V.int)) hDn (by rw [List.length_map, firsts_len]; decide) (fun m acc H' => acc = ((firsts (fun k : Nat => q1 + q3 * (k : Nat)) m).filter (okP painted day)).map V.int) rfl (fun m acc H' e _ => e.seq hpl) ?_ ?_
              · rintro m v acc Ha Hb Nx hm' hSa hDa rfl ⟨rfl, hz⟩ fin skip
                obtain ⟨y, hy, rfl⟩ := map_at hz
                obtain ⟨hm', rfl⟩ := firsts_at hy
                have hpa := hSa _ _ hpd10
                have more : ((firsts (fun k : Nat => q1 + q3 * (k : Nat)) (m + 1)).filter (okP painted day)).map V.int = ((firsts (fun k : Nat => q1 + q3 * (k : Nat)) m).filter (okP painted day)).map V.int ++ (([q1 + q3 * (m : Nat)]).filter (okP painted day)).map V.int := by
                  rw [firsts_succ, List.filter_append, List.map_append]
                have yes : okP painted day (q1 + q3 * (m : Nat)) = true → ((firsts (fun k : Nat => q1 + q3 * (k : Nat)) m).filter (okP painted day)).map V.int ++ [V.int (q1 + q3 * (m : Nat))] = ((firsts (fun k : Nat => q1 + q3 * (k : Nat)) (m + 1)).filter (okP painted day)).map V.int := fun e => by
                  rw [more, List.filter_cons_of_pos e]
                  rfl
                have no : okP painted day (q1 + q3 * (m : Nat)) = false → ((firsts (fun k : Nat => q1 + q3 * (k : Nat)) m).filter (okP painted day)).map V.int = ((firsts (fun k : Nat => q1 + q3 * (k : Nat)) (m + 1)).filter (okP painted day)).map V.int := fun e => by
                  rw [more, List.filter_cons_of_neg (by rw [e]; exact Bool.false_ne_true)]
                  exact (List.append_nil _).symm
                have hv := hD (q1 + q3 * (m : Nat))
                have ok0 : painted (q1 + q3 * (m : Nat)) = none → okP painted day (q1 + q3 * (m : Nat)) = false := fun e => by
                  unfold okP
                  rw [e]
                have ok1 : ∀ d, painted (q1 + q3 * (m : Nat)) = some d → day = none → okP painted day (q1 + q3 * (m : Nat)) = true := fun d e e2 => by
                  unfold okP
                  rw [e, e2]
                have ok2 : ∀ d z, painted (q1 + q3 * (m : Nat)) = some d → day = some z → okP painted day (q1 + q3 * (m : Nat)) = decide (d ≤ z) := fun d z e e2 => by
                  unfold okP
                  rw [e, e2]
                walk_at "w"
                refine ⟨pd, _, rfl, DGet.k (k := Sum.inl (q1 + q3 * (m : Nat))) hpa, ?_⟩
                rw [hv]
                cases hpx : painted (q1 + q3 * (m : Nat)) with
                | none =>
                  rw [Option.map_none, Option.isSome_none]
                  walk_at "w"
                  exact skip _ hDa hSa (no (ok0 hpx))
                | some d =>
                  rw [Option.map_some, Option.isSome_some]
                  rw [hpx, Option.map_some] at hv
                  cases hdy : day with
                  | none =>
                    walk_at "w"
                    exact fin _ _ hDa hSa (yes (ok1 d hpx hdy))
                  | some z =>
                    walk_at "w"
                    refine ⟨pd, _, rfl, hv ▸ DGet.k (k := Sum.inl (q1 + q3 * (m : Nat))) hpa, ?_⟩
                    walk_at "w"
                    refine iteD (fun hc => ?_) (fun hc => ?_)
                    · walk_at "w"
                      exact fin _ _ hDa hSa (yes ((ok2 d z hpx hdy).trans (decide_eq_true hc)))
                    · walk_at "w"
                      exact skip _ hDa hSa (no ((ok2 d z hpx hdy).trans (decide_eq_false hc)))
              · rintro acc Ha hSa hDa rfl
                rw [List.length_map, firsts_len] at hDa
                walk_at "w"
                exact tk ⟨kX.same P10 hSa X10, b10, q1, q2, q3, day, pl, D, _, by omega, by omega, P10.same hSa, hq1, hq2, hq3, hday, SqL.of hDa, rfl⟩
            · rintro σ' H11 ⟨X11, b11, q1, q2, q3, day, pl, sl, o11a, l11, u11, P11, hq1, hq2, hq3, hday, hsl, rfl⟩
              have hi2 : ((q2.toNat : Nat) : Int) = q2 := Int.toNat_of_nonneg hq2.1
              refine ⟨fun σ' H' => Tk (((FnAt K CP CF H' x c r ∧ H' pd = some (.dK kvs)) ∧ LamX.Tabs (TabT PT) H') ∧ ∃ (b' q1 q2 q3 : Int) (day : Option Int) (pl sl : Addr), b5 ≤ b' ∧ b' ≤ b5 + 25 ∧ PenAt K cl H' pen b' ∧ (-12 ≤ q1 ∧ q1 ≤ 12) ∧ (0 ≤ q2 ∧ q2 < 8) ∧ (q3 = 1 ∨ q3 = -1) ∧ (∀ z, day = some z → 0 ≤ z ∧ z < 40) ∧ σ' = [some (V.ref pen), some (.ref l), some (.ref x), some (.ref pd), some (.int (0 + (i : Nat))), some (.int q1), some (.int q2), some (.int q3), some (optV day), some (.ref pl), some (.ref sl), some (optV (((firsts (fun k : Nat => q1 + q3 * (k : Nat)) 90).filter (okP painted day))[q2.toNat]?)), none, none]), ?_, ?_⟩
              · generalize hWe : (firsts (fun k : Nat => q1 + q3 * (k : Nat)) 90).filter (okP painted day) = W at *
                walk_at "w"
                refine tNil_of ?_
                refine ⟨_, _, rfl, .inl ⟨_, hsl, rfl⟩, ?_⟩
                rw [List.length_map]
                walk_at "w"
                refine iteD (fun hc => ?_) (fun hc => ?_)
                · have hc : q2 < (W.length : Nat) := hc
                  have hlt : q2.toNat < W.length := by omega
                  have e1 : W[q2.toNat]? = some W[q2.toNat] := List.getElem?_eq_getElem hlt
                  have e2 : atI (W.map V.int) ((q2.toNat : Nat) : Int) = some (.int W[q2.toNat]) := by
                    rw [atI_nat, List.getElem?_map, e1]
                    rfl
                  rw [hi2] at e2
                  walk_at "w"
                  refine tk ⟨X11, b11, q1, q2, q3, day, pl, sl, by omega, by omega, P11, hq1, hq2, hq3, hday, ?_⟩
                  rw [hWe, e1]
                  rfl
                · have hc : ¬ q2 < (W.length : Nat) := hc
                  have e1 : W[q2.toNat]? = none := List.getElem?_eq_none (by omega)
                  walk_at "w"
                  refine tk ⟨X11, b11, q1, q2, q3, day, pl, sl, by omega, by omega, P11, hq1, hq2, hq3, hday, ?_⟩
                  rw [hWe, e1]
                  rfl
              · rintro σ' H12 ⟨X12, b12, q1, q2, q3, day, pl, sl, l12, u12, P12, hq1, hq2, hq3, hday, rfl⟩
                obtain ⟨⟨hF12, hpd12⟩, T12⟩ := id X12
                have hi2 : ((q2.toNat : Nat) : Int) = q2 := Int.toNat_of_nonneg hq2.1
                walk_at "w"
                refine ⟨x, c, r, q1, q2, day, decide (q3 < 0), rfl, hF12, ok, ⟨by omega, by omega, hq2.1, by omega⟩, fun z e => ⟨(hday z e).1, by have := (hday z e).2; omega⟩, T12, fun r' L H13 hX T13 lim hFd => ?_⟩
                have hB := found_bd hFd (by omega) (by omega)
                have e1 : r' = ((firsts (fun k : Nat => q1 + q3 * (k : Nat)) 90).filter (okP painted day))[q2.toNat]? := small_found sm lim (hp L lim) (by omega) hq3 hq1.1 hq1.2 (by omega) (by rw [hi2]; exact hFd)
                rw [← e1]
                refine tNil_of ?_
                refine ⟨r', rfl, hB, ?_⟩
                walk_at "w"
                refine iteND (fun hc => absurd rfl hc) (fun _ => ?_)
                walk_at "w"
                exact tk ⟨⟨⟨LamX.ExtN.hi (x := x) (L := L) hX hF12, hX _ _ hpd12 (fun _ z => by cases z)⟩, T13⟩, b12, _, _, _, _, _, _, _, _, by omega, by omega, P12.ext hX, rfl⟩
    · rintro σ H6 ⟨⟨_, T6⟩, b6, o4, o5, o6, o7, o8, o9, o10, o11, l6, u6, P6, rfl⟩
      have u6 : b6 ≤ b1 + 240 := by
        have e : ((Int.toNat 6 : Nat) : Int) = 6 := rfl
        omega
      walk_at "w"
      exact k b6 H6 (by omega) (by omega) P6 T6
end
end PK
end
section
set_option Elab.async false
set_option linter.all false
set_option maxRecDepth 100000
set_option maxHeartbeats 4000000
namespace PK
open PySem PySem.Spec PyProof.Rows L2 PM
local macro_rules | `(tactic| walk_at "sd") => `(tactic| (first
  | assumption
  | omega
  | (constructor <;> omega)
  | (refine ⟨by omega, ?_⟩; constructor <;> omega)
  | (constructor <;> (first | assumption | omega | (constructor <;> omega)))))
local macro_rules | `(tactic| walk_at "w") => `(tactic| (repeat (first
  | with_reducible refine ifTT ?_
  | with_reducible refine ifFT ?_
  | with_reducible refine ifnT ?_
  | with_reducible refine ifnF ?_
  | with_reducible refine ifIN ?_
  | with_reducible refine ifNN ?_
  | with_reducible refine ifnIN ?_
  | with_reducible refine ifnNN ?_
  | with_reducible refine ifRN ?_
  | with_reducible refine ifnRN ?_
  | ((fail_if_success with_reducible refine iteB ?_ ?_); first
    | refine ⟨_, rfl, ?_⟩
    | refine ⟨_, _, rfl, rfl, ?_⟩
    | refine ⟨_, _, rfl, ?_⟩
    | refine And.intro (a := (_ : Nat) ≤ sizeLine) (by first | exact len_small (m := 2) rfl | exact len_small (m := 1) rfl | exact len_small (m := 4) rfl | exact len_small (m := 3) rfl | exact len_small (m := 0) rfl) ?_
    | refine Or.inl ⟨_, rfl, ?_⟩
    | refine ⟨rfl, ?_⟩
    | refine And.intro (a := (_ : Int) ≤ _) (by omega) ?_
    | refine And.intro (a := (_ : Int) < _) (by omega) ?_
    | refine And.intro (a := (_ : Nat) ≤ _) (by omega) ?_
    | refine And.intro (a := (_ : Nat) < _) (by omega) ?_
    | refine And.intro (a := CDivP _ _) (by walk_at "sd") ?_
    | refine And.intro (a := CDivB _ _) (by walk_at "sd") ?_
    | refine And.intro (a := CMulB _ _) (by walk_at "sd") ?_
    | refine And.intro (a := _ ≠ (0 : Int)) (by walk_at "sd") ?_
    | refine And.intro (a := (0 : Int) < _) (by walk_at "sd") ?_
    | refine ⟨_, _, rfl, ‹_›, rfl, ?_⟩
    | refine ⟨_, _, _, _, rfl, rfl, ‹_›, rfl, ?_⟩
    | refine ⟨_, _, _, _, rfl, rfl, by assumption, by assumption, ?_⟩
    | refine ⟨_, _, _, _, _, _, rfl, ‹_›, ‹_›, rfl, ?_⟩
    | refine ⟨_, _, _, _, _, _, rfl, ‹_›, (by exact KCls.f ‹_› rfl), (by rfl), ?_⟩
    | refine ⟨_, _, _, _, _, _, rfl, upd_same, ‹_›, (by rfl), ?_⟩
    | refine ⟨_, _, _, _, _, _, rfl, ‹_›, ‹Cls _ _›, ‹_›, rfl, ?_⟩
    | refine ⟨_, _, _, _, rfl, ‹_›, by decide +kernel, ?_⟩
    | refine ⟨_, _, _, rfl, ‹_›, ?_⟩
    | refine ⟨_, _, _, _, rfl, by assumption, ?_⟩
    | refine And.intro (by assumption) ?_))))
section
variable {P : Program} {w : World} {K : PySem.W.Frag} {mg : Str → Option Value} {base : Heap}
/-! ### whether a post is painted -/
def OneBy (c : Crew) (L : Nat → Option Int) (x : Int) (day : Option Int) (a : Nat) : Prop := ∃ k, Pa L a k ∧ (c.p a).at_ k = x ∧ ∀ d, day = some d → (c.p a).day + k ≤ d
theorem oneBy_iff {c : Crew} {L : Nat → Option Int} {x : Int} {day : Option Int} {a : Nat} (nz : (c.p a).stride ≠ 0) : OneBy c L x day a ↔ ((x - (c.p a).post).fmod (c.p a).stride = 0 ∧ 0 ≤ (x - (c.p a).post).fdiv (c.p a).stride) ∧ (∀ z, L a = some z → (x - (c.p a).post).fdiv (c.p a).stride < z) ∧ ∀ d, day = some d → (c.p a).day + (x - (c.p a).post).fdiv (c.p a).stride ≤ d := by
  constructor
  · rintro ⟨k, ⟨h0, h1⟩, h2, h3⟩
    have e := numAt_some nz h0 h2
    unfold numAt at e
    split at e
    · rename_i hc
      injection e with e
      rw [← e] at h1 h3
      exact ⟨hc, h1, h3⟩
    · cases e
  · rintro ⟨hc, h1, h3⟩
    have e : numAt (c.p a) x = some ((x - (c.p a).post).fdiv (c.p a).stride) := if_pos hc
    obtain ⟨q1, q2⟩ := numAt_spec e
    exact ⟨_, ⟨q1, h1⟩, q2, h3⟩
def spLPainted (K : PySem.W.Frag) : Sp := fun vs H Q _ => ∃ (l m : Addr) (c : Crew) (ad : Nat → Addr) (L : Nat → Option Int) (x : Int) (day : Option Int), vs = [.ref l, .ref m, .int x, optV day] ∧ LpAt K H l c ad ∧ SqL K H m (firsts (fun i => optV (L i)) c.n) ∧ c.Ok
  ∧ ∀ b H', Same H H' → (b = true ↔ PaintBy c L x day) → Q (.bl b) H'
theorem sc__law_is_painted : FnScope ["_law_painters", "_law_counts", "_law_post", "_law_until", "_law_place", "_law_name", "_law_start", "_law_begin", "_law_stride", "_law_steps"] ["_law_painters", "_law_counts", "_law_post", "_law_until"] (defScope s__law_is_painted) := C8.fnScope_by (by decide +kernel)
theorem ok_law_is_painted {f : Addr} (F : DF K "_law_is_painted" "_law_is_painted" s__law_is_painted f) (hm : mg "_law_is_painted" = some (.ref f)) (n_enumerate : mg "enumerate" = none) (n_int : mg "int" = none) :
    C8.Cal P w K mg base 1 "_law_is_painted" (spLPainted K) [] := by
  refine cal_of F hm sc__law_is_painted (fun _ _ _ _ _ _ us hl => match us, hl with | [_, _, _, _], _ => rfl) (fun vs H Q E h => ?_) (fun cdv A outer s H vs Q E hr h => ?_)
  · obtain ⟨l, m, c, ad, L, x, day, rfl, _⟩ := h
    rfl
  · obtain ⟨l, m, c, ad, L, x, day, rfl, hl, hL, ok, k⟩ := h
    refine ⟨_, (pss_cons (ps_for PassesOwn.never rfl (pi_enum (by rfl) n_enumerate (pa_cons (pv 0) pa_nil)) (pg_tup rfl (pgs_cons (pg_name (i := 4) sc__law_is_painted.nd rfl (Or.inl rfl)) (pgs_cons (pg_tup rfl (pgs_cons (pg_name (i := 5) sc__law_is_painted.nd rfl (Or.inl rfl)) (pgs_cons (pg_name (i := 6) sc__law_is_painted.nd rfl (Or.inl rfl)) (pgs_cons (pg_name (i := 7) sc__law_is_painted.nd rfl (Or.inl rfl)) (pgs_cons (pg_name (i := 8) sc__law_is_painted.nd rfl (Or.inl rfl)) pgs_nil))))) pgs_nil)))
           (pss_cons (ps_set (i := 9) sc__law_is_painted.nd rfl (Or.inl rfl) (pe_op op_fdivG (pe_op op_sub (pv 2) (pv 7)) (pv 8)))
           (pss_one (ps_if (PW.pt (pw_and (pt_cmpR op_eq (pe_op op_modN (pe_callTy call_int1 (by rfl) n_int (by decide +kernel) (pa_cons (pe_op op_sub (pv 2) (pv 7)) pa_nil)) (pv 8)) pe_int (nomark _)) (pw_and (pt_cmpR op_ge (pv 9) pe_int (nomark _)) (pw_and1 (PW.pt (pw_or (pt_cmpR op_isN (pv 3) pe_non (nomark _)) (pw_or1 (pt_cmpR op_le (pe_op op_add (pv 6) (pv 9)) (pv 3) (nomark _))))))))) (pss_one (ps_if (PW.pt (pw_or (pt_cmpR op_isN (pe_ix ix_list (pv 1) (pv 4) (fun _ _ => rfl)) pe_non (nomark _)) (pw_or1 (pt_cmpR op_lt (pv 9) (pe_ix ix_list (pv 1) (pv 4) (fun _ _ => rfl)) (nomark _))))) (pss_one (ps_ret pe_bl))
               pss_nil))
             pss_nil))))
        (pss_one (ps_ret pe_bl))), ?_⟩
    show (_ : TS) _ [some _, some _, some _, some _, none, none, none, none, none, none] _
    have few := ok.few
    have hlen : (refsV ad c.n).length = c.n := firsts_len _ _
    walk_at "w"
    refine ⟨_, _, rfl, hl.1, ?_⟩
    refine for_it (walk_enum (xs := refsV ad c.n)) (fun i σ H' => Tk (Same H H' ∧ (∀ a, a < i → ¬ OneBy c L x day a) ∧ ∃ (o1 o2 o3 o4 o5 o6 : Option V), σ = [some (.ref l), some (.ref m), some (.int x), some (optV day), o1, o2, o3, o4, o5, o6])) (tk ⟨Same.refl _, fun a h => absurd h (Nat.not_lt_zero _), none, none, none, none, none, none, rfl⟩) (fun i σ H' _ p => (hl.same p.h.1).1) ?_ ?_
    · rintro i v σ H4 H5 hi ⟨hS4, hno, o1, o2, o3, o4, o5, o6, rfl⟩ ⟨T, y, z, rfl, hT, rfl, hy, hz⟩
      obtain ⟨hi, rfl⟩ := firsts_at hz
      injection hy with hy
      subst hy
      refine ⟨_, _, rfl, SqT.of upd_same, rfl, ?_⟩
      have S5 := hS4.trans (Same.new (o := .tup [V.int (i : Nat), V.ref (ad i)]) hT)
      generalize upd H4 T (.tup [V.int (i : Nat), V.ref (ad i)]) = H5 at S5 ⊢
      walk_at "w"
      refine ⟨_, _, rfl, (hl.same S5).2 i hi, rfl, ?_⟩
      have pi := ok.pts i hi
      have nz := pi.nz
      have sB : Bd (c.p i).stride := ⟨by have := pi.s0; omega, by have := pi.s1; omega⟩
      have skip : ¬ OneBy c L x day i → Tk (Same H H5 ∧ (∀ a, a < i + 1 → ¬ OneBy c L x day a) ∧ ∃ (o1 o2 o3 o4 o5 o6 : Option V), [some (.ref l), some (.ref m), some (.int x), some (optV day), some (V.int (i : Nat)), some (.str (c.nm i)), some (.int (c.p i).day), some (.int (c.p i).post), some (.int (c.p i).stride), some (V.int ((x - (c.p i).post).fdiv (c.p i).stride))] = [some (V.ref l), some (.ref m), some (.int x), some (optV day), o1, o2, o3, o4, o5, o6]) := fun h => tk ⟨S5, fun a ha => by
        by_cases e : a = i
        · rw [e]
          exact h
        · exact hno a (by omega), _, _, _, _, _, _, rfl⟩
      rw [oneBy_iff nz] at skip
      have good : OneBy c L x day i → Q (.bl true) H5 := fun ⟨kk, h1, h2, h3⟩ => k true H5 S5 ⟨fun _ => ⟨i, kk, hi, h1, h2, h3⟩, fun _ => rfl⟩
      rw [oneBy_iff nz] at good
      have atL : atI (firsts (fun i => optV (L i)) c.n) (i : Nat) = some (optV (L i)) := by
        rw [atI_nat]
        exact firsts_get hi
      walk_at "w"
      refine iteD (fun h1 => ?_) (fun h1 => ?_)
      · have h1 : (x - (c.p i).post).fmod (c.p i).stride = 0 := by injection h1
        walk_at "w"
        refine iteD (fun h2 => ?_) (fun h2 => ?_)
        · have h2 : 0 ≤ (x - (c.p i).post).fdiv (c.p i).stride := h2
          walk_at "w"
          cases day with
          | none =>
            walk_at "w"
            refine ⟨m, _, _, _, rfl, rfl, S5.seq hL, atL, ?_⟩
            cases hLi : L i with
            | none =>
              walk_at "w"
              exact good ⟨⟨h1, h2⟩, fun z e => by (rw [hLi] at e; cases e), fun d e => by cases e⟩
            | some z =>
              rw [hLi] at atL
              walk_at "w"
              refine ⟨m, _, _, _, rfl, rfl, S5.seq hL, atL, ?_⟩
              walk_at "w"
              refine iteD (fun h4 => ?_) (fun h4 => ?_)
              · have h4 : (x - (c.p i).post).fdiv (c.p i).stride < z := h4
                walk_at "w"
                exact good ⟨⟨h1, h2⟩, fun z' e => by (rw [hLi] at e; injection e with e; omega), fun d e => by cases e⟩
              · walk_at "w"
                exact skip fun q => h4 (q.2.1 z hLi)
          | some d =>
            walk_at "w"
            refine iteD (fun h3 => ?_) (fun h3 => ?_)
            · have h3 : (c.p i).day + (x - (c.p i).post).fdiv (c.p i).stride ≤ d := h3
              walk_at "w"
              refine ⟨m, _, _, _, rfl, rfl, S5.seq hL, atL, ?_⟩
              cases hLi : L i with
              | none =>
                walk_at "w"
                exact good ⟨⟨h1, h2⟩, fun z e => by (rw [hLi] at e; cases e), fun d' e => by (injection e with e; omega)⟩
              | some z =>
                rw [hLi] at atL
                walk_at "w"
                refine ⟨m, _, _, _, rfl, rfl, S5.seq hL, atL, ?_⟩
                walk_at "w"
                refine iteD (fun h4 => ?_) (fun h4 => ?_)
                · have h4 : (x - (c.p i).post).fdiv (c.p i).stride < z := h4
                  walk_at "w"
                  exact good ⟨⟨h1, h2⟩, fun z' e => by (rw [hLi] at e; injection e with e; omega), fun d' e => by (injection e with e; omega)⟩
                · walk_at "w"
                  exact skip fun q => h4 (q.2.1 z hLi)
            · walk_at "w"
              exact skip fun q => h3 (q.2.2 d rfl)
        · walk_at "w"
          exact skip fun q => h2 q.1.2
      · walk_at "w"
        exact skip fun q => h1 (congrArg V.int q.1.1)
    · rintro σ H4 ⟨hS4, hno, o1, o2, o3, o4, o5, o6, rfl⟩
      rw [hlen] at hno
      walk_at "w"
      exact k false H4 hS4 ⟨fun z => (by cases z), fun ⟨a, kk, ha, h1, h2, h3⟩ => absurd ⟨kk, h1, h2, h3⟩ (hno a ha)⟩
end
end PK
end
section
set_option Elab.async false
set_option linter.all false
set_option maxRecDepth 100000
set_option maxHeartbeats 4000000
namespace PK
open PySem PySem.Spec PyProof.Rows L2 PM
local macro_rules | `(tactic| walk_at "sd") => `(tactic| (first
  | assumption
  | omega
  | (constructor <;> omega)
  | (refine ⟨by omega, ?_⟩; constructor <;> omega)
  | (constructor <;> (first | assumption | omega | (constructor <;> omega)))))
local macro_rules | `(tactic| walk_at "w") => `(tactic| (repeat (first
  | with_reducible refine ifTT ?_
  | with_reducible refine ifFT ?_
  | with_reducible refine ifnT ?_
  | with_reducible refine ifnF ?_
  | with_reducible refine ifIN ?_
  | with_reducible refine ifNN ?_
  | with_reducible refine ifnIN ?_
  | with_reducible refine ifnNN ?_
  | with_reducible refine ifRN ?_
  | with_reducible refine ifnRN ?_
  | ((fail_if_success with_reducible refine iteB ?_ ?_); first
    | refine ⟨_, rfl, ?_⟩
    | refine ⟨_, _, rfl, rfl, ?_⟩
    | refine ⟨_, _, rfl, ?_⟩
    | refine And.intro (a := (_ : Nat) ≤ sizeLine) (by first | exact len_small (m := 2) rfl | exact len_small (m := 1) rfl | exact len_small (m := 4) rfl | exact len_small (m := 3) rfl | exact len_small (m := 0) rfl) ?_
    | refine Or.inl ⟨_, rfl, ?_⟩
    | refine ⟨rfl, ?_⟩
    | refine And.intro (a := (_ : Int) ≤ _) (by omega) ?_
    | refine And.intro (a := (_ : Int) < _) (by omega) ?_
    | refine And.intro (a := (_ : Nat) ≤ _) (by omega) ?_
    | refine And.intro (a := (_ : Nat) < _) (by omega) ?_
    | refine And.intro (a := CDivP _ _) (by walk_at "sd") ?_
    | refine And.intro (a := CDivB _ _) (by walk_at "sd") ?_
    | refine And.intro (a := CMulB _ _) (by walk_at "sd") ?_
    | refine And.intro (a := _ ≠ (0 : Int)) (by walk_at "sd") ?_
    | refine And.intro (a := (0 : Int) < _) (by walk_at "sd") ?_
    | refine ⟨_, _, rfl, ‹_›, rfl, ?_⟩
    | refine ⟨_, _, _, _, rfl, rfl, ‹_›, rfl, ?_⟩
    | refine ⟨_, _, _, _, rfl, rfl, by assumption, by assumption, ?_⟩
    | refine ⟨_, _, _, _, _, _, rfl, ‹_›, ‹_›, rfl, ?_⟩
    | refine ⟨_, _, _, _, _, _, rfl, ‹_›, (by exact KCls.f ‹_› rfl), (by rfl), ?_⟩
    | refine ⟨_, _, _, _, _, _, rfl, upd_same, ‹_›, (by rfl), ?_⟩
    | refine ⟨_, _, _, _, _, _, rfl, ‹_›, ‹Cls _ _›, ‹_›, rfl, ?_⟩
    | refine ⟨_, _, _, _, rfl, ‹_›, by decide +kernel, ?_⟩
    | refine ⟨_, _, _, rfl, ‹_›, ?_⟩
    | refine ⟨_, _, _, _, rfl, by assumption, ?_⟩
    | refine And.intro (by assumption) ?_))))
section
variable {P : Program} {w : World} {K : PySem.W.Frag} {mg : Str → Option Value} {base : Heap}
/-! ### how many posts are painted -/
theorem pc_law {p s d0 lo hi : Int} {c day : Option Int} :
    pc p s (cntD d0 c day) lo hi = max 0 ((match c with | none => (match day with | none => nbHi p s lo hi | some d => min (nbHi p s lo hi) (d - d0)) | some z => min (match day with | none => nbHi p s lo hi | some d => min (nbHi p s lo hi) (d - d0)) (z - 1)) - max (nbLo p s lo hi) 0 + 1) := by
  unfold pc
  generalize nbLo p s lo hi = A
  cases c with
  | none => cases day with
    | none => rfl
    | some d =>
      show max 0 (min (nbHi p s lo hi) (max 0 (d - d0 + 1) - 1) - max A 0 + 1) = _
      generalize nbHi p s lo hi = B
      show _ = max 0 (min B (d - d0) - max A 0 + 1)
      omega
  | some z => cases day with
    | none => rfl
    | some d =>
      show max 0 (min (nbHi p s lo hi) (min z (max 0 (d - d0 + 1)) - 1) - max A 0 + 1) = _
      generalize nbHi p s lo hi = B
      show _ = max 0 (min (min B (d - d0)) (z - 1) - max A 0 + 1)
      omega
theorem parts_succ {p : Nat → Pt} {L : Nat → Option Int} {day : Option Int} (i : Nat) : partsOf (i + 1) p L day = partsOf i p L day ++ [partOf (p i) (L i) day] := by
  unfold partsOf
  rw [List.range_succ, List.map_append]
  rfl
def spLNumber (K : PySem.W.Frag) : Sp := fun vs H Q _ => ∃ (l m : Addr) (c : Crew) (ad : Nat → Addr) (L : Nat → Option Int) (lo hi : Int) (day : Option Int), vs = [.ref l, .ref m, .int lo, .int hi, optV day] ∧ LpAt K H l c ad ∧ SqL K H m (firsts (fun i => optV (L i)) c.n) ∧ c.Ok
  ∧ ∀ H', Same H H' → Q (.int (pcs (partsOf c.n c.p L day) lo hi)) H'
theorem sc__law_number : FnScope ["_law_painters", "_law_counts", "_law_low_post", "_law_high_post", "_law_until", "_law_total", "_law_place", "_law_name", "_law_start", "_law_begin", "_law_stride", "_law_low", "_law_high"] ["_law_painters", "_law_counts", "_law_low_post", "_law_high_post", "_law_until"] (defScope s__law_number) := C8.fnScope_by (by decide +kernel)
theorem ok_law_number {f : Addr} (F : DF K "_law_number" "_law_number" s__law_number f) (hm : mg "_law_number" = some (.ref f)) (n_enumerate : mg "enumerate" = none) (n_max : mg "max" = none) (n_min : mg "min" = none) (n_abs : mg "abs" = none) :
    C8.Cal P w K mg base 1 "_law_number" (spLNumber K) [] := by
  refine cal_of F hm sc__law_number (fun _ _ _ _ _ _ us hl => match us, hl with | [_, _, _, _, _], _ => rfl) (fun vs H Q E h => ?_) (fun cdv A outer s H vs Q E hr h => ?_)
  · obtain ⟨l, m, c, ad, L, lo, hi, day, rfl, _⟩ := h
    rfl
  · obtain ⟨l, m, c, ad, L, lo, hi, day, rfl, hl, hL, ok, k⟩ := h
    refine ⟨_, (pss_cons (ps_set (i := 5) sc__law_number.nd rfl (Or.inl rfl) pe_int)
        (pss_cons (ps_for PassesOwn.never rfl (pi_enum (by rfl) n_enumerate (pa_cons (pv 0) pa_nil)) (pg_tup rfl (pgs_cons (pg_name (i := 6) sc__law_number.nd rfl (Or.inl rfl)) (pgs_cons (pg_tup rfl (pgs_cons (pg_name (i := 7) sc__law_number.nd rfl (Or.inl rfl)) (pgs_cons (pg_name (i := 8) sc__law_number.nd rfl (Or.inl rfl)) (pgs_cons (pg_name (i := 9) sc__law_number.nd rfl (Or.inl rfl)) (pgs_cons (pg_name (i := 10) sc__law_number.nd rfl (Or.inl rfl)) pgs_nil))))) pgs_nil)))
           (C8.pss_cut (ps_asg (pe_ifExp (pt_cmpR op_gt (pv 10) pe_int (nomark _)) (pe_tup (pa_cons (pe_op op_sub (pv 2) (pv 9)) (pa_cons (pe_op op_sub (pv 3) (pv 9)) pa_nil))) (pe_tup (pa_cons (pe_op op_sub (pv 9) (pv 3)) (pa_cons (pe_op op_sub (pv 9) (pv 2)) pa_nil)))) (pg_tup rfl (pgs_cons (pg_name (i := 11) sc__law_number.nd rfl (Or.inl rfl)) (pgs_cons (pg_name (i := 12) sc__law_number.nd rfl (Or.inl rfl)) pgs_nil))))
           (C8.pss_cut (ps_par (i := 11) (j := 12) rfl sc__law_number.nd rfl rfl (by decide) rfl rfl (pa_cons (pe_callB (call_max2 rfl) (by rfl) n_max (by decide +kernel) (pa_cons pe_int (pa_cons (pe_op op_sub pe_int (pe_op op_fdivP (pe_op op_sub pe_int (pv 11)) (pe_callB call_abs (by rfl) n_abs (by decide +kernel) (pa_cons (pv 10) pa_nil)))) pa_nil))) (pa_cons (pe_op op_fdivP (pv 12) (pe_callB call_abs (by rfl) n_abs (by decide +kernel) (pa_cons (pv 10) pa_nil))) pa_nil)) (by rfl))
           (pss_cons (ps_if (pt_cmpR op_notN (pv 4) pe_non (nomark _)) (pss_one (ps_set (i := 12) sc__law_number.nd rfl (Or.inl rfl) (pe_callB (call_min2 rfl) (by rfl) n_min (by decide +kernel) (pa_cons (pv 12) (pa_cons (pe_op op_sub (pv 4) (pv 8)) pa_nil)))))
              pss_nil)
           (pss_cons (ps_if (pt_cmpR op_notN (pe_ix ix_list (pv 1) (pv 6) (fun _ _ => rfl)) pe_non (nomark _)) (pss_one (ps_set (i := 12) sc__law_number.nd rfl (Or.inl rfl) (pe_callB (call_min2 rfl) (by rfl) n_min (by decide +kernel) (pa_cons (pv 12) (pa_cons (pe_op op_sub (pe_ix ix_list (pv 1) (pv 6) (fun _ _ => rfl)) pe_int) pa_nil)))))
              pss_nil)
           (pss_one (ps_set (i := 5) sc__law_number.nd rfl (Or.inl rfl) (pe_op op_add (pv 5) (pe_callB (call_max2 rfl) (by rfl) n_max (by decide +kernel) (pa_cons pe_int (pa_cons (pe_op op_add (pe_op op_sub (pv 12) (pv 11)) pe_int) pa_nil)))))))))))
        (pss_one (ps_ret (pv 5))))), ?_⟩
    show (_ : TS) _ [some _, some _, some _, some _, some _, none, none, none, none, none, none, none, none] _
    have few := ok.few
    have hlen : (refsV ad c.n).length = c.n := firsts_len _ _
    walk_at "w"
    refine ⟨_, _, rfl, hl.1, ?_⟩
    refine for_it (walk_enum (xs := refsV ad c.n)) (fun i σ H' => Tk (Same H H' ∧ ∃ (o1 o2 o3 o4 o5 o6 o7 : Option V), σ = [some (.ref l), some (.ref m), some (.int lo), some (.int hi), some (optV day), some (.int (pcs (partsOf i c.p L day) lo hi)), o1, o2, o3, o4, o5, o6, o7])) (tk ⟨Same.refl _, none, none, none, none, none, none, none, rfl⟩) (fun i σ H' _ p => (hl.same p.h.1).1) ?_ ?_
    · rintro i v σ H4 H5 hi' ⟨hS4, o1, o2, o3, o4, o5, o6, o7, rfl⟩ ⟨T, y, z, rfl, hT, rfl, hy, hz⟩
      obtain ⟨hi', rfl⟩ := firsts_at hz
      injection hy with hy
      subst hy
      refine ⟨_, _, rfl, SqT.of upd_same, rfl, ?_⟩
      have S5 := hS4.trans (Same.new (o := .tup [V.int (i : Nat), V.ref (ad i)]) hT)
      generalize upd H4 T (.tup [V.int (i : Nat), V.ref (ad i)]) = H5 at S5 ⊢
      walk_at "w"
      refine ⟨_, _, rfl, (hl.same S5).2 i hi', rfl, ?_⟩
      have pi := ok.pts i hi'
      have nz := pi.nz
      have sB : Bd (c.p i).stride := ⟨by have := pi.s0; omega, by have := pi.s1; omega⟩
      have atL : atI (firsts (fun i => optV (L i)) c.n) (i : Nat) = some (optV (L i)) := by
        rw [atI_nat]
        exact firsts_get hi'
      have hadd : pcs (partsOf (i + 1) c.p L day) lo hi = pcs (partsOf i c.p L day) lo hi + pc (c.p i).post (c.p i).stride (cntD (c.p i).day (L i) day) lo hi := by
        rw [parts_succ, pcs_snoc]
        rfl
      rw [hadd, pc_law]
      have ab : (0 : Int) < (if (c.p i).stride < 0 then -(c.p i).stride else (c.p i).stride) ∧ Bd (if (c.p i).stride < 0 then -(c.p i).stride else (c.p i).stride) := by
        have := pi.s0
        have := pi.s1
        split <;> exact ⟨by omega, by omega, by omega⟩
      obtain ⟨ab1, ab2⟩ := ab
      walk_at "w"
      refine ⟨fun σ' H' => Tk (Same H H' ∧ ∃ a b : Int, ((0 < (c.p i).stride ∧ a = lo - (c.p i).post ∧ b = hi - (c.p i).post) ∨ (¬ 0 < (c.p i).stride ∧ a = (c.p i).post - hi ∧ b = (c.p i).post - lo)) ∧ σ' = [some (V.ref l), some (.ref m), some (.int lo), some (.int hi), some (optV day), some (.int (pcs (partsOf i c.p L day) lo hi)), some (V.int (i : Nat)), some (.str (c.nm i)), some (.int (c.p i).day), some (.int (c.p i).post), some (.int (c.p i).stride), some (.int a), some (.int b)]), ?_, ?_⟩
      · walk_at "w"
        refine iteD (fun hc => ?_) (fun hc => ?_)
        · walk_at "w"
          intro t ht
          refine ⟨_, _, rfl, SqT.of upd_same, rfl, ?_⟩
          walk_at "w"
          exact tk ⟨S5.trans (Same.new ht), _, _, .inl ⟨hc, rfl, rfl⟩, rfl⟩
        · walk_at "w"
          intro t ht
          refine ⟨_, _, rfl, SqT.of upd_same, rfl, ?_⟩
          walk_at "w"
          exact tk ⟨S5.trans (Same.new ht), _, _, .inr ⟨hc, rfl, rfl⟩, rfl⟩
      · rintro σ' H6 ⟨S6, a, b, hab, rfl⟩
        refine ⟨fun σ' H' => Tk (Same H H' ∧ σ' = [some (V.ref l), some (.ref m), some (.int lo), some (.int hi), some (optV day), some (.int (pcs (partsOf i c.p L day) lo hi)), some (V.int (i : Nat)), some (.str (c.nm i)), some (.int (c.p i).day), some (.int (c.p i).post), some (.int (c.p i).stride), some (.int (max (nbLo (c.p i).post (c.p i).stride lo hi) 0)), some (.int (nbHi (c.p i).post (c.p i).stride lo hi))]), ?_, ?_⟩
        · walk_at "w"
          refine tk ⟨S6, ?_⟩
          have e1 : b / (if (c.p i).stride < 0 then -(c.p i).stride else (c.p i).stride) = nbHi (c.p i).post (c.p i).stride lo hi := by
            unfold nbHi
            rcases hab with ⟨q1, q2, q3⟩ | ⟨q1, q2, q3⟩
            · rw [if_pos q1, if_neg (by omega), q3]
            · rw [if_neg q1, if_pos (by omega), q3]
          have e2 : 0 - (0 - a) / (if (c.p i).stride < 0 then -(c.p i).stride else (c.p i).stride) = nbLo (c.p i).post (c.p i).stride lo hi := by
            unfold nbLo
            rcases hab with ⟨q1, q2, q3⟩ | ⟨q1, q2, q3⟩
            · rw [if_pos q1, if_neg (by omega), q2, show 0 - (lo - (c.p i).post) = (c.p i).post - lo by omega, Int.zero_sub]
            · rw [if_neg q1, if_pos (by omega), q2, show 0 - ((c.p i).post - hi) = hi - (c.p i).post by omega, Int.zero_sub]
          dsimp only
          rw [e1, e2]
          have e3 : max (nbLo (c.p i).post (c.p i).stride lo hi) 0 = if nbLo (c.p i).post (c.p i).stride lo hi > 0 then nbLo (c.p i).post (c.p i).stride lo hi else 0 := by
            split <;> omega
          rw [e3]
          rfl
        · rintro σ' H7 ⟨S7, rfl⟩
          generalize pcs (partsOf i c.p L day) lo hi = A0 at *
          generalize nbHi (c.p i).post (c.p i).stride lo hi = B at *
          generalize max (nbLo (c.p i).post (c.p i).stride lo hi) 0 = C at *
          have fin : ∀ (H' : Hp) (T T' hv : Int), Same H H' → T' = T → Tk (Same H H' ∧ ∃ (o1 o2 o3 o4 o5 o6 o7 : Option V), [some (V.ref l), some (.ref m), some (.int lo), some (.int hi), some (optV day), some (.int T'), some (V.int (i : Nat)), some (.str (c.nm i)), some (.int (c.p i).day), some (.int (c.p i).post), some (.int (c.p i).stride), some (.int C), some (.int hv)] = [some (V.ref l), some (.ref m), some (.int lo), some (.int hi), some (optV day), some (.int T), o1, o2, o3, o4, o5, o6, o7]) := fun H' T T' hv h1 h2 => by
            subst h2
            exact tk ⟨h1, _, _, _, _, _, _, _, rfl⟩
          cases day with
          | none =>
            walk_at "w"
            refine ⟨m, _, _, _, rfl, rfl, S7.seq hL, atL, ?_⟩
            cases hLi : L i with
            | none =>
              walk_at "w"
              refine fin _ _ _ _ S7 ?_
              show A0 + (if B - C + 1 > 0 then B - C + 1 else 0) = A0 + max 0 (B - C + 1)
              split <;> omega
            | some z =>
              rw [hLi] at atL
              walk_at "w"
              refine ⟨m, _, _, _, rfl, rfl, S7.seq hL, atL, ?_⟩
              walk_at "w"
              refine fin _ _ _ _ S7 ?_
              show A0 + (if (if z - 1 < B then z - 1 else B) - C + 1 > 0 then (if z - 1 < B then z - 1 else B) - C + 1 else 0) = A0 + max 0 (min B (z - 1) - C + 1)
              have e0 : (if z - 1 < B then z - 1 else B) = min B (z - 1) := by split <;> omega
              rw [e0]
              split <;> omega
          | some d =>
            walk_at "w"
            have e1 : (if d - (c.p i).day < B then d - (c.p i).day else B) = min B (d - (c.p i).day) := by split <;> omega
            rw [e1]
            refine ⟨m, _, _, _, rfl, rfl, S7.seq hL, atL, ?_⟩
            cases hLi : L i with
            | none =>
              walk_at "w"
              refine fin _ _ _ _ S7 ?_
              show A0 + (if min B (d - (c.p i).day) - C + 1 > 0 then min B (d - (c.p i).day) - C + 1 else 0) = A0 + max 0 (min B (d - (c.p i).day) - C + 1)
              split <;> omega
            | some z =>
              rw [hLi] at atL
              walk_at "w"
              refine ⟨m, _, _, _, rfl, rfl, S7.seq hL, atL, ?_⟩
              walk_at "w"
              refine fin _ _ _ _ S7 ?_
              show A0 + (if (if z - 1 < min B (d - (c.p i).day) then z - 1 else min B (d - (c.p i).day)) - C + 1 > 0 then (if z - 1 < min B (d - (c.p i).day) then z - 1 else min B (d - (c.p i).day)) - C + 1 else 0) = A0 + max 0 (min (min B (d - (c.p i).day)) (z - 1) - C + 1)
              have e0 : (if z - 1 < min B (d - (c.p i).day) then z - 1 else min B (d - (c.p i).day)) = min (min B (d - (c.p i).day)) (z - 1) := by split <;> omega
              rw [e0]
              split <;> omega
    · rintro σ H4 ⟨hS4, o1, o2, o3, o4, o5, o6, o7, rfl⟩
      rw [hlen]
      walk_at "w"
      exact k H4 hS4
end
end PK
end
section
set_option Elab.async false
set_option linter.all false
set_option maxRecDepth 100000
set_option maxHeartbeats 4000000
namespace PK
open PySem PySem.Spec PyProof.Rows L2 PM
local macro_rules | `(tactic| walk_at "sd") => `(tactic| (first
  | assumption
  | omega
  | (constructor <;> omega)
  | (refine ⟨by omega, ?_⟩; constructor <;> omega)
  | (constructor <;> (first | assumption | omega | (constructor <;> omega)))))
local macro_rules | `(tactic| walk_at "w") => `(tactic| (repeat (first
  | with_reducible refine ifTT ?_
  | with_reducible refine ifFT ?_
  | with_reducible refine ifnT ?_
  | with_reducible refine ifnF ?_
  | with_reducible refine ifIN ?_
  | with_reducible refine ifNN ?_
  | with_reducible refine ifnIN ?_
  | with_reducible refine ifnNN ?_
  | with_reducible refine ifRN ?_
  | with_reducible refine ifnRN ?_
  | ((fail_if_success with_reducible refine iteB ?_ ?_); first
    | refine ⟨_, rfl, ?_⟩
    | refine ⟨_, _, rfl, rfl, ?_⟩
    | refine ⟨_, _, rfl, ?_⟩
    | refine And.intro (a := (_ : Nat) ≤ sizeLine) (by first | exact len_small (m := 2) rfl | exact len_small (m := 1) rfl | exact len_small (m := 4) rfl | exact len_small (m := 3) rfl | exact len_small (m := 0) rfl) ?_
    | refine Or.inl ⟨_, rfl, ?_⟩
    | refine ⟨rfl, ?_⟩
    | refine And.intro (a := (_ : Int) ≤ _) (by omega) ?_
    | refine And.intro (a := (_ : Int) < _) (by omega) ?_
    | refine And.intro (a := (_ : Nat) ≤ _) (by omega) ?_
    | refine And.intro (a := (_ : Nat) < _) (by omega) ?_
    | refine And.intro (a := CDivP _ _) (by walk_at "sd") ?_
    | refine And.intro (a := CDivB _ _) (by walk_at "sd") ?_
    | refine And.intro (a := CMulB _ _) (by walk_at "sd") ?_
    | refine And.intro (a := _ ≠ (0 : Int)) (by walk_at "sd") ?_
    | refine And.intro (a := (0 : Int) < _) (by walk_at "sd") ?_
    | refine ⟨_, _, rfl, ‹_›, rfl, ?_⟩
    | refine ⟨_, _, _, _, rfl, rfl, ‹_›, rfl, ?_⟩
    | refine ⟨_, _, _, _, rfl, rfl, by assumption, by assumption, ?_⟩
    | refine ⟨_, _, _, _, _, _, rfl, ‹_›, ‹_›, rfl, ?_⟩
    | refine ⟨_, _, _, _, _, _, rfl, ‹_›, (by exact KCls.f ‹_› rfl), (by rfl), ?_⟩
    | refine ⟨_, _, _, _, _, _, rfl, upd_same, ‹_›, (by rfl), ?_⟩
    | refine ⟨_, _, _, _, _, _, rfl, ‹_›, ‹Cls _ _›, ‹_›, rfl, ?_⟩
    | refine ⟨_, _, _, _, rfl, ‹_›, by decide +kernel, ?_⟩
    | refine ⟨_, _, _, rfl, ‹_›, ?_⟩
    | refine ⟨_, _, _, _, rfl, by assumption, ?_⟩
    | refine And.intro (by assumption) ?_))))
section
variable {P : Program} {w : World} {K : PySem.W.Frag} {mg : Str → Option Value} {base : Heap}
/-! ### the end of what is painted -/
def spLBound (K : PySem.W.Frag) : Sp := fun vs H Q _ => ∃ (l m : Addr) (c : Crew) (ad : Nat → Addr) (L : Nat → Option Int) (day : Option Int), vs = [.ref l, .ref m, optV day] ∧ LpAt K H l c ad ∧ SqL K H m (firsts (fun i => optV (L i)) c.n) ∧ c.Ok ∧ 1 ≤ c.n ∧ (∀ a k, a < c.n → L a = some k → 0 ≤ k ∧ k ≤ 10 ^ 60) ∧ DayB day ∧ (∀ a, a < c.n → ¬ (cntD (c.p a).day (L a) day = none ∧ 0 < (c.p a).stride))
  ∧ ∀ r H', Same H H' → Q (.int r) H'
theorem sc__law_bound : FnScope ["_law_painters", "_law_counts", "_law_until", "_law_ends", "_law_place", "_law_name", "_law_start", "_law_begin", "_law_stride", "_law_steps"] ["_law_painters", "_law_counts", "_law_until"] (defScope s__law_bound) := C8.fnScope_by (by decide +kernel)
theorem ok_law_bound {f : Addr} (F : DF K "_law_bound" "_law_bound" s__law_bound f) (hm : mg "_law_bound" = some (.ref f)) (n_enumerate : mg "enumerate" = none) (n_max : mg "max" = none) (n_min : mg "min" = none) :
    C8.Cal P w K mg base 1 "_law_bound" (spLBound K) [] := by
  refine cal_of F hm sc__law_bound (fun _ _ _ _ _ _ us hl => match us, hl with | [_, _, _], _ => rfl) (fun vs H Q E h => ?_) (fun cdv A outer s H vs Q E hr h => ?_)
  · obtain ⟨l, m, c, ad, L, day, rfl, _⟩ := h
    rfl
  · obtain ⟨l, m, c, ad, L, day, rfl, hl, hL, ok, one, lim, hD, hno, k⟩ := h
    refine ⟨_, (pss_cons (ps_set (i := 3) sc__law_bound.nd rfl (Or.inl rfl) (pe_lst pa_nil))
        (pss_cons (ps_for PassesOwn.never rfl (pi_enum (by rfl) n_enumerate (pa_cons (pv 0) pa_nil)) (pg_tup rfl (pgs_cons (pg_name (i := 4) sc__law_bound.nd rfl (Or.inl rfl)) (pgs_cons (pg_tup rfl (pgs_cons (pg_name (i := 5) sc__law_bound.nd rfl (Or.inl rfl)) (pgs_cons (pg_name (i := 6) sc__law_bound.nd rfl (Or.inl rfl)) (pgs_cons (pg_name (i := 7) sc__law_bound.nd rfl (Or.inl rfl)) (pgs_cons (pg_name (i := 8) sc__law_bound.nd rfl (Or.inl rfl)) pgs_nil))))) pgs_nil)))
           (pss_cons (ps_set (i := 9) sc__law_bound.nd rfl (Or.inl rfl) (pe_ix ix_list (pv 1) (pv 4) (fun _ _ => rfl)))
           (C8.pss_cut (ps_if (pt_cmpR op_notN (pv 2) pe_non (nomark _)) (pss_one (ps_set (i := 9) sc__law_bound.nd rfl (Or.inl rfl) (pe_ifExp (pt_cmpR op_isN (pv 9) pe_non (nomark _)) (pe_callB (call_max2 rfl) (by rfl) n_max (by decide +kernel) (pa_cons pe_int (pa_cons (pe_op op_add (pe_op op_sub (pv 2) (pv 6)) pe_int) pa_nil))) (pe_callB (call_min2 rfl) (by rfl) n_min (by decide +kernel) (pa_cons (pv 9) (pa_cons (pe_callB (call_max2 rfl) (by rfl) n_max (by decide +kernel) (pa_cons pe_int (pa_cons (pe_op op_add (pe_op op_sub (pv 2) (pv 6)) pe_int) pa_nil))) pa_nil))))))
              pss_nil)
           (pss_cons (ps_if (PW.pt (pw_and (pt_cmpR op_isN (pv 9) pe_non (nomark _)) (pw_and1 (pt_cmpR op_gt (pv 8) pe_int (nomark _))))) (pss_one (ps_ret pe_non))
              pss_nil)
           (pss_one (ps_expr (pe_bm PySem.F.plainAttrs_list PySem.F.slot_list_append PySem.F.type_list_append mt_append (pv 3) (pa_cons (pe_ifExp (PW.pt (pw_or (pt_cmpR op_lt (pv 8) pe_int (nomark _)) (pw_or1 (pt_cmpR op_eq (pv 9) pe_int (nomark _))))) (pv 7) (pe_op op_add (pv 7) (pe_op op_mulB (pe_op op_sub (pv 9) pe_int) (pv 8)))) pa_nil))))))))
        (pss_one (ps_ret (pe_callB (cr_max rfl) (by rfl) n_max (by decide +kernel) (pa_cons (pv 3) pa_nil)))))), ?_⟩
    show (_ : TS) _ [some _, some _, some _, none, none, none, none, none, none, none] _
    have few := ok.few
    have hlen : (refsV ad c.n).length = c.n := firsts_len _ _
    walk_at "w"
    intro D hDn
    have S1 := Same.new (o := .lst []) hDn
    have hD1 : (upd H D (.lst [])) D = some (.lst (([] : List Int).map V.int)) := upd_same
    generalize upd H D (.lst []) = H1 at S1 hD1 ⊢
    walk_at "w"
    refine ⟨_, _, rfl, (hl.same S1).1, ?_⟩
    refine for_it (walk_enum (xs := refsV ad c.n)) (fun i σ H' => Tk (Same H H' ∧ ∃ (ns : List Int) (o1 o2 o3 o4 o5 o6 : Option V), H' D = some (.lst (ns.map V.int)) ∧ ns.length = i ∧ σ = [some (.ref l), some (.ref m), some (optV day), some (.ref D), o1, o2, o3, o4, o5, o6])) (tk ⟨S1, [], none, none, none, none, none, none, hD1, rfl, rfl⟩) (fun i σ H' _ p => (hl.same p.h.1).1) ?_ ?_
    · rintro i v σ H4 H5 hi' ⟨hS4, ns, o1, o2, o3, o4, o5, o6, hD4, hns, rfl⟩ ⟨T, y, z, rfl, hT, rfl, hy, hz⟩
      obtain ⟨hi', rfl⟩ := firsts_at hz
      injection hy with hy
      subst hy
      refine ⟨_, _, rfl, SqT.of upd_same, rfl, ?_⟩
      have S5' := Same.new (H := H4) (o := .tup [V.int (i : Nat), V.ref (ad i)]) hT
      have S5 := hS4.trans S5'
      have hD5 := S5' _ _ hD4
      generalize upd H4 T (.tup [V.int (i : Nat), V.ref (ad i)]) = H5 at S5 hD5 ⊢
      walk_at "w"
      refine ⟨_, _, rfl, (hl.same S5).2 i hi', rfl, ?_⟩
      have pi := ok.pts i hi'
      have nz := pi.nz
      have sB : Bd (c.p i).stride := ⟨by have := pi.s0; omega, by have := pi.s1; omega⟩
      have atL : atI (firsts (fun i => optV (L i)) c.n) (i : Nat) = some (optV (L i)) := by
        rw [atI_nat]
        exact firsts_get hi'
      walk_at "w"
      refine ⟨m, _, _, _, rfl, rfl, S5.seq hL, atL, ?_⟩
      refine ⟨fun σ' H' => Tk (H' = H5 ∧ σ' = [some (V.ref l), some (.ref m), some (optV day), some (.ref D), some (V.int (i : Nat)), some (.str (c.nm i)), some (.int (c.p i).day), some (.int (c.p i).post), some (.int (c.p i).stride), some (optV (cntD (c.p i).day (L i) day))]), ?_, ?_⟩
      · have fin : ∀ r r' : Int, r' = r → ([some (V.ref l), some (.ref m), some (optV day), some (.ref D), some (V.int (i : Nat)), some (.str (c.nm i)), some (.int (c.p i).day), some (.int (c.p i).post), some (.int (c.p i).stride), some (.int r')] = [some (V.ref l), some (.ref m), some (optV day), some (.ref D), some (V.int (i : Nat)), some (.str (c.nm i)), some (.int (c.p i).day), some (.int (c.p i).post), some (.int (c.p i).stride), some (.int r)]) := fun r r' e => by
          rw [e]
        cases hday : day with
        | none =>
          walk_at "w"
          rfl
        | some d =>
          rw [hday] at fin
          have e0 : (if d - (c.p i).day + 1 > 0 then d - (c.p i).day + 1 else 0) = max 0 (d - (c.p i).day + 1) := by split <;> omega
          cases hLi : L i with
          | none =>
            walk_at "w"
            exact fin _ _ e0
          | some z =>
            walk_at "w"
            refine fin _ _ ?_
            show (if (if d - (c.p i).day + 1 > 0 then d - (c.p i).day + 1 else 0) < z then (if d - (c.p i).day + 1 > 0 then d - (c.p i).day + 1 else 0) else z) = min z (max 0 (d - (c.p i).day + 1))
            rw [e0]
            split <;> omega
      · rintro σ' H6 ⟨rfl, rfl⟩
        have hn := hno i hi'
        have hb : ∀ z, cntD (c.p i).day (L i) day = some z → 0 ≤ z ∧ z ≤ 10 ^ 60 := fun z e => by
          have d0 := pi.d0
          cases hday : day with
          | none =>
            rw [hday] at e
            exact lim i z hi' e
          | some d =>
            rw [hday] at e
            obtain ⟨q1, q2⟩ := hD d hday
            cases hLi : L i with
            | none =>
              rw [hLi] at e
              have e : some (max 0 (d - (c.p i).day + 1)) = some z := e
              injection e with e
              omega
            | some u =>
              rw [hLi] at e
              obtain ⟨q3, q4⟩ := lim i u hi' hLi
              have e : some (min u (max 0 (d - (c.p i).day + 1))) = some z := e
              injection e with e
              omega
        have app : ∀ r : Int, ∃ l0 xs v, V.ref D = .ref l0 ∧ [V.int r] = [v] ∧ H6 l0 = some (.lst xs) ∧ xs.length < sizeLine ∧ Tk (Same H (upd H6 l0 (.lst (xs ++ [v]))) ∧ ∃ (ns : List Int) (o1 o2 o3 o4 o5 o6 : Option V), (upd H6 l0 (.lst (xs ++ [v]))) D = some (.lst (ns.map V.int)) ∧ ns.length = i + 1 ∧ [some (V.ref l), some (.ref m), some (optV day), some (.ref D), some (V.int (i : Nat)), some (.str (c.nm i)), some (.int (c.p i).day), some (.int (c.p i).post), some (.int (c.p i).stride), some (optV (cntD (c.p i).day (L i) day))] = [some (V.ref l), some (.ref m), some (optV day), some (.ref D), o1, o2, o3, o4, o5, o6]) := fun r => by
          refine ⟨D, _, _, rfl, rfl, hD5, ?_, ?_⟩
          · rw [List.length_map, hns]
            exact lt_line (m := i) (Nat.le_refl _) (by omega)
          · refine tk ⟨Same.put hDn S5, ns ++ [r], _, _, _, _, _, _, ?_, by rw [List.length_append, hns]; rfl, rfl⟩
            rw [upd_same, List.map_append]
            rfl
        generalize cntD (c.p i).day (L i) day = r at *
        cases r with
        | none =>
          have hs : ¬ 0 < (c.p i).stride := fun z => hn ⟨rfl, z⟩
          walk_at "w"
          refine iteD (fun z => absurd z hs) (fun _ => ?_)
          walk_at "w"
          refine ⟨tyL hD5, ?_⟩
          walk_at "w"
          refine iteD (fun _ => ?_) (fun z => absurd (show (c.p i).stride < 0 by omega) z)
          walk_at "w"
          exact app _
        | some z =>
          obtain ⟨z0, z1⟩ := hb z rfl
          have zB : Bd (z - 1) := ⟨by omega, by omega⟩
          walk_at "w"
          refine ⟨tyL hD5, ?_⟩
          walk_at "w"
          refine iteD (fun _ => ?_) (fun hs => ?_)
          · walk_at "w"
            exact app _
          · walk_at "w"
            refine iteD (fun _ => ?_) (fun hz => ?_)
            · walk_at "w"
              exact app _
            · walk_at "w"
              exact app _
    · rintro σ H4 ⟨hS4, ns, o1, o2, o3, o4, o5, o6, hD4, hns, rfl⟩
      rw [hlen] at hns
      walk_at "w"
      refine tNil_of ?_
      exact ⟨D, ns, rfl, SqL.of hD4, by omega, fun r _ _ => k r H4 hS4⟩
end
end PK
end
section
set_option Elab.async false
set_option linter.all false
set_option maxRecDepth 100000
set_option maxHeartbeats 4000000
namespace PK
open PySem PySem.Spec PyProof.Rows L2 PM
local macro_rules | `(tactic| walk_at "sd") => `(tactic| (first
  | assumption
  | omega
  | (constructor <;> omega)
  | (refine ⟨by omega, ?_⟩; constructor <;> omega)
  | (constructor <;> (first | assumption | omega | (constructor <;> omega)))))
local macro_rules | `(tactic| walk_at "w") => `(tactic| (repeat (first
  | with_reducible refine ifTT ?_
  | with_reducible refine ifFT ?_
  | with_reducible refine ifnT ?_
  | with_reducible refine ifnF ?_
  | with_reducible refine ifIN ?_
  | with_reducible refine ifNN ?_
  | with_reducible refine ifnIN ?_
  | with_reducible refine ifnNN ?_
  | with_reducible refine ifRN ?_
  | with_reducible refine ifnRN ?_
  | ((fail_if_success with_reducible refine iteB ?_ ?_); first
    | refine ⟨_, rfl, ?_⟩
    | refine ⟨_, _, rfl, rfl, ?_⟩
    | refine ⟨_, _, rfl, ?_⟩
    | refine And.intro (a := (_ : Nat) ≤ sizeLine) (by first | exact len_small (m := 2) rfl | exact len_small (m := 1) rfl | exact len_small (m := 4) rfl | exact len_small (m := 3) rfl | exact len_small (m := 0) rfl) ?_
    | refine Or.inl ⟨_, rfl, ?_⟩
    | refine ⟨rfl, ?_⟩
    | refine And.intro (a := (_ : Int) ≤ _) (by omega) ?_
    | refine And.intro (a := (_ : Int) < _) (by omega) ?_
    | refine And.intro (a := (_ : Nat) ≤ _) (by omega) ?_
    | refine And.intro (a := (_ : Nat) < _) (by omega) ?_
    | refine And.intro (a := CDivP _ _) (by walk_at "sd") ?_
    | refine And.intro (a := CDivB _ _) (by walk_at "sd") ?_
    | refine And.intro (a := CMulB _ _) (by walk_at "sd") ?_
    | refine And.intro (a := _ ≠ (0 : Int)) (by walk_at "sd") ?_
    | refine And.intro (a := (0 : Int) < _) (by walk_at "sd") ?_
    | refine ⟨_, _, rfl, ‹_›, rfl, ?_⟩
    | refine ⟨_, _, _, _, rfl, rfl, ‹_›, rfl, ?_⟩
    | refine ⟨_, _, _, _, rfl, rfl, by assumption, by assumption, ?_⟩
    | refine ⟨_, _, _, _, _, _, rfl, ‹_›, ‹_›, rfl, ?_⟩
    | refine ⟨_, _, _, _, _, _, rfl, ‹_›, (by exact KCls.f ‹_› rfl), (by rfl), ?_⟩
    | refine ⟨_, _, _, _, _, _, rfl, upd_same, ‹_›, (by rfl), ?_⟩
    | refine ⟨_, _, _, _, _, _, rfl, ‹_›, ‹Cls _ _›, ‹_›, rfl, ?_⟩
    | refine ⟨_, _, _, _, rfl, ‹_›, by decide +kernel, ?_⟩
    | refine ⟨_, _, _, rfl, ‹_›, ?_⟩
    | refine ⟨_, _, _, _, rfl, by assumption, ?_⟩
    | refine And.intro (by assumption) ?_))))
section
variable {P : Program} {w : World} {K : PySem.W.Frag} {mg : Str → Option Value} {base : Heap}
/-! ### what was found is right -/
theorem mirP_ok {p : Pt} (h : PtOk p) : PtOk (mirP p) := ⟨h.d0, h.d1, by show -(10 ^ 30) ≤ -p.post; have := h.p1; omega, by show -p.post ≤ 10 ^ 30; have := h.p0; omega, by show -(10 ^ 18) ≤ -p.stride; have := h.s1; omega, by show -p.stride ≤ 10 ^ 18; have := h.s0; omega, by show -p.stride ≠ 0; have := h.nz; omega⟩
theorem mirCrew_ok {c : Crew} (ok : c.Ok) : (mirCrew c).Ok := ⟨ok.few, ok.names, ok.apart, fun i hi => mirP_ok (ok.pts i hi)⟩
theorem parts_nz {c : Crew} {L : Nat → Option Int} {day : Option Int} (ok : c.Ok) : AllNZ (partsOf c.n c.p L day) := fun q hq => by
  obtain ⟨a, ha, rfl⟩ := parts_mem.mp hq
  exact (ok.pts a ha).nz
def spLRight (K : PySem.W.Frag) : Sp := fun vs H Q _ => ∃ (l m : Addr) (c : Crew) (ad : Nat → Addr) (L : Nat → Option Int) (post index : Int) (day told : Option Int), vs = [.ref l, .ref m, .int post, .int index, optV day, optV told] ∧ LpAt K H l c ad ∧ SqL K H m (firsts (fun i => optV (L i)) c.n) ∧ c.Ok ∧ 1 ≤ c.n ∧ (∀ a k, a < c.n → L a = some k → 0 ≤ k ∧ k ≤ 10 ^ 60) ∧ DayB day ∧ 0 ≤ index
  ∧ Apart (partsOf c.n c.p L day) ∧ Found (partsOf c.n c.p L day) post index told ∧ ∀ H', Same H H' → Q (.bl true) H'
theorem sc__law_is_right : FnScope ["_law_painters", "_law_counts", "_law_post", "_law_index", "_law_date", "_law_told", "_law_end"] ["_law_painters", "_law_counts", "_law_post", "_law_index", "_law_date", "_law_told"] (defScope s__law_is_right) := C8.fnScope_by (by decide +kernel)
theorem ok_law_is_right {f : Addr} (F : DF K "_law_is_right" "_law_is_right" s__law_is_right f) (hm : mg "_law_is_right" = some (.ref f)) (c__law_bound : C8.Cal P w K mg base 1 "_law_bound" (spLBound K) []) (c__law_number : C8.Cal P w K mg base 1 "_law_number" (spLNumber K) []) (c__law_is_whole : C8.Cal P w K mg base 1 "_law_is_whole" spLWhole []) (c__law_is_painted : C8.Cal P w K mg base 1 "_law_is_painted" (spLPainted K) []) (n_max : mg "max" = none) :
    C8.Cal P w K mg base 2 "_law_is_right" (spLRight K) [] := by
  refine cal_of F hm sc__law_is_right (fun _ _ _ _ _ _ us hl => match us, hl with | [_, _, _, _, _, _], _ => rfl) (fun vs H Q E h => ?_) (fun cdv A outer s H vs Q E hr h => ?_)
  · obtain ⟨l, m, c, ad, L, post, index, day, told, rfl, _⟩ := h
    rfl
  · obtain ⟨l, m, c, ad, L, post, index, day, told, rfl, hl, hL, ok, one, lim, hD, hi, hA, hF, k⟩ := h
    refine ⟨_, (pss_cons (ps_if (pt_cmpR op_isN (pv 5) pe_non (nomark _)) (pss_cons (ps_set (i := 6) sc__law_is_right.nd rfl (Or.inl rfl) (C8.pe_c c__law_bound hr (by decide) rfl (pa_cons (pv 0) (pa_cons (pv 1) (pa_cons (pv 4) pa_nil)))))
           (pss_cons (ps_if (pt_cmpR op_isN (pv 6) pe_non (nomark _)) (pss_one (ps_ret pe_bl))
              pss_nil)
           (pss_one (ps_ret (pe_cmpR op_le (C8.pe_c c__law_number hr (by decide) rfl (pa_cons (pv 0) (pa_cons (pv 1) (pa_cons (pv 2) (pa_cons (pe_callB (call_max2 rfl) (by rfl) n_max (by decide +kernel) (pa_cons (pv 2) (pa_cons (pv 6) pa_nil))) (pa_cons (pv 4) pa_nil)))))) (pv 3) (nomark _))))))
           pss_nil)
        (pss_cons (ps_if (PW.pt (pw_or (pt_not (pt_val (C8.pe_c c__law_is_whole hr (by decide) rfl (pa_cons (pv 5) pa_nil)))) (pw_or (pt_cmpR op_lt (pv 5) (pv 2) (nomark _)) (pw_or1 (pt_not (pt_val (C8.pe_c c__law_is_painted hr (by decide) rfl (pa_cons (pv 0) (pa_cons (pv 1) (pa_cons (pv 5) (pa_cons (pv 4) pa_nil))))))))))) (pss_one (ps_ret pe_bl))
           pss_nil)
        (pss_one (ps_ret (pe_cmpR op_eq (C8.pe_c c__law_number hr (by decide) rfl (pa_cons (pv 0) (pa_cons (pv 1) (pa_cons (pv 2) (pa_cons (pv 5) (pa_cons (pv 4) pa_nil)))))) (pe_op op_add (pv 3) pe_int) (nomark _)))))), ?_⟩
    show (_ : TS) _ [some _, some _, some _, some _, some _, some _, none] _
    have hnz := parts_nz (L := L) (day := day) ok
    cases told with
    | none =>
      have hno : ∀ a, a < c.n → ¬ (cntD (c.p a).day (L a) day = none ∧ 0 < (c.p a).stride) := fun a ha ⟨h1, h2⟩ => by
        have hq : partOf (c.p a) (L a) day ∈ partsOf c.n c.p L day := parts_mem.mpr ⟨a, ha, rfl⟩
        have e1 := endless (p := (c.p a).post) (post := post) h2 hi
        have e2 := pc_le_pcs hq post ((if (c.p a).post > post then (c.p a).post else post) + (c.p a).stride * (index + 1))
        have e3 : pc (partOf (c.p a) (L a) day).1 (partOf (c.p a) (L a) day).2.1 (partOf (c.p a) (L a) day).2.2 post ((if (c.p a).post > post then (c.p a).post else post) + (c.p a).stride * (index + 1)) = pc (c.p a).post (c.p a).stride none post ((if (c.p a).post > post then (c.p a).post else post) + (c.p a).stride * (index + 1)) := by
          show pc (c.p a).post (c.p a).stride (cntD (c.p a).day (L a) day) post _ = _
          rw [h1]
        have e4 := hF ((if (c.p a).post > post then (c.p a).post else post) + (c.p a).stride * (index + 1))
        omega
      walk_at "w"
      refine ⟨l, m, c, ad, L, day, rfl, hl, hL, ok, one, lim, hD, hno, fun r H1 hS1 => ?_⟩
      walk_at "w"
      refine ⟨l, m, c, ad, L, post, _, day, rfl, hl.same hS1, hS1.seq hL, ok, fun H2 hS2 => ?_⟩
      walk_at "w"
      show Q (.bl (decide (pcs (partsOf c.n c.p L day) post (if r > post then r else post) ≤ index))) H2
      rw [decide_eq_true (hF _)]
      exact k H2 (hS1.trans hS2)
    | some x =>
      obtain ⟨f1, f2, f3⟩ := id hF
      obtain ⟨⟨q, hq, hx⟩, hsum⟩ := found_some hnz hA hi hF
      have hP : PaintBy c L x day := by
        obtain ⟨a, ha, rfl⟩ := parts_mem.mp hq
        obtain ⟨kk, h1, h2, h3⟩ := (mem_part (n := c.n)).mp hx
        exact ⟨a, kk, ha, h1, h2, h3⟩
      walk_at "w"
      refine iteD (fun z => absurd (show x < post from z) (by omega)) (fun _ => ?_)
      walk_at "w"
      refine ⟨l, m, c, ad, L, x, day, rfl, hl, hL, ok, fun b H1 hS1 hb => ?_⟩
      rw [hb.mpr hP]
      walk_at "w"
      refine ⟨l, m, c, ad, L, post, x, day, rfl, hl.same hS1, hS1.seq hL, ok, fun H2 hS2 => ?_⟩
      walk_at "w"
      show Q (.bl (decide (V.int (pcs (partsOf c.n c.p L day) post x) = V.int (index + 1)))) H2
      rw [decide_eq_true (by rw [hsum])]
      exact k H2 (hS1.trans hS2)
end
end PK
end
section
set_option Elab.async false
set_option linter.all false
set_option maxRecDepth 100000
set_option maxHeartbeats 4000000
namespace PK
open PySem PySem.Spec PyProof.Rows L2 PM
local macro_rules | `(tactic| walk_at "sd") => `(tactic| (first
  | assumption
  | omega
  | (constructor <;> omega)
  | (refine ⟨by omega, ?_⟩; constructor <;> omega)
  | (constructor <;> (first | assumption | omega | (constructor <;> omega)))))
local macro_rules | `(tactic| walk_at "w") => `(tactic| (repeat (first
  | with_reducible refine ifTT ?_
  | with_reducible refine ifFT ?_
  | with_reducible refine ifnT ?_
  | with_reducible refine ifnF ?_
  | with_reducible refine ifIN ?_
  | with_reducible refine ifNN ?_
  | with_reducible refine ifnIN ?_
  | with_reducible refine ifnNN ?_
  | with_reducible refine ifRN ?_
  | with_reducible refine ifnRN ?_
  | ((fail_if_success with_reducible refine iteB ?_ ?_); first
    | refine ⟨_, rfl, ?_⟩
    | refine ⟨_, _, rfl, rfl, ?_⟩
    | refine ⟨_, _, rfl, ?_⟩
    | refine And.intro (a := (_ : Nat) ≤ sizeLine) (by first | exact len_small (m := 2) rfl | exact len_small (m := 1) rfl | exact len_small (m := 4) rfl | exact len_small (m := 3) rfl | exact len_small (m := 0) rfl) ?_
    | refine Or.inl ⟨_, rfl, ?_⟩
    | refine ⟨rfl, ?_⟩
    | refine And.intro (a := (_ : Int) ≤ _) (by omega) ?_
    | refine And.intro (a := (_ : Int) < _) (by omega) ?_
    | refine And.intro (a := (_ : Nat) ≤ _) (by omega) ?_
    | refine And.intro (a := (_ : Nat) < _) (by omega) ?_
    | refine And.intro (a := CDivP _ _) (by walk_at "sd") ?_
    | refine And.intro (a := CDivB _ _) (by walk_at "sd") ?_
    | refine And.intro (a := CMulB _ _) (by walk_at "sd") ?_
    | refine And.intro (a := _ ≠ (0 : Int)) (by walk_at "sd") ?_
    | refine And.intro (a := (0 : Int) < _) (by walk_at "sd") ?_
    | refine ⟨_, _, rfl, ‹_›, rfl, ?_⟩
    | refine ⟨_, _, _, _, rfl, rfl, ‹_›, rfl, ?_⟩
    | refine ⟨_, _, _, _, rfl, rfl, by assumption, by assumption, ?_⟩
    | refine ⟨_, _, _, _, _, _, rfl, ‹_›, ‹_›, rfl, ?_⟩
    | refine ⟨_, _, _, _, _, _, rfl, ‹_›, (by exact KCls.f ‹_› rfl), (by rfl), ?_⟩
    | refine ⟨_, _, _, _, _, _, rfl, upd_same, ‹_›, (by rfl), ?_⟩
    | refine ⟨_, _, _, _, _, _, rfl, ‹_›, ‹Cls _ _›, ‹_›, rfl, ?_⟩
    | refine ⟨_, _, _, _, rfl, ‹_›, by decide +kernel, ?_⟩
    | refine ⟨_, _, _, rfl, ‹_›, ?_⟩
    | refine ⟨_, _, _, _, rfl, by assumption, ?_⟩
    | refine And.intro (by assumption) ?_))))
section
variable {P : Program} {w : World} {K : PySem.W.Frag} {mg : Str → Option Value} {base : Heap}
/-! ### great painters that aim at hubs -/
theorem cpow12 : CPow 10 12 := ⟨by decide, by decide, by decide⟩
def HubsAt (K : PySem.W.Frag) (H : Hp) (hb : Addr) (i : Nat) : Prop := ∃ (ha : Nat → Addr) (d p : Nat → Int), H hb = some (.lst (refsV ha i)) ∧ ∀ j, j < i → SqT K H (ha j) [.int (d j), .int (p j)] ∧ (10 ^ 12 ≤ d j ∧ d j ≤ 10 ^ 12 + 10 ^ 29) ∧ (-(10 ^ 28) ≤ p j ∧ p j ≤ 10 ^ 28)
theorem KeepW.hubs (cl pen hb : Addr) (i : Nat) : KeepW K cl pen (fun H => HubsAt K H hb i) := fun H H' b pa e g => by
  obtain ⟨ha, d, p, h1, h2⟩ := g
  obtain ⟨kvs, hp⟩ := pa.dict
  exact ⟨ha, d, p, e _ _ h1 (ne_of h1 hp (by intro z; cases z)), fun j hj => ⟨e.pSqt pa (h2 j hj).1, (h2 j hj).2⟩⟩
theorem HubsAt.store {H : Hp} {D hb : Addr} {i : Nat} {xs : List V} {o : HO} (hD : H D = some (.lst xs)) (ne : hb ≠ D) (g : HubsAt K H hb i) : HubsAt K (upd H D o) hb i := by
  obtain ⟨ha, d, p, h1, h2⟩ := g
  have e : SB D H (upd H D o) := (SB.refl _ _).set
  exact ⟨ha, d, p, e _ _ h1 ne, fun j hj => ⟨e.sqtO hD (fun _ z => by cases z) (fun _ _ z => by cases z) (h2 j hj).1, (h2 j hj).2⟩⟩
theorem HubsAt.app {H : Hp} {hb t : Addr} {i : Nat} {d0 p0 : Int} (g : HubsAt K H hb i) (ht : SqT K H t [.int d0, .int p0]) (hd : 10 ^ 12 ≤ d0 ∧ d0 ≤ 10 ^ 12 + 10 ^ 29) (hp : -(10 ^ 28) ≤ p0 ∧ p0 ≤ 10 ^ 28) (hi : i ≤ 40) :
    ∃ xs, H hb = some (.lst xs) ∧ xs.length < sizeLine ∧ HubsAt K (upd H hb (.lst (xs ++ [.ref t]))) hb (i + 1) := by
  obtain ⟨ha, d, p, h1, h2⟩ := g
  refine ⟨_, h1, lt_line (m := i) (Nat.le_of_eq (firsts_len _ _)) (by omega), fun j => if j = i then t else ha j, fun j => if j = i then d0 else d j, fun j => if j = i then p0 else p j, ?_, fun j hj => ?_⟩
  · rw [upd_same]
    congr 2
    show _ = firsts (fun j => V.ref (if j = i then t else ha j)) (i + 1)
    rw [firsts_succ, if_pos rfl]
    congr 1
    exact firsts_congr fun j hj => by rw [if_neg (by omega)]
  · have SBD : SB hb H (upd H hb (.lst (refsV ha i ++ [.ref t]))) := (SB.refl _ _).set
    show SqT K _ (if j = i then t else ha j) [.int (if j = i then d0 else d j), .int (if j = i then p0 else p j)] ∧ (10 ^ 12 ≤ (if j = i then d0 else d j) ∧ (if j = i then d0 else d j) ≤ 10 ^ 12 + 10 ^ 29) ∧ (-(10 ^ 28) ≤ (if j = i then p0 else p j) ∧ (if j = i then p0 else p j) ≤ 10 ^ 28)
    by_cases e : j = i
    · rw [if_pos e, if_pos e, if_pos e]
      exact ⟨SBD.sqtO h1 (fun _ z => by cases z) (fun _ _ z => by cases z) ht, hd, hp⟩
    · rw [if_neg e, if_neg e, if_neg e]
      exact ⟨SBD.sqtO h1 (fun _ z => by cases z) (fun _ _ z => by cases z) (h2 j (by omega)).1, (h2 j (by omega)).2⟩
def spLAimed (K : PySem.W.Frag) : Sp := fun vs H Q _ => ∃ (pen cl : Addr) (b : Int), vs = [.ref pen, .int 8] ∧ PenAt K cl H pen b ∧ b + 2000 ≤ 10 ^ 9 ∧ ∀ (l : Addr) (c : Crew) (ad : Nat → Addr) b' H', 1 ≤ c.n → c.Ok → LpAt K H' l c ad → Drew K cl pen b 2000 H H' b' → Q (.ref l) H'
theorem sc__law_aimed : FnScope ["_law_pen_here", "_law_most", "_law_found", "_law_many", "_law_hubs", "_law_k", "_law_hub", "_law_lot", "_law_name", "_law_start", "_law_post", "_law_stride", "_law_steps"] ["_law_pen_here", "_law_most"] (defScope s__law_aimed) := C8.fnScope_by (by decide +kernel)
theorem ok_law_aimed {f : Addr} (F : DF K "_law_aimed" "_law_aimed" s__law_aimed f) (hm : mg "_law_aimed" = some (.ref f)) (c__law_draw : C8.Cal P w K mg base 5 "_law_draw" (spD K) []) (c__law_pick : C8.Cal P w K mg base 6 "_law_pick" (spPickL K) []) (c__law_great : C8.Cal P w K mg base 7 "_law_great" (spGreat K) []) (c__law_names : C8.Cal P w K mg base 7 "_law_names" (spLNames K) []) (n_len : mg "len" = none) (n_range : mg "range" = none) :
    C8.Cal P w K mg base 8 "_law_aimed" (spLAimed K) [] := by
  refine cal_of F hm sc__law_aimed (fun _ _ _ _ _ _ us hl => match us, hl with | [_, _], _ => rfl) (fun vs H Q E h => ?_) (fun cdv A outer s H vs Q E hr h => ?_)
  · obtain ⟨pen, cl, b, rfl, _⟩ := h
    rfl
  · obtain ⟨pen, cl, b, rfl, hP, hb, k⟩ := h
    refine ⟨_, (pss_cons (ps_par3 (i := 2) (j := 3) (l := 4) rfl sc__law_aimed.nd rfl rfl rfl (by decide) (by decide) (by decide) rfl rfl rfl (pa_cons (pe_lst pa_nil) (pa_cons (pe_op op_add pe_int (C8.pe_c c__law_draw hr (by decide) rfl (pa_cons (pv 0) (pa_cons (pv 1) pa_nil)))) (pa_cons (pe_lst pa_nil) pa_nil))) (by rfl))
        (pss_cons (ps_for PassesOwn.never rfl (pi_range1 (by rfl) n_range (pa_cons pe_int pa_nil)) (pg_name (i := 5) sc__law_aimed.nd rfl (Or.inl rfl))
           (C8.pss_cut (ps_set (i := 6) sc__law_aimed.nd rfl (Or.inl rfl) (pe_op op_mulB (C8.pe_c c__law_great hr (by decide) rfl (pa_cons (pv 0) (pa_cons pe_int pa_nil))) (C8.pe_c c__law_pick hr (by decide) rfl (pa_cons (pv 0) (pa_cons (pe_lst (pa_cons pe_int (pa_cons (pe_un un_neg pe_int) pa_nil))) pa_nil)))))
           (pss_one (ps_expr (pe_bm PySem.F.plainAttrs_list PySem.F.slot_list_append PySem.F.type_list_append mt_append (pv 4) (pa_cons (pe_tup (pa_cons (pe_op op_add (pe_op op_pow pe_int pe_int) (C8.pe_c c__law_great hr (by decide) rfl (pa_cons (pv 0) (pa_cons pe_int pa_nil)))) (pa_cons (pv 6) pa_nil))) pa_nil))))))
        (pss_cons (ps_set (i := 7) sc__law_aimed.nd rfl (Or.inl rfl) (pe_op op_add pe_int (C8.pe_c c__law_great hr (by decide) rfl (pa_cons (pv 0) (pa_cons pe_int pa_nil)))))
        (pss_cons (ps_for PassesOwn.never rfl (pi_list (C8.pe_c c__law_names hr (by decide) rfl (pa_cons (pv 0) (pa_cons (pv 3) pa_nil)))) (pg_name (i := 8) sc__law_aimed.nd rfl (Or.inl rfl))
           (C8.pss_cut (ps_asg (C8.pe_c c__law_pick hr (by decide) rfl (pa_cons (pv 0) (pa_cons (pv 4) pa_nil))) (pg_tup rfl (pgs_cons (pg_name (i := 9) sc__law_aimed.nd rfl (Or.inl rfl)) (pgs_cons (pg_name (i := 10) sc__law_aimed.nd rfl (Or.inl rfl)) pgs_nil))))
           (C8.pss_cut (ps_set (i := 11) sc__law_aimed.nd rfl (Or.inl rfl) (pe_op op_add pe_int (C8.pe_c c__law_pick hr (by decide) rfl (pa_cons (pv 0) (pa_cons (pe_lst (pa_cons (C8.pe_c c__law_great hr (by decide) rfl (pa_cons (pv 0) (pa_cons pe_int pa_nil))) (pa_cons (pe_op op_mulB (pv 7) (pe_op op_add pe_int (C8.pe_c c__law_draw hr (by decide) rfl (pa_cons (pv 0) (pa_cons pe_int pa_nil))))) (pa_cons (C8.pe_c c__law_draw hr (by decide) rfl (pa_cons (pv 0) (pa_cons pe_int pa_nil))) pa_nil)))) pa_nil)))))
           (C8.pss_cut (ps_set (i := 11) sc__law_aimed.nd rfl (Or.inl rfl) (pe_op op_mulB (pv 11) (C8.pe_c c__law_pick hr (by decide) rfl (pa_cons (pv 0) (pa_cons (pe_lst (pa_cons pe_int (pa_cons (pe_un un_neg pe_int) pa_nil))) pa_nil)))))
           (C8.pss_cut (ps_set (i := 12) sc__law_aimed.nd rfl (Or.inl rfl) (C8.pe_c c__law_pick hr (by decide) rfl (pa_cons (pv 0) (pa_cons (pe_lst (pa_cons (C8.pe_c c__law_draw hr (by decide) rfl (pa_cons (pv 0) (pa_cons pe_int pa_nil))) (pa_cons (C8.pe_c c__law_great hr (by decide) rfl (pa_cons (pv 0) (pa_cons pe_int pa_nil))) (pa_cons (C8.pe_c c__law_great hr (by decide) rfl (pa_cons (pv 0) (pa_cons pe_int pa_nil))) pa_nil)))) pa_nil))))
           (C8.pss_cut (ps_expr (pe_bm PySem.F.plainAttrs_list PySem.F.slot_list_append PySem.F.type_list_append mt_append (pv 2) (pa_cons (pe_tup (pa_cons (pv 8) (pa_cons (pe_op op_sub (pe_op op_add (pv 9) (C8.pe_c c__law_pick hr (by decide) rfl (pa_cons (pv 0) (pa_cons (pe_lst (pa_cons pe_int (pa_cons pe_int (pa_cons (C8.pe_c c__law_draw hr (by decide) rfl (pa_cons (pv 0) (pa_cons pe_int pa_nil))) pa_nil)))) pa_nil)))) (pv 12)) (pa_cons (pe_op op_sub (pv 10) (pe_op op_mulB (pv 12) (pv 11))) (pa_cons (pv 11) pa_nil))))) pa_nil)))
           (pss_one (ps_if (PW.pt (pw_and (pt_cmpR op_gt (pe_callB call_len (by rfl) n_len (by decide +kernel) (pa_cons (pv 2) pa_nil)) pe_int (nomark _)) (pw_and1 (pt_cmpR op_eq (C8.pe_c c__law_draw hr (by decide) rfl (pa_cons (pv 0) (pa_cons pe_int pa_nil))) pe_int (nomark _))))) (pss_one (ps_asg (pe_op op_catT (pe_tup (pa_cons (pv 8) pa_nil)) (pe_slice sl_tup (C8.pe_c c__law_pick hr (by decide) rfl (pa_cons (pv 0) (pa_cons (pe_slice sl_list (pv 2) po_none (po_some (pe_un un_neg pe_int))) pa_nil))) (po_some pe_int) po_none)) (pg_sub (pv 2) (pe_un un_neg pe_int) set_list)))
             pss_nil))))))))
        (pss_one (ps_ret (pv 2))))))), ?_⟩
    show (_ : TS) _ [some _, some _, none, none, none, none, none, none, none, none, none, none, none] _
    walk_at "w"
    intro D hD
    have S1 := Same.new (o := .lst []) hD
    have P1 := hP.same S1
    have hDp := hP.ne hD
    have hD1 : (upd H D (.lst [])) D = some (.lst []) := upd_same
    generalize upd H D (.lst []) = H1 at S1 P1 hD1 ⊢
    walk_at "w"
    intro r1 b1 H2 r10 r11 h11 h12 SBr P2
    have hD2 := SBr _ _ hD1 hDp
    walk_at "w"
    intro hb_ hhb
    have S3 := Same.new (o := .lst []) hhb
    have P3 := P2.same S3
    have hD3 := S3 _ _ hD2
    have hbH : H hb_ = none := ((SB.of S1).tr SBr).back hhb (P2.ne hhb)
    have nDh : D ≠ hb_ := ne_of_none hD2 hhb
    have g3 : HubsAt K (upd H2 hb_ (.lst [])) hb_ 0 := ⟨fun _ => D, fun _ => 0, fun _ => 0, upd_same, fun j hj => absurd hj (Nat.not_lt_zero _)⟩
    have SBa := ((SB.of S1).tr SBr).same S3
    generalize upd H2 hb_ (.lst []) = H3 at S3 P3 hD3 g3 SBa ⊢
    refine ⟨_, _, _, rfl, 3, rfl, by decide, by decide, ?_⟩
    have kHub : ∀ i, KeepW K cl pen (fun H' => SB2 pen hb_ H3 H' ∧ HubsAt K H' hb_ i) := fun i => (KeepW.sb2 cl pen hb_ H3).and (KeepW.hubs cl pen hb_ i)
    refine for_it walk_range (fun i σ H' => Tk ((SB2 pen hb_ H3 H' ∧ HubsAt K H' hb_ i) ∧ ∃ (b' : Int) (o1 o2 : Option V), b1 ≤ b' ∧ b' ≤ b1 + 70 * (i : Nat) ∧ PenAt K cl H' pen b' ∧ σ = [some (.ref pen), some (.int 8), some (.ref D), some (.int (1 + r1)), some (.ref hb_), o1, o2, none, none, none, none, none, none])) (tk ⟨⟨SB2.refl _ _ _, g3⟩, b1, none, none, Int.le_refl _, by omega, P3, rfl⟩) (fun _ _ _ _ _ => trivial) ?_ ?_
    · rintro i v σ H4 H5 hi ⟨X4, b4, o1, o2, l4, u4, P4, rfl⟩ ⟨rfl, rfl⟩
      have hi3 : i < 3 := hi
      walk_at "w"
      refine ⟨fun σ' H' => Tk ((SB2 pen hb_ H3 H' ∧ HubsAt K H' hb_ i) ∧ ∃ (b' hub : Int), b4 ≤ b' ∧ b' ≤ b4 + 35 ∧ PenAt K cl H' pen b' ∧ (-(10 ^ 28) ≤ hub ∧ hub ≤ 10 ^ 28) ∧ σ' = [some (.ref pen), some (.int 8), some (.ref D), some (.int (1 + r1)), some (.ref hb_), some (.int (0 + (i : Nat))), some (.int hub), none, none, none, none, none, none]), ?_, ?_⟩
      · walk_at "w"
        refine ⟨by decide, by decide, ?_⟩
        rintro q1 c1 H6 q10 q11 ⟨w1, w2, S6, P6⟩
        have q11 : q1 < 10 ^ 28 := q11
        have X6 := kHub i _ _ _ P4 S6 X4
        walk_at "w"
        refine pickW (E := C8.E0) (ns := [1, -1]) (kHub i) P6 X6 (by omega) (by simp) (by decide) fun q2 c2 H7 hq2 w3 w4 P7 X7 => ?_
        have q2b : q2 = 1 ∨ q2 = -1 := by
          simp only [List.mem_cons, List.not_mem_nil, or_false] at hq2
          omega
        have B1 : Bd q1 := ⟨by omega, by omega⟩
        have B2 : Bd q2 := ⟨by omega, by omega⟩
        walk_at "w"
        refine tk ⟨X7, c2, q1 * q2, by omega, by omega, P7, ?_, rfl⟩
        rcases q2b with rfl | rfl <;> omega
      · rintro σ' H8 ⟨X8, c8, hub, l8, u8, P8, hhub, rfl⟩
        obtain ⟨ha, hd_, hp_, hH8, _⟩ := id X8.2
        have hHl : (refsV ha i).length < sizeLine := lt_line (m := 3) (by rw [firsts_len]; omega)
        walk_at "w"
        refine ⟨tyL hH8, ?_⟩
        walk_at "w"
        refine ⟨cpow12, ?_⟩
        walk_at "w"
        refine ⟨by decide, by decide, ?_⟩
        rintro q3 c9 H9 q30 q31 ⟨w1, w2, S9, P9⟩
        have q31 : q3 < 10 ^ 29 := q31
        have q32 : (10 : Int) ^ (12 : Int).toNat = 10 ^ 12 := rfl
        have X9 := kHub i _ _ _ P8 S9 X8
        walk_at "w"
        intro t ht
        have S10 := Same.new (o := .tup [V.int (10 ^ (12 : Int).toNat + q3), .int hub]) ht
        have P10 := P9.same S10
        have X10 := (kHub i).same P9 S10 X9
        have ht10 : SqT K (upd H9 t (.tup [V.int (10 ^ (12 : Int).toNat + q3), .int hub])) t [.int (10 ^ (12 : Int).toNat + q3), .int hub] := SqT.of upd_same
        generalize upd H9 t (.tup [V.int (10 ^ (12 : Int).toNat + q3), .int hub]) = H10 at S10 P10 X10 ht10 ⊢
        obtain ⟨xs, hx1, hx2, hx3⟩ := X10.2.app ht10 ⟨by rw [q32]; omega, by rw [q32]; omega⟩ hhub (by omega)
        refine ⟨hb_, xs, _, rfl, rfl, hx1, hx2, ?_⟩
        exact tk ⟨⟨X10.1.put, hx3⟩, c9, _, _, by omega, by omega, P2.put hhb P10, rfl⟩
    rintro σ H4 ⟨⟨X4, g4⟩, b4, o1, o2, l4, u4, P4, rfl⟩
    have u4 : b4 ≤ b1 + 210 := by
      have e : ((Int.toNat 3 : Nat) : Int) = 3 := rfl
      omega
    have g4 : HubsAt K H4 hb_ 3 := g4
    have hD4 := X4 _ _ hD3 hDp nDh
    have SBb := X4.fin SBa hbH
    clear kHub
    walk_at "w"
    refine ⟨by decide, by decide, ?_⟩
    rintro lot0 b5 H5 q10 q11 ⟨w1, w2, S5, P5⟩
    have q11 : lot0 < 10 ^ 9 := q11
    have g5 := KeepW.hubs cl pen hb_ 3 _ _ _ P4 S5 g4
    have hD5 := S5 _ _ hD4 hDp
    have SBc := SBb.tr S5
    walk_at "w"
    refine tNil_of ?_
    refine ⟨pen, cl, (1 + r1).toNat, b5, by rw [Int.toNat_of_nonneg (by omega)]; rfl, P5, by omega, by omega, fun ln nm b6 H6 hnm hap hln ⟨d1, d2, S6, P6⟩ => ?_⟩
    have g6 := KeepW.hubs cl pen hb_ 3 _ _ _ P5 S6 g5
    have hD6 := S6 _ _ hD5 hDp
    have SBd := SBc.tr S6
    generalize hn : (1 + r1).toNat = n at *
    have hn1 : 1 ≤ n := by omega
    have hn8 : n ≤ 8 := by omega
    have hne : firsts (fun i => V.str (nm i)) n ≠ [] := fun z => by
      have e := firsts_len (fun i => V.str (nm i)) n
      rw [z] at e
      have e : 0 = n := e
      omega
    walk_at "w"
    refine ⟨⟨_, hln⟩, ?_⟩
    have hlen : (firsts (fun i => V.str (nm i)) n).length = n := firsts_len _ _
    clear g5 g4 g3 X4 S5 S6 hD5 hD4 SBc SBb P4 P5
    have kX : ∀ i, KeepW K cl pen (fun H' => SB2 pen D H6 H' ∧ GrowAt K H' D nm PtOk i ∧ HubsAt K H' hb_ 3) := fun i => (KeepW.sb2 cl pen D H6).and ((KeepW.grow cl pen D nm PtOk i).and (KeepW.hubs cl pen hb_ 3))
    refine for_it (walk_list (xs := firsts (fun i => V.str (nm i)) n)) (fun i σ H' => Tk ((SB2 pen D H6 H' ∧ GrowAt K H' D nm PtOk i ∧ HubsAt K H' hb_ 3) ∧ ∃ (b' : Int) (o8 o9 o10 o11 o12 : Option V), b6 ≤ b' ∧ b' ≤ b6 + 160 * (i : Nat) ∧ PenAt K cl H' pen b' ∧ σ = [some (.ref pen), some (.int 8), some (.ref D), some (.int (1 + r1)), some (.ref hb_), o1, o2, some (.int (1 + lot0)), o8, o9, o10, o11, o12])) (tk ⟨⟨SB2.refl _ _ _, GrowAt.zero hD6, g6⟩, b6, none, none, none, none, none, Int.le_refl _, by omega, P6, rfl⟩) (fun i σ H' _ p => p.h.1.1.sql P6 hD6 hne hln) ?_ ?_
    · rintro i v σ H8 Hx hi ⟨X8, b8, o8, o9, o10, o11, o12, l8, u8, P8, rfl⟩ ⟨rfl, hz⟩
      obtain ⟨hi, rfl⟩ := firsts_at hz
      walk_at "w"
      refine ⟨fun σ' H' => Tk ((SB2 pen D H6 H' ∧ GrowAt K H' D nm PtOk i ∧ HubsAt K H' hb_ 3) ∧ ∃ (b' st po : Int) (o11 o12 : Option V), b8 ≤ b' ∧ b' ≤ b8 + 5 ∧ PenAt K cl H' pen b' ∧ (10 ^ 12 ≤ st ∧ st ≤ 10 ^ 12 + 10 ^ 29) ∧ (-(10 ^ 28) ≤ po ∧ po ≤ 10 ^ 28) ∧ σ' = [some (V.ref pen), some (.int 8), some (.ref D), some (.int (1 + r1)), some (.ref hb_), o1, o2, some (.int (1 + lot0)), some (.str (nm i)), some (.int st), some (.int po), o11, o12]), ?_, ?_⟩
      · obtain ⟨ha, hd_, hp_, hh1, hh2⟩ := id X8.2.2
        walk_at "w"
        refine ⟨pen, cl, hb_, _, b8, rfl, P8, by omega, SqL.of hh1, fun z => ?_, by rw [firsts_len]; decide, fun v c9 H9 hv ⟨w1, w2, S9, P9⟩ => ?_⟩
        · have := congrArg List.length z
          rw [firsts_len] at this
          cases this
        · obtain ⟨j, hj, rfl⟩ := firsts_mem.mp hv
          obtain ⟨t1, t2, t3⟩ := hh2 j hj
          refine ⟨_, _, rfl, S9.pSqt P8 t1, rfl, ?_⟩
          walk_at "w"
          exact tk ⟨kX i _ _ _ P8 S9 X8, c9, _, _, _, _, w1, w2, P9, t2, t3, rfl⟩
      · rintro σ' H10 ⟨X10, b10, st, po, o11a, o12a, l10, u10, P10, hst, hpo, rfl⟩
        refine ⟨fun σ' H' => Tk ((SB2 pen D H6 H' ∧ GrowAt K H' D nm PtOk i ∧ HubsAt K H' hb_ 3) ∧ ∃ (b' st po sd : Int) (o12 : Option V), b8 ≤ b' ∧ b' ≤ b8 + 50 ∧ PenAt K cl H' pen b' ∧ (10 ^ 12 ≤ st ∧ st ≤ 10 ^ 12 + 10 ^ 29) ∧ (-(10 ^ 28) ≤ po ∧ po ≤ 10 ^ 28) ∧ (1 ≤ sd ∧ sd ≤ 10 ^ 17) ∧ σ' = [some (V.ref pen), some (.int 8), some (.ref D), some (.int (1 + r1)), some (.ref hb_), o1, o2, some (.int (1 + lot0)), some (.str (nm i)), some (.int st), some (.int po), some (.int sd), o12]), ?_, ?_⟩
        · walk_at "w"
          refine ⟨by decide, by decide, ?_⟩
          rintro q1 c11 H11 q10 q11 ⟨w1, w2, S11, P11⟩
          have q11 : q1 < 10 ^ 17 := q11
          have X11 := kX i _ _ _ P10 S11 X10
          walk_at "w"
          intro q2 c12 H12 q20 q21 w3 w4 S12 P12
          have X12 := kX i _ _ _ P11 S12 X11
          have lB : Bd (1 + lot0) := ⟨by omega, by omega⟩
          have lB2 : Bd (1 + q2) := ⟨by omega, by omega⟩
          walk_at "w"
          intro q3 c13 H13 q30 q31 w5 w6 S13 P13
          have X13 := kX i _ _ _ P12 S13 X12
          walk_at "w"
          refine pickW (E := C8.E0) (ns := [q1, (1 + lot0) * (1 + q2), q3]) (kX i) P13 X13 (by omega) (by simp) (by simp) fun q4 c14 H14 hq4 w7 w8 P14 X14 => ?_
          have m0 : 0 ≤ (1 + lot0) * (1 + q2) := Int.mul_nonneg (by omega) (by omega)
          have m1 : (1 + lot0) * (1 + q2) ≤ 10 ^ 9 * 6 := Int.mul_le_mul (by omega) (by omega) (by omega) (by decide)
          simp only [List.mem_cons, List.not_mem_nil, or_false] at hq4
          generalize (1 + lot0) * (1 + q2) = m at *
          walk_at "w"
          exact tk ⟨X14, c14, st, po, 1 + q4, _, by omega, by omega, P14, hst, hpo, by omega, rfl⟩
        · rintro σ' H15 ⟨X15, b15, st, po, sd, o12b, l15, u15, P15, hst, hpo, hsd, rfl⟩
          refine ⟨fun σ' H' => Tk ((SB2 pen D H6 H' ∧ GrowAt K H' D nm PtOk i ∧ HubsAt K H' hb_ 3) ∧ ∃ (b' st po sd : Int) (o12 : Option V), b8 ≤ b' ∧ b' ≤ b8 + 55 ∧ PenAt K cl H' pen b' ∧ (10 ^ 12 ≤ st ∧ st ≤ 10 ^ 12 + 10 ^ 29) ∧ (-(10 ^ 28) ≤ po ∧ po ≤ 10 ^ 28) ∧ (-(10 ^ 17) ≤ sd ∧ sd ≤ 10 ^ 17 ∧ sd ≠ 0) ∧ σ' = [some (V.ref pen), some (.int 8), some (.ref D), some (.int (1 + r1)), some (.ref hb_), o1, o2, some (.int (1 + lot0)), some (.str (nm i)), some (.int st), some (.int po), some (.int sd), o12]), ?_, ?_⟩
          · walk_at "w"
            refine pickW (E := C8.E0) (ns := [1, -1]) (kX i) P15 X15 (by omega) (by simp) (by decide) fun q5 c16 H16 hq5 w7 w8 P16 X16 => ?_
            have q5b : q5 = 1 ∨ q5 = -1 := by
              simp only [List.mem_cons, List.not_mem_nil, or_false] at hq5
              omega
            have sB : Bd sd := ⟨by omega, by omega⟩
            have qB : Bd q5 := ⟨by omega, by omega⟩
            walk_at "w"
            refine tk ⟨X16, c16, st, po, sd * q5, _, by omega, by omega, P16, hst, hpo, ?_, rfl⟩
            rcases q5b with rfl | rfl <;> omega
          · rintro σ' H17 ⟨X17, b17, st, po, sd, o12c, l17, u17, P17, hst, hpo, hsd, rfl⟩
            refine ⟨fun σ' H' => Tk ((SB2 pen D H6 H' ∧ GrowAt K H' D nm PtOk i ∧ HubsAt K H' hb_ 3) ∧ ∃ (b' st po sd sp : Int), b8 ≤ b' ∧ b' ≤ b8 + 125 ∧ PenAt K cl H' pen b' ∧ (10 ^ 12 ≤ st ∧ st ≤ 10 ^ 12 + 10 ^ 29) ∧ (-(10 ^ 28) ≤ po ∧ po ≤ 10 ^ 28) ∧ (-(10 ^ 17) ≤ sd ∧ sd ≤ 10 ^ 17 ∧ sd ≠ 0) ∧ (0 ≤ sp ∧ sp < 10 ^ 11) ∧ σ' = [some (V.ref pen), some (.int 8), some (.ref D), some (.int (1 + r1)), some (.ref hb_), o1, o2, some (.int (1 + lot0)), some (.str (nm i)), some (.int st), some (.int po), some (.int sd), some (.int sp)]), ?_, ?_⟩
            · walk_at "w"
              intro q6 c18 H18 q60 q61 w1 w2 S18 P18
              have X18 := kX i _ _ _ P17 S18 X17
              walk_at "w"
              refine ⟨by decide, by decide, ?_⟩
              rintro q7 c19 H19 q70 q71 ⟨w3, w4, S19, P19⟩
              have q71 : q7 < 10 ^ 11 := q71
              have X19 := kX i _ _ _ P18 S19 X18
              walk_at "w"
              refine ⟨by decide, by decide, ?_⟩
              rintro q8 c20 H20 q80 q81 ⟨w5, w6, S20, P20⟩
              have q81 : q8 < 10 ^ 11 := q81
              have X20 := kX i _ _ _ P19 S20 X19
              walk_at "w"
              refine pickW (E := C8.E0) (ns := [q6, q7, q8]) (kX i) P20 X20 (by omega) (by simp) (by simp) fun q9 c21 H21 hq9 w7 w8 P21 X21 => ?_
              simp only [List.mem_cons, List.not_mem_nil, or_false] at hq9
              exact tk ⟨X21, c21, st, po, sd, q9, by omega, by omega, P21, hst, hpo, hsd, by omega, rfl⟩
            · rintro σ' H22 ⟨X22, b22, st, po, sd, sp, l22, u22, P22, hst, hpo, hsd, hsp, rfl⟩
              refine ⟨fun σ' H' => Tk ((SB2 pen D H6 H' ∧ GrowAt K H' D nm PtOk (i + 1) ∧ HubsAt K H' hb_ 3) ∧ ∃ (b' st po sd sp : Int), b8 ≤ b' ∧ b' ≤ b8 + 135 ∧ PenAt K cl H' pen b' ∧ σ' = [some (V.ref pen), some (.int 8), some (.ref D), some (.int (1 + r1)), some (.ref hb_), o1, o2, some (.int (1 + lot0)), some (.str (nm i)), some (.int st), some (.int po), some (.int sd), some (.int sp)]), ?_, ?_⟩
              · obtain ⟨ad0, p0, hD22, _⟩ := id X22.2.1
                walk_at "w"
                refine ⟨tyL hD22, ?_⟩
                walk_at "w"
                intro q10 c23 H23 q100 q101 w1 w2 S23 P23
                have X23 := kX i _ _ _ P22 S23 X22
                walk_at "w"
                refine pickW (E := C8.E0) (ns := [0, 0, q10]) (kX i) P23 X23 (by omega) (by simp) (by simp) fun q11 c24 H24 hq11 w7 w8 P24 X24 => ?_
                have hq11 : 0 ≤ q11 ∧ q11 ≤ 3 := by
                  simp only [List.mem_cons, List.not_mem_nil, or_false] at hq11
                  omega
                have spB : Bd sp := ⟨by omega, by omega⟩
                have sdB : Bd sd := ⟨by omega, by omega⟩
                walk_at "w"
                intro t ht
                have mlt : -(10 ^ 28) ≤ sp * sd ∧ sp * sd ≤ 10 ^ 28 := by
                  have e1 : sp * sd ≤ 10 ^ 11 * 10 ^ 17 := Int.le_trans (Int.mul_le_mul_of_nonneg_left hsd.2.1 hsp.1) (Int.mul_le_mul_of_nonneg_right (by omega) (by decide))
                  have e2 : sp * -sd ≤ 10 ^ 11 * 10 ^ 17 := Int.le_trans (Int.mul_le_mul_of_nonneg_left (show -sd ≤ 10 ^ 17 by omega) hsp.1) (Int.mul_le_mul_of_nonneg_right (by omega) (by decide))
                  rw [Int.mul_neg] at e2
                  have e3 : (10 : Int) ^ 11 * 10 ^ 17 = 10 ^ 28 := by decide
                  omega
                have S25 := Same.new (o := .tup [V.str (nm i), .int (st + q11 - sp), .int (po - sp * sd), .int sd]) ht
                have P25 := P24.same S25
                have X25 := (kX i).same P24 S25 X24
                have ht25 : SqT K (upd H24 t (.tup [V.str (nm i), .int (st + q11 - sp), .int (po - sp * sd), .int sd])) t (lpV (nm i) ⟨st + q11 - sp, po - sp * sd, sd⟩) := SqT.of upd_same
                generalize upd H24 t (.tup [V.str (nm i), .int (st + q11 - sp), .int (po - sp * sd), .int sd]) = H25 at S25 P25 X25 ht25 ⊢
                obtain ⟨xs, hx1, hx2, hx3⟩ := X25.2.1.app ht25 ⟨by show 0 ≤ st + q11 - sp; omega, by show st + q11 - sp ≤ 10 ^ 30; omega, by show -(10 ^ 30) ≤ po - sp * sd; omega, by show po - sp * sd ≤ 10 ^ 30; omega, by show -(10 ^ 18) ≤ sd; omega, by show sd ≤ 10 ^ 18; omega, hsd.2.2⟩ (by omega)
                refine ⟨D, xs, _, rfl, rfl, hx1, hx2, ?_⟩
                exact tk ⟨⟨X25.1.put, hx3, X25.2.2.store hx1 nDh.symm⟩, c24, st, po, sd, sp, by omega, by omega, hP.put hD P25, rfl⟩
              · rintro σ' H26 ⟨X26, b26, st, po, sd, sp, l26, u26, P26, rfl⟩
                obtain ⟨ad1, p1, hD26, ht26, hp26⟩ := id X26.2.1
                walk_at "w"
                refine tNil_of ?_
                refine ⟨_, _, rfl, .inl ⟨_, SqL.of hD26, rfl⟩, ?_⟩
                rw [firsts_len]
                have fin : ∀ H', (SB2 pen D H6 H' ∧ GrowAt K H' D nm PtOk (i + 1) ∧ HubsAt K H' hb_ 3) → (∃ b', b6 ≤ b' ∧ b' ≤ b6 + 160 * ((i + 1 : Nat) : Int) ∧ PenAt K cl H' pen b') → Tk ((SB2 pen D H6 H' ∧ GrowAt K H' D nm PtOk (i + 1) ∧ HubsAt K H' hb_ 3) ∧ ∃ (b' : Int) (o8 o9 o10 o11 o12 : Option V), b6 ≤ b' ∧ b' ≤ b6 + 160 * ((i + 1 : Nat) : Int) ∧ PenAt K cl H' pen b' ∧ [some (V.ref pen), some (.int 8), some (.ref D), some (.int (1 + r1)), some (.ref hb_), o1, o2, some (.int (1 + lot0)), some (.str (nm i)), some (.int st), some (.int po), some (.int sd), some (.int sp)] = [some (V.ref pen), some (.int 8), some (.ref D), some (.int (1 + r1)), some (.ref hb_), o1, o2, some (.int (1 + lot0)), o8, o9, o10, o11, o12]) := fun H' h1 ⟨b', h2, h3, h4⟩ => tk ⟨h1, b', _, _, _, _, _, h2, h3, h4, rfl⟩
                walk_at "w"
                refine iteD (fun hc => ?_) (fun hc => ?_)
                · have hi0 : 0 < i := by
                    have hc : (1 : Int) < ((i + 1 : Nat) : Int) := hc
                    omega
                  walk_at "w"
                  intro q12 c27 H27 q120 q121 w1 w2 S27 P27
                  have X27 := kX (i + 1) _ _ _ P26 S27 X26
                  walk_at "w"
                  refine iteD (fun hc2 => ?_) (fun hc2 => ?_)
                  · walk_at "w"
                    intro t1 ht1
                    have S28 := Same.new (o := .tup [V.str (nm i)]) ht1
                    have P28 := P27.same S28
                    have X28 := (kX (i + 1)).same P27 S28 X27
                    have ht28 : (upd H27 t1 (.tup [V.str (nm i)])) t1 = some (.tup [V.str (nm i)]) := upd_same
                    generalize upd H27 t1 (.tup [V.str (nm i)]) = H28 at S28 P28 X28 ht28 ⊢
                    obtain ⟨ad2, p2, hD28, htt28, hpp28⟩ := id X28.2.1
                    walk_at "w"
                    refine ⟨D, _, rfl, SqL.of hD28, fun l4 hl4 => ?_⟩
                    rw [cutV_init, firsts_len, show i + 1 - 1 = i from rfl, firsts_take (by omega)]
                    have S29 := Same.new (o := .lst (refsV ad2 i)) hl4
                    have P29 := P28.same S29
                    have X29 := (kX (i + 1)).same P28 S29 X28
                    have ht29 := S29 _ _ ht28
                    have htt29 : ∀ j, j < i → SqT K (upd H28 l4 (.lst (refsV ad2 i))) (ad2 j) (lpV (nm j) (p2 j)) := fun j hj => S29.sqt (htt28 j (by omega))
                    have hl29 : SqL K (upd H28 l4 (.lst (refsV ad2 i))) l4 (refsV ad2 i) := SqL.of upd_same
                    generalize upd H28 l4 (.lst (refsV ad2 i)) = H29 at S29 P29 X29 ht29 htt29 hl29 ⊢
                    walk_at "w"
                    refine ⟨pen, cl, l4, _, c27, rfl, P29, by omega, hl29, fun z => ?_, by rw [firsts_len]; omega, fun v c30 H30 hv ⟨e1, e2, S30, P30⟩ => ?_⟩
                    · have := congrArg List.length z
                      rw [firsts_len] at this
                      have this : i = 0 := this
                      omega
                    · obtain ⟨j, hj, rfl⟩ := firsts_mem.mp hv
                      have hq30 := S30.pSqt P29 (htt29 j hj)
                      have X30 := kX (i + 1) _ _ _ P29 S30 X29
                      have ht30 := S30 _ _ ht29 (by
                        obtain ⟨kv, hk⟩ := P29.dict
                        exact ne_of ht29 hk (by intro z; cases z))
                      walk_at "w"
                      refine ⟨ad2 j, _, rfl, hq30, fun z => ?_, fun q2 hq2 => ?_⟩
                      · have z1 : min 1 4 = 0 := z.1
                        cases z1
                      rw [show cutV (lpV (nm j) (p2 j)) (some 1) none = [V.int (p2 j).day, .int (p2 j).post, .int (p2 j).stride] from cutV_rest]
                      have S31 := Same.new (o := .tup [V.int (p2 j).day, .int (p2 j).post, .int (p2 j).stride]) hq2
                      have P31 := P30.same S31
                      have X31 := (kX (i + 1)).same P30 S31 X30
                      have ht31 := S31 _ _ ht30
                      have hq31 : (upd H30 q2 (.tup [V.int (p2 j).day, .int (p2 j).post, .int (p2 j).stride])) q2 = some (.tup [V.int (p2 j).day, .int (p2 j).post, .int (p2 j).stride]) := upd_same
                      generalize upd H30 q2 (.tup [V.int (p2 j).day, .int (p2 j).post, .int (p2 j).stride]) = H31 at S31 P31 X31 ht31 hq31 ⊢
                      refine ⟨t1, q2, _, _, rfl, rfl, SqT.of ht31, SqT.of hq31, fun z => (by cases z), (show (4 : Nat) ≤ sizeLine by decide), fun z => (by cases z), fun _ t2 ht2 => ?_⟩
                      have S32 := Same.new (o := .tup ([V.str (nm i)] ++ [V.int (p2 j).day, .int (p2 j).post, .int (p2 j).stride])) ht2
                      have P32 := P31.same S32
                      have X32 := (kX (i + 1)).same P31 S32 X31
                      have ht32 : SqT K (upd H31 t2 (.tup ([V.str (nm i)] ++ [V.int (p2 j).day, .int (p2 j).post, .int (p2 j).stride]))) t2 (lpV (nm i) (p2 j)) := SqT.of upd_same
                      generalize upd H31 t2 (.tup ([V.str (nm i)] ++ [V.int (p2 j).day, .int (p2 j).post, .int (p2 j).stride])) = H32 at S32 P32 X32 ht32 ⊢
                      walk_at "w"
                      obtain ⟨xs, hx1, hx2, hx3⟩ := X32.2.1.last ht32 (hpp28 j (by omega))
                      refine ⟨D, xs, _, i, rfl, rfl, hx1, hx2, ?_⟩
                      exact fin _ ⟨X32.1.put, hx3, X32.2.2.store hx1 nDh.symm⟩ ⟨c30, by omega, by omega, hP.put hD P32⟩
                  · walk_at "w"
                    exact fin _ X27 ⟨c27, by omega, by omega, P27⟩
                · walk_at "w"
                  exact fin _ X26 ⟨b26, by omega, by omega, P26⟩
    · rintro σ H8 ⟨X8, b8, o8, o9, o10, o11, o12, l8, u8, P8, rfl⟩
      rw [hlen] at X8 u8
      obtain ⟨p, ad, hLp, hG⟩ := X8.2.1.lp
      walk_at "w"
      exact k D ⟨n, nm, p⟩ ad b8 H8 hn1 ⟨show n ≤ 40 by omega, hnm, hap, hG⟩ hLp ⟨by omega, by omega, X8.1.fin SBd hD, P8⟩
end
end PK
end
section
set_option Elab.async false
set_option linter.all false
set_option maxRecDepth 100000
set_option maxHeartbeats 4000000
namespace PK
open PySem PySem.Spec PyProof.Rows L2 PM
local macro_rules | `(tactic| walk_at "sd") => `(tactic| (first
  | assumption
  | omega
  | (constructor <;> omega)
  | (refine ⟨by omega, ?_⟩; constructor <;> omega)
  | (constructor <;> (first | assumption | omega | (constructor <;> omega)))))
local macro_rules | `(tactic| walk_at "w") => `(tactic| (repeat (first
  | with_reducible refine ifTT ?_
  | with_reducible refine ifFT ?_
  | with_reducible refine ifnT ?_
  | with_reducible refine ifnF ?_
  | with_reducible refine ifIN ?_
  | with_reducible refine ifNN ?_
  | with_reducible refine ifnIN ?_
  | with_reducible refine ifnNN ?_
  | with_reducible refine ifRN ?_
  | with_reducible refine ifnRN ?_
  | ((fail_if_success with_reducible refine iteB ?_ ?_); first
    | refine ⟨_, rfl, ?_⟩
    | refine ⟨_, _, rfl, rfl, ?_⟩
    | refine ⟨_, _, rfl, ?_⟩
    | refine And.intro (a := (_ : Nat) ≤ sizeLine) (by first | exact len_small (m := 2) rfl | exact len_small (m := 1) rfl | exact len_small (m := 4) rfl | exact len_small (m := 3) rfl | exact len_small (m := 0) rfl) ?_
    | refine Or.inl ⟨_, rfl, ?_⟩
    | refine ⟨rfl, ?_⟩
    | refine And.intro (a := (_ : Int) ≤ _) (by omega) ?_
    | refine And.intro (a := (_ : Int) < _) (by omega) ?_
    | refine And.intro (a := (_ : Nat) ≤ _) (by omega) ?_
    | refine And.intro (a := (_ : Nat) < _) (by omega) ?_
    | refine And.intro (a := CDivP _ _) (by walk_at "sd") ?_
    | refine And.intro (a := CDivB _ _) (by walk_at "sd") ?_
    | refine And.intro (a := CMulB _ _) (by walk_at "sd") ?_
    | refine And.intro (a := _ ≠ (0 : Int)) (by walk_at "sd") ?_
    | refine And.intro (a := (0 : Int) < _) (by walk_at "sd") ?_
    | refine ⟨_, _, rfl, ‹_›, rfl, ?_⟩
    | refine ⟨_, _, _, _, rfl, rfl, ‹_›, rfl, ?_⟩
    | refine ⟨_, _, _, _, rfl, rfl, by assumption, by assumption, ?_⟩
    | refine ⟨_, _, _, _, _, _, rfl, ‹_›, ‹_›, rfl, ?_⟩
    | refine ⟨_, _, _, _, _, _, rfl, ‹_›, (by exact KCls.f ‹_› rfl), (by rfl), ?_⟩
    | refine ⟨_, _, _, _, _, _, rfl, upd_same, ‹_›, (by rfl), ?_⟩
    | refine ⟨_, _, _, _, _, _, rfl, ‹_›, ‹Cls _ _›, ‹_›, rfl, ?_⟩
    | refine ⟨_, _, _, _, rfl, ‹_›, by decide +kernel, ?_⟩
    | refine ⟨_, _, _, rfl, ‹_›, ?_⟩
    | refine ⟨_, _, _, _, rfl, by assumption, ?_⟩
    | refine And.intro (by assumption) ?_))))
section
variable {P : Program} {w : World} {K : PySem.W.Frag} {mg : Str → Option Value} {base : Heap}
/-! ### great painters on few remainders -/
def spLCrowd (K : PySem.W.Frag) : Sp := fun vs H Q _ => ∃ (pen cl : Addr) (b : Int), vs = [.ref pen, .int 8] ∧ PenAt K cl H pen b ∧ b + 2100 ≤ 10 ^ 9 ∧ ∀ (l : Addr) (c : Crew) (ad : Nat → Addr) b' H', 1 ≤ c.n → c.Ok → LpAt K H' l c ad → Drew K cl pen b 2100 H H' b' → Q (.ref l) H'
theorem sc__law_lined : FnScope ["_law_pen_here", "_law_most", "_law_found", "_law_many", "_law_lot", "_law_base", "_law_name", "_law_stride", "_law_post", "_law_start"] ["_law_pen_here", "_law_most"] (defScope s__law_lined) := C8.fnScope_by (by decide +kernel)
theorem ok_law_lined {f : Addr} (F : DF K "_law_lined" "_law_lined" s__law_lined f) (hm : mg "_law_lined" = some (.ref f)) (c__law_draw : C8.Cal P w K mg base 5 "_law_draw" (spD K) []) (c__law_pick : C8.Cal P w K mg base 6 "_law_pick" (spPickL K) []) (c__law_around : C8.Cal P w K mg base 6 "_law_around" (spAround K) []) (c__law_great : C8.Cal P w K mg base 7 "_law_great" (spGreat K) []) (c__law_names : C8.Cal P w K mg base 7 "_law_names" (spLNames K) []) (n_min : mg "min" = none) :
    C8.Cal P w K mg base 8 "_law_lined" (spLAimed K) [] := by
  refine cal_of F hm sc__law_lined (fun _ _ _ _ _ _ us hl => match us, hl with | [_, _], _ => rfl) (fun vs H Q E h => ?_) (fun cdv A outer s H vs Q E hr h => ?_)
  · obtain ⟨pen, cl, b, rfl, _⟩ := h
    rfl
  · obtain ⟨pen, cl, b, rfl, hP, hb, k⟩ := h
    refine ⟨_, (pss_cons (ps_par (i := 2) (j := 3) rfl sc__law_lined.nd rfl rfl (by decide) rfl rfl (pa_cons (pe_lst pa_nil) (pa_cons (pe_op op_add pe_int (C8.pe_c c__law_draw hr (by decide) rfl (pa_cons (pv 0) (pa_cons (pv 1) pa_nil)))) pa_nil)) (by rfl))
        (pss_cons (ps_par (i := 4) (j := 5) rfl sc__law_lined.nd rfl rfl (by decide) rfl rfl (pa_cons (pe_op op_add pe_int (C8.pe_c c__law_great hr (by decide) rfl (pa_cons (pv 0) (pa_cons pe_int pa_nil)))) (pa_cons (pe_op op_mulB (C8.pe_c c__law_great hr (by decide) rfl (pa_cons (pv 0) (pa_cons pe_int pa_nil))) (C8.pe_c c__law_pick hr (by decide) rfl (pa_cons (pv 0) (pa_cons (pe_lst (pa_cons pe_int (pa_cons (pe_un un_neg pe_int) pa_nil))) pa_nil)))) pa_nil)) (by rfl))
        (pss_cons (ps_for PassesOwn.never rfl (pi_list (C8.pe_c c__law_names hr (by decide) rfl (pa_cons (pv 0) (pa_cons (pv 3) pa_nil)))) (pg_name (i := 6) sc__law_lined.nd rfl (Or.inl rfl))
           (C8.pss_cut (ps_set (i := 7) sc__law_lined.nd rfl (Or.inl rfl) (pe_op op_mulB (pe_op op_mulB (pv 4) (pe_op op_add pe_int (C8.pe_c c__law_draw hr (by decide) rfl (pa_cons (pv 0) (pa_cons pe_int pa_nil))))) (C8.pe_c c__law_pick hr (by decide) rfl (pa_cons (pv 0) (pa_cons (pe_lst (pa_cons pe_int (pa_cons pe_int (pa_cons (pe_un un_neg pe_int) pa_nil)))) pa_nil)))))
           (C8.pss_cut (ps_set (i := 8) sc__law_lined.nd rfl (Or.inl rfl) (pe_op op_add (pv 5) (C8.pe_c c__law_draw hr (by decide) rfl (pa_cons (pv 0) (pa_cons (pe_callB (call_min2 rfl) (by rfl) n_min (by decide +kernel) (pa_cons (pv 4) (pa_cons pe_int pa_nil))) pa_nil)))))
           (C8.pss_cut (ps_set (i := 8) sc__law_lined.nd rfl (Or.inl rfl) (pe_op op_add (pv 8) (pe_op op_mulB (pv 4) (C8.pe_c c__law_around hr (by decide) rfl (pa_cons (pv 0) (pa_cons (C8.pe_c c__law_pick hr (by decide) rfl (pa_cons (pv 0) (pa_cons (pe_lst (pa_cons pe_int (pa_cons pe_int (pa_cons (pe_op op_pow pe_int pe_int) pa_nil)))) pa_nil))) pa_nil))))))
           (C8.pss_cut (ps_set (i := 9) sc__law_lined.nd rfl (Or.inl rfl) (C8.pe_c c__law_pick hr (by decide) rfl (pa_cons (pv 0) (pa_cons (pe_lst (pa_cons pe_int (pa_cons (C8.pe_c c__law_draw hr (by decide) rfl (pa_cons (pv 0) (pa_cons pe_int pa_nil))) (pa_cons (C8.pe_c c__law_great hr (by decide) rfl (pa_cons (pv 0) (pa_cons pe_int pa_nil))) pa_nil)))) pa_nil))))
           (pss_one (ps_expr (pe_bm PySem.F.plainAttrs_list PySem.F.slot_list_append PySem.F.type_list_append mt_append (pv 2) (pa_cons (pe_tup (pa_cons (pv 6) (pa_cons (pv 9) (pa_cons (pv 8) (pa_cons (pv 7) pa_nil))))) pa_nil)))))))))
        (pss_one (ps_ret (pv 2)))))), ?_⟩
    show (_ : TS) _ [some _, some _, none, none, none, none, none, none, none, none] _
    walk_at "w"
    intro D hD
    have S1 := Same.new (o := .lst []) hD
    have P1 := hP.same S1
    have hDp := hP.ne hD
    have hD1 : (upd H D (.lst [])) D = some (.lst []) := upd_same
    generalize upd H D (.lst []) = H1 at S1 P1 hD1 ⊢
    walk_at "w"
    intro r1 b1 H2 r10 r11 h11 h12 SBr P2
    have kS : KeepW K cl pen (fun H' => SB pen H H' ∧ H' D = some (.lst [])) := (KeepW.sb cl pen H).and fun _ _ _ _ s h => s _ _ h hDp
    have X2 := kS _ _ _ P1 SBr ⟨SB.of S1, hD1⟩
    walk_at "w"
    refine ⟨by decide, by decide, ?_⟩
    rintro lot0 b3 H3 q10 q11 ⟨w1, w2, S3, P3⟩
    have q11 : lot0 < 10 ^ 16 := q11
    have X3 := kS _ _ _ P2 S3 X2
    walk_at "w"
    refine ⟨by decide, by decide, ?_⟩
    rintro g2 b4 H4 q20 q21 ⟨w3, w4, S4, P4⟩
    have q21 : g2 < 10 ^ 29 := q21
    have X4 := kS _ _ _ P3 S4 X3
    walk_at "w"
    refine pickW (E := C8.E0) (ns := [1, -1]) kS P4 X4 (by omega) (by simp) (by decide) fun g3 b5 H5 hq3 w5 w6 P5 X5 => ?_
    have q3b : g3 = 1 ∨ g3 = -1 := by
      simp only [List.mem_cons, List.not_mem_nil, or_false] at hq3
      omega
    have B1 : Bd g2 := ⟨by omega, by omega⟩
    have B2 : Bd g3 := ⟨by omega, by omega⟩
    walk_at "w"
    refine tNil_of ?_
    refine ⟨pen, cl, (1 + r1).toNat, b5, by rw [Int.toNat_of_nonneg (by omega)]; rfl, P5, by omega, by omega, fun ln nm b6 H6 hnm hap hln ⟨d1, d2, S6, P6⟩ => ?_⟩
    have hba : -(10 ^ 29) ≤ g2 * g3 ∧ g2 * g3 ≤ 10 ^ 29 := by
      rcases q3b with rfl | rfl <;> omega
    obtain ⟨ba, hbae⟩ : ∃ ba, ba = g2 * g3 := ⟨_, rfl⟩
    rw [← hbae] at hba
    obtain ⟨SBd, hD6⟩ := kS _ _ _ P5 S6 X5
    generalize hn : (1 + r1).toNat = n at *
    have hn1 : 1 ≤ n := by omega
    have hn8 : n ≤ 8 := by omega
    have hne : firsts (fun i => V.str (nm i)) n ≠ [] := fun z => by
      have e := firsts_len (fun i => V.str (nm i)) n
      rw [z] at e
      have e : 0 = n := e
      omega
    walk_at "w"
    refine ⟨⟨_, hln⟩, ?_⟩
    have hlen : (firsts (fun i => V.str (nm i)) n).length = n := firsts_len _ _
    clear X2 X3 X4 X5 S6 S4 S3 P5 P4 P3 P2 P1
    have kX : ∀ i, KeepW K cl pen (fun H' => SB2 pen D H6 H' ∧ GrowAt K H' D nm PtOk i) := fun i => (KeepW.sb2 cl pen D H6).and (KeepW.grow cl pen D nm PtOk i)
    refine for_it (walk_list (xs := firsts (fun i => V.str (nm i)) n)) (fun i σ H' => Tk ((SB2 pen D H6 H' ∧ GrowAt K H' D nm PtOk i) ∧ ∃ (b' : Int) (o6 o7 o8 o9 : Option V), b6 ≤ b' ∧ b' ≤ b6 + 160 * (i : Nat) ∧ PenAt K cl H' pen b' ∧ σ = [some (.ref pen), some (.int 8), some (.ref D), some (.int (1 + r1)), some (.int (1 + lot0)), some (.int ba), o6, o7, o8, o9])) (tk ⟨⟨SB2.refl _ _ _, GrowAt.zero hD6⟩, b6, none, none, none, none, Int.le_refl _, by omega, P6, by rw [hbae]; rfl⟩) (fun i σ H' _ p => p.h.1.1.sql P6 hD6 hne hln) ?_ ?_
    · rintro i v σ H8 Hx hi ⟨X8, b8, o6, o7, o8, o9, l8, u8, P8, rfl⟩ ⟨rfl, hz⟩
      obtain ⟨hi, rfl⟩ := firsts_at hz
      walk_at "w"
      refine ⟨fun σ' H' => Tk ((SB2 pen D H6 H' ∧ GrowAt K H' D nm PtOk i) ∧ ∃ (b' sd : Int) (o8 o9 : Option V), b8 ≤ b' ∧ b' ≤ b8 + 10 ∧ PenAt K cl H' pen b' ∧ (-(10 ^ 18) ≤ sd ∧ sd ≤ 10 ^ 18 ∧ sd ≠ 0) ∧ σ' = [some (V.ref pen), some (.int 8), some (.ref D), some (.int (1 + r1)), some (.int (1 + lot0)), some (.int ba), some (.str (nm i)), some (.int sd), o8, o9]), ?_, ?_⟩
      · walk_at "w"
        intro q1 c9 H9 q10 q11 w1 w2 S9 P9
        have X9 := kX i _ _ _ P8 S9 X8
        have lB : Bd (1 + lot0) := ⟨by omega, by omega⟩
        have lB2 : Bd (1 + q1) := ⟨by omega, by omega⟩
        walk_at "w"
        refine pickW (E := C8.E0) (ns := [1, 1, -1]) (kX i) P9 X9 (by omega) (by simp) (by decide) fun q2 c10 H10 hq2 w3 w4 P10 X10 => ?_
        have q2b : q2 = 1 ∨ q2 = -1 := by
          simp only [List.mem_cons, List.not_mem_nil, or_false] at hq2
          omega
        have m0 : 1 ≤ (1 + lot0) * (1 + q1) := by
          have := Int.mul_le_mul (show (1 : Int) ≤ 1 + lot0 by omega) (show (1 : Int) ≤ 1 + q1 by omega) (by decide) (by omega)
          omega
        have m1 : (1 + lot0) * (1 + q1) ≤ 10 ^ 16 * 12 := Int.mul_le_mul (by omega) (by omega) (by omega) (by decide)
        have mB : Bd ((1 + lot0) * (1 + q1)) := ⟨by omega, by omega⟩
        have qB : Bd q2 := ⟨by omega, by omega⟩
        walk_at "w"
        refine tk ⟨X10, c10, (1 + lot0) * (1 + q1) * q2, _, _, by omega, by omega, P10, ?_, rfl⟩
        generalize (1 + lot0) * (1 + q1) = m at *
        rcases q2b with rfl | rfl <;> omega
      · rintro σ' H11 ⟨X11, b11, sd, o8a, o9a, l11, u11, P11, hsd, rfl⟩
        refine ⟨fun σ' H' => Tk ((SB2 pen D H6 H' ∧ GrowAt K H' D nm PtOk i) ∧ ∃ (b' sd po : Int) (o9 : Option V), b8 ≤ b' ∧ b' ≤ b8 + 15 ∧ PenAt K cl H' pen b' ∧ (-(10 ^ 18) ≤ sd ∧ sd ≤ 10 ^ 18 ∧ sd ≠ 0) ∧ (-(10 ^ 29) ≤ po ∧ po ≤ 10 ^ 29 + 2) ∧ σ' = [some (V.ref pen), some (.int 8), some (.ref D), some (.int (1 + r1)), some (.int (1 + lot0)), some (.int ba), some (.str (nm i)), some (.int sd), some (.int po), o9]), ?_, ?_⟩
        · walk_at "w"
          intro q3 c12 H12 q30 q31 w1 w2 S12 P12
          have q31 : q3 ≤ 1 := by
            split at q31 <;> omega
          walk_at "w"
          exact tk ⟨kX i _ _ _ P11 S12 X11, c12, sd, ba + q3, _, by omega, by omega, P12, hsd, by omega, rfl⟩
        · rintro σ' H13 ⟨X13, b13, sd, po, o9b, l13, u13, P13, hsd, hpo, rfl⟩
          refine ⟨fun σ' H' => Tk ((SB2 pen D H6 H' ∧ GrowAt K H' D nm PtOk i) ∧ ∃ (b' sd po : Int) (o9 : Option V), b8 ≤ b' ∧ b' ≤ b8 + 30 ∧ PenAt K cl H' pen b' ∧ (-(10 ^ 18) ≤ sd ∧ sd ≤ 10 ^ 18 ∧ sd ≠ 0) ∧ (-(10 ^ 30) ≤ po ∧ po ≤ 10 ^ 30) ∧ σ' = [some (V.ref pen), some (.int 8), some (.ref D), some (.int (1 + r1)), some (.int (1 + lot0)), some (.int ba), some (.str (nm i)), some (.int sd), some (.int po), o9]), ?_, ?_⟩
          · walk_at "w"
            refine ⟨cpow12, ?_⟩
            walk_at "w"
            refine pickW (E := C8.E0) (ns := [3, 40, 10 ^ (12 : Int).toNat]) (kX i) P13 X13 (by omega) (by simp) (by simp) fun q4 c14 H14 hq4 w3 w4 P14 X14 => ?_
            have q32 : (10 : Int) ^ (12 : Int).toNat = 10 ^ 12 := rfl
            rw [q32] at hq4
            simp only [List.mem_cons, List.not_mem_nil, or_false] at hq4
            have hq4 : 0 ≤ q4 ∧ q4 ≤ 10 ^ 12 := by omega
            walk_at "w"
            rintro q5 c15 H15 q50 q51 ⟨w5, w6, S15, P15⟩
            have X15 := kX i _ _ _ P14 S15 X14
            have lB : Bd (1 + lot0) := ⟨by omega, by omega⟩
            have lB2 : Bd q5 := ⟨by omega, by omega⟩
            walk_at "w"
            refine tk ⟨X15, c15, sd, po + (1 + lot0) * q5, _, by omega, by omega, P15, hsd, ?_, rfl⟩
            have e1 : (1 + lot0) * q5 ≤ 10 ^ 16 * 10 ^ 12 := Int.le_trans (Int.mul_le_mul_of_nonneg_left (show q5 ≤ 10 ^ 12 by omega) (by omega)) (Int.mul_le_mul_of_nonneg_right (by omega) (by decide))
            have e2 : (1 + lot0) * -q5 ≤ 10 ^ 16 * 10 ^ 12 := Int.le_trans (Int.mul_le_mul_of_nonneg_left (show -q5 ≤ 10 ^ 12 by omega) (by omega)) (Int.mul_le_mul_of_nonneg_right (by omega) (by decide))
            rw [Int.mul_neg] at e2
            have e3 : (10 : Int) ^ 16 * 10 ^ 12 = 10 ^ 28 := by decide
            omega
          · rintro σ' H16 ⟨X16, b16, sd, po, o9c, l16, u16, P16, hsd, hpo, rfl⟩
            refine ⟨fun σ' H' => Tk ((SB2 pen D H6 H' ∧ GrowAt K H' D nm PtOk i) ∧ ∃ (b' sd po da : Int), b8 ≤ b' ∧ b' ≤ b8 + 70 ∧ PenAt K cl H' pen b' ∧ (-(10 ^ 18) ≤ sd ∧ sd ≤ 10 ^ 18 ∧ sd ≠ 0) ∧ (-(10 ^ 30) ≤ po ∧ po ≤ 10 ^ 30) ∧ (0 ≤ da ∧ da ≤ 10 ^ 30) ∧ σ' = [some (V.ref pen), some (.int 8), some (.ref D), some (.int (1 + r1)), some (.int (1 + lot0)), some (.int ba), some (.str (nm i)), some (.int sd), some (.int po), some (.int da)]), ?_, ?_⟩
            · walk_at "w"
              intro q6 c17 H17 q60 q61 w1 w2 S17 P17
              have X17 := kX i _ _ _ P16 S17 X16
              walk_at "w"
              refine ⟨by decide, by decide, ?_⟩
              rintro q7 c18 H18 q70 q71 ⟨w3, w4, S18, P18⟩
              have q71 : q7 < 10 ^ 29 := q71
              have X18 := kX i _ _ _ P17 S18 X17
              walk_at "w"
              refine pickW (E := C8.E0) (ns := [0, q6, q7]) (kX i) P18 X18 (by omega) (by simp) (by simp) fun q8 c19 H19 hq8 w5 w6 P19 X19 => ?_
              simp only [List.mem_cons, List.not_mem_nil, or_false] at hq8
              exact tk ⟨X19, c19, sd, po, q8, by omega, by omega, P19, hsd, hpo, by omega, rfl⟩
            · rintro σ' H20 ⟨X20, b20, sd, po, da, l20, u20, P20, hsd, hpo, hda, rfl⟩
              obtain ⟨ad0, p0, hD20, _⟩ := id X20.2
              walk_at "w"
              refine ⟨tyL hD20, ?_⟩
              walk_at "w"
              intro t ht
              have S21 := Same.new (o := .tup [V.str (nm i), .int da, .int po, .int sd]) ht
              have P21 := P20.same S21
              have X21 := (kX i).same P20 S21 X20
              have ht21 : SqT K (upd H20 t (.tup [V.str (nm i), .int da, .int po, .int sd])) t (lpV (nm i) ⟨da, po, sd⟩) := SqT.of upd_same
              generalize upd H20 t (.tup [V.str (nm i), .int da, .int po, .int sd]) = H21 at S21 P21 X21 ht21 ⊢
              obtain ⟨xs, hx1, hx2, hx3⟩ := X21.2.app ht21 ⟨hda.1, hda.2, hpo.1, hpo.2, hsd.1, hsd.2.1, hsd.2.2⟩ (by omega)
              refine ⟨D, xs, _, rfl, rfl, hx1, hx2, ?_⟩
              exact tk ⟨⟨X21.1.put, hx3⟩, b20, _, _, _, _, by omega, by omega, hP.put hD P21, rfl⟩
    · rintro σ H8 ⟨X8, b8, o6, o7, o8, o9, l8, u8, P8, rfl⟩
      rw [hlen] at X8 u8
      obtain ⟨p, ad, hLp, hG⟩ := X8.2.lp
      walk_at "w"
      exact k D ⟨n, nm, p⟩ ad b8 H8 hn1 ⟨show n ≤ 40 by omega, hnm, hap, hG⟩ hLp ⟨by omega, by omega, X8.1.fin SBd hD, P8⟩
theorem sc__law_crowd : FnScope ["_law_pen_here", "_law_most", "_law_road"] ["_law_pen_here", "_law_most"] (defScope s__law_crowd) := C8.fnScope_by (by decide +kernel)
theorem ok_law_crowd {f : Addr} (F : DF K "_law_crowd" "_law_crowd" s__law_crowd f) (hm : mg "_law_crowd" = some (.ref f)) (c__law_draw : C8.Cal P w K mg base 5 "_law_draw" (spD K) []) (c__law_aimed : C8.Cal P w K mg base 8 "_law_aimed" (spLAimed K) []) (c__law_lined : C8.Cal P w K mg base 8 "_law_lined" (spLAimed K) []) :
    C8.Cal P w K mg base 9 "_law_crowd" (spLCrowd K) [] := by
  refine cal_of F hm sc__law_crowd (fun _ _ _ _ _ _ us hl => match us, hl with | [_, _], _ => rfl) (fun vs H Q E h => ?_) (fun cdv A outer s H vs Q E hr h => ?_)
  · obtain ⟨pen, cl, b, rfl, _⟩ := h
    rfl
  · obtain ⟨pen, cl, b, rfl, hP, hb, k⟩ := h
    refine ⟨_, (pss_cons (ps_set (i := 2) sc__law_crowd.nd rfl (Or.inl rfl) (C8.pe_c c__law_draw hr (by decide) rfl (pa_cons (pv 0) (pa_cons pe_int pa_nil))))
        (pss_cons (ps_if (pt_cmpR op_eq (pv 2) pe_int (nomark _)) (pss_one (ps_ret (C8.pe_c c__law_aimed hr (by decide) rfl (pa_cons (pv 0) (pa_cons (pv 1) pa_nil)))))
           pss_nil)
        (pss_one (ps_ret (C8.pe_c c__law_lined hr (by decide) rfl (pa_cons (pv 0) (pa_cons (pv 1) pa_nil))))))), ?_⟩
    show (_ : TS) _ [some _, some _, none] _
    walk_at "w"
    intro r1 b1 H1 r10 r11 h11 h12 S1 P1
    have go : ∀ (l : Addr) (c : Crew) (ad : Nat → Addr) (b' : Int) (H' : Hp), 1 ≤ c.n → c.Ok → LpAt K H' l c ad → Drew K cl pen b1 2000 H1 H' b' → Q (.ref l) H' := fun l c ad b' H' h1 h2 h3 ⟨d1, d2, d3, d4⟩ => k l c ad b' H' h1 h2 h3 ⟨by omega, by omega, S1.tr d3, d4⟩
    walk_at "w"
    refine iteD (fun hc => ?_) (fun hc => ?_)
    · walk_at "w"
      exact go
    · walk_at "w"
      exact go
end
end PK
end
section
set_option Elab.async false
set_option linter.all false
set_option maxRecDepth 100000
set_option maxHeartbeats 4000000
namespace PK
open PySem PySem.Spec PyProof.Rows L2 PM
local macro_rules | `(tactic| walk_at "sd") => `(tactic| (first
  | assumption
  | omega
  | (constructor <;> omega)
  | (refine ⟨by omega, ?_⟩; constructor <;> omega)
  | (constructor <;> (first | assumption | omega | (constructor <;> omega)))))
local macro_rules | `(tactic| walk_at "w") => `(tactic| (repeat (first
  | with_reducible refine ifTT ?_
  | with_reducible refine ifFT ?_
  | with_reducible refine ifnT ?_
  | with_reducible refine ifnF ?_
  | with_reducible refine ifIN ?_
  | with_reducible refine ifNN ?_
  | with_reducible refine ifnIN ?_
  | with_reducible refine ifnNN ?_
  | with_reducible refine ifRN ?_
  | with_reducible refine ifnRN ?_
  | ((fail_if_success with_reducible refine iteB ?_ ?_); first
    | refine ⟨_, rfl, ?_⟩
    | refine ⟨_, _, rfl, rfl, ?_⟩
    | refine ⟨_, _, rfl, ?_⟩
    | refine And.intro (a := (_ : Nat) ≤ sizeLine) (by first | exact len_small (m := 2) rfl | exact len_small (m := 1) rfl | exact len_small (m := 4) rfl | exact len_small (m := 3) rfl | exact len_small (m := 0) rfl) ?_
    | refine Or.inl ⟨_, rfl, ?_⟩
    | refine ⟨rfl, ?_⟩
    | refine And.intro (a := (_ : Int) ≤ _) (by omega) ?_
    | refine And.intro (a := (_ : Int) < _) (by omega) ?_
    | refine And.intro (a := (_ : Nat) ≤ _) (by omega) ?_
    | refine And.intro (a := (_ : Nat) < _) (by omega) ?_
    | refine And.intro (a := CDivP _ _) (by walk_at "sd") ?_
    | refine And.intro (a := CDivB _ _) (by walk_at "sd") ?_
    | refine And.intro (a := CMulB _ _) (by walk_at "sd") ?_
    | refine And.intro (a := _ ≠ (0 : Int)) (by walk_at "sd") ?_
    | refine And.intro (a := (0 : Int) < _) (by walk_at "sd") ?_
    | refine ⟨_, _, rfl, ‹_›, rfl, ?_⟩
    | refine ⟨_, _, _, _, rfl, rfl, ‹_›, rfl, ?_⟩
    | refine ⟨_, _, _, _, rfl, rfl, by assumption, by assumption, ?_⟩
    | refine ⟨_, _, _, _, _, _, rfl, ‹_›, ‹_›, rfl, ?_⟩
    | refine ⟨_, _, _, _, _, _, rfl, ‹_›, (by exact KCls.f ‹_› rfl), (by rfl), ?_⟩
    | refine ⟨_, _, _, _, _, _, rfl, upd_same, ‹_›, (by rfl), ?_⟩
    | refine ⟨_, _, _, _, _, _, rfl, ‹_›, ‹Cls _ _›, ‹_›, rfl, ?_⟩
    | refine ⟨_, _, _, _, rfl, ‹_›, by decide +kernel, ?_⟩
    | refine ⟨_, _, _, rfl, ‹_›, ?_⟩
    | refine ⟨_, _, _, _, rfl, by assumption, ?_⟩
    | refine And.intro (by assumption) ?_))))
section
variable {P : Program} {w : World} {K : PySem.W.Frag} {mg : Str → Option Value} {base : Heap}
/-! ### posts and days near a painter's way -/
theorem cpow20 : CPow 10 20 := ⟨by decide, by decide, by decide⟩
theorem KeepW.lp (cl pen l : Addr) (c : Crew) (ad : Nat → Addr) : KeepW K cl pen (fun H => LpAt K H l c ad) := fun _ _ _ p s h => ⟨s.pSeq p h.1, fun i hi => s.pSqt p (h.2 i hi)⟩
theorem refs_ne {ad : Nat → Addr} {n : Nat} (h : 1 ≤ n) : refsV ad n ≠ [] := fun z => by
  have e : (refsV ad n).length = n := firsts_len (fun i => V.ref (ad i)) n
  rw [z] at e
  have e : 0 = n := e
  omega
def spLMark (K : PySem.W.Frag) (lo hi : Int) : Sp := fun vs H Q _ => ∃ (pen cl l : Addr) (b : Int) (c : Crew) (ad : Nat → Addr), vs = [.ref pen, .ref l] ∧ PenAt K cl H pen b ∧ b + 100 ≤ 10 ^ 9 ∧ LpAt K H l c ad ∧ c.Ok ∧ 1 ≤ c.n ∧ ∀ r b' H', lo ≤ r → r ≤ hi → Drew K cl pen b 100 H H' b' → Q (.int r) H'
theorem sc__law_mark : FnScope ["_law_pen_here", "_law_painters", "_law_name", "_law_start", "_law_begin", "_law_stride", "_law_steps"] ["_law_pen_here", "_law_painters"] (defScope s__law_mark) := C8.fnScope_by (by decide +kernel)
theorem ok_law_mark {f : Addr} (F : DF K "_law_mark" "_law_mark" s__law_mark f) (hm : mg "_law_mark" = some (.ref f)) (c__law_draw : C8.Cal P w K mg base 5 "_law_draw" (spD K) []) (c__law_pick : C8.Cal P w K mg base 6 "_law_pick" (spPickL K) []) (c__law_around : C8.Cal P w K mg base 6 "_law_around" (spAround K) []) (c__law_great : C8.Cal P w K mg base 7 "_law_great" (spGreat K) []) :
    C8.Cal P w K mg base 8 "_law_mark" (spLMark K (-(10 ^ 40)) (10 ^ 40)) [] := by
  refine cal_of F hm sc__law_mark (fun _ _ _ _ _ _ us hl => match us, hl with | [_, _], _ => rfl) (fun vs H Q E h => ?_) (fun cdv A outer s H vs Q E hr h => ?_)
  · obtain ⟨pen, cl, l, b, c, ad, rfl, _⟩ := h
    rfl
  · obtain ⟨pen, cl, l, b, c, ad, rfl, hP, hb, hl, ok, one, k⟩ := h
    refine ⟨_, (pss_cons (ps_asg (C8.pe_c c__law_pick hr (by decide) rfl (pa_cons (pv 0) (pa_cons (pv 1) pa_nil))) (pg_tup rfl (pgs_cons (pg_name (i := 2) sc__law_mark.nd rfl (Or.inl rfl)) (pgs_cons (pg_name (i := 3) sc__law_mark.nd rfl (Or.inl rfl)) (pgs_cons (pg_name (i := 4) sc__law_mark.nd rfl (Or.inl rfl)) (pgs_cons (pg_name (i := 5) sc__law_mark.nd rfl (Or.inl rfl)) pgs_nil))))))
        (pss_cons (ps_set (i := 6) sc__law_mark.nd rfl (Or.inl rfl) (C8.pe_c c__law_pick hr (by decide) rfl (pa_cons (pv 0) (pa_cons (pe_lst (pa_cons pe_int (pa_cons (C8.pe_c c__law_draw hr (by decide) rfl (pa_cons (pv 0) (pa_cons pe_int pa_nil))) (pa_cons (C8.pe_c c__law_great hr (by decide) rfl (pa_cons (pv 0) (pa_cons pe_int pa_nil))) pa_nil)))) pa_nil))))
        (pss_one (ps_ret (pe_op op_add (pe_op op_add (pv 4) (pe_op op_mulB (pv 6) (pv 5))) (C8.pe_c c__law_pick hr (by decide) rfl (pa_cons (pv 0) (pa_cons (pe_lst (pa_cons pe_int (pa_cons pe_int (pa_cons (C8.pe_c c__law_around hr (by decide) rfl (pa_cons (pv 0) (pa_cons pe_int pa_nil))) (pa_cons (C8.pe_c c__law_around hr (by decide) rfl (pa_cons (pv 0) (pa_cons (pe_op op_pow pe_int pe_int) pa_nil))) pa_nil))))) pa_nil)))))))), ?_⟩
    show (_ : TS) _ [some _, some _, none, none, none, none, none] _
    have kS := KeepW.sb (K := K) cl pen H
    walk_at "w"
    refine ⟨pen, cl, l, _, b, rfl, hP, by omega, hl.1, refs_ne one, by rw [firsts_len]; have := ok.few; omega, fun v b1 H1 hv ⟨w1, w2, S1, P1⟩ => ?_⟩
    obtain ⟨i, hi, rfl⟩ := firsts_mem.mp hv
    refine ⟨_, _, rfl, S1.pSqt hP (hl.2 i hi), rfl, ?_⟩
    have pi := ok.pts i hi
    obtain ⟨a1, a2, a3, a4, a5, a6, a7⟩ := id pi
    walk_at "w"
    intro q2 b2 H2 q20 q21 w3 w4 S2 P2
    have X2 := S1.tr S2
    walk_at "w"
    refine ⟨by decide, by decide, ?_⟩
    rintro q3 b3 H3 q30 q31 ⟨w5, w6, S3, P3⟩
    have q31 : q3 < 10 ^ 12 := q31
    have X3 := X2.tr S3
    walk_at "w"
    refine pickW (E := C8.E0) (ns := [0, q2, q3]) kS P3 X3 (by omega) (by simp) (by simp) fun q4 b4 H4 hq4 w7 w8 P4 X4 => ?_
    simp only [List.mem_cons, List.not_mem_nil, or_false] at hq4
    have hq4 : 0 ≤ q4 ∧ q4 ≤ 10 ^ 12 := by omega
    have B1 : Bd q4 := ⟨by omega, by omega⟩
    have B2 : Bd (c.p i).stride := ⟨by omega, by omega⟩
    walk_at "w"
    rintro q5 b5 H5 q50 q51 ⟨w9, w10, S5, P5⟩
    have q50 : -3 ≤ q5 := q50
    have q51 : q5 ≤ 3 := q51
    have X5 := X4.tr S5
    walk_at "w"
    refine ⟨cpow20, ?_⟩
    have q32 : (10 : Int) ^ (20 : Int).toNat = 10 ^ 20 := rfl
    walk_at "w"
    rintro q6 b6 H6 q60 q61 ⟨w11, w12, S6, P6⟩
    rw [q32] at q60 q61
    have X6 := X5.tr S6
    walk_at "w"
    refine pickW (E := C8.E0) (ns := [0, 0, q5, q6]) kS P6 X6 (by omega) (by simp) (by simp) fun q7 b7 H7 hq7 w13 w14 P7 X7 => ?_
    simp only [List.mem_cons, List.not_mem_nil, or_false] at hq7
    walk_at "w"
    have e1 : q4 * (c.p i).stride ≤ 10 ^ 12 * 10 ^ 18 := Int.le_trans (Int.mul_le_mul_of_nonneg_left a6 hq4.1) (Int.mul_le_mul_of_nonneg_right hq4.2 (by decide))
    have e2 : q4 * -(c.p i).stride ≤ 10 ^ 12 * 10 ^ 18 := Int.le_trans (Int.mul_le_mul_of_nonneg_left (show -(c.p i).stride ≤ 10 ^ 18 by omega) hq4.1) (Int.mul_le_mul_of_nonneg_right hq4.2 (by decide))
    rw [Int.mul_neg] at e2
    have e3 : (10 : Int) ^ 12 * 10 ^ 18 = 10 ^ 30 := by decide
    exact k _ b7 H7 (by omega) (by omega) ⟨by omega, by omega, X7, P7⟩
theorem sc__law_moment : FnScope ["_law_pen_here", "_law_painters", "_law_name", "_law_start", "_law_begin", "_law_stride"] ["_law_pen_here", "_law_painters"] (defScope s__law_moment) := C8.fnScope_by (by decide +kernel)
theorem ok_law_moment {f : Addr} (F : DF K "_law_moment" "_law_moment" s__law_moment f) (hm : mg "_law_moment" = some (.ref f)) (c__law_draw : C8.Cal P w K mg base 5 "_law_draw" (spD K) []) (c__law_pick : C8.Cal P w K mg base 6 "_law_pick" (spPickL K) []) (c__law_great : C8.Cal P w K mg base 7 "_law_great" (spGreat K) []) :
    C8.Cal P w K mg base 8 "_law_moment" (spLMark K 0 (10 ^ 40)) [] := by
  refine cal_of F hm sc__law_moment (fun _ _ _ _ _ _ us hl => match us, hl with | [_, _], _ => rfl) (fun vs H Q E h => ?_) (fun cdv A outer s H vs Q E hr h => ?_)
  · obtain ⟨pen, cl, l, b, c, ad, rfl, _⟩ := h
    rfl
  · obtain ⟨pen, cl, l, b, c, ad, rfl, hP, hb, hl, ok, one, k⟩ := h
    refine ⟨_, (pss_cons (ps_asg (C8.pe_c c__law_pick hr (by decide) rfl (pa_cons (pv 0) (pa_cons (pv 1) pa_nil))) (pg_tup rfl (pgs_cons (pg_name (i := 2) sc__law_moment.nd rfl (Or.inl rfl)) (pgs_cons (pg_name (i := 3) sc__law_moment.nd rfl (Or.inl rfl)) (pgs_cons (pg_name (i := 4) sc__law_moment.nd rfl (Or.inl rfl)) (pgs_cons (pg_name (i := 5) sc__law_moment.nd rfl (Or.inl rfl)) pgs_nil))))))
        (pss_one (ps_ret (pe_op op_add (pv 3) (C8.pe_c c__law_pick hr (by decide) rfl (pa_cons (pv 0) (pa_cons (pe_lst (pa_cons pe_int (pa_cons (C8.pe_c c__law_draw hr (by decide) rfl (pa_cons (pv 0) (pa_cons pe_int pa_nil))) (pa_cons (C8.pe_c c__law_great hr (by decide) rfl (pa_cons (pv 0) (pa_cons pe_int pa_nil))) (pa_cons (C8.pe_c c__law_great hr (by decide) rfl (pa_cons (pv 0) (pa_cons pe_int pa_nil))) pa_nil))))) pa_nil))))))), ?_⟩
    show (_ : TS) _ [some _, some _, none, none, none, none] _
    have kS := KeepW.sb (K := K) cl pen H
    walk_at "w"
    refine ⟨pen, cl, l, _, b, rfl, hP, by omega, hl.1, refs_ne one, by rw [firsts_len]; have := ok.few; omega, fun v b1 H1 hv ⟨w1, w2, S1, P1⟩ => ?_⟩
    obtain ⟨i, hi, rfl⟩ := firsts_mem.mp hv
    refine ⟨_, _, rfl, S1.pSqt hP (hl.2 i hi), rfl, ?_⟩
    have pi := ok.pts i hi
    obtain ⟨a1, a2, a3, a4, a5, a6, a7⟩ := id pi
    walk_at "w"
    intro q2 b2 H2 q20 q21 w3 w4 S2 P2
    have X2 := S1.tr S2
    walk_at "w"
    refine ⟨by decide, by decide, ?_⟩
    rintro q3 b3 H3 q30 q31 ⟨w5, w6, S3, P3⟩
    have q31 : q3 < 10 ^ 12 := q31
    have X3 := X2.tr S3
    walk_at "w"
    refine ⟨by decide, by decide, ?_⟩
    rintro q4 b4 H4 q40 q41 ⟨w7, w8, S4, P4⟩
    have q41 : q4 < 10 ^ 31 := q41
    have X4 := X3.tr S4
    walk_at "w"
    refine pickW (E := C8.E0) (ns := [0, q2, q3, q4]) kS P4 X4 (by omega) (by simp) (by simp) fun q7 b7 H7 hq7 w13 w14 P7 X7 => ?_
    simp only [List.mem_cons, List.not_mem_nil, or_false] at hq7
    walk_at "w"
    exact k _ b7 H7 (by omega) (by omega) ⟨by omega, by omega, X7, P7⟩
end
end PK
end
section
set_option Elab.async false
set_option linter.all false
set_option maxRecDepth 100000
set_option maxHeartbeats 4000000
namespace PK
open PySem PySem.Spec PyProof.Rows L2 PM
local macro_rules | `(tactic| walk_at "sd") => `(tactic| (first
  | assumption
  | omega
  | (constructor <;> omega)
  | (refine ⟨by omega, ?_⟩; constructor <;> omega)
  | (constructor <;> (first | assumption | omega | (constructor <;> omega)))))
local macro_rules | `(tactic| walk_at "w") => `(tactic| (repeat (first
  | with_reducible refine ifTT ?_
  | with_reducible refine ifFT ?_
  | with_reducible refine ifnT ?_
  | with_reducible refine ifnF ?_
  | with_reducible refine ifIN ?_
  | with_reducible refine ifNN ?_
  | with_reducible refine ifnIN ?_
  | with_reducible refine ifnNN ?_
  | with_reducible refine ifRN ?_
  | with_reducible refine ifnRN ?_
  | ((fail_if_success with_reducible refine iteB ?_ ?_); first
    | refine ⟨_, rfl, ?_⟩
    | refine ⟨_, _, rfl, rfl, ?_⟩
    | refine ⟨_, _, rfl, ?_⟩
    | refine And.intro (a := (_ : Nat) ≤ sizeLine) (by first | exact len_small (m := 2) rfl | exact len_small (m := 1) rfl | exact len_small (m := 4) rfl | exact len_small (m := 3) rfl | exact len_small (m := 0) rfl) ?_
    | refine Or.inl ⟨_, rfl, ?_⟩
    | refine ⟨rfl, ?_⟩
    | refine And.intro (a := (_ : Int) ≤ _) (by omega) ?_
    | refine And.intro (a := (_ : Int) < _) (by omega) ?_
    | refine And.intro (a := (_ : Nat) ≤ _) (by omega) ?_
    | refine And.intro (a := (_ : Nat) < _) (by omega) ?_
    | refine And.intro (a := CDivP _ _) (by walk_at "sd") ?_
    | refine And.intro (a := CDivB _ _) (by walk_at "sd") ?_
    | refine And.intro (a := CMulB _ _) (by walk_at "sd") ?_
    | refine And.intro (a := _ ≠ (0 : Int)) (by walk_at "sd") ?_
    | refine And.intro (a := (0 : Int) < _) (by walk_at "sd") ?_
    | refine ⟨_, _, rfl, ‹_›, rfl, ?_⟩
    | refine ⟨_, _, _, _, rfl, rfl, ‹_›, rfl, ?_⟩
    | refine ⟨_, _, _, _, rfl, rfl, by assumption, by assumption, ?_⟩
    | refine ⟨_, _, _, _, _, _, rfl, ‹_›, ‹_›, rfl, ?_⟩
    | refine ⟨_, _, _, _, _, _, rfl, ‹_›, (by exact KCls.f ‹_› rfl), (by rfl), ?_⟩
    | refine ⟨_, _, _, _, _, _, rfl, upd_same, ‹_›, (by rfl), ?_⟩
    | refine ⟨_, _, _, _, _, _, rfl, ‹_›, ‹Cls _ _›, ‹_›, rfl, ?_⟩
    | refine ⟨_, _, _, _, rfl, ‹_›, by decide +kernel, ?_⟩
    | refine ⟨_, _, _, rfl, ‹_›, ?_⟩
    | refine ⟨_, _, _, _, rfl, by assumption, ?_⟩
    | refine And.intro (by assumption) ?_))))
section
variable {P : Program} {w : World} {K : PySem.W.Frag} {mg : Str → Option Value} {base : Heap} {CP CF CH PT : Addr}
/-! ### the law itself -/
theorem lim_uniq {c : Crew} {L L' : Nat → Option Int} (ok : c.Ok) (h : LimOk c L) (h' : LimOk c L') {a : Nat} (ha : a < c.n) : L a = L' a := hist_uniq (fun a ha => (ok.pts a ha).d0) h.hist h'.hist ha
theorem parts_uniq {c : Crew} {L L' : Nat → Option Int} (ok : c.Ok) (h : LimOk c L) (h' : LimOk c L') (day : Option Int) : partsOf c.n c.p L day = partsOf c.n c.p L' day := by
  unfold partsOf
  refine List.map_congr_left fun a ha => ?_
  rw [lim_uniq ok h h' (List.mem_range.mp ha)]
theorem found_uniq {c : Crew} {L L' : Nat → Option Int} {day : Option Int} {post index : Int} {left : Bool} {r : Option Int} (ok : c.Ok) (h : LimOk c L) (h' : LimOk c L') (F : FoundBy c L' day post index left r) : FoundBy c L day post index left r := by
  unfold FoundBy at F ⊢
  rw [parts_uniq ok h h' day]
  exact F
theorem found_paint {c : Crew} {L : Nat → Option Int} {day : Option Int} {post index x : Int} (ok : c.Ok) (h : LimOk c L) (hi : 0 ≤ index) (F : FoundBy c L day post index false (some x)) : ∀ L', LimOk c L' → PaintBy c L' x day := fun L' h' => by
  obtain ⟨F, _⟩ := (F : Found (partsOf c.n c.p L day) post index (some x) ∧ _)
  obtain ⟨⟨q, hq, hx⟩, _⟩ := found_some (parts_nz ok) (parts_apart h.hist day) hi F
  obtain ⟨a, ha, rfl⟩ := parts_mem.mp hq
  obtain ⟨k, h1, h2, h3⟩ := (mem_part (n := c.n)).mp hx
  refine ⟨a, k, ha, ⟨h1.1, fun z e => h1.2 z ?_⟩, h2, h3⟩
  rw [lim_uniq ok h h' ha]
  exact e
theorem mir_parts {c : Crew} {L : Nat → Option Int} {day : Option Int} : partsOf (mirCrew c).n (mirCrew c).p L day = (partsOf c.n c.p L day).map oppP := parts_mir c.n c.p L day
/-- the law's things at one place of the heap -/
structure LawH (K : PySem.W.Frag) (CP CF PT : Addr) (x l m l' : Addr) (c : Crew) (r ad ad' : Nat → Addr) (L : Nat → Option Int) (H : Hp) : Prop where
  fn : FnAt K CP CF H x c r
  lp : LpAt K H l c ad
  cn : SqL K H m (firsts (fun i => optV (L i)) c.n)
  mi : LpAt K H l' (mirCrew c) ad'
  tb : LamX.Tabs (TabT PT) H
theorem LawH.same {x l m l' : Addr} {c : Crew} {r ad ad' : Nat → Addr} {L : Nat → Option Int} {H H' : Hp} (e : Same H H') (h : LawH K CP CF PT x l m l' c r ad ad' L H) : LawH K CP CF PT x l m l' c r ad ad' L H' := ⟨h.fn.same e, h.lp.same e, e.seq h.cn, h.mi.same e, h.tb.ext e⟩
theorem LawH.ext {x l m l' : Addr} {c : Crew} {r ad ad' : Nat → Addr} {L : Nat → Option Int} {H H' : Hp} (e : LamX.ExtN H H') (t : LamX.Tabs (TabT PT) H') (h : LawH K CP CF PT x l m l' c r ad ad' L H) : LawH K CP CF PT x l m l' c r ad ad' L H' := ⟨LamX.ExtN.hi (x := x) (L := L) e h.fn, ⟨LamX.ExtN.seq e h.lp.1, fun i hi => LamX.ExtN.sqt e (h.lp.2 i hi)⟩, LamX.ExtN.seq e h.cn, ⟨LamX.ExtN.seq e h.mi.1, fun i hi => LamX.ExtN.sqt e (h.mi.2 i hi)⟩, t⟩
theorem KeepW.law (cl pen x l m l' : Addr) (c : Crew) (r ad ad' : Nat → Addr) (L : Nat → Option Int) : KeepW K cl pen (LawH K CP CF PT x l m l' c r ad ad' L) := fun H H' b p s h => ⟨KeepW.fence cl pen x c r _ _ _ p s h.fn, KeepW.lp cl pen l c ad _ _ _ p s h.lp, s.pSeq p h.cn, KeepW.lp cl pen l' (mirCrew c) ad' _ _ _ p s h.mi, KeepW.tabs cl pen PT _ _ _ p s h.tb⟩
def spLaw (K : PySem.W.Frag) (PT : Addr) : Sp := fun vs H Q _ => ∃ (s : Addr) (ns : List Int), vs = [.ref s] ∧ SqL K H s (ns.map V.int) ∧ ns.length ≤ 63 ∧ LamX.Tabs (TabT PT) H ∧ ∀ H', Q (.bl true) H'
theorem sc_law : FnScope ["_law_script", "_law_pen_here", "_law_turn", "_law_painters", "_law_fence_here", "_law_counts", "_law_mirrored", "_law_again", "_law_post", "_law_index", "_law_date", "_law_told"] ["_law_script"] (defScope s_law) := C8.fnScope_by (by decide +kernel)
theorem ok_law {f : Addr} {fd : FuncData} (F : FunD K "law" "law" (defArgs s_law) (defBody s_law) (defScope s_law) [] [] f fd) (c__law_pen : C8.Cal P w K mg base 1 "_law_pen" (spPen K) []) (c__law_draw : C8.Cal P w K mg base 5 "_law_draw" (spD K) []) (c__law_pick : C8.Cal P w K mg base 6 "_law_pick" (spPickL K) []) (c__law_great : C8.Cal P w K mg base 7 "_law_great" (spGreat K) []) (c__law_small_right : C8.Cal P w K mg base 12 "_law_small_right" (spLSmallR K PT) [])
    (c__law_crowd : C8.Cal P w K mg base 9 "_law_crowd" (spLCrowd K) []) (c__law_fence : C8.Cal P w K mg base 6 "_law_fence" (spLFence K CP CF) []) (c__law_history : C8.Cal P w K mg base 4 "_law_history" (spLHist K) []) (c__law_opposite : C8.Cal P w K mg base 1 "_law_opposite" (spLOpp K) []) (c__law_mark : C8.Cal P w K mg base 8 "_law_mark" (spLMark K (-(10 ^ 40)) (10 ^ 40)) []) (c__law_moment : C8.Cal P w K mg base 8 "_law_moment" (spLMark K 0 (10 ^ 40)) [])
    (c__law_is_right : C8.Cal P w K mg base 2 "_law_is_right" (spLRight K) []) (c__law_back : C8.Cal P w K mg base 1 "_law_back" spLBack []) (c_Fence : MakR P w K mg base 3 "Fence" CF (spFenceR K CP CF)) (c_painted_fromDL : CalN P w K mg base 11 "painted_from" (spPaintedFrom K CP CF PT) 3 ["day", "left"] (fun vs zs => vs ++ zs)) (c_painted_fromD : CalN P w K mg base 11 "painted_from" (spPaintedFrom K CP CF PT) 3 ["day"] (fun vs zs => vs ++ (zs ++ [V.bl false]))) (c_painted_from0 : C8.Cal P w K mg base 11 "painted_from" (spPaintedFrom K CP CF PT) [.non, .bl false])
    (c_painter_of : CalN P w K mg base 9 "painter_of" (spPainterOf K CP CF) 2 ["day"] (fun vs zs => vs ++ zs)) (n_range : mg "range" = none) (n_min : mg "min" = none) (n_len : mg "len" = none) :
    FnOk P w K mg base CX0 13 f fd ["_law_script"] (spLaw K PT) := by
  refine funD_ok F sc_law (fun vs H Q E h => ?_) (fun cdv A_ outer s H vs Q E hr h => ?_)
  · obtain ⟨s, ns, rfl, _⟩ := h
    rfl
  · obtain ⟨s0, ns, rfl, hs, hns, hT, k⟩ := h
    refine ⟨_, (pss_cons (ps_set (i := 1) sc_law.nd rfl (Or.inl rfl) (C8.pe_c c__law_pen hr (by decide) rfl (pa_cons (pv 0) pa_nil)))
        (pss_cons (ps_for PassesOwn.never rfl (pi_range1 (by rfl) n_range (pa_cons (pe_op op_add pe_int (pe_callB (call_min2 rfl) (by rfl) n_min (by decide +kernel) (pa_cons pe_int (pa_cons (pe_callB call_len (by rfl) n_len (by decide +kernel) (pa_cons (pv 0) pa_nil)) pa_nil)))) pa_nil)) (pg_name (i := 2) sc_law.nd rfl (Or.inl rfl))
           (pss_cons (ps_if (pt_not (pt_val (C8.pe_c c__law_small_right hr (by decide) rfl (pa_cons (pv 1) pa_nil)))) (pss_one (ps_ret pe_bl))
              pss_nil)
           (pss_cons (ps_set (i := 3) sc_law.nd rfl (Or.inl rfl) (C8.pe_c c__law_crowd hr (by decide) rfl (pa_cons (pv 1) (pa_cons pe_int pa_nil))))
           (pss_cons (ps_par (i := 4) (j := 5) rfl sc_law.nd rfl rfl (by decide) rfl rfl (pa_cons (C8.pe_c c__law_fence hr (by decide) rfl (pa_cons (pv 3) pa_nil)) (pa_cons (C8.pe_c c__law_history hr (by decide) rfl (pa_cons (pv 3) pa_nil)) pa_nil)) (by rfl))
           (pss_cons (ps_set (i := 6) sc_law.nd rfl (Or.inl rfl) (C8.pe_c c__law_opposite hr (by decide) rfl (pa_cons (pv 3) pa_nil)))
           (pss_one (ps_for PassesOwn.never rfl (pi_range1 (by rfl) n_range (pa_cons pe_int pa_nil)) (pg_name (i := 7) sc_law.nd rfl (Or.inl rfl))
             (C8.pss_cut (ps_par (i := 8) (j := 9) rfl sc_law.nd rfl rfl (by decide) rfl rfl (pa_cons (C8.pe_c c__law_mark hr (by decide) rfl (pa_cons (pv 1) (pa_cons (pv 3) pa_nil))) (pa_cons (C8.pe_c c__law_pick hr (by decide) rfl (pa_cons (pv 1) (pa_cons (pe_lst (pa_cons pe_int (pa_cons (C8.pe_c c__law_draw hr (by decide) rfl (pa_cons (pv 1) (pa_cons pe_int pa_nil))) (pa_cons (C8.pe_c c__law_great hr (by decide) rfl (pa_cons (pv 1) (pa_cons pe_int pa_nil))) pa_nil)))) pa_nil))) pa_nil)) (by rfl))
             (C8.pss_cut (ps_set (i := 10) sc_law.nd rfl (Or.inl rfl) (C8.pe_c c__law_pick hr (by decide) rfl (pa_cons (pv 1) (pa_cons (pe_lst (pa_cons pe_non (pa_cons (C8.pe_c c__law_moment hr (by decide) rfl (pa_cons (pv 1) (pa_cons (pv 3) pa_nil))) pa_nil))) pa_nil))))
             (pss_cons (ps_set (i := 11) sc_law.nd rfl (Or.inl rfl) (pe_cN c_painted_fromD hr (by decide) rfl (pa_cons (pv 4) (pa_cons (pv 8) (pa_cons (pv 9) pa_nil))) (pk_cons (pv 10) pk_nil)))
             (pss_cons (ps_if (pt_not (pt_val (C8.pe_c c__law_is_right hr (by decide) rfl (pa_cons (pv 3) (pa_cons (pv 5) (pa_cons (pv 8) (pa_cons (pv 9) (pa_cons (pv 10) (pa_cons (pv 11) pa_nil))))))))) (pss_one (ps_ret pe_bl))
                pss_nil)
             (C8.pss_cut (ps_if (PW.pt (pw_and (pt_cmpR op_notN (pv 11) pe_non (nomark _)) (pw_and1 (pt_cmpR op_isN (pe_cN c_painter_of hr (by decide) rfl (pa_cons (pv 4) (pa_cons (pv 11) pa_nil)) (pk_cons (pv 10) pk_nil)) pe_non (nomark _))))) (pss_one (ps_ret pe_bl))
                pss_nil)
             (pss_cons (ps_set (i := 11) sc_law.nd rfl (Or.inl rfl) (pe_cN c_painted_fromDL hr (by decide) rfl (pa_cons (pv 4) (pa_cons (pv 8) (pa_cons (pv 9) pa_nil))) (pk_cons (pv 10) (pk_cons pe_bl pk_nil))))
             (pss_one (ps_if (pt_not (pt_val (C8.pe_c c__law_is_right hr (by decide) rfl (pa_cons (pv 6) (pa_cons (pv 5) (pa_cons (pe_op op_sub pe_int (pv 8)) (pa_cons (pv 9) (pa_cons (pv 10) (pa_cons (C8.pe_c c__law_back hr (by decide) rfl (pa_cons (pv 11) pa_nil)) pa_nil))))))))) (pss_one (ps_ret pe_bl))
               pss_nil)))))))))))))))
        (pss_one (ps_ret (pe_and (pe_cmpR op_isN (C8.pe_c c_painted_from0 hr (by decide) rfl (pa_cons (pe_mkR0 c_Fence hr (by decide) rfl) (pa_cons (pe_un un_neg pe_int) (pa_cons pe_int pa_nil)))) pe_non (nomark _)) (pe_one (pe_cmpR op_isN (pe_cN c_painted_fromDL hr (by decide) rfl (pa_cons (pe_mkR0 c_Fence hr (by decide) rfl) (pa_cons pe_int (pa_cons pe_int pa_nil))) (pk_cons pe_int (pk_cons pe_bl pk_nil))) pe_non (nomark _)))))))), ?_⟩
    show (_ : TS) _ [some _, none, none, none, none, none, none, none, none, none, none, none] _
    walk_at "w"
    refine tNil_of ?_
    refine ⟨s0, ns, rfl, hs, fun pen cl H1 hS1 hpn P1 => ?_⟩
    have T1 := hT.ext hS1
    have hs1 := hS1.seq hs
    walk_at "w"
    refine ⟨_, _, rfl, .inl ⟨_, hs1, rfl⟩, ?_⟩
    rw [List.length_map]
    have hN : (0 : Int) ≤ 1 + (if ((ns.length : Nat) : Int) < 3 then ((ns.length : Nat) : Int) else 3) ∧ 1 + (if ((ns.length : Nat) : Int) < 3 then ((ns.length : Nat) : Int) else 3) ≤ 4 := by
      split <;> omega
    generalize hn : 1 + (if ((ns.length : Nat) : Int) < 3 then ((ns.length : Nat) : Int) else 3) = N at hN
    refine ⟨_, _, rfl, ?_⟩
    refine ⟨_, _, rfl, rfl, ?_⟩
    refine ⟨_, rfl, ?_⟩
    refine And.intro (by rw [hn]; omega) (And.intro (by rw [hn]; omega) ?_)
    refine for_it walk_range (fun i σ H' => Tk (LamX.Tabs (TabT PT) H' ∧ ∃ (b' : Int) (o2 o3 o4 o5 o6 o7 o8 o9 o10 o11 : Option V), 0 ≤ b' ∧ b' ≤ 5000 * (i : Nat) ∧ PenAt K cl H' pen b' ∧ σ = [some (.ref s0), some (.ref pen), o2, o3, o4, o5, o6, o7, o8, o9, o10, o11])) (tk ⟨T1, 0, none, none, none, none, none, none, none, none, none, none, Int.le_refl _, by omega, P1, rfl⟩) (fun _ _ _ _ _ => trivial) ?_ ?_
    · rintro i v σ H2 H3 hi ⟨T2, b2, o2, o3, o4, o5, o6, o7, o8, o9, o10, o11, l2, u2, P2, rfl⟩ ⟨rfl, rfl⟩
      have hi : i < 4 := by
        rw [hn] at hi
        omega
      walk_at "w"
      intro b3 H4 w1 w2 P4 T4
      walk_at "w"
      rintro l c ad b5 H5 one ok hl ⟨w3, w4, S5, P5⟩
      have T5 := KeepW.tabs (K := K) cl pen PT _ _ _ P4 S5 T4
      walk_at "w"
      intro x r H6 hS6 hF6
      have P6 := P5.same hS6
      have T6 := T5.ext hS6
      have hl6 := hl.same hS6
      walk_at "w"
      intro m L H7 hS7 lim hm7
      have P7 := P6.same hS7
      have T7 := T6.ext hS7
      have hl7 := hl6.same hS7
      have hF7 := hF6.same hS7
      walk_at "w"
      intro l' ad' H8 hS8 hmi
      have P8 := P7.same hS8
      have X8 : LawH K CP CF PT x l m l' c r ad ad' L H8 := ⟨hF7.same hS8, hl7.same hS8, hS8.seq hm7, hmi, T7.ext hS8⟩
      have kX : KeepW K cl pen (LawH K CP CF PT x l m l' c r ad ad' L) := KeepW.law cl pen x l m l' c r ad ad' L
      have few := ok.few
      clear hF6 hl6 T6 P6 T5 P5 hl hmi hm7 hl7 hF7 P7 T7
      refine ⟨5, rfl, by decide, by decide, ?_⟩
      refine for_it walk_range (fun j σ H' => Tk (LawH K CP CF PT x l m l' c r ad ad' L H' ∧ ∃ (b' : Int) (o7 o8 o9 o10 o11 : Option V), b5 ≤ b' ∧ b' ≤ b5 + 300 * (j : Nat) ∧ PenAt K cl H' pen b' ∧ σ = [some (.ref s0), some (.ref pen), some (.int (0 + (i : Nat))), some (.ref l), some (.ref x), some (.ref m), some (.ref l'), o7, o8, o9, o10, o11])) (tk ⟨X8, b5, o7, o8, o9, o10, o11, Int.le_refl _, by omega, P8, rfl⟩) (fun _ _ _ _ _ => trivial) ?_ ?_
      · rintro j v σ H9 H10 hj ⟨X9, b9, o7, o8, o9, o10, o11, l9, u9, P9, rfl⟩ ⟨rfl, rfl⟩
        have hj : j < 5 := hj
        walk_at "w"
        refine ⟨fun σ' H' => Tk (LawH K CP CF PT x l m l' c r ad ad' L H' ∧ ∃ (b' po ix : Int) (o10 o11 : Option V), b9 ≤ b' ∧ b' ≤ b9 + 150 ∧ PenAt K cl H' pen b' ∧ (-(10 ^ 40) ≤ po ∧ po ≤ 10 ^ 40) ∧ (0 ≤ ix ∧ ix < 10 ^ 20) ∧ σ' = [some (.ref s0), some (.ref pen), some (.int (0 + (i : Nat))), some (.ref l), some (.ref x), some (.ref m), some (.ref l'), some (.int (0 + (j : Nat))), some (.int po), some (.int ix), o10, o11]), ?_, ?_⟩
        · walk_at "w"
          refine ⟨pen, cl, l, b9, c, ad, rfl, P9, by omega, X9.lp, ok, one, fun po b11 H11 p0 p1 ⟨w1, w2, S11, P11⟩ => ?_⟩
          have X11 := kX _ _ _ P9 S11 X9
          walk_at "w"
          intro q1 b12 H12 q10 q11 w3 w4 S12 P12
          have X12 := kX _ _ _ P11 S12 X11
          walk_at "w"
          refine ⟨by decide, by decide, ?_⟩
          rintro q2 b13 H13 q20 q21 ⟨w5, w6, S13, P13⟩
          have q21 : q2 < 10 ^ 20 := q21
          have X13 := kX _ _ _ P12 S13 X12
          walk_at "w"
          refine pickW (E := C8.E0) (ns := [0, q1, q2]) kX P13 X13 (by omega) (by simp) (by simp) fun q3 b14 H14 hq3 w7 w8 P14 X14 => ?_
          simp only [List.mem_cons, List.not_mem_nil, or_false] at hq3
          walk_at "w"
          exact tk ⟨X14, b14, po, q3, _, _, by omega, by omega, P14, ⟨p0, p1⟩, by omega, rfl⟩
        · rintro σ' H11 ⟨X11, b11, po, ix, o10a, o11a, l11, u11, P11, hpo, hix, rfl⟩
          refine ⟨fun σ' H' => Tk (LawH K CP CF PT x l m l' c r ad ad' L H' ∧ ∃ (b' po ix : Int) (day : Option Int) (o11 : Option V), b9 ≤ b' ∧ b' ≤ b9 + 260 ∧ PenAt K cl H' pen b' ∧ (-(10 ^ 40) ≤ po ∧ po ≤ 10 ^ 40) ∧ (0 ≤ ix ∧ ix < 10 ^ 20) ∧ DayB day ∧ σ' = [some (.ref s0), some (.ref pen), some (.int (0 + (i : Nat))), some (.ref l), some (.ref x), some (.ref m), some (.ref l'), some (.int (0 + (j : Nat))), some (.int po), some (.int ix), some (optV day), o11]), ?_, ?_⟩
          · walk_at "w"
            refine ⟨pen, cl, l, b11, c, ad, rfl, P11, by omega, X11.lp, ok, one, fun da b12 H12 d0 d1 ⟨w1, w2, S12, P12⟩ => ?_⟩
            have X12 := kX _ _ _ P11 S12 X11
            walk_at "w"
            intro l2 hl2
            have S13 := Same.new (o := .lst [V.non, .int da]) hl2
            have P13 := P12.same S13
            have X13 := X12.same S13
            have hl13 : SqL K (upd H12 l2 (.lst [V.non, .int da])) l2 [V.non, .int da] := SqL.of upd_same
            generalize upd H12 l2 (.lst [V.non, .int da]) = H13 at S13 P13 X13 hl13 ⊢
            walk_at "w"
            refine ⟨pen, cl, l2, _, b12, rfl, P13, by omega, hl13, by simp, (show (2 : Nat) ≤ 1000 by decide), fun v b14 H14 hv ⟨w5, w6, S14, P14⟩ => ?_⟩
            have X14 := kX _ _ _ P13 S14 X13
            simp only [List.mem_cons, List.not_mem_nil, or_false] at hv
            rcases hv with rfl | rfl
            · exact tk ⟨X14, b14, po, ix, none, _, by omega, by omega, P14, hpo, hix, fun z e => (by cases e), rfl⟩
            · exact tk ⟨X14, b14, po, ix, some da, _, by omega, by omega, P14, hpo, hix, fun z e => (by injection e with e; omega), rfl⟩
          · rintro σ' H12 ⟨X12, b12, po, ix, day, o11b, l12, u12, P12, hpo, hix, hD, rfl⟩
            walk_at "w"
            refine ⟨x, c, r, po, ix, day, false, rfl, X12.fn, ok, ⟨hpo.1, hpo.2, hix.1, by omega⟩, hD, X12.tb, fun r' L2_ H13 hX T13 lim2 hFd => ?_⟩
            have hFd := found_uniq ok lim lim2 hFd
            have X13 := X12.ext hX T13
            have P13 := P12.ext hX
            walk_at "w"
            refine ⟨l, m, c, ad, L, po, ix, day, r', rfl, X13.lp, X13.cn, ok, one, fun a k h1 h2 => lim.nn a k h1 h2, hD, hix.1, parts_apart lim.hist day, hFd.1, fun H14 hS14 => ?_⟩
            have X14 := X13.same hS14
            have P14 := P13.same hS14
            walk_at "w"
            refine ⟨fun σ' H' => Tk (LawH K CP CF PT x l m l' c r ad ad' L H' ∧ ∃ (b' po ix : Int) (day : Option Int) (o11 : Option V), b9 ≤ b' ∧ b' ≤ b9 + 260 ∧ PenAt K cl H' pen b' ∧ (-(10 ^ 40) ≤ po ∧ po ≤ 10 ^ 40) ∧ (0 ≤ ix ∧ ix < 10 ^ 20) ∧ DayB day ∧ σ' = [some (.ref s0), some (.ref pen), some (.int (0 + (i : Nat))), some (.ref l), some (.ref x), some (.ref m), some (.ref l'), some (.int (0 + (j : Nat))), some (.int po), some (.int ix), some (optV day), o11]), ?_, ?_⟩
            · cases r' with
              | none =>
                walk_at "w"
                exact tk ⟨X14, b12, po, ix, day, _, l12, u12, P14, hpo, hix, hD, rfl⟩
              | some xx =>
                obtain ⟨x0, x1⟩ := hFd.2 xx rfl
                walk_at "w"
                refine ⟨x, c, r, xx, day, rfl, X14.fn, ok, by omega, by omega, fun v e => ⟨(hD v e).1, by have := (hD v e).2; omega⟩, found_paint ok lim hix.1 hFd, fun z H15 hS15 => ?_⟩
                walk_at "w"
                refine iteD (fun hc => absurd hc (by intro z; cases z)) (fun _ => ?_)
                walk_at "w"
                exact tk ⟨X14.same hS15, b12, po, ix, day, _, l12, u12, P14.same hS15, hpo, hix, hD, rfl⟩
            · rintro σ' H15 ⟨X15, b15, po, ix, day, o11c, l15, u15, P15, hpo, hix, hD, rfl⟩
              clear hFd X14 X13 P14 P13
              walk_at "w"
              refine ⟨x, c, r, po, ix, day, true, rfl, X15.fn, ok, ⟨hpo.1, hpo.2, hix.1, by omega⟩, hD, X15.tb, fun r' L2_ H16 hX T16 lim2 hFd => ?_⟩
              have hFd := found_uniq ok lim lim2 hFd
              obtain ⟨r2, rfl, hF2, _⟩ := hFd
              have X16 := X15.ext hX T16
              have P16 := P15.ext hX
              walk_at "w"
              have e1 : ((r2.map fun x => -x).map fun x => -x) = r2 := by
                cases r2 with
                | none => rfl
                | some z =>
                  show some (- -z) = some z
                  rw [Int.neg_neg]
              rw [e1]
              refine ⟨l', m, mirCrew c, ad', L, 0 - po, ix, day, r2, rfl, X16.mi, X16.cn, mirCrew_ok ok, one, fun a k h1 h2 => lim.nn a k h1 h2, hD, hix.1, by rw [mir_parts]; exact opp_apart (parts_apart lim.hist day), by rw [mir_parts, Int.zero_sub]; exact hF2, fun H17 hS17 => ?_⟩
              walk_at "w"
              exact tk ⟨X16.same hS17, b15, _, _, _, _, _, by omega, by omega, P16.same hS17, rfl⟩
      · rintro σ H9 ⟨X9, b9, o7, o8, o9, o10, o11, l9, u9, P9, rfl⟩
        have u9 : b9 ≤ b5 + 1500 := by
          have e : ((Int.toNat 5 : Nat) : Int) = 5 := rfl
          omega
        exact tk ⟨X9.tb, b9, _, _, _, _, _, _, _, _, _, _, by omega, by omega, P9, rfl⟩
    · rintro σ H2 ⟨T2, b2, o2, o3, o4, o5, o6, o7, o8, o9, o10, o11, l2, u2, P2, rfl⟩
      have ok0 : (⟨0, fun _ => Str.ofString "", fun _ => ⟨0, 0, 0⟩⟩ : Crew).Ok := ⟨Nat.zero_le _, fun i hi => absurd hi (Nat.not_lt_zero _), fun i j hi => absurd hi (Nat.not_lt_zero _), fun i hi => absurd hi (Nat.not_lt_zero _)⟩
      have none1 : ∀ {L : Nat → Option Int} {day : Option Int} {post index : Int} {left : Bool} {r' : Option Int}, 0 ≤ index → FoundBy ⟨0, fun _ => Str.ofString "", fun _ => ⟨0, 0, 0⟩⟩ L day post index left r' → r' = none := fun {L day post index left r'} h0 hF => by
        cases left with
        | false =>
          obtain ⟨hF, _⟩ := (hF : Found [] post index r' ∧ _)
          cases r' with
          | none => rfl
          | some x =>
            have h9 : index < 0 := hF.2.1
            omega
        | true =>
          obtain ⟨r2, rfl, hF, _⟩ := (hF : ∃ r2 : Option Int, r' = r2.map (fun x => -x) ∧ Found [] (-post) index r2 ∧ ∀ x, r2 = some x → -post ≤ x ∧ x ≤ 10 ^ 79)
          cases r2 with
          | none => rfl
          | some x =>
            have h9 : index < 0 := hF.2.1
            omega
      intro x dx nx ndx hne
      have Sa : Same H2 (upd (upd H2 dx (.own x)) x (.ins CF dx [])) := fun b o e => by
        rw [upd_ne (ne_of_none e nx), upd_ne (ne_of_none e ndx)]
        exact e
      refine ⟨[.ref x], [], rfl, rfl, Nat.zero_le _, fun q hq => ?_⟩
      have Sb := Sa.trans (Same.new (o := .tup []) hq)
      refine ⟨x, dx, q, ⟨0, fun _ => Str.ofString "", fun _ => ⟨0, 0, 0⟩⟩, (fun _ => x), rfl, Same.new hq _ _ upd_same, SqT.of upd_same, fun i hi => absurd hi (Nat.not_lt_zero _), fun i hi => absurd hi (Nat.not_lt_zero _), ok0, fun H3 hSc hF => ⟨rfl, ?_⟩⟩
      have T3 := T2.ext fun b o e => hSc b o (Sb b o e) (ne_of_none e nx)
      clear Sa Sb hSc hq hne ndx nx
      walk_at "w"
      refine ⟨x, ⟨0, fun _ => Str.ofString "", fun _ => ⟨0, 0, 0⟩⟩, fun _ => x, -3, 0, none, false, rfl, hF, ok0, ⟨by decide, by decide, by decide, by decide⟩, fun v e => (by cases e), T3, fun r' L H4 hX T4 lim hFd => ?_⟩
      rw [none1 (by decide) hFd]
      walk_at "w"
      intro x2 dx nx ndx hne
      have Sa : Same H4 (upd (upd H4 dx (.own x2)) x2 (.ins CF dx [])) := fun b o e => by
        rw [upd_ne (ne_of_none e nx), upd_ne (ne_of_none e ndx)]
        exact e
      refine ⟨[.ref x2], [], rfl, rfl, Nat.zero_le _, fun q hq => ?_⟩
      have Sb := Sa.trans (Same.new (o := .tup []) hq)
      refine ⟨x2, dx, q, ⟨0, fun _ => Str.ofString "", fun _ => ⟨0, 0, 0⟩⟩, (fun _ => x2), rfl, Same.new hq _ _ upd_same, SqT.of upd_same, fun i hi => absurd hi (Nat.not_lt_zero _), fun i hi => absurd hi (Nat.not_lt_zero _), ok0, fun H5 hSc hF5 => ⟨rfl, ?_⟩⟩
      have T5 := T4.ext fun b o e => hSc b o (Sb b o e) (ne_of_none e nx)
      clear Sa Sb hSc hq hne ndx nx
      walk_at "w"
      refine ⟨x2, ⟨0, fun _ => Str.ofString "", fun _ => ⟨0, 0, 0⟩⟩, fun _ => x2, 4, 9, some 7, true, rfl, hF5, ok0, ⟨by decide, by decide, by decide, by decide⟩, fun v e => (by injection e with e; omega), T5, fun r' L H6 hX T6 lim hFd => ?_⟩
      rw [none1 (by decide) hFd]
      walk_at "w"
      exact k H6
end
end PK
end
section
set_option Elab.async false
set_option linter.all false
set_option maxRecDepth 100000
set_option maxHeartbeats 0
/-! ### what the looks mean -/
namespace PK
open PySem PySem.Spec PyProof.Rows L2 PM
theorem propOk_of {K : PySem.W.Frag} {cls prop : Str} (h : propOk K cls prop = true) : PropOf K (He.ga K cls) prop (holdAt K cls prop) (getterAt K cls prop) := by
  unfold propOk at h
  rw [Bool.and_eq_true, Bool.and_eq_true, Bool.and_eq_true] at h
  obtain ⟨h1, h2, h3, h4⟩ := h
  refine ⟨of_decide_eq_true h1, of_decide_eq_true h2, of_decide_eq_true h3, ?_⟩
  unfold getterAt
  split at h4
  · rename_i g rest e
    exact ⟨rest, by rw [e]⟩
  · cases h4
theorem GtD.fun_ {K : PySem.W.Frag} {d : GtD} (t : gtTell K d = d.told) (g : d.good K = true) : ∃ fd, FunD K d.name d.qual d.params d.body d.scope [] [] (getterAt K d.cls d.prop) fd := by
  unfold GtD.good at g
  unfold gtTell at t
  rw [Bool.and_eq_true] at g
  obtain ⟨kp, g⟩ := g
  cases hl : K.lookup (getterAt K d.cls d.prop) with
  | none =>
    rw [hl] at g
    cases g
  | some o =>
    rw [hl] at g t
    obtain ⟨oc, od, dat, osl⟩ := o
    cases dat with
    | func fd =>
      have g : (PySem.W.codeIn K fd.code d.qual && He.dflB K fd.defaults []) = true := g
      have t : fnTell fd = d.told := t
      rw [Bool.and_eq_true] at g
      obtain ⟨a1, a2, a3, a4, a5, a6, a7, a8, a9, a10, a11, a12, a13, a14, a15⟩ := fd
      unfold fnTell GtD.told at t
      simp only [Option.some.injEq, Prod.mk.injEq] at t
      obtain ⟨rfl, rfl, rfl, rfl, rfl, rfl, rfl, rfl⟩ := t
      exact ⟨_, ⟨oc, od, a8, a9, a10, a11, a12, a13, a14, osl, rfl, hl, g.1, He.dflB_ok g.2, .inl rfl⟩, kp⟩
    | _ => cases g
theorem insB_of {K : PySem.W.Frag} {x : Str} (c : Cls K (He.ga K x)) (h : insB K x = true) : C8.InsC K (He.ga K x) := by
  unfold insB at h
  simp only [Bool.and_eq_true, decide_eq_true_eq] at h
  exact ⟨c, h.1, h.2.1, h.2.2.1, h.2.2.2.1, h.2.2.2.2⟩
theorem addB_of {K : PySem.W.Frag} {x y : Str} (h : addB K x y = true) : PySem.W.AddOk K (He.ga K x) (He.ga K y) (holdAt K x "__add__") (holdAt K y "__add__") := by
  unfold addB at h
  simp only [Bool.and_eq_true, decide_eq_true_eq] at h
  exact ⟨h.1, h.2.1, h.2.2.1, h.2.2.2.1, h.2.2.2.2.1, h.2.2.2.2.2.1, h.2.2.2.2.2.2.1, h.2.2.2.2.2.2.2.1, h.2.2.2.2.2.2.2.2⟩
theorem callB_of {K : PySem.W.Frag} {x : Str} (h : callB K x = true) : StX.CallO K (He.ga K x) (holdAt K x "__call__") := by
  unfold callB at h
  simp only [Bool.and_eq_true, decide_eq_true_eq] at h
  exact ⟨h.1, h.2.1, h.2.2⟩
theorem kcls_of {K : PySem.W.Frag} {x : Str} {ns : List Str} (c : Cls K (He.ga K x)) (h : noB K x ns = true) (nd : ns.Nodup) (few : ns.length < 1000) : KCls K (He.ga K x) ns := ⟨c, fun f hf => by
  have h2 : decide (PySem.W.findIn K (.ref (He.ga K x)) f = some none) = true := List.all_eq_true.mp h f hf
  have h3 := of_decide_eq_true h2
  exact h3, nd, few⟩
theorem gcI {mg : Str → Option Value} {x : Str} {i : Int} (h : ∃ t, mg x = some (.int i t)) : GC mg x (.int i) := by
  obtain ⟨t, h⟩ := h
  exact ⟨_, h, t, rfl⟩
theorem gcS {mg : Str → Option Value} {x z : Str} (h : ∃ t, mg x = some (.str z t)) : GC mg x (.str z) := by
  obtain ⟨t, h⟩ := h
  exact ⟨_, h, t, rfl⟩
end PK
end
section
set_option Elab.async false
set_option linter.all false
set_option maxRecDepth 100000
set_option maxHeartbeats 4000000
namespace PK
open PySem PySem.Spec PyProof.Rows L2 PM
/-! ### all facts, all defs -/
theorem facts {P : Program} {w : World} {K : PySem.W.Frag} {h : Heap} {mg : Str → Option Value} (X : K.In h) (G : h.Ns mainGlobals mg) (c : He.SaysX fa fn [] tf exB w h K) (cg : gs.map (gtTell K) = gs.map GtD.told) :
    ∃ fd : FuncData, (∀ (s : Shared) (v : Value), BindsTo s fd ⟨[v], []⟩ [("_law_script", v)]) ∧ ∀ base : Heap, K.In base → base.Ns mainGlobals mg → LamX.TabB base mg (He.cT K ("painted_post_from", none)).1 (He.cT K ("painted_post_from", none)).2 → FnOk P w K mg base CX0 13 (He.ga K "law") fd ["_law_script"] (spLaw K (He.cT K ("painted_post_from", none)).2) := by
  have exs : ∀ (i : Nat) {b : Bool}, (exL K)[i]? = some b → b = true := fun i b e => by
    have h1 : (exL K).all id = true := c.more
    exact List.all_eq_true.mp h1 b (List.mem_of_getElem? e)
  have ex0 : propOk K "Painter" "name" = true := exs 0 rfl
  have ex1 : propOk K "Painter" "day" = true := exs 1 rfl
  have ex2 : propOk K "Painter" "post" = true := exs 2 rfl
  have ex3 : propOk K "Painter" "stride" = true := exs 3 rfl
  have ex4 : propOk K "Painter" "way" = true := exs 4 rfl
  have ex5 : propOk K "Fence" "painters" = true := exs 5 rfl
  have ex6 : propOk K "Fence" "names" = true := exs 6 rfl
  have ex7 : propOk K "History" "fence" = true := exs 7 rfl
  have ex8 : noB K "Crossing" crN = true := exs 8 rfl
  have ex9 : noB K "Painter" paN = true := exs 9 rfl
  have ex10 : noB K "Fence" feN = true := exs 10 rfl
  have ex11 : noB K "Blocks" bkN = true := exs 11 rfl
  have ex12 : noB K "History" hiN = true := exs 12 rfl
  have ex13 : insB K "Painter" = true := exs 13 rfl
  have ex14 : addB K "Fence" "Painter" = true := exs 14 rfl
  have ex15 : callB K "History" = true := exs 15 rfl
  have ex16 : He.conB K "Painter" "MAX_DAY" (.int (10 ^ 30)) = true := exs 16 rfl
  have ex17 : He.conB K "Painter" "MAX_POST" (.int (10 ^ 30)) = true := exs 17 rfl
  have ex18 : He.conB K "Painter" "MAX_STRIDE" (.int (10 ^ 18)) = true := exs 18 rfl
  have ex19 : gs.all (fun d => d.good K) = true := exs 19 rfl
  have gt : ∀ (i : Nat) (d : GtD), gs[i]? = some d → ∃ fd, FunD K d.name d.qual d.params d.body d.scope [] [] (getterAt K d.cls d.prop) fd := fun i d e => by
    have e2 : (gs.map (gtTell K))[i]? = (gs.map GtD.told)[i]? := by rw [cg]
    rw [List.getElem?_map, List.getElem?_map, e] at e2
    exact GtD.fun_ (Option.some.inj e2) (List.all_eq_true.mp ex19 d (List.mem_of_getElem? e))
  have kcCrossing : KCls K (He.ga K "Crossing") crN := kcls_of (He.cls_ok (c.t.d.fact 94 (f := .cls "Crossing") rfl)) ex8 (by decide) (by decide)
  have kcPainter : KCls K (He.ga K "Painter") paN := kcls_of (He.cls_ok (c.t.d.fact 95 (f := .cls "Painter") rfl)) ex9 (by decide) (by decide)
  have kcFence : KCls K (He.ga K "Fence") feN := kcls_of (He.cls_ok (c.t.d.fact 96 (f := .cls "Fence") rfl)) ex10 (by decide) (by decide)
  have kcBlocks : KCls K (He.ga K "Blocks") bkN := kcls_of (He.cls_ok (c.t.d.fact 97 (f := .cls "Blocks") rfl)) ex11 (by decide) (by decide)
  have kcHistory : KCls K (He.ga K "History") hiN := kcls_of (He.cls_ok (c.t.d.fact 98 (f := .cls "History") rfl)) ex12 (by decide) (by decide)
  have paC : PaC K (He.ga K "Painter") := ⟨He.conB_ok ex16, He.conB_ok ex17, He.conB_ok ex18⟩
  have insPainter : C8.InsC K (He.ga K "Painter") := insB_of kcPainter.cl ex13
  have addOk := addB_of ex14
  have callO := callB_of ex15
  have hcF : ∀ {oc : Value} {od : Option Addr} {fd : FuncData} {osl : Array (Option Value)}, K.lookup (He.fAd K ("painted_post_from", none)) = some ⟨oc, od, .func fd, osl⟩ → fd.code = .ref (He.cT K ("painted_post_from", none)).1 := fun {oc od fd osl} lk => by
    obtain ⟨fd2, F2⟩ := c.t.d.def_ 31 (d := d31) rfl
    obtain ⟨oc2, od2, dV, kV, doc, pm, an, cdv, ct, osl2, rfl, lk2, hcd, _, _⟩ := F2.ex
    have lk3 := lk.symm.trans lk2
    injection lk3 with lk3
    injection lk3 with _ _ lk3 _
    injection lk3 with lk3
    subst lk3
    obtain ⟨cc, hcc⟩ := He.codeIn_ref hcd
    have e := He.codeOf_eq lk hcc
    rw [show (He.cT K ("painted_post_from", none)).1 = cc from e]
    exact hcc
  obtain ⟨fdLaw, FLaw⟩ := c.t.d.def_ 71 (d := d71) rfl
  have b := FunD.bindsA (ps := ["_law_script"]) FLaw fun _ _ _ _ _ _ us hl => match us, hl with | [_], _ => rfl
  refine ⟨fdLaw, fun s v => b s [v] rfl, fun base _ _ TB => ?_⟩
  have c_numbers_between := ok_numbers_between (P := P) (w := w) (K := K) (mg := mg) (base := base) (F := c.t.d.def_ 0 (d := d0) rfl) (hm := He.glo_ok X G (c.t.d.fact 0 (f := .glo "numbers_between") rfl)) (n_max := He.free_ok X G (c.t.d.fact 1 (f := .free "max") rfl)) (n_min := He.free_ok X G (c.t.d.fact 2 (f := .free "min") rfl))
  have c_is_integer := ok_is_integer (P := P) (w := w) (K := K) (mg := mg) (base := base) (F := c.t.d.def_ 1 (d := d1) rfl) (hm := He.glo_ok X G (c.t.d.fact 3 (f := .glo "is_integer") rfl)) (n_isinstance := He.free_ok X G (c.t.d.fact 4 (f := .free "isinstance") rfl)) (n_int := He.free_ok X G (c.t.d.fact 5 (f := .free "int") rfl)) (n_bool := He.free_ok X G (c.t.d.fact 6 (f := .free "bool") rfl))
  have c_is_between := ok_is_between (P := P) (w := w) (K := K) (mg := mg) (base := base) (F := c.t.d.def_ 2 (d := d2) rfl) (hm := He.glo_ok X G (c.t.d.fact 7 (f := .glo "is_between") rfl)) (c_is_integer := c_is_integer)
  have c_need_post := ok_need_post (P := P) (w := w) (K := K) (mg := mg) (base := base) (F := c.t.d.def_ 3 (d := d3) rfl) (hm := He.glo_ok X G (c.t.d.fact 8 (f := .glo "need_post") rfl)) (c_is_between := c_is_between) (g_MAX_ARGUMENT := gcI (He.int_ok X G (c.t.d.fact 9 (f := .int "MAX_ARGUMENT" (10 ^ 80)) rfl)))
  have c_need_day := ok_need_day (P := P) (w := w) (K := K) (mg := mg) (base := base) (F := c.t.d.def_ 4 (d := d4) rfl) (hm := He.glo_ok X G (c.t.d.fact 10 (f := .glo "need_day") rfl)) (c_is_between := c_is_between) (g_MAX_ARGUMENT := gcI (He.int_ok X G (c.t.d.fact 9 (f := .int "MAX_ARGUMENT" (10 ^ 80)) rfl)))
  have c_need_day_or_none := ok_need_day_or_none (P := P) (w := w) (K := K) (mg := mg) (base := base) (F := c.t.d.def_ 5 (d := d5) rfl) (hm := He.glo_ok X G (c.t.d.fact 11 (f := .glo "need_day_or_none") rfl)) (c_need_day := c_need_day)
  have c_greatest_divisor := ok_greatest_divisor (P := P) (w := w) (K := K) (mg := mg) (base := base) (F := c.t.d.def_ 6 (d := d6) rfl) (hm := He.glo_ok X G (c.t.d.fact 12 (f := .glo "greatest_divisor") rfl)) (n_abs := He.free_ok X G (c.t.d.fact 13 (f := .free "abs") rfl))
  have c_inverse := ok_inverse (P := P) (w := w) (K := K) (mg := mg) (base := base) (F := c.t.d.def_ 7 (d := d7) rfl) (hm := He.glo_ok X G (c.t.d.fact 14 (f := .glo "inverse") rfl))
  have c_least_fit := ok_least_fit (P := P) (w := w) (K := K) (mg := mg) (base := base) (F := c.t.d.def_ 8 (d := d8) rfl) (hm := He.glo_ok X G (c.t.d.fact 15 (f := .glo "least_fit") rfl)) (n_max := He.free_ok X G (c.t.d.fact 1 (f := .free "max") rfl)) (n_min := He.free_ok X G (c.t.d.fact 2 (f := .free "min") rfl))
  have c_Crossing := ok_Crossing (P := P) (w := w) (K := K) (mg := mg) (base := base) (kc := kcCrossing) (M := He.mkr_ok (c.t.d.fact 16 (f := .mkr "Crossing") rfl)) (hm := He.glo_ok X G (c.t.d.fact 17 (f := .glo "Crossing") rfl)) (F := c.t.d.def_ 9 (d := d9) rfl) (c_greatest_divisor := c_greatest_divisor) (c_inverse := c_inverse) (n_abs := He.free_ok X G (c.t.d.fact 13 (f := .free "abs") rfl)) (n_divmod := He.free_ok X G (c.t.d.fact 18 (f := .free "divmod") rfl))
  have c_number := ok_number (P := P) (w := w) (K := K) (mg := mg) (base := base) (kc := kcCrossing) (me := He.meth_ok (c.t.d.fact 19 (f := .meth "Crossing" "number") rfl)) (F := c.t.d.def_ 10 (d := d10) rfl)
  have c_bounds := ok_bounds (P := P) (w := w) (K := K) (mg := mg) (base := base) (kc := kcCrossing) (me := He.meth_ok (c.t.d.fact 20 (f := .meth "Crossing" "bounds") rfl)) (F := c.t.d.def_ 11 (d := d11) rfl) (c_least_fit := c_least_fit)
  have c_first_block := ok_first_block (P := P) (w := w) (K := K) (mg := mg) (base := base) (kc := kcCrossing) (me := He.meth_ok (c.t.d.fact 21 (f := .meth "Crossing" "first_block") rfl)) (F := c.t.d.def_ 12 (d := d12) rfl) (c_number := c_number) (c_bounds := c_bounds) (n_int := He.free_ok X G (c.t.d.fact 5 (f := .free "int") rfl))
  have c_is_name_names := ok_is_name (P := P) (w := w) (K := K) (mg := mg) (base := base) (F := c.t.d.def_ 13 (d := d13) rfl) (hm := He.glo_ok X G (c.t.d.fact 22 (f := .glo "is_name_names") rfl)) (n_isinstance := He.free_ok X G (c.t.d.fact 4 (f := .free "isinstance") rfl)) (n_str := He.free_ok X G (c.t.d.fact 23 (f := .free "str") rfl)) (n_len := He.free_ok X G (c.t.d.fact 24 (f := .free "len") rfl)) (n_all := He.free_ok X G (c.t.d.fact 25 (f := .free "all") rfl)) (g_MAX_NAME := gcI (He.int_ok X G (c.t.d.fact 26 (f := .int "MAX_NAME" 8) rfl))) (g_LETTERS := gcS (He.str_ok X G (c.t.d.fact 27 (f := .str "LETTERS" abc) rfl)))
  have c_Painter := ok_Painter (P := P) (w := w) (K := K) (mg := mg) (base := base) (kc := kcPainter) (pc := paC) (M := He.mkr_ok (c.t.d.fact 28 (f := .mkr "Painter") rfl)) (hm := He.glo_ok X G (c.t.d.fact 29 (f := .glo "Painter") rfl)) (F := c.t.d.def_ 14 (d := d14) rfl) (c_is_name_names := c_is_name_names) (c_is_between := c_is_between)
  have c_name := ok_g_name (P := P) (w := w) (K := K) (mg := mg) (base := base) (kc := kcPainter) (me := propOk_of ex0) (F := gt 0 g0 rfl)
  have c_day := ok_g_day (P := P) (w := w) (K := K) (mg := mg) (base := base) (kc := kcPainter) (me := propOk_of ex1) (F := gt 1 g1 rfl)
  have c_post := ok_g_post (P := P) (w := w) (K := K) (mg := mg) (base := base) (kc := kcPainter) (me := propOk_of ex2) (F := gt 2 g2 rfl)
  have c_stride := ok_g_stride (P := P) (w := w) (K := K) (mg := mg) (base := base) (kc := kcPainter) (me := propOk_of ex3) (F := gt 3 g3 rfl)
  have c_way := ok_g_way (P := P) (w := w) (K := K) (mg := mg) (base := base) (kc := kcPainter) (me := propOk_of ex4) (F := gt 4 g4 rfl)
  have c_need_count := ok_need_count (P := P) (w := w) (K := K) (mg := mg) (base := base) (F := c.t.d.def_ 15 (d := d15) rfl) (hm := He.glo_ok X G (c.t.d.fact 30 (f := .glo "need_count") rfl)) (c_is_between := c_is_between)
  have c_post_after := ok_post_after (P := P) (w := w) (K := K) (mg := mg) (base := base) (kc := kcPainter) (me := He.meth_ok (c.t.d.fact 31 (f := .meth "Painter" "post_after") rfl)) (F := c.t.d.def_ 16 (d := d16) rfl) (c_need_count := c_need_count) (c_post := c_post) (c_stride := c_stride)
  have c_count_at := ok_count_at (P := P) (w := w) (K := K) (mg := mg) (base := base) (kc := kcPainter) (me := He.meth_ok (c.t.d.fact 32 (f := .meth "Painter" "count_at") rfl)) (F := c.t.d.def_ 17 (d := d17) rfl) (c_need_post := c_need_post) (c_post := c_post) (c_stride := c_stride) (n_divmod := He.free_ok X G (c.t.d.fact 18 (f := .free "divmod") rfl))
  have c_Fence := ok_Fence (P := P) (w := w) (K := K) (mg := mg) (base := base) (CP := He.ga K "Painter") (CF := He.ga K "Fence") (kc := kcFence) (M := He.mkr_ok (c.t.d.fact 33 (f := .mkr "Fence") rfl)) (hm := He.glo_ok X G (c.t.d.fact 34 (f := .glo "Fence") rfl)) (F := c.t.d.def_ 18 (d := d18) rfl) (ic_Painter := insPainter) (g_Painter := ⟨_, He.glo_ok X G (c.t.d.fact 29 (f := .glo "Painter") rfl), rfl⟩) (g_MAX_PAINTERS := gcI (He.int_ok X G (c.t.d.fact 35 (f := .int "MAX_PAINTERS" 40) rfl))) (c_name := c_name) (n_enumerate := He.free_ok X G (c.t.d.fact 36 (f := .free "enumerate") rfl)) (n_isinstance := He.free_ok X G (c.t.d.fact 4 (f := .free "isinstance") rfl)) (n_len := He.free_ok X G (c.t.d.fact 24 (f := .free "len") rfl))
  have c_painters := ok_g_painters (P := P) (w := w) (K := K) (mg := mg) (base := base) (CP := He.ga K "Painter") (CF := He.ga K "Fence") (kc := kcFence) (me := propOk_of ex5) (F := gt 5 g5 rfl)
  have c_names := ok_g_names (P := P) (w := w) (K := K) (mg := mg) (base := base) (CP := He.ga K "Painter") (CF := He.ga K "Fence") (kc := kcFence) (me := propOk_of ex6) (F := gt 6 g6 rfl) (n_tuple := He.free_ok X G (c.t.d.fact 37 (f := .free "tuple") rfl))
  have c_add := ok_FenceAdd (P := P) (w := w) (K := K) (mg := mg) (base := base) (CP := He.ga K "Painter") (CF := He.ga K "Fence") (kc := kcFence) (ad := addOk) (F := c.t.d.def_ 19 (d := d19) rfl) (ic_Painter := insPainter) (g_Painter := ⟨_, He.glo_ok X G (c.t.d.fact 29 (f := .glo "Painter") rfl), rfl⟩) (n_isinstance := He.free_ok X G (c.t.d.fact 4 (f := .free "isinstance") rfl)) (c_Fence := c_Fence)
  have c_crossing := ok_crossing (P := P) (w := w) (K := K) (mg := mg) (base := base) (CP := He.ga K "Painter") (CC := He.ga K "Crossing") (CB := He.ga K "Blocks") (hc := kcBlocks.cl) (me := He.meth_ok (c.t.d.fact 38 (f := .meth "Blocks" "crossing") rfl)) (F := c.t.d.def_ 20 (d := d20) rfl) (c_Crossing := c_Crossing) (c_way := c_way)
  have c_look := ok_look (P := P) (w := w) (K := K) (mg := mg) (base := base) (CP := He.ga K "Painter") (CC := He.ga K "Crossing") (CB := He.ga K "Blocks") (kc := kcBlocks) (me := He.meth_ok (c.t.d.fact 39 (f := .meth "Blocks" "look") rfl)) (F := c.t.d.def_ 21 (d := d21) rfl) (c_first_block := c_first_block)
  have c_first_of := ok_first_of (P := P) (w := w) (K := K) (mg := mg) (base := base) (CP := He.ga K "Painter") (CB := He.ga K "Blocks") (kc := kcBlocks) (me := He.meth_ok (c.t.d.fact 40 (f := .meth "Blocks" "first_of") rfl)) (F := c.t.d.def_ 22 (d := d22) rfl) (n_min := He.free_ok X G (c.t.d.fact 2 (f := .free "min") rfl))
  have c_next_stop := ok_next_stop (P := P) (w := w) (K := K) (mg := mg) (base := base) (CP := He.ga K "Painter") (CB := He.ga K "Blocks") (kc := kcBlocks) (me := He.meth_ok (c.t.d.fact 41 (f := .meth "Blocks" "next_stop") rfl)) (F := c.t.d.def_ 23 (d := d23) rfl) (c_first_of := c_first_of) (c_day := c_day) (n_min := He.free_ok X G (c.t.d.fact 2 (f := .free "min") rfl)) (n_enumerate := He.free_ok X G (c.t.d.fact 36 (f := .free "enumerate") rfl))
  have c_settle := ok_settle (P := P) (w := w) (K := K) (mg := mg) (base := base) (CP := He.ga K "Painter") (CC := He.ga K "Crossing") (CB := He.ga K "Blocks") (kc := kcBlocks) (me := He.meth_ok (c.t.d.fact 42 (f := .meth "Blocks" "settle") rfl)) (F := c.t.d.def_ 24 (d := d24) rfl) (c_look := c_look) (n_enumerate := He.free_ok X G (c.t.d.fact 36 (f := .free "enumerate") rfl))
  have c_all_stops := ok_all_stops (P := P) (w := w) (K := K) (mg := mg) (base := base) (CP := He.ga K "Painter") (CC := He.ga K "Crossing") (CB := He.ga K "Blocks") (kc := kcBlocks) (me := He.meth_ok (c.t.d.fact 43 (f := .meth "Blocks" "all_stops") rfl)) (F := c.t.d.def_ 25 (d := d25) rfl) (c_settle := c_settle) (c_next_stop := c_next_stop)
  have c_Blocks := ok_Blocks (P := P) (w := w) (K := K) (mg := mg) (base := base) (CP := He.ga K "Painter") (CC := He.ga K "Crossing") (CB := He.ga K "Blocks") (kc := kcBlocks) (M := He.mkr_ok (c.t.d.fact 44 (f := .mkr "Blocks") rfl)) (hm := He.glo_ok X G (c.t.d.fact 45 (f := .glo "Blocks") rfl)) (F := c.t.d.def_ 26 (d := d26) rfl) (c_crossing := c_crossing) (c_look := c_look) (n_enumerate := He.free_ok X G (c.t.d.fact 36 (f := .free "enumerate") rfl))
  have c_History := ok_History (P := P) (w := w) (K := K) (mg := mg) (base := base) (CP := He.ga K "Painter") (CF := He.ga K "Fence") (CC := He.ga K "Crossing") (CB := He.ga K "Blocks") (CH := He.ga K "History") (kc := kcHistory) (M := He.mkr_ok (c.t.d.fact 46 (f := .mkr "History") rfl)) (hm := He.glo_ok X G (c.t.d.fact 47 (f := .glo "History") rfl)) (F := c.t.d.def_ 27 (d := d27) rfl) (c_Blocks := c_Blocks) (c_all_stops := c_all_stops) (c_names := c_names) (c_painters := c_painters) (c_name := c_name) (c_post_after := c_post_after)
  have c_painted_in := ok_painted_in (P := P) (w := w) (K := K) (mg := mg) (base := base) (F := c.t.d.def_ 28 (d := d28) rfl) (hm := He.glo_ok X G (c.t.d.fact 48 (f := .glo "painted_in") rfl)) (c_numbers_between := c_numbers_between)
  have c_opposite := ok_opposite (P := P) (w := w) (K := K) (mg := mg) (base := base) (F := c.t.d.def_ 29 (d := d29) rfl) (hm := He.glo_ok X G (c.t.d.fact 49 (f := .glo "opposite") rfl))
  have c_end_of_piece := ok_end_of_piece (P := P) (w := w) (K := K) (mg := mg) (base := base) (F := c.t.d.def_ 30 (d := d30) rfl) (hm := He.glo_ok X G (c.t.d.fact 50 (f := .glo "end_of_piece") rfl)) (n_max := He.free_ok X G (c.t.d.fact 1 (f := .free "max") rfl))
  obtain ⟨fdS, FS, kS, bS⟩ := ok_painted_post_from (P := P) (w := w) (K := K) (mg := mg) (base := base) (F := c.t.d.def_ 31 (d := d31) rfl) (hm := He.glo_ok X G (c.t.d.fact 51 (f := .glo "painted_post_from") rfl)) (hcF := hcF) (TB := TB) (FL := c.t.d.def_ 32 (d := d32) rfl) (hmL := He.glo_ok X G (c.t.d.fact 52 (f := .glo "least_true") rfl)) (c_painted_in := c_painted_in) (c_end_of_piece := c_end_of_piece) (n_max := He.free_ok X G (c.t.d.fact 1 (f := .free "max") rfl))
  have c_fence := ok_g_fence (P := P) (w := w) (K := K) (mg := mg) (base := base) (CP := He.ga K "Painter") (CF := He.ga K "Fence") (CH := He.ga K "History") (kc := kcHistory) (me := propOk_of ex7) (F := gt 7 g7 rfl)
  have c_pieces := ok_pieces (P := P) (w := w) (K := K) (mg := mg) (base := base) (CP := He.ga K "Painter") (CF := He.ga K "Fence") (CH := He.ga K "History") (kc := kcHistory) (F := c.t.d.def_ 33 (d := d33) rfl) (hm := He.glo_ok X G (c.t.d.fact 53 (f := .glo "pieces") rfl)) (c_fence := c_fence) (c_painters := c_painters) (c_name := c_name) (c_day := c_day) (c_post := c_post) (c_stride := c_stride) (n_max := He.free_ok X G (c.t.d.fact 1 (f := .free "max") rfl)) (n_min := He.free_ok X G (c.t.d.fact 2 (f := .free "min") rfl))
  have c_painter_at := ok_painter_at (P := P) (w := w) (K := K) (mg := mg) (base := base) (CP := He.ga K "Painter") (CF := He.ga K "Fence") (CH := He.ga K "History") (kc := kcHistory) (me := He.meth_ok (c.t.d.fact 54 (f := .meth "History" "painter_at") rfl)) (F := c.t.d.def_ 34 (d := d34) rfl) (c_painters := c_painters) (c_name := c_name) (c_day := c_day) (c_count_at := c_count_at)
  have c_call := ok_callH (P := P) (w := w) (K := K) (mg := mg) (base := base) (CP := He.ga K "Painter") (CF := He.ga K "Fence") (CH := He.ga K "History") (kc := kcHistory) (co := callO) (F := c.t.d.def_ 35 (d := d35) rfl) (c_need_post := c_need_post) (c_need_day_or_none := c_need_day_or_none) (c_painter_at := c_painter_at) (c_name := c_name)
  have c_painter_of := ok_painter_of (P := P) (w := w) (K := K) (mg := mg) (base := base) (CP := He.ga K "Painter") (CF := He.ga K "Fence") (CH := He.ga K "History") (F := c.t.d.def_ 36 (d := d36) rfl) (hm := He.glo_ok X G (c.t.d.fact 55 (f := .glo "painter_of") rfl)) (c_History := c_History) (c_call := c_call)
  have c_history := ok_history (P := P) (w := w) (K := K) (mg := mg) (base := base) (CP := He.ga K "Painter") (CF := He.ga K "Fence") (CH := He.ga K "History") (F := c.t.d.def_ 37 (d := d37) rfl) (hm := He.glo_ok X G (c.t.d.fact 56 (f := .glo "history") rfl)) (c_History := c_History)
  have c_found_from := ok_found_from (P := P) (w := w) (K := K) (mg := mg) (base := base) (CP := He.ga K "Painter") (CF := He.ga K "Fence") (CH := He.ga K "History") (F := c.t.d.def_ 38 (d := d38) rfl) (hm := He.glo_ok X G (c.t.d.fact 57 (f := .glo "found_from") rfl)) (c_need_post := c_need_post) (c_need_day_or_none := c_need_day_or_none) (c_need_count := c_need_count) (c_history := c_history) (c_pieces := c_pieces) (c_opposite := c_opposite) (FS := FS) (kS := kS) (bS := bS)
  obtain ⟨c_painted_fromDL, c_painted_fromD, c_painted_from0⟩ := ok_painted_from (P := P) (w := w) (K := K) (mg := mg) (base := base) (CP := He.ga K "Painter") (CF := He.ga K "Fence") (F := c.t.d.def_ 39 (d := d39) rfl) (hm := He.glo_ok X G (c.t.d.fact 58 (f := .glo "painted_from") rfl)) (g_painted_post_from := ⟨_, He.glo_ok X G (c.t.d.fact 51 (f := .glo "painted_post_from") rfl), rfl⟩) (c_found_from := c_found_from)
  have c__law_pen := ok_law_pen (P := P) (w := w) (K := K) (mg := mg) (base := base) (F := c.t.d.def_ 40 (d := d40) rfl) (hm := He.glo_ok X G (c.t.d.fact 59 (f := .glo "_law_pen") rfl)) (n_list := He.free_ok X G (c.t.d.fact 60 (f := .free "list") rfl))
  have c__law_draw := ok_law_draw (P := P) (w := w) (K := K) (mg := mg) (base := base) (F := c.t.d.def_ 41 (d := d41) rfl) (hm := He.glo_ok X G (c.t.d.fact 61 (f := .glo "_law_draw") rfl)) (n_int := He.free_ok X G (c.t.d.fact 5 (f := .free "int") rfl)) (n_len := He.free_ok X G (c.t.d.fact 24 (f := .free "len") rfl)) (n_abs := He.free_ok X G (c.t.d.fact 13 (f := .free "abs") rfl))
  have c__law_pick := ok_law_pickL (P := P) (w := w) (K := K) (mg := mg) (base := base) (F := c.t.d.def_ 42 (d := d42) rfl) (hm := He.glo_ok X G (c.t.d.fact 62 (f := .glo "_law_pick") rfl)) (c__law_draw := c__law_draw) (n_len := He.free_ok X G (c.t.d.fact 24 (f := .free "len") rfl))
  have c__law_pickS := ok_law_pickS (P := P) (w := w) (K := K) (mg := mg) (base := base) (F := c.t.d.def_ 42 (d := d42) rfl) (hm := He.glo_ok X G (c.t.d.fact 62 (f := .glo "_law_pick") rfl)) (c__law_draw := c__law_draw) (n_len := He.free_ok X G (c.t.d.fact 24 (f := .free "len") rfl))
  have c__law_around := ok_law_around (P := P) (w := w) (K := K) (mg := mg) (base := base) (F := c.t.d.def_ 43 (d := d43) rfl) (hm := He.glo_ok X G (c.t.d.fact 63 (f := .glo "_law_around") rfl)) (c__law_draw := c__law_draw)
  have c__law_power := ok_law_power (P := P) (w := w) (K := K) (mg := mg) (base := base) (F := c.t.d.def_ 44 (d := d44) rfl) (hm := He.glo_ok X G (c.t.d.fact 64 (f := .glo "_law_power") rfl)) (n_range := He.free_ok X G (c.t.d.fact 65 (f := .free "range") rfl))
  have c__law_great := ok_law_great (P := P) (w := w) (K := K) (mg := mg) (base := base) (F := c.t.d.def_ 45 (d := d45) rfl) (hm := He.glo_ok X G (c.t.d.fact 66 (f := .glo "_law_great") rfl)) (c__law_draw := c__law_draw) (c__law_pick := c__law_pick) (c__law_power := c__law_power)
  have c__law_names := ok_law_names (P := P) (w := w) (K := K) (mg := mg) (base := base) (F := c.t.d.def_ 46 (d := d46) rfl) (hm := He.glo_ok X G (c.t.d.fact 67 (f := .glo "_law_names") rfl)) (c__law_draw := c__law_draw) (c__law_pick := c__law_pick) (c__law_pickS := c__law_pickS) (n_range := He.free_ok X G (c.t.d.fact 65 (f := .free "range") rfl)) (n_len := He.free_ok X G (c.t.d.fact 24 (f := .free "len") rfl)) (n_int := He.free_ok X G (c.t.d.fact 5 (f := .free "int") rfl))
  have c__law_gcd := ok_law_gcd (P := P) (w := w) (K := K) (mg := mg) (base := base) (F := c.t.d.def_ 47 (d := d47) rfl) (hm := He.glo_ok X G (c.t.d.fact 68 (f := .glo "_law_gcd") rfl)) (n_abs := He.free_ok X G (c.t.d.fact 13 (f := .free "abs") rfl)) (n_int := He.free_ok X G (c.t.d.fact 5 (f := .free "int") rfl))
  have c__law_inverse := ok_law_inverse (P := P) (w := w) (K := K) (mg := mg) (base := base) (F := c.t.d.def_ 48 (d := d48) rfl) (hm := He.glo_ok X G (c.t.d.fact 69 (f := .glo "_law_inverse") rfl)) (n_int := He.free_ok X G (c.t.d.fact 5 (f := .free "int") rfl))
  have c__law_common := ok_law_common (P := P) (w := w) (K := K) (mg := mg) (base := base) (F := c.t.d.def_ 49 (d := d49) rfl) (hm := He.glo_ok X G (c.t.d.fact 70 (f := .glo "_law_common") rfl)) (c__law_gcd := c__law_gcd) (c__law_inverse := c__law_inverse) (n_abs := He.free_ok X G (c.t.d.fact 13 (f := .free "abs") rfl)) (n_int := He.free_ok X G (c.t.d.fact 5 (f := .free "int") rfl))
  have c__law_first := ok_law_first (P := P) (w := w) (K := K) (mg := mg) (base := base) (F := c.t.d.def_ 50 (d := d50) rfl) (hm := He.glo_ok X G (c.t.d.fact 71 (f := .glo "_law_first") rfl)) (n_max := He.free_ok X G (c.t.d.fact 1 (f := .free "max") rfl)) (n_int := He.free_ok X G (c.t.d.fact 5 (f := .free "int") rfl))
  have c__law_pairs := ok_law_pairs (P := P) (w := w) (K := K) (mg := mg) (base := base) (F := c.t.d.def_ 51 (d := d51) rfl) (hm := He.glo_ok X G (c.t.d.fact 72 (f := .glo "_law_pairs") rfl)) (c__law_common := c__law_common) (n_range := He.free_ok X G (c.t.d.fact 65 (f := .free "range") rfl)) (n_len := He.free_ok X G (c.t.d.fact 24 (f := .free "len") rfl))
  have c__law_next := ok_law_next (P := P) (w := w) (K := K) (mg := mg) (base := base) (F := c.t.d.def_ 52 (d := d52) rfl) (hm := He.glo_ok X G (c.t.d.fact 73 (f := .glo "_law_next") rfl)) (c__law_first := c__law_first) (n_range := He.free_ok X G (c.t.d.fact 65 (f := .free "range") rfl)) (n_len := He.free_ok X G (c.t.d.fact 24 (f := .free "len") rfl))
  have c__law_history := ok_law_history (P := P) (w := w) (K := K) (mg := mg) (base := base) (F := c.t.d.def_ 53 (d := d53) rfl) (hm := He.glo_ok X G (c.t.d.fact 74 (f := .glo "_law_history") rfl)) (c__law_pairs := c__law_pairs) (c__law_next := c__law_next) (n_range := He.free_ok X G (c.t.d.fact 65 (f := .free "range") rfl)) (n_len := He.free_ok X G (c.t.d.fact 24 (f := .free "len") rfl)) (n_min := He.free_ok X G (c.t.d.fact 2 (f := .free "min") rfl))
  have c__law_fence := ok_law_fence (P := P) (w := w) (K := K) (mg := mg) (base := base) (CP := He.ga K "Painter") (CF := He.ga K "Fence") (F := c.t.d.def_ 54 (d := d54) rfl) (hm := He.glo_ok X G (c.t.d.fact 75 (f := .glo "_law_fence") rfl)) (c_Fence := c_Fence) (c_Painter := c_Painter) (c_add := c_add)
  have c__law_opposite := ok_law_opposite (P := P) (w := w) (K := K) (mg := mg) (base := base) (F := c.t.d.def_ 55 (d := d55) rfl) (hm := He.glo_ok X G (c.t.d.fact 76 (f := .glo "_law_opposite") rfl))
  have c__law_is_whole := ok_law_is_whole (P := P) (w := w) (K := K) (mg := mg) (base := base) (F := c.t.d.def_ 56 (d := d56) rfl) (hm := He.glo_ok X G (c.t.d.fact 77 (f := .glo "_law_is_whole") rfl)) (n_isinstance := He.free_ok X G (c.t.d.fact 4 (f := .free "isinstance") rfl)) (n_int := He.free_ok X G (c.t.d.fact 5 (f := .free "int") rfl)) (n_bool := He.free_ok X G (c.t.d.fact 6 (f := .free "bool") rfl))
  have c__law_back := ok_law_back (P := P) (w := w) (K := K) (mg := mg) (base := base) (F := c.t.d.def_ 57 (d := d57) rfl) (hm := He.glo_ok X G (c.t.d.fact 78 (f := .glo "_law_back") rfl))
  have c__law_far_date := ok_law_far_date (P := P) (w := w) (K := K) (mg := mg) (base := base) (F := c.t.d.def_ 58 (d := d58) rfl) (hm := He.glo_ok X G (c.t.d.fact 79 (f := .glo "_law_far_date") rfl)) (n_max := He.free_ok X G (c.t.d.fact 1 (f := .free "max") rfl)) (n_abs := He.free_ok X G (c.t.d.fact 13 (f := .free "abs") rfl))
  have c__law_is_painted := ok_law_is_painted (P := P) (w := w) (K := K) (mg := mg) (base := base) (F := c.t.d.def_ 59 (d := d59) rfl) (hm := He.glo_ok X G (c.t.d.fact 80 (f := .glo "_law_is_painted") rfl)) (n_enumerate := He.free_ok X G (c.t.d.fact 36 (f := .free "enumerate") rfl)) (n_int := He.free_ok X G (c.t.d.fact 5 (f := .free "int") rfl))
  have c__law_number := ok_law_number (P := P) (w := w) (K := K) (mg := mg) (base := base) (F := c.t.d.def_ 60 (d := d60) rfl) (hm := He.glo_ok X G (c.t.d.fact 81 (f := .glo "_law_number") rfl)) (n_enumerate := He.free_ok X G (c.t.d.fact 36 (f := .free "enumerate") rfl)) (n_max := He.free_ok X G (c.t.d.fact 1 (f := .free "max") rfl)) (n_min := He.free_ok X G (c.t.d.fact 2 (f := .free "min") rfl)) (n_abs := He.free_ok X G (c.t.d.fact 13 (f := .free "abs") rfl))
  have c__law_bound := ok_law_bound (P := P) (w := w) (K := K) (mg := mg) (base := base) (F := c.t.d.def_ 61 (d := d61) rfl) (hm := He.glo_ok X G (c.t.d.fact 82 (f := .glo "_law_bound") rfl)) (n_enumerate := He.free_ok X G (c.t.d.fact 36 (f := .free "enumerate") rfl)) (n_max := He.free_ok X G (c.t.d.fact 1 (f := .free "max") rfl)) (n_min := He.free_ok X G (c.t.d.fact 2 (f := .free "min") rfl))
  have c__law_is_right := ok_law_is_right (P := P) (w := w) (K := K) (mg := mg) (base := base) (F := c.t.d.def_ 62 (d := d62) rfl) (hm := He.glo_ok X G (c.t.d.fact 83 (f := .glo "_law_is_right") rfl)) (c__law_bound := c__law_bound) (c__law_number := c__law_number) (c__law_is_whole := c__law_is_whole) (c__law_is_painted := c__law_is_painted) (n_max := He.free_ok X G (c.t.d.fact 1 (f := .free "max") rfl))
  have c__law_walked := ok_law_walked (P := P) (w := w) (K := K) (mg := mg) (base := base) (F := c.t.d.def_ 63 (d := d63) rfl) (hm := He.glo_ok X G (c.t.d.fact 84 (f := .glo "_law_walked") rfl)) (n_len := He.free_ok X G (c.t.d.fact 24 (f := .free "len") rfl)) (n_range := He.free_ok X G (c.t.d.fact 65 (f := .free "range") rfl)) (n_dict := He.free_ok X G (c.t.d.fact 85 (f := .free "dict") rfl))
  have c__law_small := ok_law_small (P := P) (w := w) (K := K) (mg := mg) (base := base) (F := c.t.d.def_ 64 (d := d64) rfl) (hm := He.glo_ok X G (c.t.d.fact 86 (f := .glo "_law_small") rfl)) (c__law_draw := c__law_draw) (c__law_pick := c__law_pick) (c__law_around := c__law_around) (c__law_names := c__law_names) (n_len := He.free_ok X G (c.t.d.fact 24 (f := .free "len") rfl))
  have c__law_aimed := ok_law_aimed (P := P) (w := w) (K := K) (mg := mg) (base := base) (F := c.t.d.def_ 65 (d := d65) rfl) (hm := He.glo_ok X G (c.t.d.fact 87 (f := .glo "_law_aimed") rfl)) (c__law_draw := c__law_draw) (c__law_pick := c__law_pick) (c__law_great := c__law_great) (c__law_names := c__law_names) (n_len := He.free_ok X G (c.t.d.fact 24 (f := .free "len") rfl)) (n_range := He.free_ok X G (c.t.d.fact 65 (f := .free "range") rfl))
  have c__law_lined := ok_law_lined (P := P) (w := w) (K := K) (mg := mg) (base := base) (F := c.t.d.def_ 66 (d := d66) rfl) (hm := He.glo_ok X G (c.t.d.fact 88 (f := .glo "_law_lined") rfl)) (c__law_draw := c__law_draw) (c__law_pick := c__law_pick) (c__law_around := c__law_around) (c__law_great := c__law_great) (c__law_names := c__law_names) (n_min := He.free_ok X G (c.t.d.fact 2 (f := .free "min") rfl))
  have c__law_crowd := ok_law_crowd (P := P) (w := w) (K := K) (mg := mg) (base := base) (F := c.t.d.def_ 67 (d := d67) rfl) (hm := He.glo_ok X G (c.t.d.fact 89 (f := .glo "_law_crowd") rfl)) (c__law_draw := c__law_draw) (c__law_aimed := c__law_aimed) (c__law_lined := c__law_lined)
  have c__law_mark := ok_law_mark (P := P) (w := w) (K := K) (mg := mg) (base := base) (F := c.t.d.def_ 68 (d := d68) rfl) (hm := He.glo_ok X G (c.t.d.fact 90 (f := .glo "_law_mark") rfl)) (c__law_draw := c__law_draw) (c__law_pick := c__law_pick) (c__law_around := c__law_around) (c__law_great := c__law_great)
  have c__law_moment := ok_law_moment (P := P) (w := w) (K := K) (mg := mg) (base := base) (F := c.t.d.def_ 69 (d := d69) rfl) (hm := He.glo_ok X G (c.t.d.fact 91 (f := .glo "_law_moment") rfl)) (c__law_draw := c__law_draw) (c__law_pick := c__law_pick) (c__law_great := c__law_great)
  have c__law_small_right := ok_law_small_right (P := P) (w := w) (K := K) (mg := mg) (base := base) (CP := He.ga K "Painter") (CF := He.ga K "Fence") (F := c.t.d.def_ 70 (d := d70) rfl) (hm := He.glo_ok X G (c.t.d.fact 92 (f := .glo "_law_small_right") rfl)) (c__law_small := c__law_small) (c__law_fence := c__law_fence) (c__law_walked := c__law_walked) (c__law_far_date := c__law_far_date) (c__law_draw := c__law_draw) (c__law_pick := c__law_pick) (c__law_around := c__law_around) (c_painted_from := c_painted_fromDL) (n_len := He.free_ok X G (c.t.d.fact 24 (f := .free "len") rfl)) (n_range := He.free_ok X G (c.t.d.fact 65 (f := .free "range") rfl)) (n_repr := He.free_ok X G (c.t.d.fact 93 (f := .free "repr") rfl))
  exact ok_law (P := P) (w := w) (K := K) (mg := mg) (base := base) (CP := He.ga K "Painter") (CF := He.ga K "Fence") (F := FLaw) (c__law_pen := c__law_pen) (c__law_draw := c__law_draw) (c__law_pick := c__law_pick) (c__law_great := c__law_great) (c__law_small_right := c__law_small_right) (c__law_crowd := c__law_crowd) (c__law_fence := c__law_fence) (c__law_history := c__law_history) (c__law_opposite := c__law_opposite) (c__law_mark := c__law_mark) (c__law_moment := c__law_moment) (c__law_is_right := c__law_is_right) (c__law_back := c__law_back) (c_Fence := c_Fence) (c_painted_fromDL := c_painted_fromDL) (c_painted_fromD := c_painted_fromD) (c_painted_from0 := c_painted_from0) (c_painter_of := c_painter_of) (n_range := He.free_ok X G (c.t.d.fact 65 (f := .free "range") rfl)) (n_min := He.free_ok X G (c.t.d.fact 2 (f := .free "min") rfl)) (n_len := He.free_ok X G (c.t.d.fact 24 (f := .free "len") rfl))
end PK
end
section
set_option Elab.async false
set_option linter.all false
set_option maxRecDepth 100000
set_option maxHeartbeats 0
/-! ### the end -/
namespace PH
open PySem PySem.W PySem.Calls PyProof.Rows
theorem a1 : opening R.prog = plainProg R.prog.main.scope.names := by kernel_rfl
theorem a2 (s : PySem.Shared) : fenceModules? R.prog s = some s := by kernel_rfl
theorem a3 : defOf qv R.name = some (HandSHeadRun.topDef R.prog 92, []) := by kernel_rfl
theorem a4 : R.prog.theDef R.name = some ((HandSHeadRun.topDef R.prog 92).params, (HandSHeadRun.topDef R.prog 92).body, (HandSHeadRun.topDef R.prog 92).scope) := by kernel_rfl
theorem a5 : kwWritten? (HandSHeadRun.topDef R.prog 92).params.kwonlyargs (HandSHeadRun.topDef R.prog 92).params.kw_defaults = some [] := by kernel_rfl
theorem a6 : (!R.writes || R.records.isEmpty) = true := by rfl
theorem a8 : (chainsOk qv && opensWell R.prog && (frees R.toRowW && R.within.isEmpty)) = true := by decide +kernel
theorem a9 : R.prog.bare := ⟨rfl, rfl, rfl, rfl, rfl, by decide +kernel⟩
theorem name_law : (HandSHeadRun.topDef R.prog 92).name = ("law" : PySem.Str) := by kernel_rfl
theorem law_at {w : World} {mg : Str → Option Value} {fa : Addr} {h : Heap} (Y : PK.hookZ.says w h) (G : h.Ns mainGlobals mg) (hmg : mg ("law" : PySem.Str) = some (.ref fa)) :
    ∃ K : PySem.W.Frag, K.In h ∧ LamX.LawAtS (PySem.Challenge.rw_paintposts_k40_whole_painted_from_both_w) w K L2.CX0 13 63 "_law_script" mg fa h := by
  obtain ⟨K, KX, c, cg⟩ := Y
  have e2 := hmg.symm.trans (He.glo_ok KX G (c.t.d.fact 99 (f := .glo "law") rfl))
  have e3 : fa = He.ga K "law" := by injection e2 with e2; injection e2
  subst e3
  obtain ⟨fd, hb, hF⟩ := PK.facts (P := (PySem.Challenge.rw_paintposts_k40_whole_painted_from_both_w).prog) (w := w) KX G c cg
  refine ⟨K, KX, fd, [He.cT K ("painted_post_from", none)], PK.spLaw K (He.cT K ("painted_post_from", none)).2, fun p hp => ?_, fun p hp => ?_, fun p hp => ?_, hb, fun H a ns hl _ hT hS => ⟨a, ns, rfl, hS, hl, ?_, fun _ => rfl⟩, fun base hK hN hT => hF base hK hN (hT _ (List.mem_singleton.mpr rfl))⟩
  · rw [List.mem_singleton.mp hp]
    exact c.empty _ (List.mem_singleton.mpr rfl)
  · rw [List.mem_singleton.mp hp]
    exact c.out _ (List.mem_singleton.mpr rfl)
  · rw [List.mem_singleton.mp hp]
    exact PySem.W.codeHd_of_K KX (c.hd _ (List.mem_singleton.mpr rfl))
  · intro p hp
    rw [List.mem_singleton.mp hp]
    exact LamX.TabS.nil (hT (He.cT K ("painted_post_from", none)) (List.mem_singleton.mpr rfl))
theorem walk : PySem.W.WalkO qv names (XL qv []) PK.hookZ.says R.toRowW (HandSHeadRun.topDef R.prog 92) [] (fun f vs => PySem.call f vs) := by
  refine LamX.walk_ofTsE (l := PySem.Challenge.rw_paintposts_k40_whole_painted_from_both_w) (n := 63) (k := 13) (x := "_law_script") (CX := fun _ => L2.CX0) rfl (by decide) (by kernel_rfl) ⟨rfl, by decide, by decide⟩ ?F (fun _ _ _ _ _ z => z)
  intro w mg fa h Y G hmg0
  exact law_at Y G ((congrArg mg name_law).symm.trans hmg0)
end PH
open PySem PySem.W PySem.Calls PyProof.Rows
theorem PySem.Challenge.cw_paintposts_k40_whole_painted_from_both_w_holds : PySem.Challenge.rw_paintposts_k40_whole_painted_from_both_w.Holds := by
  w_on; o_law
  refine HandSHeadRun.head_any (r := PH.R) (q := PH.qv) (H := PK.hookZ) (ob := PH.ob) (M := 8400) (loose := PH.names) (d := HandSHeadRun.topDef PH.R.prog 92) (kwd := []) PH.ob_eq PH.a1 PH.a2 PH.run PH.a3 PH.a4 PH.a5 PH.a6 (by first | assumption | decide +kernel) PH.a8 PH.a9 ?hw PH.walk
  case hw => w_witness2
end
