import PyProof.Rows.All
import Wide.All
import OpenK.AllK
import Wide.FinOn
import KE.KStateDown
import HandS.Base
import HandS.Call
import HandS.Ends
import HandS.More
import HandS.Words
import HandS.WordsExc
import HandS.Defaults
import HandS.Head0
import HandS.Head1
import HandS.Head2
import HandS.HeadEnd
import HandS.HeadHook1
import HandS.HeadHook2
import HandS.HeadHook3
import HandS.HeadHook4
import PySem.Challenge.RW_cellscript_k70_whole_great_pictures
import HandS.ExcField
import HandS.TupSets
import PyProof.SetRoads
import PyProof.EqAt
import PyProof.EqKinds
import PyProof.TupleCall
import HandS.ForMost
import HandS.Walk
import HandS.Zip
import HandS.SetKeys
import HandS.Style
import HandS.IsInst
import HandS.Wide
import HandS.Deep
import HandS.Flow
import HandS.Text
import HandS.Codes
import HandS.Strs
import KE.GoesMore
import HandS.DictComp
import KE.KDictSum
import KE.KDictCopyH
import KE.KSortTupG
import KE.KDictKeyed
import KE.KDictPairs
import HandS.Keys
import KE.KUnpackStar
import HandS.TryOnly
import KE.GoesSet
import HandS.Comp
import HandS.TupLe
import HandS.ExcInit
import PyProof.ReprRoads
import PyProof.ReprText
set_option Elab.async false
set_option linter.all false
set_option maxRecDepth 100000
namespace K70
open PySem PySem.Spec PyProof.Rows L2
/-! ### the text's statements -/
def top (i : Nat) : Stmt := PySem.Challenge.pw_cellscript_k70_whole_great_pictures.main.body.getD i (.Pass ⟨0, 0, 0, 0⟩)
def inCls (s : Stmt) (j : Nat) : Stmt := match s with
  | .ClassDef _ _ _ b .. => b.getD j (.Pass ⟨0, 0, 0, 0⟩)
  | _ => .Pass ⟨0, 0, 0, 0⟩
abbrev s_NoForebear_init : Stmt := inCls (top 7) 0
abbrev s_is_whole : Stmt := top 14
abbrev s_is_from_to : Stmt := top 15
abbrev s_is_sign : Stmt := top 16
abbrev s_is_signs : Stmt := top 17
abbrev s_is_place : Stmt := top 18
abbrev s_need_strip : Stmt := top 22
abbrev s_words_of : Stmt := top 23
abbrev s_Strip_init : Stmt := inCls (top 24) 0
abbrev s_Strip_sign_in : Stmt := inCls (top 24) 1
abbrev s_Strip_made : Stmt := inCls (top 24) 2
abbrev s_Strip_ways_of : Stmt := inCls (top 24) 3
abbrev s_Strip_behind : Stmt := inCls (top 24) 4
abbrev s_Strip_set_behind : Stmt := inCls (top 24) 5
abbrev s_Strip_are_states : Stmt := inCls (top 24) 6
abbrev s_columns_of : Stmt := top 25
abbrev s_rows_of : Stmt := top 26
abbrev s_strip_for : Stmt := top 27
abbrev s_counts_on : Stmt := top 29
abbrev s_how_many : Stmt := top 30
abbrev s_picked : Stmt := top 31
abbrev s_forebear : Stmt := top 32
abbrev s_none_of : Stmt := top 33
abbrev s_none_holds : Stmt := top 34
abbrev s_is_near : Stmt := top 40
abbrev s_are_of : Stmt := top 41
abbrev s_is_test : Stmt := top 42
abbrev s_is_cell_row : Stmt := top 43
abbrev s_Rule_init : Stmt := inCls (top 46) 0
abbrev s_Rule_is_row : Stmt := inCls (top 46) 1
abbrev s_Rule_kind : Stmt := inCls (top 46) 2
abbrev s_Rule_many : Stmt := inCls (top 46) 3
abbrev s_Rule_near : Stmt := inCls (top 46) 4
abbrev s_Rule_signs : Stmt := inCls (top 46) 6
abbrev s_Rule_test_holds : Stmt := inCls (top 46) 7
abbrev s_Rule_fate : Stmt := inCls (top 46) 8
abbrev s_l_bag : Stmt := top 48
abbrev s_l_take : Stmt := top 49
abbrev s_l_signs : Stmt := top 50
abbrev s_l_some : Stmt := top 51
abbrev s_l_near : Stmt := top 52
abbrev s_l_test : Stmt := top 53
abbrev s_l_row : Stmt := top 54
abbrev s_l_rule : Stmt := top 56
abbrev s_l_holds : Stmt := top 57
abbrev s_l_becomes : Stmt := top 58
abbrev s_l_off : Stmt := top 59
abbrev s_l_middle : Stmt := top 60
abbrev s_l_letters : Stmt := top 61
abbrev s_l_steps : Stmt := top 62
abbrev s_l_columns : Stmt := top 63
abbrev s_l_rows : Stmt := top 64
abbrev s_l_strip : Stmt := top 65
abbrev s_l_drawn : Stmt := top 66
abbrev s_l_next_rows : Stmt := top 67
abbrev s_l_made_rule : Stmt := top 68
abbrev s_l_set_behind : Stmt := top 69
abbrev s_l_counted : Stmt := top 70
abbrev s_l_sets : Stmt := top 71
abbrev s_l_numbers : Stmt := top 72
abbrev s_l_refused : Stmt := top 73
abbrev s_law : Stmt := top 74
/-! ### the defs as data -/
def d_NoForebear_init : He.DefD := ⟨("NoForebear", some "__init__"), "__init__", "NoForebear.__init__", defArgs s_NoForebear_init, defBody s_NoForebear_init, defScope s_NoForebear_init, [], []⟩
def d_is_whole : He.DefD := ⟨("is_whole", none), "is_whole", "is_whole", defArgs s_is_whole, defBody s_is_whole, defScope s_is_whole, [], []⟩
def d_is_from_to : He.DefD := ⟨("is_from_to", none), "is_from_to", "is_from_to", defArgs s_is_from_to, defBody s_is_from_to, defScope s_is_from_to, [], []⟩
def d_is_sign : He.DefD := ⟨("is_sign", none), "is_sign", "is_sign", defArgs s_is_sign, defBody s_is_sign, defScope s_is_sign, [], []⟩
def d_is_signs : He.DefD := ⟨("is_signs", none), "is_signs", "is_signs", defArgs s_is_signs, defBody s_is_signs, defScope s_is_signs, [], []⟩
def d_is_place : He.DefD := ⟨("is_place", none), "is_place", "is_place", defArgs s_is_place, defBody s_is_place, defScope s_is_place, [], []⟩
def d_need_strip : He.DefD := ⟨("need_strip", none), "need_strip", "need_strip", defArgs s_need_strip, defBody s_need_strip, defScope s_need_strip, [], []⟩
def d_words_of : He.DefD := ⟨("words_of", none), "words_of", "words_of", defArgs s_words_of, defBody s_words_of, defScope s_words_of, [], []⟩
def d_Strip_init : He.DefD := ⟨("Strip", some "__init__"), "__init__", "Strip.__init__", defArgs s_Strip_init, defBody s_Strip_init, defScope s_Strip_init, [], []⟩
def d_Strip_sign_in : He.DefD := ⟨("Strip", some "sign_in"), "sign_in", "Strip.sign_in", defArgs s_Strip_sign_in, defBody s_Strip_sign_in, defScope s_Strip_sign_in, [], []⟩
def d_Strip_made : He.DefD := ⟨("Strip", some "made"), "made", "Strip.made", defArgs s_Strip_made, defBody s_Strip_made, defScope s_Strip_made, [], []⟩
def d_Strip_ways_of : He.DefD := ⟨("Strip", some "ways_of"), "ways_of", "Strip.ways_of", defArgs s_Strip_ways_of, defBody s_Strip_ways_of, defScope s_Strip_ways_of, [], []⟩
def d_Strip_behind : He.DefD := ⟨("Strip", some "behind"), "behind", "Strip.behind", defArgs s_Strip_behind, defBody s_Strip_behind, defScope s_Strip_behind, [], []⟩
def d_Strip_set_behind : He.DefD := ⟨("Strip", some "set_behind"), "set_behind", "Strip.set_behind", defArgs s_Strip_set_behind, defBody s_Strip_set_behind, defScope s_Strip_set_behind, [], []⟩
def d_Strip_are_states : He.DefD := ⟨("Strip", some "are_states"), "are_states", "Strip.are_states", defArgs s_Strip_are_states, defBody s_Strip_are_states, defScope s_Strip_are_states, [], []⟩
def d_columns_of : He.DefD := ⟨("columns_of", none), "columns_of", "columns_of", defArgs s_columns_of, defBody s_columns_of, defScope s_columns_of, [], []⟩
def d_rows_of : He.DefD := ⟨("rows_of", none), "rows_of", "rows_of", defArgs s_rows_of, defBody s_rows_of, defScope s_rows_of, [], []⟩
def d_strip_for : He.DefD := ⟨("strip_for", none), "strip_for", "strip_for", defArgs s_strip_for, defBody s_strip_for, defScope s_strip_for, [], []⟩
def d_counts_on : He.DefD := ⟨("counts_on", none), "counts_on", "counts_on", defArgs s_counts_on, defBody s_counts_on, defScope s_counts_on, [], []⟩
def d_how_many : He.DefD := ⟨("how_many", none), "how_many", "how_many", defArgs s_how_many, defBody s_how_many, defScope s_how_many, [], []⟩
def d_picked : He.DefD := ⟨("picked", none), "picked", "picked", defArgs s_picked, defBody s_picked, defScope s_picked, [], []⟩
def d_forebear : He.DefD := ⟨("forebear", none), "forebear", "forebear", defArgs s_forebear, defBody s_forebear, defScope s_forebear, [], []⟩
def d_none_of : He.DefD := ⟨("none_of", none), "none_of", "none_of", defArgs s_none_of, defBody s_none_of, defScope s_none_of, [], []⟩
def d_none_holds : He.DefD := ⟨("none_holds", none), "none_holds", "none_holds", defArgs s_none_holds, defBody s_none_holds, defScope s_none_holds, [], []⟩
def d_is_near : He.DefD := ⟨("is_near", none), "is_near", "is_near", defArgs s_is_near, defBody s_is_near, defScope s_is_near, [], []⟩
def d_are_of : He.DefD := ⟨("are_of", none), "are_of", "are_of", defArgs s_are_of, defBody s_are_of, defScope s_are_of, [], []⟩
def d_is_test : He.DefD := ⟨("is_test", none), "is_test", "is_test", defArgs s_is_test, defBody s_is_test, defScope s_is_test, [], []⟩
def d_is_cell_row : He.DefD := ⟨("is_cell_row", none), "is_cell_row", "is_cell_row", defArgs s_is_cell_row, defBody s_is_cell_row, defScope s_is_cell_row, [], []⟩
def d_Rule_init : He.DefD := ⟨("Rule", some "__init__"), "__init__", "Rule.__init__", defArgs s_Rule_init, defBody s_Rule_init, defScope s_Rule_init, [], []⟩
def d_Rule_is_row : He.DefD := ⟨("Rule", some "is_row"), "is_row", "Rule.is_row", defArgs s_Rule_is_row, defBody s_Rule_is_row, defScope s_Rule_is_row, [], []⟩
def d_Rule_kind : He.DefD := ⟨("Rule", some "kind"), "kind", "Rule.kind", defArgs s_Rule_kind, defBody s_Rule_kind, defScope s_Rule_kind, [], []⟩
def d_Rule_many : He.DefD := ⟨("Rule", some "many"), "many", "Rule.many", defArgs s_Rule_many, defBody s_Rule_many, defScope s_Rule_many, [], []⟩
def d_Rule_near : He.DefD := ⟨("Rule", some "near"), "near", "Rule.near", defArgs s_Rule_near, defBody s_Rule_near, defScope s_Rule_near, [], []⟩
def d_Rule_signs : He.DefD := ⟨("Rule", some "signs"), "signs", "Rule.signs", defArgs s_Rule_signs, defBody s_Rule_signs, defScope s_Rule_signs, [], []⟩
def d_Rule_test_holds : He.DefD := ⟨("Rule", some "test_holds"), "test_holds", "Rule.test_holds", defArgs s_Rule_test_holds, defBody s_Rule_test_holds, defScope s_Rule_test_holds, [], []⟩
def d_Rule_fate : He.DefD := ⟨("Rule", some "fate"), "fate", "Rule.fate", defArgs s_Rule_fate, defBody s_Rule_fate, defScope s_Rule_fate, [], []⟩
def d_l_bag : He.DefD := ⟨("_law_bag", none), "_law_bag", "_law_bag", defArgs s_l_bag, defBody s_l_bag, defScope s_l_bag, [], []⟩
def d_l_take : He.DefD := ⟨("_law_take", none), "_law_take", "_law_take", defArgs s_l_take, defBody s_l_take, defScope s_l_take, [], []⟩
def d_l_signs : He.DefD := ⟨("_law_signs", none), "_law_signs", "_law_signs", defArgs s_l_signs, defBody s_l_signs, defScope s_l_signs, [], []⟩
def d_l_some : He.DefD := ⟨("_law_some", none), "_law_some", "_law_some", defArgs s_l_some, defBody s_l_some, defScope s_l_some, [], []⟩
def d_l_near : He.DefD := ⟨("_law_near", none), "_law_near", "_law_near", defArgs s_l_near, defBody s_l_near, defScope s_l_near, [], []⟩
def d_l_test : He.DefD := ⟨("_law_test", none), "_law_test", "_law_test", defArgs s_l_test, defBody s_l_test, defScope s_l_test, [], []⟩
def d_l_row : He.DefD := ⟨("_law_row", none), "_law_row", "_law_row", defArgs s_l_row, defBody s_l_row, defScope s_l_row, [], []⟩
def d_l_rule : He.DefD := ⟨("_law_rule", none), "_law_rule", "_law_rule", defArgs s_l_rule, defBody s_l_rule, defScope s_l_rule, [], []⟩
def d_l_holds : He.DefD := ⟨("_law_holds", none), "_law_holds", "_law_holds", defArgs s_l_holds, defBody s_l_holds, defScope s_l_holds, [], []⟩
def d_l_becomes : He.DefD := ⟨("_law_becomes", none), "_law_becomes", "_law_becomes", defArgs s_l_becomes, defBody s_l_becomes, defScope s_l_becomes, [], []⟩
def d_l_off : He.DefD := ⟨("_law_off", none), "_law_off", "_law_off", defArgs s_l_off, defBody s_l_off, defScope s_l_off, [], []⟩
def d_l_middle : He.DefD := ⟨("_law_middle", none), "_law_middle", "_law_middle", defArgs s_l_middle, defBody s_l_middle, defScope s_l_middle, [], []⟩
def d_l_letters : He.DefD := ⟨("_law_letters", none), "_law_letters", "_law_letters", defArgs s_l_letters, defBody s_l_letters, defScope s_l_letters, [], []⟩
def d_l_steps : He.DefD := ⟨("_law_steps", none), "_law_steps", "_law_steps", defArgs s_l_steps, defBody s_l_steps, defScope s_l_steps, [], []⟩
def d_l_columns : He.DefD := ⟨("_law_columns", none), "_law_columns", "_law_columns", defArgs s_l_columns, defBody s_l_columns, defScope s_l_columns, [], []⟩
def d_l_rows : He.DefD := ⟨("_law_rows", none), "_law_rows", "_law_rows", defArgs s_l_rows, defBody s_l_rows, defScope s_l_rows, [], []⟩
def d_l_strip : He.DefD := ⟨("_law_strip", none), "_law_strip", "_law_strip", defArgs s_l_strip, defBody s_l_strip, defScope s_l_strip, [], []⟩
def d_l_drawn : He.DefD := ⟨("_law_drawn", none), "_law_drawn", "_law_drawn", defArgs s_l_drawn, defBody s_l_drawn, defScope s_l_drawn, [], []⟩
def d_l_next_rows : He.DefD := ⟨("_law_next_rows", none), "_law_next_rows", "_law_next_rows", defArgs s_l_next_rows, defBody s_l_next_rows, defScope s_l_next_rows, [], []⟩
def d_l_made_rule : He.DefD := ⟨("_law_made_rule", none), "_law_made_rule", "_law_made_rule", defArgs s_l_made_rule, defBody s_l_made_rule, defScope s_l_made_rule, [], []⟩
def d_l_set_behind : He.DefD := ⟨("_law_set_behind", none), "_law_set_behind", "_law_set_behind", defArgs s_l_set_behind, defBody s_l_set_behind, defScope s_l_set_behind, [], []⟩
def d_l_counted : He.DefD := ⟨("_law_counted", none), "_law_counted", "_law_counted", defArgs s_l_counted, defBody s_l_counted, defScope s_l_counted, [], []⟩
def d_l_sets : He.DefD := ⟨("_law_sets", none), "_law_sets", "_law_sets", defArgs s_l_sets, defBody s_l_sets, defScope s_l_sets, [], []⟩
def d_l_numbers : He.DefD := ⟨("_law_numbers", none), "_law_numbers", "_law_numbers", defArgs s_l_numbers, defBody s_l_numbers, defScope s_l_numbers, [], []⟩
def d_l_refused : He.DefD := ⟨("_law_refused", none), "_law_refused", "_law_refused", defArgs s_l_refused, defBody s_l_refused, defScope s_l_refused, [], []⟩
def d_law : He.DefD := ⟨("law", none), "law", "law", defArgs s_law, defBody s_law, defScope s_law, [], []⟩
def fns : List He.DefD := [d_NoForebear_init, d_is_whole, d_is_from_to, d_is_sign, d_is_signs, d_is_place, d_need_strip, d_words_of, d_Strip_init, d_Strip_sign_in, d_Strip_made, d_Strip_ways_of, d_Strip_behind, d_Strip_set_behind, d_Strip_are_states, d_columns_of, d_rows_of, d_strip_for, d_counts_on, d_how_many, d_picked, d_forebear, d_none_of, d_none_holds, d_is_near, d_are_of, d_is_test, d_is_cell_row, d_Rule_init, d_Rule_is_row, d_Rule_kind, d_Rule_many, d_Rule_near, d_Rule_signs, d_Rule_test_holds, d_Rule_fate, d_l_bag, d_l_take, d_l_signs, d_l_some, d_l_near, d_l_test, d_l_row, d_l_rule, d_l_holds, d_l_becomes, d_l_off, d_l_middle, d_l_letters, d_l_steps, d_l_columns, d_l_rows, d_l_strip, d_l_drawn, d_l_next_rows, d_l_made_rule, d_l_set_behind, d_l_counted, d_l_sets, d_l_numbers, d_l_refused, d_law]
end K70
set_option maxHeartbeats 0
/-! What the head looks at, and the run of the top: the first of the texts, as its kernel wants room. -/
namespace K70
open PySem PySem.Spec PyProof.Rows L2
/-- names of built-ins that stay what they are -/
def frees : List Str := ["len", "all", "zip", "sorted", "range", "sum", "set", "enumerate", "list", "tuple", "dict", "min", "abs", "int", "str", "bool", "isinstance", "repr"]
/-- the fields of the two classes -/
def fieldsS : List Str := ["ruled", "brim", "offs", "letters", "states", "ways_on"]
def fieldsR : List Str := ["sort_told", "count", "looked_at", "listed"]
/-- the module's defs and classes -/
def globs1 : List Str := ["is_whole", "is_from_to", "is_sign", "is_signs", "is_place", "need_strip", "words_of", "Strip", "columns_of", "rows_of", "strip_for", "counts_on", "how_many", "picked", "forebear", "none_of", "none_holds", "is_near", "are_of", "is_test", "is_cell_row", "Rule", "PLACES", "SORTS", "OFFS", "NoForebear", "CellError"]
def globs2 : List Str := ["_law_bag", "_law_take", "_law_signs", "_law_some", "_law_near", "_law_test", "_law_row", "_law_rule", "_law_holds", "_law_becomes", "_law_off", "_law_middle", "_law_letters", "_law_steps", "_law_columns", "_law_rows", "_law_strip", "_law_drawn", "_law_next_rows", "_law_made_rule", "_law_set_behind", "_law_counted", "_law_sets", "_law_numbers", "_law_refused", "law"]
def globs : List Str := globs1 ++ globs2
def methsS : List Str := ["sign_in", "made", "ways_of", "behind", "set_behind", "are_states"]
def methsR : List Str := ["is_row", "kind", "many", "near", "signs", "test_holds", "fate"]
abbrev cN (K : PySem.W.Frag) : Addr := He.ga K "NoForebear"
abbrev cE (K : PySem.W.Frag) : Addr := He.ga K "CellError"
abbrev iN (K : PySem.W.Frag) : Addr := He.ma K (cN K) "__init__"
/-- an exception class over ValueError, without room of its own -/
def oexB (K : PySem.W.Frag) (C : Addr) : Bool := match K.lookup C with
  | some ⟨.type "type", _, .cls cd, sl⟩ => (match cd.mro, sl.toList with
    | .ref C' :: bm, [_, _, _, _, some (.builtin n), _] => C' == C && n == "ValueError.__new__" && !cd.hasDel && cd.hasDict && PySem.HandSPX.refsVE bm
    | _, _ => false)
  | _ => false
def isVal (o : Option PySem.W.CFound) (v : Value) : Bool := match o with
  | some (.val u) => decide (u = v)
  | _ => false
def nfB (K : PySem.W.Frag) : Bool :=
  oexB K (cN K) && (decide (PySem.W.findIn K (.ref (cN K)) "__setattr__" = some (some (.builtin "object.__setattr__"))) && (decide (PySem.W.subIn K (.ref (cN K)) (.type "BaseException") = some true) && (decide (PySem.W.typeIn K (.ref (cN K)) = some (.type "type")) && (PySem.W.keepIn K (.ref (cN K)) &&
  (decide (PySem.W.findIn K (.ref (cN K)) "__init__" = some (some (.ref (iN K)))) && (decide (PySem.W.typeIn K (.ref (iN K)) = some (.type "function")) && (decide (PySem.W.findIn K (.ref (cN K)) "number" = some none) && (decide (PySem.W.findIn K (.ref (cN K)) "total" = some none) && (xfB K (cN K) &&
  (decide (PySem.W.exmOne K (.ref (cN K)) (.ref (cN K)) = some true) && (decide (PySem.W.specialIn K (.ref (cE K)) "__getattribute__" = some (some (.builtin "type.__getattribute__"))) && (PySem.W.readsIn K (cE K) (.type "type") && isVal (PySem.W.findCls K (.ref (cE K)) (.type "type") "__init__") (.builtin "ValueError.__init__")))))))))))))
def fa : List He.Fa := frees.map .free ++ (globs1.map .glo ++ (globs2.map .glo ++ (methsS.map (.meth "Strip") ++ (methsR.map (.meth "Rule") ++ ([.mkr "Strip", .mkr "Rule", .cls "Strip", .cls "Rule"] ++ (fieldsS.map (.noat "Strip") ++ (fieldsR.map (.noat "Rule") ++
  [.str "SIGNS" ".abcdefghijklmnopqrstuvwxyz", .str "FOLDED" "", .int "MOST_STATES" 64, .int "MOST_ROWS" 80, .int "MOST_TESTS" 8])))))))
/-- where a place's offset stands -/
def offA (x : Str) (K : PySem.W.Frag) : Addr := match PySem.W.nsIn K (He.ga K "OFFS") x with
  | some (some (.ref a)) => a
  | _ => 0
def tupAt (K : PySem.W.Frag) (a : Addr) (vs : List He.Dv) : Bool := match K.lookup a with
  | some ⟨.type c, _, .seq its _, _⟩ => decide (c = "tuple") && (decide (its.size ≤ sizeLine) && He.relAll (vs.map (He.Dv.v K)) its.toList)
  | _ => false
def offL : List (Str × Int × Int) := [("n", 0, -1), ("ne", 1, -1), ("e", 1, 0), ("se", 1, 1), ("s", 0, 1), ("sw", -1, 1), ("w", -1, 0), ("nw", -1, -1)]
def offK : List Str := ["n", "ne", "e", "se", "s", "sw", "w", "nw"]
def ex (K : PySem.W.Frag) : Bool := nfB K && (He.tupB K "PLACES" (offK.map .str) && (He.tupB K "SORTS" [.str "around", .str "halves", .str "blocks"] && (He.valsB K (He.ga K "OFFS") (offK.map fun x => (x, .adr (offA x))) && offL.all fun q => tupAt K (offA q.1 K) [.int q.2.1, .int q.2.2])))
def ts : List He.Tab := [((fun K => He.ga K "OFFS"), offK)]
abbrev R : PySem.W.OpenRow := PySem.W.OpenLaw.row PySem.Challenge.rw_cellscript_k70_whole_great_pictures
/-- what the module's names reach, and the interpreter's own table -/
def fr1 (g : Addr → Option Obj) (as : List Addr) : List Addr := as.flatMap fun a => match g a with
  | some o => He.refsD o
  | none => []
/-- level by level, without a look back -/
def reach (g : Addr → Option Obj) : Nat → List Addr → List Addr
  | 0, as => as
  | n + 1, as => as ++ reach g n (fr1 g as)
def kF (g : Addr → Option Obj) : PySem.W.Frag := He.frG g (cStatics :: reach g 5 [mainGlobals])
def obK (K : PySem.W.Frag) : He.AlT × Bool := (He.obsT fa fns ts K, ex K)
def hk : PySem.W.Hook where
  α := He.AlT × Bool
  obs := fun s => obK (kF s.heap.get?)
  val := fun w => (He.valT fns ts w, true)
  says := fun w h => ∃ K : PySem.W.Frag, K.In h ∧ obK K = (He.valT fns ts w, true)
  of := fun _ _ e => ⟨_, He.frG_in, e⟩
  keeps := fun _ _ _ ⟨K, inK, e⟩ k => ⟨K, PySem.W.Frag.In.keeps inK k, e⟩
def ob (s : PySem.W.SharedT) : He.AlT × Bool := obK (kF (HandSHeadRun.getT s))
theorem ob_eq (s : PySem.W.SharedT) : ob s = hk.obs s.abs := by
  have e : HandSHeadRun.getT s = s.abs.heap.get? := funext (HandSHeadRun.getT_eq s)
  show obK (kF (HandSHeadRun.getT s)) = obK (kF s.abs.heap.get?)
  rw [e]
def names1 : List Str := ["_wall", "CellError", "Wrong", "BadRow", "TooMany", "Strange", "NoForebear", "Unfit", "NotAround", "SIGNS", "PLACES", "OFFS", "is_whole", "is_from_to", "is_sign", "is_signs", "is_place", "MOST_STATES", "FOLDED", "need_strip", "words_of", "Strip", "columns_of", "rows_of", "strip_for", "counts_on", "how_many", "picked", "forebear", "none_of", "none_holds"]
def names2 : List Str := ["SORTS", "STRAIGHT", "MOST_ROWS", "MOST_TESTS", "is_near", "are_of", "is_test", "is_cell_row", "is_text_of", "is_block_row", "Rule"]
def names3 : List Str := ["_law_bag", "_law_take", "_law_signs", "_law_some", "_law_near", "_law_test", "_law_row", "_law_block_row", "_law_rule", "_law_holds", "_law_becomes", "_law_off", "_law_middle", "_law_letters", "_law_steps", "_law_columns", "_law_rows", "_law_strip", "_law_drawn", "_law_next_rows", "_law_made_rule", "_law_set_behind", "_law_counted", "_law_sets", "_law_numbers", "_law_refused"]
def names : List Str := names1 ++ names2 ++ names3
theorem run_f (w : World) : HandSHeadRun.RunEq R (PySem.W.view R.prog [74]) hk ob 6000 names (w.withFollow "special-get-raises" false) := by
  intro os
  kernel_rfl
theorem run_t (w : World) : HandSHeadRun.RunEq R (PySem.W.view R.prog [74]) hk ob 6000 names (w.withFollow "special-get-raises" true) := by
  intro os
  kernel_rfl
theorem run (w : World) : HandSHeadRun.RunEq R (PySem.W.view R.prog [74]) hk ob 6000 names w := PySem.W.byRow2 "special-get-raises" run_f run_t w
end K70
set_option maxHeartbeats 4000000
/-! Ku: sets of tuples of plain keys (any key kind whose values are calm): the search, for adding and for asking. -/
namespace K70
open PySem PySem.Spec PyProof.Rows L2
section
variable {P : Program} {w : World} {A : Around} {E : Value → Shared → Prop} {s : Shared} {κ : Type} [DecidableEq κ] {knd : KeyKind P w κ}
/-- a key kind whose values show nothing to a search -/
structure Calm (knd : KeyKind P w κ) : Prop where
  cls : ∀ {k v}, knd.is k v = true → ∀ n, ofAClassStatement n v = pure false
  hsh : ∀ {k v}, knd.is k v = true → ∃ b, ∀ n, hashByValue n v = pure b
theorem items_of {k : List κ} {vs : List Value} (h : ItemsAre knd k vs) : ∀ v ∈ vs, ∃ i, knd.is i v = true := by
  induction h with
  | nil => exact fun v hv => nomatch hv
  | cons h1 _ ih => exact fun v hv => (List.mem_cons.mp hv).elim (fun e => ⟨_, e ▸ h1⟩) (ih v)
theorem calm_cls (C : Calm knd) {k : List κ} {b : Addr} {Q : Bool → Shared → Prop} (hk : IsTupleKey knd s.heap k b) (q : Q false s) : wpAny (model P w) A (ofAClassStatement 8 (.ref b)) Q E s := by
  obtain ⟨o, items, n, ho, hc, hd, hi⟩ := hk
  have hT : s.TypeIs (.ref b) "tuple" := ⟨o, ho, hc⟩
  unfold ofAClassStatement
  refine wpAny_bind (wpAny_typeOf hT ?_)
  simp only [show (("tuple" : String) == "tuple") = true by decide, if_true, Bool.not_true, Bool.false_eq_true, if_false]
  try refine wpAny_bind (wpAny_pure ?_)
  try simp only [Bool.not_true, Bool.false_eq_true, if_false]
  show wpAny _ _ (seqItems? (.ref b) >>= _) _ _ s
  refine wpAny_bind (wpAny_seqItems ho hd (wpAny_bind ?_))
  show wpAny _ _ (forIn items _ _) _ _ s
  rw [← Array.forIn_toList]
  refine wpAny_forIn_list _ (fun rest r s' => r.1 = none ∧ s' = s ∧ ∀ v ∈ rest, ∃ i, knd.is i v = true) _ (fun v rest r s' hr => ?_) (fun r s' hr => ?_) _ _ ⟨rfl, rfl, items_of hi⟩
  · obtain ⟨hr, rfl, hall⟩ := hr
    obtain ⟨i, hv⟩ := hall v List.mem_cons_self
    rw [C.cls hv]
    refine wpAny_bind (wpAny_pure ?_)
    simp only [Bool.false_eq_true, if_false]
    exact wpAny_pure ⟨rfl, rfl, fun u hu => hall u (List.mem_cons_of_mem _ hu)⟩
  · obtain ⟨r1, r2⟩ := r
    obtain ⟨hr, rfl, _⟩ := hr
    cases hr
    exact wpAny_pure q
theorem calm_hsh (C : Calm knd) {k : List κ} {b : Addr} {Q : Bool → Shared → Prop} (hk : IsTupleKey knd s.heap k b) (q : ∀ r, Q r s) : wpAny (model P w) A (hashByValue 8 (.ref b)) Q E s := by
  obtain ⟨o, items, n, ho, hc, hd, hi⟩ := hk
  have hT : s.TypeIs (.ref b) "tuple" := ⟨o, ho, hc⟩
  unfold hashByValue
  refine wpAny_bind (wpAny_specialOf hT F.slot_tuple_hash.lookup ?_)
  show wpAny _ _ (seqItems? (.ref b) >>= _) _ _ s
  refine wpAny_bind (wpAny_seqItems ho hd (wpAny_bind ?_))
  show wpAny _ _ (forIn items _ _) _ _ s
  rw [← Array.forIn_toList]
  refine wpAny_forIn_list _ (fun rest r s' => r.1 = none ∧ s' = s ∧ ∀ v ∈ rest, ∃ i, knd.is i v = true) _ (fun v rest r s' hr => ?_) (fun r s' hr => ?_) _ _ ⟨rfl, rfl, items_of hi⟩
  · obtain ⟨hr, rfl, hall⟩ := hr
    obtain ⟨i, hv⟩ := hall v List.mem_cons_self
    obtain ⟨b, hb⟩ := C.hsh hv
    rw [hb]
    refine wpAny_bind (wpAny_pure ?_)
    cases b with
    | true =>
      simp only [Bool.not_true, Bool.false_eq_true, if_false]
      exact wpAny_pure ⟨rfl, rfl, fun u hu => hall u (List.mem_cons_of_mem _ hu)⟩
    | false =>
      simp only [Bool.not_false, if_true]
      exact wpAny_pure (wpAny_pure (q false))
  · obtain ⟨r1, r2⟩ := r
    obtain ⟨hr, rfl, _⟩ := hr
    cases hr
    exact wpAny_pure (q true)
theorem calm_seen (C : Calm knd) {k : List κ} {b : Addr} {Q : Bool → Shared → Prop} (hk : IsTupleKey knd s.heap k b) {ys : List Value} (hy : ∀ y ∈ ys, ∃ k' c, y = Value.ref c ∧ IsTupleKey knd s.heap k' c) (q : Q false s) :
    wpAny (model P w) A (searchCouldBeSeen (.ref b) ys) Q E s := by
  unfold searchCouldBeSeen
  refine wpAny_bind (wpAny_forIn_list _ (fun rest r s' => r.1 = none ∧ s' = s ∧ ∀ y ∈ rest, ∃ k' c, y = Value.ref c ∧ IsTupleKey knd s.heap k' c) _ (fun v rest r s' hr => ?_) (fun r s' hr => ?_) _ _ ⟨rfl, rfl, hy⟩)
  · obtain ⟨hr, rfl, hall⟩ := hr
    obtain ⟨k', c, rfl, hc⟩ := hall v List.mem_cons_self
    have tl := fun u hu => hall u (List.mem_cons_of_mem _ hu)
    dsimp only
    by_cases hv : (b == c || (carriedByValue (.ref b) && carriedByValue (.ref c))) = true
    · exact wp_if_pos hv (wpAny_pure ⟨rfl, rfl, tl⟩)
    · refine wp_if_neg hv (wpAny_bind (wpAny_eqIsQuiet_tuple hk ?_))
      simp only [Bool.not_true, Bool.false_eq_true, if_false]
      refine wpAny_bind (wpAny_eqIsQuiet_tuple hc ?_)
      simp only [Bool.not_true, Bool.false_eq_true, if_false]
      refine wpAny_bind (calm_cls C hk ?_)
      simp only [Bool.false_eq_true, if_false]
      refine wpAny_bind (calm_cls C hc ?_)
      simp only [Bool.false_eq_true, if_false]
      exact wpAny_pure ⟨rfl, rfl, tl⟩
  · obtain ⟨r1, r2⟩ := r
    obtain ⟨hr, rfl, _⟩ := hr
    cases hr
    exact wpAny_pure q

/-! ### the probe at the c-th step of the way -/
def pb (t : SetTable) (h : Int) (c : Nat) : SetTable.Probe := nth t.mask (runAt t.mask (SetTable.bits h % (t.mask + 1)) (SetTable.bits h)) c
theorem pb_add {t : SetTable} {h : Int} {c q : Nat} : nth t.mask (pb t h c) q = pb t h (c + q) := (nth_add t.mask c _ q).symm
theorem nth_dummy {m : Nat} : ∀ (n : Nat) (p : SetTable.Probe), p.dummy = none → (nth m p n).dummy = none
  | 0, _, h => h
  | n + 1, p, h => nth_dummy n (adv m p) (by unfold adv; split <;> exact h)
theorem pb_dummy {t : SetTable} {h : Int} {c : Nat} : (pb t h c).dummy = none := nth_dummy c _ rfl
/-- what a probe from the c-th step meets, K being the first empty slot's step -/
theorem pb_meets {t : SetTable} {hs : List Int} (T : TabOk t hs) (hashAt : Nat → Int) {h : Int} {K c : Nat} (hc : c ≤ K) (hf : K < 10 * SetTable.turns t.mask) (hK : way t.mask h K ∉ t.place.toList) (hb : ∀ j, j < K → way t.mask h j ∈ t.place.toList) :
    (∃ d i, c ≤ d ∧ d < K ∧ t.place.toList[i]? = some (way t.mask h d) ∧ hashAt i = h ∧ (∀ e i', c ≤ e → e < d → t.place.toList[i']? = some (way t.mask h e) → hashAt i' ≠ h) ∧ t.probe hashAt h (pb t h c) = some (.candidate (way t.mask h d) i (pb t h (d + 1)))) ∨
    ((∀ e i', c ≤ e → e < K → t.place.toList[i']? = some (way t.mask h e) → hashAt i' ≠ h) ∧ t.probe hashAt h (pb t h c) = some (.empty (way t.mask h K) none)) := by
  have ej : ∀ q, (nth t.mask (pb t h c) q).j = way t.mask h (c + q) := fun q => congrArg SetTable.Probe.j pb_add
  rcases go_spec t T.ris T.dm hashAt h (10 * SetTable.turns t.mask) (K - c) (pb t h c) pb_dummy (by omega) (fun q hq => by rw [ej]; exact hb _ (by omega)) (by rw [ej, Nat.add_sub_cancel' hc]; exact hK) with ⟨q, i, hq, hi, hh, hno, e⟩ | ⟨hno, e⟩
  · rw [ej] at hi e
    rw [pb_add] at e
    exact .inl ⟨c + q, i, Nat.le_add_right _ _, by omega, hi, hh, fun e i' h1 h2 h3 => hno (e - c) i' (by omega) (by rw [ej, Nat.add_sub_cancel' h1]; exact h3), e⟩
  · rw [ej, Nat.add_sub_cancel' hc] at e
    exact .inr ⟨fun e i' h1 h2 h3 => hno (e - c) i' (by omega) (by rw [ej, Nat.add_sub_cancel' h1]; exact h3), e⟩

/-! ### the set -/
def rowsT (knd : KeyKind P w κ) (L : List (Addr × List κ)) : List (Int × Value) := L.map fun p => (tupleKeyHash knd p.2, Value.ref p.1)
structure Ts (knd : KeyKind P w κ) (h : Heap) (a : Addr) (L : List (Addr × List κ)) (es : Array (Int × Value)) (ep : Nat) (t : SetTable) : Prop where
  ob : ∃ o, h.get? a = some o ∧ o.ExactSet ∧ o.data = .set es ep t
  rows : es.toList = rowsT knd L
  tab : TabOk t (L.map fun p => tupleKeyHash knd p.2)
  nd : (L.map (·.2)).Nodup
  tup : ∀ p ∈ L, IsTupleKey knd h p.2 p.1
  led : w.params.followText "set-order" = true ∨ t.led = true
  room : L.length * 5 < t.mask * 3
variable {a : Addr} {L : List (Addr × List κ)} {es : Array (Int × Value)} {ep : Nat} {t : SetTable}
theorem rows_len {es : Array (Int × Value)} (e : es.toList = rowsT knd L) : es.size = L.length := by rw [← Array.length_toList, e]; exact List.length_map ..
theorem fits_of (hd : t.dummies = #[]) {n : Nat} (hp : t.place.size = n) (hm : n ≤ t.mask) : t.fits n = true := by
  unfold SetTable.fits SetTable.fill
  rw [hd, Bool.and_eq_true, beq_iff_eq, decide_eq_true_eq]
  exact ⟨hp, by show t.place.size + 0 ≤ t.mask; omega⟩
theorem Ts.size (R : Ts knd s.heap a L es ep t) : es.size = L.length := rows_len R.rows
theorem Ts.place (R : Ts knd s.heap a L es ep t) : t.place.size = L.length := R.tab.sz.trans (List.length_map ..)
theorem Ts.fits (R : Ts knd s.heap a L es ep t) : t.fits es.size = true := by
  have := R.room
  exact fits_of R.tab.dm (by rw [R.size]; exact R.place) (by rw [R.size]; omega)
theorem Ts.ent (R : Ts knd s.heap a L es ep t) {i : Nat} {p : Addr × List κ} (h : L[i]? = some p) : es[i]? = some (tupleKeyHash knd p.2, Value.ref p.1) := by
  rw [← Array.getElem?_toList, R.rows]
  unfold rowsT
  rw [List.getElem?_map, h] <;> rfl
theorem Ts.gw (R : Ts knd s.heap a L es ep t) : ¬ t.gaveWay = true := by
  unfold SetTable.gaveWay
  rw [mask_odd R.tab.mok]
  decide
theorem ts_from (C : Calm knd) (R : Ts knd s.heap a L es ep t) {x : Addr} {k : List κ} (hx : IsTupleKey knd s.heap k x) (hu : A.units < cLine) {adding : Bool} {h : Int} (hh : h = tupleKeyHash knd k) {K : Nat} (hf : K < 10 * SetTable.turns t.mask)
    (hK : way t.mask h K ∉ t.place.toList) (hb : ∀ c, c < K → way t.mask h c ∈ t.place.toList) {Q : SetFound → Shared → Prop}
    (hin : ∀ (i : Nat) (p : Addr × List κ), L[i]? = some p → p.2 = k → Q (.there (if adding then none else some i)) s) (hout : k ∉ L.map (·.2) → Q (.free (way t.mask h K) false) s) :
    ∀ (f c : Nat) (stand : Option SetTable.Probe), stand.getD (t.probeStart h) = pb t h c → c ≤ K → K - c < f →
      (∀ (i : Nat) (p : Addr × List κ), L[i]? = some p → p.2 = k → ∃ d, c ≤ d ∧ d < K ∧ t.place.toList[i]? = some (way t.mask h d)) →
      wpAny (model P w) A (setSearchFrom a (.ref x) h adding f stand) Q E s
  | 0, c, _, _, _, hf, _ => absurd hf (Nat.not_lt_zero _)
  | f + 1, c, stand, hst, hc, hfu, hre => by
    obtain ⟨o, ho, hex, hd⟩ := R.ob
    have hat : ∀ (i : Nat) (p : Addr × List κ), L[i]? = some p → p.2 = k → (es[i]?.map (·.1)).getD 0 = h := fun i p hp e => by rw [R.ent hp, hh, ← e] <;> rfl
    rw [setSearchFrom_succ]
    refine wpAny_bind (wpAny_setState_of ho hd R.fits ?_)
    dsimp only
    refine wp_if_neg R.gw ?_
    try refine wpAny_bind (wpAny_pure ?_)
    rw [hst]
    rcases pb_meets R.tab (fun i => (es[i]?.map (·.1)).getD 0) hc hf hK hb with ⟨d, i, d1, d2, hi, he, hno, e⟩ | ⟨hno, e⟩
    · rw [e]
      dsimp only
      have hil : i < L.length := by
        have q := (List.getElem?_eq_some_iff.mp hi).1
        rw [Array.length_toList, R.place] at q
        exact q
      obtain ⟨p, hp⟩ : ∃ p, L[i]? = some p := ⟨_, List.getElem?_eq_getElem hil⟩
      have hm : p ∈ L := List.mem_of_getElem? hp
      have rest : wpAny (model P w) A (searchRest a (.ref x) h adding f es t (way t.mask h d) i (pb t h (d + 1))) Q E s := by
        unfold searchRest
        rw [R.ent hp]
        dsimp only
        refine wpAny_bind (wpAny_holding (wpAny_eqBool_tuple hu (R.tup p hm) hx ?_))
        refine wpAny_bind (wpAny_setState_of ho hd R.fits ?_)
        dsimp only
        have hsl : t.slot (way t.mask h d) = .live i := slot_live R.tab.ris hi
        by_cases hkk : p.2 = k
        · have q := hin i p hp hkk
          cases adding with
          | true => exact wp_if_pos (by simp [hkk]) (wpAny_pure q)
          | false =>
            refine wp_if_neg (by simp) ?_
            try refine wpAny_bind (wpAny_pure ?_)
            rw [sameMem]
            dsimp only
            simp only [if_true, hsl, R.ent hp]
            refine wpAny_bind (wpAny_isSame_ref_self (wpAny_bind (wpAny_pure ?_)))
            simp only [if_true]
            exact wp_if_pos (by simp [hkk]) (wpAny_pure q)
        · refine wp_if_neg (by simp [hkk]) ?_
          try refine wpAny_bind (wpAny_pure ?_)
          rw [sameMem]
          dsimp only
          simp only [if_true, hsl, R.ent hp]
          refine wpAny_bind (wpAny_isSame_ref_self (wpAny_bind (wpAny_pure ?_)))
          simp only [if_true]
          refine wp_if_neg (by simp [hkk]) (ts_from C R hx hu hh hf hK hb hin hout f (d + 1) _ rfl d2 (by omega) fun i0 p0 h0 hk0 => ?_)
          obtain ⟨d', a1, a2, a3⟩ := hre i0 p0 h0 hk0
          refine ⟨d', ?_, a2, a3⟩
          rcases Nat.lt_trichotomy d' d with z | z | z
          · exact absurd (hat i0 p0 h0 hk0) (hno d' i0 a1 z a3)
          · rw [z] at a3
            have s0 := (slot_live R.tab.ris a3).symm.trans hsl
            injection s0 with s0
            rw [s0, hp] at h0
            exact absurd ((congrArg Prod.snd (Option.some.inj h0)).trans hk0) hkk
          · exact z
      by_cases hl : t.led = true
      · refine wp_if_neg (by simp [hl]) ?_
        try refine wpAny_bind (wpAny_pure ?_)
        exact rest
      · refine wp_if_pos (by simp [hl]) (wpAny_bind (calm_seen C hx (fun y hy => ?_) ?_))
        · obtain ⟨e, he, ee⟩ := List.mem_map.mp hy
          have he1 : e ∈ es ∧ e.1 = h := by simpa using he
          have he2 : e ∈ es.toList := by simpa using he1.1
          rw [R.rows] at he2
          obtain ⟨p2, hp2, e2⟩ := List.mem_map.mp he2
          exact ⟨p2.2, p2.1, by rw [← ee, ← e2], R.tup p2 hp2⟩
        · refine wp_if_neg (by decide) ?_
          try refine wpAny_bind (wpAny_pure ?_)
          exact rest
    · rw [e]
      dsimp only
      refine wpAny_pure (hout fun hm => ?_)
      obtain ⟨p0, h0, hk0⟩ := List.mem_map.mp hm
      obtain ⟨i0, hi0, e0⟩ := List.getElem_of_mem h0
      have h00 : L[i0]? = some p0 := by rw [List.getElem?_eq_getElem hi0, e0]
      obtain ⟨d, a1, a2, a3⟩ := hre i0 p0 h00 hk0
      exact hno d i0 a1 a2 a3 (hat i0 p0 h00 hk0)
/-- THE SEARCH, adding or asking -/
theorem ts_search (C : Calm knd) (R : Ts knd s.heap a L es ep t) {x : Addr} {k : List κ} (hx : IsTupleKey knd s.heap k x) (hu : A.units < cLine) {adding : Bool} {Q : SetFound → Shared → Prop}
    (hin : ∀ (i : Nat) (p : Addr × List κ), L[i]? = some p → p.2 = k → Q (.there (if adding then none else some i)) s)
    (hout : ∀ K, k ∉ L.map (·.2) → way t.mask (tupleKeyHash knd k) K ∉ t.place.toList → (∀ c, c < K → way t.mask (tupleKeyHash knd k) c ∈ t.place.toList) → Q (.free (way t.mask (tupleKeyHash knd k) K) false) s) :
    wpAny (model P w) A (setSearch a (.ref x) (tupleKeyHash knd k) adding) Q E s := by
  have room := R.room
  obtain ⟨K, hf, hK, hb⟩ := R.tab.first (by rw [List.length_map]; omega) (tupleKeyHash knd k)
  have big : 10 * SetTable.turns t.mask ≤ 1420 := by
    unfold SetTable.turns
    rcases R.tab.mok with e | e | e <;> omega
  refine ts_from C R hx hu rfl hf hK hb hin (fun hn => hout K hn hK hb) 100000 0 none rfl (Nat.zero_le _) (by omega) fun i p hp hk => ?_
  have hil : i < t.place.toList.length := by
    rw [Array.length_toList, R.place]
    exact (List.getElem?_eq_some_iff.mp hp).1
  have hj := List.getElem?_eq_getElem hil
  obtain ⟨d, hd, e⟩ := R.tab.before (h := tupleKeyHash knd k) hK (by rw [List.getElem?_map, hp, ← hk] <;> rfl) hj
  exact ⟨d, Nat.zero_le _, hd, by rw [hj, e]⟩
end
end K70
/-! Ku2: adding to a set of tuples of calm keys. -/
namespace K70
open PySem PySem.Spec PyProof.Rows L2
theorem some_range {α : Type} (L : List α) : (List.range L.length).filterMap (fun i : Nat => L[i]?) = L := by
  have e : (List.range L.length).map (fun i : Nat => L[i]?) = L.map some := List.ext_getElem (by simp) fun i h1 h2 => by
    simp only [List.length_map, List.length_range] at h1
    simp [List.getElem?_eq_getElem h1]
  have q : ((List.range L.length).map (fun i : Nat => L[i]?)).filterMap id = (L.map some).filterMap id := by rw [e]
  rw [List.filterMap_map, List.filterMap_map] at q
  exact q.trans (List.filterMap_some (l := L))
section
variable {P : Program} {w : World} {A : Around} {E : Value → Shared → Prop} {s : Shared} {κ : Type} [DecidableEq κ] {knd : KeyKind P w κ}
variable {a : Addr} {L : List (Addr × List κ)} {es : Array (Int × Value)} {ep : Nat} {t : SetTable}
theorem key_same {h h' : Heap} {k : List κ} {b : Addr} {o : Obj} (hb : IsTupleKey knd h k b) (ho : h.get? a = some o) (hd : o.data = .set es ep t) (hs : Heap.SameBut a h h') : IsTupleKey knd h' k b := by
  obtain ⟨o', items, n, ho', hc, hd', hi⟩ := hb
  have hne : b ≠ a := fun e => by
    rw [e, ho] at ho'
    cases ho'
    rw [hd] at hd'
    exact nomatch hd'
  exact ⟨o', items, n, (hs.2 b hne).trans ho', hc, hd', hi⟩
/-- the elements in the table's new order -/
theorem rows_order {order : Array Nat} (hr : es.toList = rowsT knd L) (hp : order.toList.Perm (List.range L.length)) :
    ∃ L2, (order.filterMap (es[·]?)).toList = rowsT knd L2 ∧ L2.Perm L ∧ (L2.map fun p => tupleKeyHash knd p.2) = order.toList.map fun i => (es.map (·.1)).getD i 0 := by
  have ent : ∀ i : Nat, es[i]? = (L[i]?).map fun p : Addr × List κ => (tupleKeyHash knd p.2, Value.ref p.1) := fun i => by
    rw [← Array.getElem?_toList, hr]
    exact List.getElem?_map ..
  refine ⟨order.toList.filterMap fun i : Nat => L[i]?, ?_, ?_, ?_⟩
  · unfold rowsT
    rw [Array.toList_filterMap, List.map_filterMap]
    exact congrArg (fun f => List.filterMap f order.toList) (funext ent)
  · have q := hp.filterMap (fun i : Nat => L[i]?)
    rw [some_range] at q
    exact q
  · have hin : ∀ i ∈ order.toList, i < L.length := fun i hi => List.mem_range.mp (hp.mem_iff.mp hi)
    generalize order.toList = l at hin
    induction l with
    | nil => rfl
    | cons i l ih =>
      have hi := hin i List.mem_cons_self
      have e := ent i
      rw [List.getElem?_eq_getElem hi] at e
      rw [List.filterMap_cons_some (List.getElem?_eq_getElem hi), List.map_cons, List.map_cons, ih fun j hj => hin j (List.mem_cons_of_mem _ hj)]
      refine congrArg (· :: _) ?_
      rw [Array.getD_eq_getD_getElem?, Array.getElem?_map, e] <;> rfl
/-- a set whose table may be over-full -/
structure Tw (knd : KeyKind P w κ) (h : Heap) (a : Addr) (L : List (Addr × List κ)) (es : Array (Int × Value)) (ep : Nat) (t : SetTable) : Prop where
  ob : ∃ o, h.get? a = some o ∧ o.ExactSet ∧ o.data = .set es ep t
  rows : es.toList = rowsT knd L
  tab : TabOk t (L.map fun p => tupleKeyHash knd p.2)
  nd : (L.map (·.2)).Nodup
  tup : ∀ p ∈ L, IsTupleKey knd h p.2 p.1
  led : w.params.followText "set-order" = true ∨ t.led = true
  cap : L.length ≤ t.mask
theorem Tw.ts (R : Tw knd s.heap a L es ep t) (h : L.length * 5 < t.mask * 3) : Ts knd s.heap a L es ep t := ⟨R.ob, R.rows, R.tab, R.nd, R.tup, R.led, h⟩
theorem tw_relay (R : Tw knd s.heap a L es ep t) {wanted M : Nat} (hw : SetTable.sizeAbove wanted - 1 = M) (hM : MaskOk M) (hw2 : SetTable.sizeAbove wanted ≤ 128) (hn : L.length * 5 < M * 3) {Q : Unit → Shared → Prop}
    (hQ : ∀ h' L' es' ep' t', Heap.SameBut a s.heap h' → Ts knd h' a L' es' ep' t' → L'.Perm L → Q () { s with heap := h' }) : wpAny (model P w) A (setRelay a wanted) Q E s := by
  obtain ⟨o, ho, hex, hd⟩ := R.ob
  have hsl : es.size = L.length := rows_len R.rows
  have hp : t.place.size = L.length := R.tab.sz.trans (List.length_map ..)
  obtain ⟨t', order, e, hpm, T, em, el, epl, _⟩ := relaid_ok t (hs := es.map (·.1)) (wanted := wanted) hw hM (by rw [Array.size_map, hsl]; omega)
  rw [Array.size_map, hsl] at hpm
  obtain ⟨L2, r1, r2, r3⟩ := rows_order R.rows hpm
  rw [← r3] at T
  have hs2 : (order.filterMap (es[·]?)).size = L.length := (rows_len r1).trans r2.length_eq
  rw [setRelay_eq]
  refine wpAny_bind (wpAny_setState_of ho hd (fits_of R.tab.dm (by rw [hsl]; exact hp) (by rw [hsl]; exact R.cap)) ?_)
  dsimp only
  refine wp_if_neg (by rw [sizeLine_eq]; omega) ?_
  try refine wpAny_bind (wpAny_pure ?_)
  rw [e]
  dsimp only
  refine wpAny_bind (wp_if_neg (by rw [hs2, hsl]; simp) ?_)
  try refine wpAny_bind (wpAny_pure ?_)
  refine wpAny_pure ?_
  dsimp only
  have hbd : L.length ≤ 128 := by
    rcases hM with q | q | q <;> omega
  refine wpAny_storeSet_of ho hd ?_ (by rw [hs2, sizeLine_eq]; omega)
  have sb : Heap.SameBut a s.heap (s.heap.update a (Obj.putSet (order.filterMap (es[·]?)) t')) := Heap.SameBut.update ..
  exact hQ _ L2 _ (ep + 1) t' sb ⟨⟨_, store_at ho hd, ⟨hex.1, hex.2.1, hex.2.2⟩, rfl⟩, r1, T, (r2.map (·.2)).nodup_iff.mpr R.nd, fun p hpm => key_same (R.tup p (r2.mem_iff.mp hpm)) ho hd sb, by rw [el]; exact R.led, by rw [r2.length_eq, em]; exact hn⟩ r2
/-- ADDING -/
theorem ts_add (C : Calm knd) (R : Ts knd s.heap a L es ep t) {x : Addr} {k : List κ} (hx : IsTupleKey knd s.heap k x) (hu : A.units < cLine) (hfew : L.length < 76) {Q : Bool → Shared → Prop}
    (hold : k ∈ L.map (·.2) → Q false s)
    (hnew : k ∉ L.map (·.2) → ∀ h' L' es' ep' t', Heap.SameBut a s.heap h' → Ts knd h' a L' es' ep' t' → L'.Perm ((x, k) :: L) → Q true { s with heap := h' }) :
    wpAny (model P w) A (setAddHashed a (.ref x) (tupleKeyHash knd k)) Q E s := by
  obtain ⟨o, ho, hex, hd⟩ := R.ob
  have hsl := R.size
  have room := R.room
  unfold setAddHashed
  refine wpAny_holding ?_
  rw [show (100000 : Nat) = 99999 + 1 from rfl, setAddHashedIn_succ]
  refine wpAny_bind (wpAny_setState_of ho hd R.fits ?_)
  dsimp only
  refine wp_if_neg (by simp [byScan, Value.scannable]) ?_
  try refine wpAny_bind (wpAny_pure ?_)
  refine wpAny_bind (ts_search C R hx hu (fun i p hp hk => ?_) fun K hm hK hb => ?_)
  · exact wpAny_pure (hold (List.mem_map.mpr ⟨p, List.mem_of_getElem? hp, hk⟩))
  · dsimp only
    refine wpAny_bind (wpAny_setState_of ho hd R.fits ?_)
    dsimp only
    obtain ⟨q1, q2, T, em, el, epl, _, _, efl⟩ := R.tab.put hK hb
    generalize t.put (way t.mask (tupleKeyHash knd k) K) = pt at q1 T em el epl efl ⊢
    obtain ⟨t1, p⟩ := pt
    dsimp only at q1 T em el epl efl ⊢
    subst q1
    have go1 : ∀ r : Bool, ∃ t2 : SetTable, (if r = true then t1 else { t1 with plain := false }) = t2 ∧ TabOk t2 (List.take (SetTable.below t.place (way t.mask (tupleKeyHash knd k) K)) (L.map fun p => tupleKeyHash knd p.2) ++ tupleKeyHash knd k :: List.drop (SetTable.below t.place (way t.mask (tupleKeyHash knd k) K)) (L.map fun p => tupleKeyHash knd p.2)) ∧ t2.mask = t.mask ∧ t2.led = t.led ∧ t2.fill = t1.fill := fun r => by
      cases r with
      | true => exact ⟨_, rfl, T, em, el, rfl⟩
      | false => exact ⟨_, rfl, ⟨T.ris, T.dm, T.sz, T.mok, T.bd, T.reach⟩, em, el, rfl⟩
    have both : ∃ t2 : SetTable, (∀ {R : SetTable → Sem Bool}, wpAny (model P w) A (R t2) Q E s → True) := ⟨t1, fun _ => trivial⟩
    by_cases hp1 : t1.plain = true
    · refine wp_if_pos hp1 (wpAny_bind (calm_hsh C hx fun r => ?_))
      obtain ⟨t2, e2, T2, em2, el2, efl2⟩ := go1 r
      rw [e2]
      rw [← efl2] at efl
      clear T em el epl go1 e2 efl2 both hp1
      revert T2 em2 el2 efl
      generalize t2 = t1
      intro efl T em el
      generalize SetTable.below t.place (way t.mask (tupleKeyHash knd k) K) = p at q2 T ⊢
      have pm : (L.take p ++ (x, k) :: L.drop p).Perm ((x, k) :: L) := by
        have q := List.perm_middle (a := (x, k)) (l₁ := L.take p) (l₂ := L.drop p)
        rw [List.take_append_drop] at q
        exact q
      have hin : (SetTable.insertAt es p (tupleKeyHash knd k, Value.ref x)).toList = rowsT knd (L.take p ++ (x, k) :: L.drop p) := by
        rw [SetTable.toList_insertAt, R.rows]
        unfold rowsT
        rw [List.map_append, List.map_cons, List.map_take, List.map_drop]
      have T1 : TabOk t1 ((L.take p ++ (x, k) :: L.drop p).map fun p => tupleKeyHash knd p.2) := by
        rw [List.map_append, List.map_cons, List.map_take, List.map_drop]
        exact T
      generalize SetTable.insertAt es p (tupleKeyHash knd k, Value.ref x) = es1 at hin ⊢
      generalize L.take p ++ (x, k) :: L.drop p = L1 at pm hin T1
      have hl1 : L1.length = L.length + 1 := pm.length_eq
      have hes : es1.size = L.length + 1 := (rows_len hin).trans hl1
      refine wpAny_bind (wpAny_storeSet_of ho hd ?_ (by rw [hes, sizeLine_eq]; omega))
      have sb : Heap.SameBut a s.heap (s.heap.update a (Obj.putSet es1 t1)) := Heap.SameBut.update ..
      have ho1 := store_at (es' := es1) (t' := t1) ho hd
      generalize s.heap.update a (Obj.putSet es1 t1) = h1 at sb ho1 ⊢
      have W : Tw knd h1 a L1 es1 (ep + 1) t1 := ⟨⟨_, ho1, ⟨hex.1, hex.2.1, hex.2.2⟩, rfl⟩, hin, T1, (pm.map (·.2)).nodup_iff.mpr (by rw [List.map_cons]; exact List.nodup_cons.mpr ⟨hm, R.nd⟩), fun p hp => by
        rcases List.mem_cons.mp (pm.mem_iff.mp hp) with e | hp
        · rw [e]; exact key_same hx ho hd sb
        · exact key_same (R.tup p hp) ho hd sb, by rw [el]; exact R.led, by rw [hl1, em]; omega⟩
      have full : t1.tooFull = decide ((L.length + 1) * 5 ≥ t.mask * 3) := by
        unfold SetTable.tooFull
        rw [efl, em, List.length_map]
      by_cases hf : (L.length + 1) * 5 ≥ t.mask * 3
      · have ht : t1.tooFull = true := by rw [full]; exact decide_eq_true hf
        first
          | (refine wpAny_bind ?_; refine wp_if_pos (by simp [ht]) ?_)
          | (refine wp_if_pos (by simp [ht]) ?_; refine wpAny_bind ?_)
        rw [hsl]
        have go : ∀ M, SetTable.sizeAbove (SetTable.grown (L.length + 1)) - 1 = M → MaskOk M → SetTable.sizeAbove (SetTable.grown (L.length + 1)) ≤ 128 → (L.length + 1) * 5 < M * 3 →
            wpAny (model P w) A (setRelay a (SetTable.grown (L.length + 1))) (fun _ s' => wpAny (model P w) A (pure true) Q E s') E { s with heap := h1 } := fun M a1 a2 a3 a4 =>
          tw_relay (s := { s with heap := h1 }) W a1 a2 a3 (by rw [hl1]; exact a4) fun h2 L2 es2 ep2 t2 sb2 R2 pm2 => wpAny_pure (hnew hm h2 L2 es2 ep2 t2 (sb.trans sb2) R2 (pm2.trans pm))
        rcases R.tab.mok with e | e | e
        · have e2 : L.length = 4 := by omega
          exact go 31 (by rw [e2, size_20]) (.inr (.inl rfl)) (by rw [e2, size_20]; decide) (by omega)
        · have e2 : L.length = 18 := by omega
          exact go 127 (by rw [e2, size_76]) (.inr (.inr rfl)) (by rw [e2, size_76]; decide) (by omega)
        · omega
      · have ht : ¬ t1.tooFull = true := by rw [full]; simpa using hf
        first
          | refine wp_if_neg (by simp [ht]) ?_
          | (refine wpAny_bind ?_; refine wp_if_neg (by simp [ht]) ?_; refine wpAny_pure ?_)
        exact wpAny_pure (hnew hm h1 L1 es1 (ep + 1) t1 sb (W.ts (s := { s with heap := h1 }) (by rw [hl1, em]; omega)) pm)
    · refine wp_if_neg hp1 ?_
      try refine wpAny_bind (wpAny_pure ?_)
      try simp only [if_true]
      clear both go1 hp1
      generalize SetTable.below t.place (way t.mask (tupleKeyHash knd k) K) = p at q2 T ⊢
      have pm : (L.take p ++ (x, k) :: L.drop p).Perm ((x, k) :: L) := by
        have q := List.perm_middle (a := (x, k)) (l₁ := L.take p) (l₂ := L.drop p)
        rw [List.take_append_drop] at q
        exact q
      have hin : (SetTable.insertAt es p (tupleKeyHash knd k, Value.ref x)).toList = rowsT knd (L.take p ++ (x, k) :: L.drop p) := by
        rw [SetTable.toList_insertAt, R.rows]
        unfold rowsT
        rw [List.map_append, List.map_cons, List.map_take, List.map_drop]
      have T1 : TabOk t1 ((L.take p ++ (x, k) :: L.drop p).map fun p => tupleKeyHash knd p.2) := by
        rw [List.map_append, List.map_cons, List.map_take, List.map_drop]
        exact T
      generalize SetTable.insertAt es p (tupleKeyHash knd k, Value.ref x) = es1 at hin ⊢
      generalize L.take p ++ (x, k) :: L.drop p = L1 at pm hin T1
      have hl1 : L1.length = L.length + 1 := pm.length_eq
      have hes : es1.size = L.length + 1 := (rows_len hin).trans hl1
      refine wpAny_bind (wpAny_storeSet_of ho hd ?_ (by rw [hes, sizeLine_eq]; omega))
      have sb : Heap.SameBut a s.heap (s.heap.update a (Obj.putSet es1 t1)) := Heap.SameBut.update ..
      have ho1 := store_at (es' := es1) (t' := t1) ho hd
      generalize s.heap.update a (Obj.putSet es1 t1) = h1 at sb ho1 ⊢
      have W : Tw knd h1 a L1 es1 (ep + 1) t1 := ⟨⟨_, ho1, ⟨hex.1, hex.2.1, hex.2.2⟩, rfl⟩, hin, T1, (pm.map (·.2)).nodup_iff.mpr (by rw [List.map_cons]; exact List.nodup_cons.mpr ⟨hm, R.nd⟩), fun p hp => by
        rcases List.mem_cons.mp (pm.mem_iff.mp hp) with e | hp
        · rw [e]; exact key_same hx ho hd sb
        · exact key_same (R.tup p hp) ho hd sb, by rw [el]; exact R.led, by rw [hl1, em]; omega⟩
      have full : t1.tooFull = decide ((L.length + 1) * 5 ≥ t.mask * 3) := by
        unfold SetTable.tooFull
        rw [efl, em, List.length_map]
      by_cases hf : (L.length + 1) * 5 ≥ t.mask * 3
      · have ht : t1.tooFull = true := by rw [full]; exact decide_eq_true hf
        first
          | (refine wpAny_bind ?_; refine wp_if_pos (by simp [ht]) ?_)
          | (refine wp_if_pos (by simp [ht]) ?_; refine wpAny_bind ?_)
        rw [hsl]
        have go : ∀ M, SetTable.sizeAbove (SetTable.grown (L.length + 1)) - 1 = M → MaskOk M → SetTable.sizeAbove (SetTable.grown (L.length + 1)) ≤ 128 → (L.length + 1) * 5 < M * 3 →
            wpAny (model P w) A (setRelay a (SetTable.grown (L.length + 1))) (fun _ s' => wpAny (model P w) A (pure true) Q E s') E { s with heap := h1 } := fun M a1 a2 a3 a4 =>
          tw_relay (s := { s with heap := h1 }) W a1 a2 a3 (by rw [hl1]; exact a4) fun h2 L2 es2 ep2 t2 sb2 R2 pm2 => wpAny_pure (hnew hm h2 L2 es2 ep2 t2 (sb.trans sb2) R2 (pm2.trans pm))
        rcases R.tab.mok with e | e | e
        · have e2 : L.length = 4 := by omega
          exact go 31 (by rw [e2, size_20]) (.inr (.inl rfl)) (by rw [e2, size_20]; decide) (by omega)
        · have e2 : L.length = 18 := by omega
          exact go 127 (by rw [e2, size_76]) (.inr (.inr rfl)) (by rw [e2, size_76]; decide) (by omega)
        · omega
      · have ht : ¬ t1.tooFull = true := by rw [full]; simpa using hf
        first
          | refine wp_if_neg (by simp [ht]) ?_
          | (refine wpAny_bind ?_; refine wp_if_neg (by simp [ht]) ?_; refine wpAny_pure ?_)
        exact wpAny_pure (hnew hm h1 L1 es1 (ep + 1) t1 sb (W.ts (s := { s with heap := h1 }) (by rw [hl1, em]; omega)) pm)
end
end K70
/-! Ku3: set(list) and set(tuple), whatever an adding does (Z tells what stands after i items). -/
namespace K70
open PySem PySem.Spec PyProof.Rows L2
abbrev newSetO (w : World) : Obj := { cls := .type "set", dict := none, data := .set #[] 0 (.fresh 0 0 (!w.params.followText "set-order")) }
section
variable {P : Program} {w : World} {A : Around} {E : Value → Shared → Prop} {s : Shared}
theorem su_loop {I : Addr} {fp wr : List Addr} {G : Array GenState → Array GenState → Prop} {n : Nat} {Pv : Nat → Value → Prop} {St : Nat → Shared → Prop} {R : Result → Shared → Prop}
    (W : WalksS P w A.in1 I fp wr G n Pv St) (S : Addr) (hSf : S ∉ fp) (Z : Nat → Heap → Prop) (move : ∀ i h h', (∀ b o, b ∉ wr → h.get? b = some o → h'.get? b = some o) → Z i h → Z i h')
    (turn : ∀ i v s (E : Value → Shared → Prop) (Q : Bool → Shared → Prop), i < n → Pv i v → Z i s.heap → (∀ b h' tk, Heap.SameBut S s.heap h' → s.toks ≤ tk → Z (i + 1) h' → Q b { s with heap := h', toks := tk }) → wpAny (model P w) A.in1 (setAdd S v) Q E s) :
    ∀ (k i : Nat) (s : Shared), n - i = k → i ≤ n → St i s → Z i s.heap → (∀ s', Moved (S :: wr) G s s' → Z n s'.heap → R (.ok (.ret .none)) s') → codeAny (model P w) A (.builtin "set.update.loop" ⟨[.ref S, .ref I], []⟩) R s := by
  have hsub : ∀ b ∈ wr, b ∈ S :: wr := fun b hb => List.mem_cons_of_mem _ hb
  intro k
  induction k with
  | zero =>
    intro i s hk hi hst hz hR
    have hin : i = n := by omega
    subst hin
    refine codeAny_builtin F.entry_set_update_loop ?_
    rw [Around.under_plainId F.plain_set_update_loop _]
    show wpAny _ A.in1 (pyNext (.ref I) >>= _) _ _ s
    refine wpAny_bind (W.done s _ _ hst fun s' hm => ?_)
    show wpAny _ A.in1 (ret Value.none) _ _ s'
    exact wpAny_pure (hR s' (hm.mono hsub) (move _ _ _ (fun b o hb e => hm.heap b o hb e) hz))
  | succ k ih =>
    intro i s hk hi hst hz hR
    have hlt : i < n := by omega
    refine codeAny_builtin F.entry_set_update_loop ?_
    rw [Around.under_plainId F.plain_set_update_loop _]
    show wpAny _ A.in1 (pyNext (.ref I) >>= _) _ _ s
    refine wpAny_bind (W.item i s _ _ hlt hst fun v s' hP hst' hm => ?_)
    show wpAny _ A.in1 (holding [v] (setAdd S v) >>= _) _ _ s'
    refine wpAny_bind (wpAny_holding (turn i v s' _ _ hlt hP (move _ _ _ (fun b o hb e => hm.heap b o hb e) hz) fun b h' tk sb htk hz' => ?_))
    refine wpAny_pure ⟨plainId_quiet F.plain_set_update_loop _, ih (i + 1) _ (by omega) hlt (W.frame _ s' _ _ hst' htk fun b hb o e => ?_) hz' fun s'' hm'' hz'' => ?_⟩
    · rw [sb.2 b (fun h : b = S => hSf (by rw [← h]; exact hb))]; exact e
    · refine hR s'' (Moved.trans W.gtrans ((hm.mono hsub).then_heap htk fun b o hb e => ?_) hm'') hz''
      rw [sb.2 b (fun h : b = S => hb (by rw [h]; exact List.mem_cons_self))]; exact e

set_option maxHeartbeats 3200000 in
/-- set(list) -/
theorem call_setZ_list {l : Addr} {items : Array Value} {Q : Value → Shared → Prop} (hh : A.handled = none) (hl : s.heap.IsList l items) (Z : Nat → Heap → Prop)
    (move : ∀ i h h', (∀ b o, b ≤ s.heap.objs.size → h.get? b = some o → h'.get? b = some o) → Z i h → Z i h')
    (zero : ∀ h', h'.get? s.heap.objs.size = some (newSetO w) → (∀ b o, s.heap.get? b = some o → h'.get? b = some o) → Z 0 h')
    (turn : ∀ i v s' (E : Value → Shared → Prop) (Q : Bool → Shared → Prop), i < items.size → items[i]? = some v → Z i s'.heap → (∀ b h' tk, Heap.SameBut s.heap.objs.size s'.heap h' → s'.toks ≤ tk → Z (i + 1) h' → Q b { s' with heap := h', toks := tk }) → wpAny (model P w) A.in1.in1.in1 (setAdd s.heap.objs.size v) Q E s')
    (h : ∀ (h' : Heap) (tk : Nat), Z items.size h' → (∀ b o, s.heap.get? b = some o → h'.get? b = some o) → Q (.ref s.heap.objs.size) { s with heap := h', toks := tk }) :
    wpAny (model P w) A (call (.type "set") [.ref l]) Q E s := by
  obtain ⟨c, tl, hmro⟩ := F.called_set.mro
  have hmade := F.called_set.made
  have hsub := F.called_set.sub
  refine wpAny_call (codeAny_of_tree ?_)
  show wpAny _ _ (callAny (.type "set") _) _ _ _
  refine wpAny_pure ⟨Code.quiet_builtin _ (by decide +kernel), codeAny_builtin F.entry_type_call ?_⟩
  rw [Around.under_plain (weight_type_call_type "set" [.ref l] []) rfl]
  have h1 := F.called_set.notType
  have h2 := F.called_set.canCreate
  have hct := F.typeCall_set_1 (.ref l)
  repeat (any_goals (first | assumption | wp_step))
  refine codeAny_mono (code_set_led1 (.ref l) (E := E) (Q₁ := fun obj s₁ => obj = .ref s.heap.objs.size ∧ s₁ = { s with heap := s.heap.push (newSetO w) }) ⟨rfl, rfl⟩) fun r s₁ hr => ?_
  cases r with
  | error e => exact hr
  | ok fl =>
    cases fl with
    | ret obj =>
      obtain ⟨rfl, rfl⟩ := hr
      have hS : (s.heap.push (newSetO w)).get? s.heap.objs.size = some (newSetO w) := Heap.get?_push_size _ rfl
      have hT : Shared.TypeIs { s with heap := s.heap.push (newSetO w) } (.ref s.heap.objs.size) "set" := ⟨_, hS, rfl⟩
      have hli := F.called_set.init.lookup
      have hbi := F.called_set.init.bind (.ref s.heap.objs.size)
      repeat (any_goals (first | assumption | wp_step))
      refine codeAny_mono (codeAny_call_builtin (R := wants (fun r s₂ => r = .none ∧ ∃ h' tk, s₂ = { s with heap := h', toks := tk } ∧ Z items.size h' ∧ (∀ b o, s.heap.get? b = some o → h'.get? b = some o)) E) F.called_set.init.plain F.entry_set_init (check_set_init_1 hT ?_)) fun r₂ s₂ hr₂ => ?_
      · obtain ⟨ol, hol, hcl, nl, hdl⟩ := hl
        obtain ⟨ocls, odict, odata, oslots⟩ := ol
        simp only at hcl hdl
        subst hcl; subst hdl
        have hol' : (s.heap.push (newSetO w)).get? l = some { cls := .type "list", dict := odict, data := .seq items nl, slots := oslots } := Heap.get?_push_of_some _ hol
        have hsls := F.sub_list_set
        have hslf := F.sub_list_frozenset
        have hne : (Value.type "list" == Value.type "dict") = false := by decide
        have hl1 : (s.heap.push (newSetO w)).IsList l items := ⟨_, hol', rfl, nl, rfl⟩
        unfold Builtin.«set.__init__» noKeywords Builtin.Frozenset.updateFrom
        generalize hPI : pyIter = PI
        wp_walk
        subst hPI
        refine wpAny_pyIter_list hl1 ?_
        refine wpAny_bind (wpAny_runValue ?_)
        have hlS : l < s.heap.objs.size := Heap.lt_size hol
        have hz1 : (s.heap.push (newSetO w)).objs.size = s.heap.objs.size + 1 := Heap.size_push ..
        have hh3 : A.in1.in1.in1.handled = none := by simp [hh]
        have hneI : l ≠ (s.heap.push (newSetO w)).objs.size := by rw [hz1]; exact Nat.ne_of_lt (Nat.lt_succ_of_lt hlS)
        refine su_loop ((Walks.list hh3 _ l hneI items).toS) s.heap.objs.size (by
          rw [hz1]; simp only [List.mem_cons, List.mem_singleton, List.not_mem_nil, or_false, not_or]
          exact ⟨Nat.ne_of_lt (Nat.lt_succ_self _), Nat.ne_of_gt hlS⟩) Z (fun i h h' k => move i h h' fun b o hb e => k b o (fun hm => by
            have q := List.mem_singleton.mp hm
            rw [hz1] at q
            exact absurd hb (by rw [q]; exact Nat.not_succ_le_self _)) e)
          turn (items.size - 0) 0 _ (by omega) (Nat.zero_le _) ⟨⟨_, Heap.get?_push_size _ rfl, rfl, rfl⟩, (hl1.push _)⟩ (zero _ (Heap.get?_push_of_some _ hS) fun b o e => Heap.get?_push_of_some _ (Heap.get?_push_of_some _ e)) fun s' hm hz => ?_
        obtain ⟨h', g2, d', tk', os'⟩ := s'
        have eg : g2 = s.gens := hm.gens
        have ed : d' = s.drawn := hm.drawn
        have eo : os' = s.os := hm.os
        subst eg; subst ed; subst eo
        show wpAny _ _ _ _ _ _
        refine wpAny_pure ?_
        show wpAny _ _ (ret Value.none) _ _ _
        refine wpAny_pure ⟨rfl, h', tk', rfl, hz, fun b o e => hm.heap b o (fun hb => ?_) (Heap.get?_push_of_some _ (Heap.get?_push_of_some _ e))⟩
        have hlt : b < s.heap.objs.size := Heap.lt_size e
        rcases List.mem_cons.mp hb with q | q
        · rw [q] at hlt; exact Nat.lt_irrefl _ hlt
        · have q := List.mem_singleton.mp q
          rw [hz1] at q
          rw [q] at hlt; exact absurd hlt (Nat.not_lt_of_le (Nat.le_succ _))
      · cases r₂ with
        | error e => exact hr₂
        | ok fl₂ =>
          cases fl₂ with
          | ret r =>
            obtain ⟨rfl, h', tk, rfl, hz, hk'⟩ := hr₂
            repeat (any_goals (first | assumption | wp_step))
            exact h _ _ hz hk'
          | _ => exact hr₂.elim
    | _ => exact hr.elim

/-- set(tuple) -/
theorem call_setZ_tuple {l : Addr} {items : Array Value} {Q : Value → Shared → Prop} (hh : A.handled = none) (hl : s.heap.IsTuple l items) (Z : Nat → Heap → Prop)
    (move : ∀ i h h', (∀ b o, b ≤ s.heap.objs.size → h.get? b = some o → h'.get? b = some o) → Z i h → Z i h')
    (zero : ∀ h', h'.get? s.heap.objs.size = some (newSetO w) → (∀ b o, s.heap.get? b = some o → h'.get? b = some o) → Z 0 h')
    (turn : ∀ i v s' (E : Value → Shared → Prop) (Q : Bool → Shared → Prop), i < items.size → items[i]? = some v → Z i s'.heap → (∀ b h' tk, Heap.SameBut s.heap.objs.size s'.heap h' → s'.toks ≤ tk → Z (i + 1) h' → Q b { s' with heap := h', toks := tk }) → wpAny (model P w) A.in1.in1.in1 (setAdd s.heap.objs.size v) Q E s')
    (h : ∀ (h' : Heap) (tk : Nat), Z items.size h' → (∀ b o, s.heap.get? b = some o → h'.get? b = some o) → Q (.ref s.heap.objs.size) { s with heap := h', toks := tk }) :
    wpAny (model P w) A (call (.type "set") [.ref l]) Q E s := by
  obtain ⟨c, tl, hmro⟩ := F.called_set.mro
  have hmade := F.called_set.made
  have hsub := F.called_set.sub
  refine wpAny_call (codeAny_of_tree ?_)
  show wpAny _ _ (callAny (.type "set") _) _ _ _
  refine wpAny_pure ⟨Code.quiet_builtin _ (by decide +kernel), codeAny_builtin F.entry_type_call ?_⟩
  rw [Around.under_plain (weight_type_call_type "set" [.ref l] []) rfl]
  have h1 := F.called_set.notType
  have h2 := F.called_set.canCreate
  have hct := F.typeCall_set_1 (.ref l)
  repeat (any_goals (first | assumption | wp_step))
  refine codeAny_mono (code_set_led1 (.ref l) (E := E) (Q₁ := fun obj s₁ => obj = .ref s.heap.objs.size ∧ s₁ = { s with heap := s.heap.push (newSetO w) }) ⟨rfl, rfl⟩) fun r s₁ hr => ?_
  cases r with
  | error e => exact hr
  | ok fl =>
    cases fl with
    | ret obj =>
      obtain ⟨rfl, rfl⟩ := hr
      have hS : (s.heap.push (newSetO w)).get? s.heap.objs.size = some (newSetO w) := Heap.get?_push_size _ rfl
      have hT : Shared.TypeIs { s with heap := s.heap.push (newSetO w) } (.ref s.heap.objs.size) "set" := ⟨_, hS, rfl⟩
      have hli := F.called_set.init.lookup
      have hbi := F.called_set.init.bind (.ref s.heap.objs.size)
      repeat (any_goals (first | assumption | wp_step))
      refine codeAny_mono (codeAny_call_builtin (R := wants (fun r s₂ => r = .none ∧ ∃ h' tk, s₂ = { s with heap := h', toks := tk } ∧ Z items.size h' ∧ (∀ b o, s.heap.get? b = some o → h'.get? b = some o)) E) F.called_set.init.plain F.entry_set_init (check_set_init_1 hT ?_)) fun r₂ s₂ hr₂ => ?_
      · obtain ⟨ol, hol, hcl, nl, hdl⟩ := hl
        obtain ⟨ocls, odict, odata, oslots⟩ := ol
        simp only at hcl hdl
        subst hcl; subst hdl
        have hol' : (s.heap.push (newSetO w)).get? l = some { cls := .type "tuple", dict := odict, data := .seq items nl, slots := oslots } := Heap.get?_push_of_some _ hol
        have hsls := F.sub_tuple_set
        have hslf := F.sub_tuple_frozenset
        have hne : (Value.type "tuple" == Value.type "dict") = false := by decide
        have hl1 : (s.heap.push (newSetO w)).IsTuple l items := ⟨_, hol', rfl, nl, rfl⟩
        unfold Builtin.«set.__init__» noKeywords Builtin.Frozenset.updateFrom
        generalize hPI : pyIter = PI
        wp_walk
        subst hPI
        refine wpAny_pyIter_tuple hl1 ?_
        refine wpAny_bind (wpAny_runValue ?_)
        have hlS : l < s.heap.objs.size := Heap.lt_size hol
        have hz1 : (s.heap.push (newSetO w)).objs.size = s.heap.objs.size + 1 := Heap.size_push ..
        have hh3 : A.in1.in1.in1.handled = none := by simp [hh]
        have hneI : l ≠ (s.heap.push (newSetO w)).objs.size := by rw [hz1]; exact Nat.ne_of_lt (Nat.lt_succ_of_lt hlS)
        refine su_loop ((Walks.tuple hh3 _ l hneI items).toS) s.heap.objs.size (by
          rw [hz1]; simp only [List.mem_cons, List.mem_singleton, List.not_mem_nil, or_false, not_or]
          exact ⟨Nat.ne_of_lt (Nat.lt_succ_self _), Nat.ne_of_gt hlS⟩) Z (fun i h h' k => move i h h' fun b o hb e => k b o (fun hm => by
            have q := List.mem_singleton.mp hm
            rw [hz1] at q
            exact absurd hb (by rw [q]; exact Nat.not_succ_le_self _)) e)
          turn (items.size - 0) 0 _ (by omega) (Nat.zero_le _) ⟨⟨_, Heap.get?_push_size _ rfl, rfl, rfl⟩, (hl1.push _)⟩ (zero _ (Heap.get?_push_of_some _ hS) fun b o e => Heap.get?_push_of_some _ (Heap.get?_push_of_some _ e)) fun s' hm hz => ?_
        obtain ⟨h', g2, d', tk', os'⟩ := s'
        have eg : g2 = s.gens := hm.gens
        have ed : d' = s.drawn := hm.drawn
        have eo : os' = s.os := hm.os
        subst eg; subst ed; subst eo
        show wpAny _ _ _ _ _ _
        refine wpAny_pure ?_
        show wpAny _ _ (ret Value.none) _ _ _
        refine wpAny_pure ⟨rfl, h', tk', rfl, hz, fun b o e => hm.heap b o (fun hb => ?_) (Heap.get?_push_of_some _ (Heap.get?_push_of_some _ e))⟩
        have hlt : b < s.heap.objs.size := Heap.lt_size e
        rcases List.mem_cons.mp hb with q | q
        · rw [q] at hlt; exact Nat.lt_irrefl _ hlt
        · have q := List.mem_singleton.mp q
          rw [hz1] at q
          rw [q] at hlt; exact absurd hlt (Nat.not_lt_of_le (Nat.le_succ _))
      · cases r₂ with
        | error e => exact hr₂
        | ok fl₂ =>
          cases fl₂ with
          | ret r =>
            obtain ⟨rfl, h', tk, rfl, hz, hk'⟩ := hr₂
            repeat (any_goals (first | assumption | wp_step))
            exact h _ _ hz hk'
          | _ => exact hr₂.elim
    | _ => exact hr.elim
end
end K70
set_option maxHeartbeats 4000000
/-! Ku4: set(list of tuples of calm keys); asking whether a tuple is in it. -/
namespace K70
open PySem PySem.Spec PyProof.Rows L2
section
variable {P : Program} {w : World} {A : Around} {E : Value → Shared → Prop} {s : Shared} {κ : Type} [DecidableEq κ] {knd : KeyKind P w κ}
variable {a : Addr} {L : List (Addr × List κ)} {es : Array (Int × Value)} {ep : Nat} {t : SetTable}
/-- what a set holds of the first i items -/
structure GotK (ks : List (Addr × List κ)) (i : Nat) (L : List (Addr × List κ)) : Prop where
  sub : ∀ p ∈ L, p ∈ ks.take i
  all : ∀ p ∈ ks.take i, p.2 ∈ L.map (·.2)
  len : L.length ≤ i
theorem GotK.old {ks L : List (Addr × List κ)} {i : Nat} {x : Addr × List κ} (g : GotK ks i L) (h : ks[i]? = some x) (hm : x.2 ∈ L.map (·.2)) : GotK ks (i + 1) L := by
  refine ⟨fun p hp => ?_, fun p hp => ?_, Nat.le_succ_of_le g.len⟩
  · rw [take_next h]; exact List.mem_append_left _ (g.sub p hp)
  · rw [take_next h] at hp
    exact (List.mem_append.mp hp).elim (g.all p) fun z => by rw [List.mem_singleton.mp z]; exact hm
theorem GotK.new {ks L L' : List (Addr × List κ)} {i : Nat} {x : Addr × List κ} (g : GotK ks i L) (h : ks[i]? = some x) (pm : L'.Perm (x :: L)) : GotK ks (i + 1) L' := by
  refine ⟨fun p hp => ?_, fun p hp => ?_, by rw [pm.length_eq]; exact Nat.succ_le_succ g.len⟩
  · rw [take_next h]
    rcases List.mem_cons.mp (pm.mem_iff.mp hp) with e | z
    · exact List.mem_append_right _ (List.mem_singleton.mpr e)
    · exact List.mem_append_left _ (g.sub p z)
  · rw [(pm.map (·.2)).mem_iff, List.map_cons]
    rw [take_next h] at hp
    rcases List.mem_append.mp hp with z | z
    · exact List.mem_cons_of_mem _ (g.all p z)
    · rw [List.mem_singleton.mp z]; exact List.mem_cons_self
theorem Ts.keep {h h' : Heap} (R : Ts knd h a L es ep t) (ha : ∀ o, h.get? a = some o → h'.get? a = some o) (ht : ∀ p ∈ L, IsTupleKey knd h' p.2 p.1) : Ts knd h' a L es ep t := by
  obtain ⟨o, ho, r⟩ := R.ob
  exact ⟨⟨o, ha o ho, r⟩, R.rows, R.tab, R.nd, ht, R.led, R.room⟩
theorem key_keep {h h' : Heap} {k : List κ} {b : Addr} (x : IsTupleKey knd h k b) (hk : ∀ c o, h.get? c = some o → h'.get? c = some o) : IsTupleKey knd h' k b := by
  obtain ⟨o, items, n, ho, r⟩ := x
  exact ⟨o, items, n, hk b o ho, r⟩
theorem ts_new {h : Heap} (ho : h.get? a = some (newSetO w)) : Ts knd h a [] #[] 0 (.fresh 0 0 (!w.params.followText "set-order")) where
  ob := ⟨_, ho, ⟨rfl, rfl, rfl⟩, rfl⟩
  rows := rfl
  tab := ⟨List.Pairwise.nil, rfl, rfl, .inl rfl, fun x hx => (nomatch hx), fun i h j hi => (by simp at hi)⟩
  nd := List.nodup_nil
  tup := fun p hp => (nomatch hp)
  led := by
    show _ ∨ (!w.params.followText "set-order") = true
    cases w.params.followText "set-order"
    · exact .inr rfl
    · exact .inl rfl
  room := by
    show 0 * 5 < 7 * 3
    decide
theorem call_setK (C : Calm knd) {l : Addr} {items : Array Value} (ks : List (Addr × List κ)) {Q : Value → Shared → Prop} (hh : A.handled = none) (hl : s.heap.IsList l items) (hit : items.toList = ks.map fun p => Value.ref p.1)
    (hk : ∀ p ∈ ks, IsTupleKey knd s.heap p.2 p.1) (hfew : ks.length ≤ 76) (hu : A.units + 3 < cLine)
    (h : ∀ (h' : Heap) (tk : Nat) L es ep t, Ts knd h' s.heap.objs.size L es ep t → GotK ks ks.length L → (∀ b o, s.heap.get? b = some o → h'.get? b = some o) → Q (.ref s.heap.objs.size) { s with heap := h', toks := tk }) :
    wpAny (model P w) A (call (.type "set") [.ref l]) Q E s := by
  have hsz : items.size = ks.length := by rw [← Array.length_toList, hit]; exact List.length_map ..
  have none_at : s.heap.get? s.heap.objs.size = none := by
    cases q : s.heap.get? s.heap.objs.size with
    | none => rfl
    | some o => exact absurd (Heap.lt_size q) (Nat.lt_irrefl _)
  refine call_setZ_list hh hl (fun i h' => (∀ b o, s.heap.get? b = some o → h'.get? b = some o) ∧ ∃ L es ep t, Ts knd h' s.heap.objs.size L es ep t ∧ GotK ks i L) ?_ ?_ ?_ ?_
  · intro i h1 h2 k ⟨kp, L, es, ep, t, R, g⟩
    have kp' : ∀ b o, s.heap.get? b = some o → h2.get? b = some o := fun b o e => k b o (Nat.le_of_lt (Heap.lt_size e)) (kp b o e)
    exact ⟨kp', L, es, ep, t, R.keep (fun o e => k _ o (Nat.le_refl _) e) fun p hp => key_keep (hk p (List.mem_of_mem_take (g.sub p hp))) kp', g⟩
  · intro h' e kp
    exact ⟨kp, [], #[], 0, _, ts_new e, fun p hp => (nomatch hp), fun p hp => (by simp at hp), Nat.le_refl _⟩
  · intro i v s' E' Q' hi hv ⟨kp, L, es, ep, t, R, g⟩ q
    have hv' : items.toList[i]? = some v := by rw [Array.getElem?_toList]; exact hv
    rw [hit, List.getElem?_map] at hv'
    cases hp : ks[i]? with
    | none => rw [hp] at hv'; cases hv'
    | some p =>
      rw [hp] at hv'
      obtain rfl := (Option.some.inj hv').symm
      have hx : IsTupleKey knd s'.heap p.2 p.1 := key_keep (hk p (List.mem_of_getElem? hp)) kp
      unfold setAdd
      refine wpAny_holding (wpAny_bind (wpAny_pyHash_tuple hu hx ?_))
      refine ts_add (s := { s' with toks := s'.toks + (p.2.length + 1) }) C R hx hu (by have := g.len; omega) (fun hm => ?_) fun hm h2 L' es' ep' t' sb R2 pm => ?_
      · exact q false s'.heap _ (Heap.SameBut.refl _ _) (Nat.le_add_right _ _) ⟨kp, L, es, ep, t, R, g.old hp hm⟩
      · exact q true h2 _ sb (Nat.le_add_right _ _) ⟨fun b o e => (sb.2 b (fun z => by rw [z, none_at] at e; cases e)).trans (kp b o e), L', es', ep', t', R2, g.new hp pm⟩
  · intro h' tk ⟨kp, L, es, ep, t, R, g⟩ k
    rw [hsz] at g
    exact h h' tk L es ep t R g k
/-- IS IT IN -/
theorem ts_in (C : Calm knd) (R : Ts knd s.heap a L es ep t) {x : Addr} {k : List κ} (hx : IsTupleKey knd s.heap k x) (hu : A.units < cLine) {Q : Bool → Shared → Prop} (q : ∀ tk, Q (decide (k ∈ L.map (·.2))) { s with toks := tk }) :
    wpAny (model P w) A (setContains a (.ref x)) Q E s := by
  obtain ⟨o, ho, hex, hd⟩ := R.ob
  unfold setContains
  refine wpAny_holding (wpAny_bind (wpAny_pyHash_tuple hu hx ?_))
  have R' : Ts knd ({ s with toks := s.toks + (k.length + 1) } : Shared).heap a L es ep t := R
  unfold setFind
  refine wpAny_bind ?_
  try refine wpAny_holding ?_
  rw [show (100000 : Nat) = 99999 + 1 from rfl]
  unfold setFindIn
  refine wpAny_bind (wpAny_setState_of ho hd R.fits ?_)
  dsimp only
  refine wp_if_neg (by simp [byScan, Value.scannable]) ?_
  try refine wpAny_bind (wpAny_pure ?_)
  refine wpAny_bind (ts_search (s := { s with toks := s.toks + (k.length + 1) }) C R' hx hu (fun i p hp hk => ?_) fun K hm _ _ => ?_)
  · refine wpAny_pure (wpAny_pure ?_)
    have e : decide (k ∈ L.map (·.2)) = true := decide_eq_true (List.mem_map.mpr ⟨p, List.mem_of_getElem? hp, hk⟩)
    have z := q (s.toks + (k.length + 1))
    rw [e] at z
    exact z
  · refine wpAny_pure (wpAny_pure ?_)
    have e : decide (k ∈ L.map (·.2)) = false := decide_eq_false hm
    have z := q (s.toks + (k.length + 1))
    rw [e] at z
    exact z
end
end K70
/-! Ku5: tuples of texts as keys; the set of them as an object. -/
namespace K70
open PySem PySem.Spec PyProof.Rows L2
theorem calm_str {P : Program} {w : World} : Calm (PySem.strKind P w) where
  cls := fun {k v} h n => by
    obtain ⟨t, rfl⟩ := Value.isStrOf_shape h
    cases n <;> rfl
  hsh := fun {k v} h => by
    obtain ⟨t, rfl⟩ := Value.isStrOf_shape h
    exact ⟨false, fun n => by cases n <;> rfl⟩
section
variable {κ : Type} [DecidableEq κ]
/-- the set at a, without the tuples themselves -/
structure Ts0 {P : Program} {w : World} (knd : KeyKind P w κ) (h : Heap) (a : Addr) (L : List (Addr × List κ)) : Prop where
  ex : ∃ (es : Array (Int × Value)) (ep : Nat) (t : SetTable), (∃ o, h.get? a = some o ∧ o.ExactSet ∧ o.data = .set es ep t) ∧ es.toList = rowsT knd L ∧ TabOk t (L.map fun p => tupleKeyHash knd p.2) ∧ (L.map (·.2)).Nodup ∧
    (w.params.followText "set-order" = true ∨ t.led = true) ∧ L.length * 5 < t.mask * 3
def TsO {P : Program} {w : World} (knd : KeyKind P w κ) (a : Addr) (L : List (Addr × List κ)) : HO := .ext fun h => Ts0 knd h a L
variable {P : Program} {w : World} {knd : KeyKind P w κ} {a : Addr} {L : List (Addr × List κ)}
theorem Ts.t0 {h : Heap} {es : Array (Int × Value)} {ep : Nat} {t : SetTable} (R : Ts knd h a L es ep t) : Ts0 knd h a L := ⟨es, ep, t, R.ob, R.rows, R.tab, R.nd, R.led, R.room⟩
theorem Ts0.full {h : Heap} (R : Ts0 knd h a L) (ht : ∀ p ∈ L, IsTupleKey knd h p.2 p.1) : ∃ es ep t, Ts knd h a L es ep t := by
  obtain ⟨es, ep, t, h1, h2, h3, h4, h6, h7⟩ := R.ex
  exact ⟨es, ep, t, h1, h2, h3, h4, ht, h6, h7⟩
theorem tsO_new {H : Hp} {h : Heap} (R : Ts0 knd h a L) : ObjOk P w H h a (TsO knd a L) := by
  have ⟨es, ep, t, ⟨o, ho, r⟩, q⟩ := R.ex
  refine ⟨R, ⟨o, ho⟩, fun h1 h2 p k => ?_⟩
  have ⟨es', ep', t', ⟨o', ho', r'⟩, q'⟩ := Ts0.ex p
  exact ⟨es', ep', t', ⟨o', k o' ho', r'⟩, q'⟩
end
theorem strs_of_vals {P : Program} {w : World} : ∀ {k : List Str} {us : List Value}, Vals (k.map V.str) us → ItemsAre (PySem.strKind P w) k us
  | [], _, .nil => .nil
  | n :: k, _, .cons r t => by
    obtain ⟨tk, rfl⟩ := r
    exact .cons (show Value.isStrOf n (.str n tk) = true by simp [Value.isStrOf]) (strs_of_vals t)
theorem Inv.isS {X : Cx} {pins : List (Addr × Obj)} {σ : L2.St} {H : Hp} {s : Shared} {b : Addr} {k : List Str} (I : Inv X pins σ H s) (h : SqT X.K H b (k.map V.str)) : IsTupleKey (PySem.strKind X.prog X.w) s.heap k b := by
  obtain ⟨its, r, ⟨o, ho, hc, n, hd⟩, _⟩ := I.tuple h
  exact ⟨o, its.toArray, n, ho, hc, hd, by simpa using strs_of_vals r⟩
/-- set(xs), xs a list of tuples of texts -/
def rSetS (K : PySem.W.Frag) (P : Program) (w : World) : List V → Hp → VK → Prop := fun xs H Q => ∃ (l : Addr) (ks : List (Addr × List Str)), xs = [V.ref l] ∧ SqL K H l (ks.map fun p => V.ref p.1) ∧ (∀ p ∈ ks, SqT K H p.1 (p.2.map V.str)) ∧ ks.length ≤ 76 ∧
  ∀ a L, H a = none → (∀ p ∈ L, p ∈ ks) → (∀ p ∈ ks, p.2 ∈ L.map (·.2)) → Q (.ref a) (upd H a (TsO (PySem.strKind P w) a L))
theorem refs_vals : ∀ {ks : List (Addr × List Str)} {us : List Value}, Vals (ks.map fun p => V.ref p.1) us → us = ks.map fun p => Value.ref p.1
  | [], _, .nil => rfl
  | p :: ks, _, .cons r t => by
    cases r
    rw [refs_vals t] <;> rfl
theorem cr_setS {X : Cx} (hc : X.calm = true) (hu : X.A.units + 64 < cLine) : CallR X (.type "set") (rSetS X.K X.prog X.w) := by
  intro pins s σ H xs us Q I r h
  obtain ⟨l, ks, rfl, hl, hk, hf, q⟩ := h
  rw [Vals.ref1 r]
  obtain ⟨its, rv, pl, hz⟩ := I.list hl
  have hn : H s.heap.objs.size = none := I.hok.fresh (Nat.le_refl _)
  refine call_setK (P := X.prog) (w := X.w) calm_str ks (I.ok.hd hc) pl.isList (by simpa using refs_vals rv) (fun p hp => Inv.isS I (hk p hp)) hf (by omega) fun h' tk L es ep t R g k => ?_
  exact ⟨.ref s.heap.objs.size, upd H s.heap.objs.size (TsO (PySem.strKind X.prog X.w) s.heap.objs.size L), I.laid (t' := tk) k (Nat.le_refl _) (tsO_new R.t0), rfl, q _ L hn (fun p hp => List.mem_of_mem_take (g.sub p hp)) fun p hp => g.all p (by rw [List.take_length]; exact hp)⟩
end K70
/-! Ku6: `in` a set of tuples of texts. -/
namespace K70
open PySem PySem.Spec PyProof.Rows L2
section
variable {P : Program} {w : World} {A : Around} {E : Value → Shared → Prop} {s : Shared} {κ : Type} [DecidableEq κ] {knd : PySem.KeyKind P w κ}
variable {a : Addr} {L : List (Addr × List κ)} {es : Array (Int × Value)} {ep : Nat} {t : SetTable}
theorem op_in_ts (C : Calm knd) (R : Ts knd s.heap a L es ep t) {x : Addr} {k : List κ} (hx : IsTupleKey knd s.heap k x) (hu : A.units + 4 < cLine) {Q : Value → Shared → Prop} (q : ∀ tk, Q (.bool (decide (k ∈ L.map (·.2)))) { s with toks := tk }) :
    wpAny (model P w) A (compareOp .In (.ref x) (.ref a)) Q E s := by
  have hT : s.TypeIs (.ref a) "set" := by
    obtain ⟨o, ho, hex, _⟩ := R.ob
    exact ⟨o, ho, hex.1⟩
  show wpAny _ _ (do return .bool (← contains (.ref a) (.ref x))) Q E s
  refine wpAny_bind ?_
  unfold contains
  try with_reducible refine wpAny_holding ?_
  refine wpAny_bind (wpAny_specialOf hT F.slot_set_contains.lookup ?_)
  show wpAny _ _ (if (some (Value.builtin "set.__contains__") == some Value.none) = true then _ else _) _ E s
  rw [if_neg (by rw [beq_builtin_none]; exact Bool.false_ne_true)]
  refine wpAny_bind (wpAny_callSpecialUnlessNone?_slot (name := Str.ofString "__contains__") hT F.slot_set_contains
    (wpAny_call_entry F.slot_set_contains hT entry_set_contains ?_ (F.args_set_contains_2 _ _)))
  unfold Builtin.«frozenset.__contains__» Builtin.Frozenset.oneOther
  simp only [List.isEmpty_nil, bind_assoc]
  unfold Builtin.Frozenset.addrOf Builtin.Frozenset.withSetAsKey
  refine wpAny_bind (wpAny_pure ?_)
  try dsimp only
  refine wpAny_bind (wpAny_pure ?_)
  try dsimp only
  refine wpAny_bind (wpAny_tryCatch ?_)
  refine ts_in C R hx (Nat.lt_of_le_of_lt (Nat.add_le_add_left (by decide : 1 ≤ 4) A.units) hu) fun tk => ?_
  show wpAny _ _ (ret (Value.bool _)) _ _ _
  exact wpAny_pure ⟨_, rfl, wpAny_truthy_bool (wpAny_pure (q tk))⟩
end
end K70
/-! Ku7: x in found, as a rule. -/
namespace K70
open PySem PySem.Spec PyProof.Rows L2
/-- the tuple of texts x in the set of them -/
def rInS (K : PySem.W.Frag) (P : Program) (w : World) : V → V → Hp → VK → Prop := fun x y H Q => ∃ (b a : Addr) (k : List Str) (L : List (Addr × List Str)), x = V.ref b ∧ y = V.ref a ∧ SqT K H b (k.map V.str) ∧ H a = some (TsO (PySem.strKind P w) a L) ∧ (∀ p ∈ L, SqT K H p.1 (p.2.map V.str)) ∧ Q (.bl (decide (k ∈ L.map (·.2)))) H
theorem or_inS {X : Cx} (hu : X.A.units + 64 < cLine) : OpR X (compareOp .In) (rInS X.K X.prog X.w) := by
  intro pins s σ H x y v u Q I rx ry h
  obtain ⟨b, a, k, L, rfl, rfl, hb, ha, hL, q⟩ := h
  cases ry
  cases rx
  have R0 : Ts0 (PySem.strKind X.prog X.w) s.heap a L := (I.hok a _ ha).1
  obtain ⟨es, ep, t, R⟩ := R0.full fun p hp => Inv.isS I (hL p hp)
  exact op_in_ts calm_str R (Inv.isS I hb) (by omega) fun tk => ⟨_, H, I.tok _, (show RelV (V.bl (decide (k ∈ L.map fun z => z.2))) _ from rfl), q⟩
end K70
set_option maxHeartbeats 2000000
/-! Data within the abstract heap, known apart from what is there; readings told by data alone. -/
namespace K70
open PySem PySem.Spec PyProof.Rows L2

/-- a text by its codes -/
abbrev Tx := List Nat
def tx (l : Tx) : Str := ⟨l.toArray⟩
theorem tx_inj {a b : Tx} (h : tx a = tx b) : a = b := by
  have h1 : (tx a).cps.toList = (tx b).cps.toList := by rw [h]
  simpa [tx] using h1
theorem tx_len (l : Tx) : (tx l).length = l.length := by simp [tx, Str.length]
theorem tx_list (l : Tx) : (tx l).cps.toList = l := by simp [tx]
theorem tx_of (x : Str) : tx x.cps.toList = x := by cases x; simp [tx]

/-- data: what a value stands for, all through -/
inductive Dt where
  | non | bl (b : Bool) | int (i : Int) | str (x : Tx) | raw (v : V)
  | lst (l : List Dt) | tup (l : List Dt)
  | dT (l : List (List Key × Dt)) | dK (l : List (Key × Dt))
  | ins (C : Addr) (l : List (Str × Dt))
  | tupN (l : List Dt) | tupW (l : List Dt) | ob (f : Addr → Heap → Prop)

mutual
inductive Dv (K : PySem.W.Frag) (G : Hp) : V → Dt → Prop
  | non : Dv K G .non .non
  | bl (b : Bool) : Dv K G (.bl b) (.bl b)
  | int (i : Int) : Dv K G (.int i) (.int i)
  | str (x : Tx) : Dv K G (.str (tx x)) (.str x)
  | raw (v : V) : Dv K G v (.raw v)
  | lst {a : Addr} {xs : List V} {ds : List Dt} : G a = some (.lst xs) → Dvs K G xs ds → Dv K G (.ref a) (.lst ds)
  | tup {a : Addr} {xs : List V} {ds : List Dt} : G a = some (.tup xs) → Dvs K G xs ds → Dv K G (.ref a) (.tup ds)
  | tupW {a : Addr} {xs : List V} {ds : List Dt} : SqT K G a xs → Dvs K G xs ds → Dv K G (.ref a) (.tupW ds)
  | dT {a : Addr} {kvs : List (List Key × V)} {ds : List (List Key × Dt)} : Rd G a (.dT kvs) → DvM K G kvs ds → Dv K G (.ref a) (.dT ds)
  | dK {a : Addr} {kvs : List (Key × V)} {ds : List (Key × Dt)} : G a = some (.dK kvs) → DvM K G kvs ds → Dv K G (.ref a) (.dK ds)
  | ins {a C dx : Addr} {fs : List (Str × V)} {ds : List (Str × Dt)} : G a = some (.ins C dx fs) → DvM K G fs ds → Dv K G (.ref a) (.ins C ds)
  | tupN {a : Addr} {o : Obj} {xs : List V} {ds : List Dt} : G a = some (.frz o (.tup xs)) → o.cls = .type "tuple" → o.dict = none → Dvs K G xs ds → Dv K G (.ref a) (.tupN ds)
  | ob {a : Addr} {f : Addr → Heap → Prop} : G a = some (.ext (f a)) → Dv K G (.ref a) (.ob f)
inductive Dvs (K : PySem.W.Frag) (G : Hp) : List V → List Dt → Prop
  | nil : Dvs K G [] []
  | cons {v : V} {vs : List V} {d : Dt} {ds : List Dt} : Dv K G v d → Dvs K G vs ds → Dvs K G (v :: vs) (d :: ds)
inductive DvM (K : PySem.W.Frag) (G : Hp) : {κ : Type} → List (κ × V) → List (κ × Dt) → Prop
  | nil {κ : Type} : DvM K G (κ := κ) [] []
  | cons {κ : Type} {k : κ} {v : V} {r : List (κ × V)} {d : Dt} {s : List (κ × Dt)} : Dv K G v d → DvM K G r s → DvM K G ((k, v) :: r) ((k, d) :: s)
end
theorem same_rd {H H' : Hp} {a : Addr} {u : HO} (e : Same H H') (h : Rd H a u) : Rd H' a u := by
  rcases h with h | ⟨o, h⟩
  · exact .inl (e _ _ h)
  · exact .inr ⟨o, e _ _ h⟩
theorem same_seqT {K : PySem.W.Frag} {H H' : Hp} {a : Addr} {xs : List V} (e : Same H H') (h : SqT K H a xs) : SqT K H' a xs := by
  rcases h with (h | ⟨o, h⟩) | h
  · exact .inl (.inl (e _ _ h))
  · exact .inl (.inr ⟨o, e _ _ h⟩)
  · exact .inr h
section
variable {K : PySem.W.Frag} {G G' H H' : Hp}
mutual
theorem Dv.mono (s : Same G G') : ∀ {v : V} {d : Dt}, Dv K G v d → Dv K G' v d
  | _, _, .non => .non
  | _, _, .bl b => .bl b
  | _, _, .int i => .int i
  | _, _, .str x => .str x
  | _, _, .raw v => .raw v
  | _, _, .lst h r => .lst (s _ _ h) (Dvs.mono s r)
  | _, _, .tup h r => .tup (s _ _ h) (Dvs.mono s r)
  | _, _, .tupW h r => .tupW (same_seqT s h) (Dvs.mono s r)
  | _, _, .dT h r => .dT (same_rd s h) (DvM.mono s r)
  | _, _, .dK h r => .dK (s _ _ h) (DvM.mono s r)
  | _, _, .ins h r => .ins (s _ _ h) (DvM.mono s r)
  | _, _, .tupN h a b r => .tupN (s _ _ h) a b (Dvs.mono s r)
  | _, _, .ob h => .ob (s _ _ h)
theorem Dvs.mono (s : Same G G') : ∀ {v : List V} {d : List Dt}, Dvs K G v d → Dvs K G' v d
  | _, _, .nil => .nil
  | _, _, .cons h r => .cons (Dv.mono s h) (Dvs.mono s r)
theorem DvM.mono (s : Same G G') : ∀ {κ : Type} {v : List (κ × V)} {d : List (κ × Dt)}, DvM K G v d → DvM K G' v d
  | _, _, _, .nil => .nil
  | _, _, _, .cons h r => .cons (Dv.mono s h) (DvM.mono s r)
end
theorem Dvs.length : ∀ {vs : List V} {ds : List Dt}, Dvs K G vs ds → vs.length = ds.length
  | _, _, .nil => rfl
  | _, _, .cons _ r => congrArg (· + 1) r.length
theorem Dvs.get : ∀ {vs : List V} {ds : List Dt} {i : Nat} {d : Dt}, Dvs K G vs ds → ds[i]? = some d → ∃ v, vs[i]? = some v ∧ Dv K G v d
  | _, _, i, d, .nil, h => by simp at h
  | _, _, 0, d, .cons h _, e => by
    simp at e; subst e; exact ⟨_, rfl, h⟩
  | _, _, i + 1, d, .cons _ r, e => by
    obtain ⟨v, h1, h2⟩ := Dvs.get (i := i) r (by simpa using e)
    exact ⟨v, by simpa using h1, h2⟩
theorem Dvs.getV : ∀ {vs : List V} {ds : List Dt} {i : Nat} {v : V}, Dvs K G vs ds → vs[i]? = some v → ∃ d, ds[i]? = some d ∧ Dv K G v d
  | _, _, i, d, .nil, h => by simp at h
  | _, _, 0, d, .cons h _, e => by
    simp at e; subst e; exact ⟨_, rfl, h⟩
  | _, _, i + 1, d, .cons _ r, e => by
    obtain ⟨v, h1, h2⟩ := Dvs.getV (i := i) r (by simpa using e)
    exact ⟨v, by simpa using h1, h2⟩
theorem Dvs.append : ∀ {vs ws : List V} {ds es : List Dt}, Dvs K G vs ds → Dvs K G ws es → Dvs K G (vs ++ ws) (ds ++ es)
  | _, _, _, _, .nil, s => s
  | _, _, _, _, .cons h r, s => .cons h (r.append s)
theorem Dvs.snoc {vs : List V} {ds : List Dt} {v : V} {d : Dt} (r : Dvs K G vs ds) (h : Dv K G v d) : Dvs K G (vs ++ [v]) (ds ++ [d]) := r.append (.cons h .nil)
theorem Dvs.take : ∀ {vs : List V} {ds : List Dt} (n : Nat), Dvs K G vs ds → Dvs K G (vs.take n) (ds.take n)
  | _, _, 0, _ => .nil
  | _, _, _ + 1, .nil => .nil
  | _, _, n + 1, .cons h r => .cons h (r.take n)
theorem Dvs.drop : ∀ {vs : List V} {ds : List Dt} (n : Nat), Dvs K G vs ds → Dvs K G (vs.drop n) (ds.drop n)
  | _, _, 0, r => r
  | _, _, _ + 1, .nil => .nil
  | _, _, n + 1, .cons _ r => r.drop n
theorem Dvs.reverse : ∀ {vs : List V} {ds : List Dt}, Dvs K G vs ds → Dvs K G vs.reverse ds.reverse
  | _, _, .nil => .nil
  | _, _, .cons h r => by
    rw [List.reverse_cons, List.reverse_cons]
    exact r.reverse.snoc h
theorem Dvs.map_inv {α : Type} {f : α → Dt} {g : α → V} (hf : ∀ a v, Dv K G v (f a) → v = g a) : ∀ {vs : List V} {l : List α}, Dvs K G vs (l.map f) → vs = l.map g
  | _, [], .nil => rfl
  | _, a :: l, .cons h r => by rw [List.map_cons, hf a _ h, Dvs.map_inv hf r]
theorem Dv.int_inv {v : V} {i : Int} (h : Dv K G v (.int i)) : v = .int i := by cases h; rfl
theorem Dv.bl_inv {v : V} {b : Bool} (h : Dv K G v (.bl b)) : v = .bl b := by cases h; rfl
theorem Dv.str_inv {v : V} {x : Tx} (h : Dv K G v (.str x)) : v = .str (tx x) := by cases h; rfl
theorem Dv.raw_inv {v u : V} (h : Dv K G v (.raw u)) : v = u := by cases h; rfl
theorem Dv.non_inv {v : V} (h : Dv K G v .non) : v = .non := by cases h; rfl
theorem Dv.lst_inv {v : V} {ds : List Dt} (h : Dv K G v (.lst ds)) : ∃ a xs, v = .ref a ∧ G a = some (.lst xs) ∧ Dvs K G xs ds := by
  cases h with | lst h r => exact ⟨_, _, rfl, h, r⟩
theorem Dv.tup_inv {v : V} {ds : List Dt} (h : Dv K G v (.tup ds)) : ∃ a xs, v = .ref a ∧ G a = some (.tup xs) ∧ Dvs K G xs ds := by
  cases h with | tup h r => exact ⟨_, _, rfl, h, r⟩
theorem Dv.tupW_inv {v : V} {ds : List Dt} (h : Dv K G v (.tupW ds)) : ∃ a xs, v = .ref a ∧ SqT K G a xs ∧ Dvs K G xs ds := by
  cases h with | tupW h r => exact ⟨_, _, rfl, h, r⟩
theorem Dv.tup_W {v : V} {ds : List Dt} (h : Dv K G v (.tup ds)) : Dv K G v (.tupW ds) := by
  obtain ⟨a, xs, rfl, e, r⟩ := h.tup_inv
  exact .tupW (SqT.of e) r
theorem Dv.tupN_inv {v : V} {ds : List Dt} (h : Dv K G v (.tupN ds)) : ∃ a o xs, v = .ref a ∧ G a = some (.frz o (.tup xs)) ∧ o.cls = .type "tuple" ∧ o.dict = none ∧ Dvs K G xs ds := by
  cases h with | tupN h a b r => exact ⟨_, _, _, rfl, h, a, b, r⟩
theorem Dv.tupN_W {v : V} {ds : List Dt} (h : Dv K G v (.tupN ds)) : Dv K G v (.tupW ds) := by
  obtain ⟨a, o, xs, rfl, e, _, _, r⟩ := h.tupN_inv
  exact .tupW (.inl (.inr ⟨o, e⟩)) r
theorem Dv.ob_inv {v : V} {f : Addr → Heap → Prop} (h : Dv K G v (.ob f)) : ∃ a, v = .ref a ∧ G a = some (.ext (f a)) := by
  cases h with | ob h => exact ⟨_, rfl, h⟩
theorem Dv.dT_inv {v : V} {ds : List (List Key × Dt)} (h : Dv K G v (.dT ds)) : ∃ a kvs, v = .ref a ∧ Rd G a (.dT kvs) ∧ DvM K G kvs ds := by
  cases h with | dT h r => exact ⟨_, _, rfl, h, r⟩
theorem Dv.dK_inv {v : V} {ds : List (Key × Dt)} (h : Dv K G v (.dK ds)) : ∃ a kvs, v = .ref a ∧ G a = some (.dK kvs) ∧ DvM K G kvs ds := by
  cases h with | dK h r => exact ⟨_, _, rfl, h, r⟩
theorem Dv.ins_inv {v : V} {C : Addr} {ds : List (Str × Dt)} (h : Dv K G v (.ins C ds)) : ∃ a dx fs, v = .ref a ∧ G a = some (.ins C dx fs) ∧ DvM K G fs ds := by
  cases h with | ins h r => exact ⟨_, _, _, rfl, h, r⟩

/-- the same but that dicts are locked or unlocked -/
def SameD (G G' : Hp) : Prop := ∀ a o, G a = some o → G' a = some o ∨ ∃ kvs, Rd G' a (.dT kvs) ∧ (o = .dT kvs ∨ ∃ od, o = .frz od (.dT kvs))
theorem SameD.rd (s : SameD G G') {a : Addr} {kvs : List (List Key × V)} (h : Rd G a (.dT kvs)) : Rd G' a (.dT kvs) := by
  rcases h with h | ⟨o, h⟩
  · rcases s _ _ h with q | ⟨kvs', q, e | ⟨od, e⟩⟩
    · exact .inl q
    · cases e; exact q
    · cases e
  · rcases s _ _ h with q | ⟨kvs', q, e | ⟨od, e⟩⟩
    · exact .inr ⟨_, q⟩
    · cases e
    · cases e; exact q
theorem SameD.ex (s : SameD G G') {a : Addr} {o : HO} (h : G a = some o) (n : ∀ kvs, o ≠ .dT kvs) (n' : ∀ od kvs, o ≠ .frz od (.dT kvs)) : G' a = some o := by
  rcases s _ _ h with q | ⟨kvs', q, e | ⟨od, e⟩⟩
  · exact q
  · exact absurd e (n _)
  · exact absurd e (n' _ _)
theorem SameD.seqT (s : SameD G G') {a : Addr} {xs : List V} (h : SqT K G a xs) : SqT K G' a xs := by
  rcases h with (h | ⟨o, h⟩) | h
  · exact .inl (.inl (s.ex h (fun _ z => nomatch z) (fun _ _ z => nomatch z)))
  · exact .inl (.inr ⟨o, s.ex h (fun _ z => nomatch z) (fun _ _ z => nomatch z)⟩)
  · exact .inr h
mutual
theorem Dv.lock (s : SameD G G') : ∀ {v : V} {d : Dt}, Dv K G v d → Dv K G' v d
  | _, _, .non => .non
  | _, _, .bl b => .bl b
  | _, _, .int i => .int i
  | _, _, .str x => .str x
  | _, _, .raw v => .raw v
  | _, _, .lst h r => .lst (s.ex h (fun _ z => nomatch z) (fun _ _ z => nomatch z)) (Dvs.lock s r)
  | _, _, .tup h r => .tup (s.ex h (fun _ z => nomatch z) (fun _ _ z => nomatch z)) (Dvs.lock s r)
  | _, _, .tupW h r => .tupW (s.seqT h) (Dvs.lock s r)
  | _, _, .dT h r => .dT (s.rd h) (DvM.lock s r)
  | _, _, .dK h r => .dK (s.ex h (fun _ z => nomatch z) (fun _ _ z => nomatch z)) (DvM.lock s r)
  | _, _, .ins h r => .ins (s.ex h (fun _ z => nomatch z) (fun _ _ z => nomatch z)) (DvM.lock s r)
  | _, _, .tupN h a b r => .tupN (s.ex h (fun _ z => nomatch z) (fun _ _ z => nomatch z)) a b (Dvs.lock s r)
  | _, _, .ob h => .ob (s.ex h (fun _ z => nomatch z) (fun _ _ z => nomatch z))
theorem Dvs.lock (s : SameD G G') : ∀ {v : List V} {d : List Dt}, Dvs K G v d → Dvs K G' v d
  | _, _, .nil => .nil
  | _, _, .cons h r => .cons (Dv.lock s h) (Dvs.lock s r)
theorem DvM.lock (s : SameD G G') : ∀ {κ : Type} {v : List (κ × V)} {d : List (κ × Dt)}, DvM K G v d → DvM K G' v d
  | _, _, _, .nil => .nil
  | _, _, _, .cons h r => .cons (Dv.lock s h) (DvM.lock s r)
end
/-- what a list of pairs holds at a key -/
def lk {κ β : Type} [DecidableEq κ] (l : List (κ × β)) (k : κ) : Option β := (l.find? fun p => decide (p.1 = k)).map (·.2)
theorem lk_nil {κ β : Type} [DecidableEq κ] {k : κ} : lk ([] : List (κ × β)) k = none := rfl
theorem lk_pos {κ β : Type} [DecidableEq κ] {k : κ} {d : β} {r : List (κ × β)} : lk ((k, d) :: r) k = some d := by simp [lk]
theorem lk_neg {κ β : Type} [DecidableEq κ] {k j : κ} {d : β} {r : List (κ × β)} (e : ¬ j = k) : lk ((j, d) :: r) k = lk r k := by simp [lk, List.find?_cons, e]
theorem DvM.look {κ : Type} [DecidableEq κ] : ∀ {kvs : List (κ × V)} {ds : List (κ × Dt)} (k : κ), DvM K G kvs ds → (valV kvs k = none ∧ lk ds k = none) ∨ ∃ v d, valV kvs k = some v ∧ lk ds k = some d ∧ Dv K G v d
  | _, _, k, .nil => .inl ⟨rfl, rfl⟩
  | _, _, k, .cons (k := k1) (v := v) (d := d) h r => by
    by_cases e : k1 = k
    · subst e
      exact .inr ⟨v, d, valV_pos rfl, lk_pos, h⟩
    · rw [valV_neg e, lk_neg e]
      exact r.look k
theorem DvM.length {κ : Type} : ∀ {kvs : List (κ × V)} {ds : List (κ × Dt)}, DvM K G kvs ds → kvs.length = ds.length
  | _, _, .nil => rfl
  | _, _, .cons _ r => congrArg (· + 1) r.length
theorem DvM.keys {κ : Type} : ∀ {kvs : List (κ × V)} {ds : List (κ × Dt)}, DvM K G kvs ds → kvs.map (·.1) = ds.map (·.1)
  | _, _, .nil => rfl
  | _, _, .cons (k := k) _ r => congrArg (k :: ·) r.keys
theorem DvM.vals {κ : Type} : ∀ {kvs : List (κ × V)} {ds : List (κ × Dt)}, DvM K G kvs ds → Dvs K G (kvs.map (·.2)) (ds.map (·.2))
  | _, _, .nil => .nil
  | _, _, .cons h r => .cons h r.vals
theorem DvM.snoc {κ : Type} {k : κ} {v : V} {d : Dt} : ∀ {kvs : List (κ × V)} {ds : List (κ × Dt)}, DvM K G kvs ds → Dv K G v d → DvM K G (kvs ++ [(k, v)]) (ds ++ [(k, d)])
  | _, _, .nil, h => .cons h .nil
  | _, _, .cons h r, q => .cons h (r.snoc q)
def putD {κ β : Type} [DecidableEq κ] (l : List (κ × β)) (k : κ) (v : β) : List (κ × β) := if (l.any fun p => decide (p.1 = k)) then l.map (fun p => if p.1 = k then (p.1, v) else p) else l ++ [(k, v)]
theorem DvM.any {κ : Type} [DecidableEq κ] (k : κ) : ∀ {kvs : List (κ × V)} {ds : List (κ × Dt)}, DvM K G kvs ds → (kvs.any fun p => decide (p.1 = k)) = ds.any fun p => decide (p.1 = k)
  | _, _, .nil => rfl
  | _, _, .cons (k := j) _ r => by rw [List.any_cons, List.any_cons, r.any]
theorem DvM.repl {κ : Type} [DecidableEq κ] (k : κ) {v : V} {d : Dt} (h : Dv K G v d) : ∀ {kvs : List (κ × V)} {ds : List (κ × Dt)}, DvM K G kvs ds → DvM K G (kvs.map fun p => if p.1 = k then (p.1, v) else p) (ds.map fun p => if p.1 = k then (p.1, d) else p)
  | _, _, .nil => .nil
  | _, _, .cons (k := j) q r => by
    rw [List.map_cons, List.map_cons]
    by_cases e : j = k
    · rw [if_pos e, if_pos e]; exact .cons h (r.repl k h)
    · rw [if_neg e, if_neg e]; exact .cons q (r.repl k h)
theorem DvM.put {κ : Type} [DecidableEq κ] {k : κ} {v : V} {d : Dt} {kvs : List (κ × V)} {ds : List (κ × Dt)} (r : DvM K G kvs ds) (h : Dv K G v d) : DvM K G (putK kvs k v) (putD ds k d) := by
  unfold putK putD
  rw [r.any k]
  split
  · exact r.repl k h
  · exact r.snoc h
end

/-! ### what is known grows with what is there -/
/-- a thing that may change -/
def Mv : Option HO → Prop
  | none => False
  | some (.tup _) => False
  | some _ => True
theorem Mv.ne {o : Option HO} (h : Mv o) : o ≠ none := fun z => by subst z; exact h
structure Grow (μ : Addr → Prop) (G H G' H' : Hp) : Prop where
  g : Same G G'
  h : ∀ a o, ¬ μ a → H a = some o → H' a = some o
  dom : ∀ a, H' a = none → H a = none
  sub : Same G' H'
  new : ∀ a, G a = none → Mv (H a) → G' a = none
  mv : ∀ a, Mv (H a) → Mv (H' a)
abbrev Pure : Addr → Prop := fun _ => False
section
variable {μ : Addr → Prop} {G H G' H' G2 H2 : Hp}
theorem Grow.refl (s : Same G H) : Grow μ G H G H := ⟨Same.refl G, fun _ _ _ h => h, fun _ h => h, s, fun _ h _ => h, fun _ h => h⟩
theorem Grow.trans (x : Grow μ G H G' H') (y : Grow μ G' H' G2 H2) : Grow μ G H G2 H2 :=
  ⟨x.g.trans y.g, fun a o n h => y.h a o n (x.h a o n h), fun a h => x.dom a (y.dom a h), y.sub, fun a n h => y.new a (x.new a n h) (x.mv a h), fun a h => y.mv a (x.mv a h)⟩
theorem Grow.lift (x : Grow Pure G H G' H') : Grow μ G H G' H' := ⟨x.g, fun a o _ h => x.h a o (fun z => z) h, x.dom, x.sub, x.new, x.mv⟩
theorem Grow.same (x : Grow Pure G H G' H') : Same H H' := fun a o h => x.h a o (fun z => z) h
theorem Grow.grow {p : Addr} {o : HO} (s : Same G H) (hp : H p = none) : Grow μ G H (upd G p o) (upd H p o) := by
  have gp : G p = none := s.free hp
  refine ⟨fun a u e => ?_, fun a u _ e => ?_, fun a e => ?_, fun a u e => ?_, fun a n h => ?_, fun a h => ?_⟩
  · rw [upd_ne (ne_of_none e gp)]; exact e
  · rw [upd_ne (ne_of_none e hp)]; exact e
  · by_cases q : a = p
    · subst q; exact hp
    · rw [upd_ne q] at e; exact e
  · by_cases q : a = p
    · subst q; rw [upd_same] at e ⊢; exact e
    · rw [upd_ne q] at e ⊢; exact s a u e
  · have q : a ≠ p := fun z => by subst z; exact h.ne hp
    rw [upd_ne q]; exact n
  · have q : a ≠ p := fun z => by subst z; exact h.ne hp
    rw [upd_ne q]; exact h
/-- a new object that isn't known (one that is still to change) -/
theorem Grow.hide {p : Addr} {o : HO} (s : Same G H) (hp : H p = none) : Grow μ G H G (upd H p o) := by
  refine ⟨Same.refl G, fun a u _ e => ?_, fun a e => ?_, fun a u e => ?_, fun a n h => n, fun a h => by
    have q : a ≠ p := fun z => by subst z; exact h.ne hp
    rw [upd_ne q]; exact h⟩
  · rw [upd_ne (ne_of_none e hp)]; exact e
  · by_cases q : a = p
    · subst q; exact hp
    · rw [upd_ne q] at e; exact e
  · rw [upd_ne (ne_of_none (s a u e) hp)]; exact s a u e
/-- an object that was new and isn't known changes -/
theorem Grow.set {p : Addr} {o : HO} (x : Grow μ G H G' H') (hp : H p = none) (gp : G' p = none) : Grow μ G H G' (upd H' p o) := by
  refine ⟨x.g, fun a u n e => ?_, fun a e => ?_, fun a u e => ?_, x.new, fun a h => by
    have q : a ≠ p := fun z => by subst z; exact h.ne hp
    rw [upd_ne q]; exact x.mv a h⟩
  · rw [upd_ne (ne_of_none e hp)]; exact x.h a u n e
  · by_cases q : a = p
    · subst q; exact hp
    · rw [upd_ne q] at e; exact x.dom a e
  · rw [upd_ne (ne_of_none e gp)]; exact x.sub a u e
/-- it becomes known -/
theorem Grow.know {p : Addr} {o : HO} (x : Grow μ G H G' H') (hp : H p = none) (gp : G' p = none) (h : H' p = some o) : Grow μ G H (upd G' p o) H' := by
  refine ⟨fun a u e => ?_, x.h, x.dom, fun a u e => ?_, fun a n q => ?_, x.mv⟩
  · rw [upd_ne (ne_of_none (x.g a u e) gp)]; exact x.g a u e
  · by_cases q : a = p
    · subst q; rw [upd_same] at e; rw [h]; exact e
    · rw [upd_ne q] at e; exact x.sub a u e
  · have z : a ≠ p := fun z => by subst z; exact q.ne hp
    rw [upd_ne z]; exact x.new a n q
end
/-- what is changed, and what is known of it -/
structure Mu where
  μ : Addr → Prop
  M : Hp → Hp → Prop
  there : ∀ {G H : Hp} {a : Addr}, M G H → μ a → Mv (H a)
  out : ∀ {G H : Hp} {a : Addr}, M G H → μ a → G a = none
  st : ∀ {G H G' H' : Hp}, Same G G' → Same G' H' → (∀ a, μ a → H' a = H a) → (∀ a, μ a → G' a = none) → M G H → M G' H'
section
variable {m : Mu} {G H G' H' : Hp}
theorem Mu.pure (x : Grow Pure G H G' H') (h : m.M G H) : m.M G' H' := by
  refine m.st x.g x.sub (fun a u => ?_) (fun a u => x.new a (m.out h u) (m.there h u)) h
  cases e : H a with
  | none => exact absurd e (m.there h u).ne
  | some o => exact x.h a o (fun z => z) e
theorem Mu.hide {p : Addr} {o : HO} (s : Same G H) (hp : H p = none) (h : m.M G H) : m.M G (upd H p o) := Mu.pure (Grow.hide s hp) h
theorem Mu.set {p : Addr} {o : HO} (s : Same G H) (gp : G p = none) (np : ¬ m.μ p) (h : m.M G H) : m.M G (upd H p o) := by
  refine m.st (Same.refl G) (fun a u e => ?_) (fun a u => ?_) (fun a u => m.out h u) h
  · rw [upd_ne (ne_of_none e gp)]; exact s a u e
  · rw [upd_ne (fun z => by subst z; exact np u)]
theorem Mu.know {p : Addr} {o : HO} (s : Same G H) (gp : G p = none) (np : ¬ m.μ p) (hp : H p = some o) (h : m.M G H) : m.M (upd G p o) H := by
  refine m.st (fun a u e => ?_) (fun a u e => ?_) (fun a u => rfl) (fun a u => ?_) h
  · rw [upd_ne (ne_of_none e gp)]; exact e
  · by_cases q : a = p
    · subst q; rw [upd_same] at e; rw [hp]; exact e
    · rw [upd_ne q] at e; exact s a u e
  · rw [upd_ne (fun z => by subst z; exact np u)]; exact m.out h u
theorem Mu.notNew {p : Addr} (h : m.M G H) (hp : H p = none) : ¬ m.μ p := fun u => (m.there h u).ne hp
end
/-- nothing is changed -/
def still : Mu := ⟨Pure, fun _ _ => True, fun _ z => z.elim, fun _ z => z.elim, fun _ _ _ _ _ => trivial⟩

/-! ### slots -/
abbrev Ga := List (Option Dt)
structure Sl (K : PySem.W.Frag) (G : Hp) (σ : L2.St) (Γ : Ga) : Prop where
  len : σ.length = Γ.length
  at_ : ∀ (i : Nat) (d : Dt), Γ[i]? = some (some d) → ∃ v, σ[i]? = some (some v) ∧ Dv K G v d
section
variable {K : PySem.W.Frag} {G G' : Hp} {σ : L2.St} {Γ : Ga} {v : V} {d : Dt}
theorem Sl.mono (s : Same G G') (x : Sl K G σ Γ) : Sl K G' σ Γ := ⟨x.len, fun i d h => let ⟨v, a, b⟩ := x.at_ i d h; ⟨v, a, b.mono s⟩⟩
theorem Sl.lock (s : SameD G G') (x : Sl K G σ Γ) : Sl K G' σ Γ := ⟨x.len, fun i d h => let ⟨v, a, b⟩ := x.at_ i d h; ⟨v, a, b.lock s⟩⟩
theorem Sl.set (x : Sl K G σ Γ) (i : Nat) (h : Dv K G v d) : Sl K G (σ.set i (some v)) (Γ.set i (some d)) := by
  refine ⟨by rw [List.length_set, List.length_set]; exact x.len, fun j e q => ?_⟩
  by_cases hj : i = j
  · subst hj
    by_cases hi : i < Γ.length
    · rw [List.getElem?_set_self hi] at q
      cases q
      exact ⟨v, by rw [List.getElem?_set_self (by rw [x.len]; exact hi)], h⟩
    · rw [List.getElem?_eq_none (by rw [List.length_set]; omega)] at q; cases q
  · rw [List.getElem?_set_ne hj] at q ⊢
    exact x.at_ j e q
theorem Sl.lose (x : Sl K G σ Γ) (i : Nat) : Sl K G σ (Γ.set i none) := by
  refine ⟨by rw [List.length_set]; exact x.len, fun j e q => ?_⟩
  by_cases hj : i = j
  · subst hj
    by_cases hi : i < Γ.length
    · rw [List.getElem?_set_self hi] at q; cases q
    · rw [List.getElem?_eq_none (by rw [List.length_set]; omega)] at q; cases q
  · rw [List.getElem?_set_ne hj] at q
    exact x.at_ j e q
theorem Sl.unset (x : Sl K G σ Γ) (i : Nat) : Sl K G (σ.set i none) (Γ.set i none) := by
  refine ⟨by rw [List.length_set, List.length_set]; exact x.len, fun j e q => ?_⟩
  by_cases hj : i = j
  · subst hj
    by_cases hi : i < Γ.length
    · rw [List.getElem?_set_self hi] at q; cases q
    · rw [List.getElem?_eq_none (by rw [List.length_set]; omega)] at q; cases q
  · rw [List.getElem?_set_ne hj] at q ⊢
    exact x.at_ j e q
/-- the slots of a block's own names forgotten -/
def wipeG (Γ : Ga) : List Nat → Ga
  | [] => Γ
  | v :: vs => (wipeG Γ vs).set v none
theorem Sl.wipe (x : Sl K G σ Γ) : ∀ vs : List Nat, Sl K G (L2.wipe σ vs) (wipeG Γ vs)
  | [] => x
  | v :: vs => (x.wipe vs).unset v
def startG (n : Nat) (ds : List Dt) : Ga := ds.map some ++ List.replicate (n - ds.length) none
theorem Sl.start {N : List Str} {vs : List V} {ds : List Dt} (h : Dvs K G vs ds) : Sl K G (L2.start N vs) (startG N.length ds) := by
  have e := h.length
  refine ⟨by simp [L2.start, startG, e], fun i d q => ?_⟩
  unfold startG at q
  unfold L2.start
  by_cases hi : i < ds.length
  · rw [List.getElem?_append_left (by simpa using hi), List.getElem?_map] at q
    cases z : ds[i]? with
    | none => rw [z] at q; cases q
    | some d' =>
      rw [z] at q
      have e2 : d' = d := by simpa using q
      subst e2
      obtain ⟨v, a, b⟩ := h.get z
      refine ⟨v, ?_, b⟩
      rw [List.getElem?_append_left (by simpa [e] using hi), List.getElem?_map, a]
      rfl
  · rw [List.getElem?_append_right (by simpa using hi)] at q
    have q2 := List.getElem?_replicate (n := N.length - ds.length) (a := (none : Option Dt)) (i := i - (ds.map some).length)
    rw [q] at q2
    split at q2
    · cases q2
    · cases q2
theorem Sl.ext (x : Sl K G σ Γ) {Δ : Ga} (e : Γ = Δ) : Sl K G σ Δ := e ▸ x
end
end K70
/-! Readings told by data: expressions, tests, arguments, what is walked, targets, comprehensions, statements. -/
namespace K70
open PySem PySem.Spec PyProof.Rows L2

section
variable (K : PySem.W.Frag) (m : Mu)
def EvG (te : TE) (Γ : Ga) (P : Dt → Prop) : Prop :=
  ∀ σ G H, Sl K G σ Γ → Same G H → m.M G H → ∀ Q : VK, (∀ v d G' H', P d → Grow m.μ G H G' H' → m.M G' H' → Dv K G' v d → Q v H') → te σ H Q
def EtG (tt : TT) (Γ : Ga) (P : Bool → Prop) : Prop :=
  ∀ σ G H, Sl K G σ Γ → Same G H → m.M G H → ∀ Q : Bool → Hp → Prop, (∀ b G' H', P b → Grow m.μ G H G' H' → m.M G' H' → Q b H') → tt σ H Q
def EaG (ta : TA) (Γ : Ga) (P : List Dt → Prop) : Prop :=
  ∀ σ G H, Sl K G σ Γ → Same G H → m.M G H → ∀ Q : List V → Hp → Prop, (∀ vs ds G' H', P ds → Grow m.μ G H G' H' → m.M G' H' → Dvs K G' vs ds → Q vs H') → ta σ H Q
/-- an optional part of a slice -/
def EoG (to : TO) (Γ : Ga) (P : Option Int → Prop) : Prop :=
  ∀ σ G H, Sl K G σ Γ → Same G H → m.M G H → ∀ Q : Option Int → Hp → Prop, (∀ o G' H', P o → Grow m.μ G H G' H' → m.M G' H' → Q o H') → to σ H Q
abbrev Ev (te : TE) (Γ : Ga) (d : Dt) : Prop := EvG K m te Γ (· = d)
abbrev Et (tt : TT) (Γ : Ga) (b : Bool) : Prop := EtG K m tt Γ (· = b)
abbrev Ea (ta : TA) (Γ : Ga) (ds : List Dt) : Prop := EaG K m ta Γ (· = ds)
abbrev Eo (to : TO) (Γ : Ga) (o : Option Int) : Prop := EoG K m to Γ (· = o)
/-- operators, unary ones, calls and methods by values: what they give of data -/
def RG (r : R2) (a b : Dt) (P : Dt → Prop) : Prop :=
  ∀ G H x y, Same G H → Dv K G x a → Dv K G y b → ∀ Q : VK, (∀ v d G' H', P d → Grow Pure G H G' H' → Dv K G' v d → Q v H') → r x y H Q
def UG (r : V → Hp → VK → Prop) (a : Dt) (P : Dt → Prop) : Prop :=
  ∀ G H x, Same G H → Dv K G x a → ∀ Q : VK, (∀ v d G' H', P d → Grow Pure G H G' H' → Dv K G' v d → Q v H') → r x H Q
def CG (r : List V → Hp → VK → Prop) (as : List Dt) (P : Dt → Prop) : Prop :=
  ∀ G H xs, Same G H → Dvs K G xs as → ∀ Q : VK, (∀ v d G' H', P d → Grow Pure G H G' H' → Dv K G' v d → Q v H') → r xs H Q
def MG (r : V → List V → Hp → VK → Prop) (a : Dt) (as : List Dt) (P : Dt → Prop) : Prop :=
  ∀ G H x xs, Same G H → Dv K G x a → Dvs K G xs as → ∀ Q : VK, (∀ v d G' H', P d → Grow Pure G H G' H' → Dv K G' v d → Q v H') → r x xs H Q
def LG (r : V → Option Int → Option Int → Hp → VK → Prop) (a : Dt) (lo hi : Option Int) (P : Dt → Prop) : Prop :=
  ∀ G H x, Same G H → Dv K G x a → ∀ Q : VK, (∀ v d G' H', P d → Grow Pure G H G' H' → Dv K G' v d → Q v H') → r x lo hi H Q
end
section
variable {K : PySem.W.Frag} {m : Mu} {Γ : Ga} {te ta tb tc : TE} {P Pa Pb Pc : Dt → Prop} {tt t u : TT} {B B' : Bool → Prop}
theorem EvG.imp {P' : Dt → Prop} (h : EvG K m te Γ P) (f : ∀ d, P d → P' d) : EvG K m te Γ P' := fun σ G H x s M Q k => h σ G H x s M Q fun v d G' H' p => k v d G' H' (f d p)
theorem EtG.imp {P' : Bool → Prop} (h : EtG K m tt Γ B) (f : ∀ d, B d → P' d) : EtG K m tt Γ P' := fun σ G H x s M Q k => h σ G H x s M Q fun v G' H' p => k v G' H' (f v p)
theorem EvG.to {d e : Dt} (h : Ev K m te Γ d) (q : d = e) : Ev K m te Γ e := q ▸ h
theorem EtG.to {d e : Bool} (h : Et K m tt Γ d) (q : d = e) : Et K m tt Γ e := q ▸ h
theorem ev_var {i : Nat} {d : Dt} (h : Γ[i]? = some (some d)) : Ev K m (tVar i) Γ d := fun σ G H x s M Q k =>
  let ⟨v, a, b⟩ := x.at_ i d h
  ⟨v, a, k v d G H rfl (Grow.refl s) M b⟩
theorem ev_c {v : V} {d : Dt} (h : ∀ G, Dv K G v d) : Ev K m (tC v) Γ d := fun σ G H x s M Q k => k v d G H rfl (Grow.refl s) M (h G)
theorem ev_int {i : Int} : Ev K m (tC (.int i)) Γ (.int i) := ev_c fun _ => .int i
theorem ev_bl {b : Bool} : Ev K m (tC (.bl b)) Γ (.bl b) := ev_c fun _ => .bl b
theorem ev_non : Ev K m (tC .non) Γ .non := ev_c fun _ => .non
theorem ev_str {x : Str} : Ev K m (tC (.str x)) Γ (.str x.cps.toList) := ev_c fun G => by
  have h : Dv K G (.str (tx x.cps.toList)) (.str x.cps.toList) := .str _
  rw [tx_of] at h; exact h
theorem ev_raw {v : V} : Ev K m (tC v) Γ (.raw v) := ev_c fun _ => .raw v
theorem er_op {r : R2} (ha : EvG K m ta Γ Pa) (hb : EvG K m tb Γ Pb) (hr : ∀ a b, Pa a → Pb b → RG K r a b P) : EvG K m (tOp r ta tb) Γ P := fun σ G H x s M Q k =>
  ha σ G H x s M _ fun v1 d1 G1 H1 p1 g1 M1 r1 => hb σ G1 H1 (x.mono g1.g) g1.sub M1 _ fun v2 d2 G2 H2 p2 g2 M2 r2 =>
    hr d1 d2 p1 p2 G2 H2 v1 v2 g2.sub (r1.mono g2.g) r2 Q fun v d G3 H3 p g3 r3 => k v d G3 H3 p ((g1.trans g2).trans g3.lift) (Mu.pure g3 M2) r3
theorem ev_op {r : R2} {a b : Dt} (ha : Ev K m ta Γ a) (hb : Ev K m tb Γ b) (hr : RG K r a b P) : EvG K m (tOp r ta tb) Γ P := er_op ha hb fun _ _ e1 e2 => by rw [e1, e2]; exact hr
theorem er_un {r : V → Hp → VK → Prop} (ha : EvG K m ta Γ Pa) (hr : ∀ a, Pa a → UG K r a P) : EvG K m (tUn r ta) Γ P := fun σ G H x s M Q k =>
  ha σ G H x s M _ fun v1 d1 G1 H1 p1 g1 M1 r1 => hr d1 p1 G1 H1 v1 g1.sub r1 Q fun v d G3 H3 p g3 r3 => k v d G3 H3 p (g1.trans g3.lift) (Mu.pure g3 M1) r3
theorem ev_un {r : V → Hp → VK → Prop} {a : Dt} (ha : Ev K m ta Γ a) (hr : UG K r a P) : EvG K m (tUn r ta) Γ P := er_un ha fun _ e => by rw [e]; exact hr
theorem ea_nil : Ea K m tNil Γ [] := fun σ G H x s M Q k => k [] [] G H rfl (Grow.refl s) M .nil
theorem er_cons {tr : TA} {R P' : List Dt → Prop} (ha : EvG K m ta Γ Pa) (hr : EaG K m tr Γ R) (hp : ∀ a as, Pa a → R as → P' (a :: as)) : EaG K m (tCons ta tr) Γ P' := fun σ G H x s M Q k =>
  ha σ G H x s M _ fun v1 d1 G1 H1 p1 g1 M1 r1 => hr σ G1 H1 (x.mono g1.g) g1.sub M1 _ fun vs ds G2 H2 p2 g2 M2 r2 => k (v1 :: vs) (d1 :: ds) G2 H2 (hp _ _ p1 p2) (g1.trans g2) M2 (.cons (r1.mono g2.g) r2)
theorem ea_cons {tr : TA} {a : Dt} {as : List Dt} (ha : Ev K m ta Γ a) (hr : Ea K m tr Γ as) : Ea K m (tCons ta tr) Γ (a :: as) := er_cons ha hr fun _ _ e1 e2 => by rw [e1, e2]
theorem er_tup {t : TA} {R : List Dt → Prop} (h : EaG K m t Γ R) (hl : ∀ ds, R ds → ds.length ≤ 100000 ∧ P (.tup ds)) : EvG K m (tTup t) Γ P := fun σ G H x s M Q k =>
  h σ G H x s M _ fun vs ds G1 H1 p1 g1 M1 r1 => ⟨by rw [r1.length]; exact Nat.le_trans (hl ds p1).1 (by decide), fun p hp =>
    have g2 : Grow Pure G1 H1 (upd G1 p (.tup vs)) (upd H1 p (.tup vs)) := Grow.grow g1.sub hp
    k _ _ _ _ (hl ds p1).2 (g1.trans g2.lift) (Mu.pure g2 M1) (.tup upd_same (r1.mono g2.g))⟩
theorem ev_tup {t : TA} {ds : List Dt} (h : Ea K m t Γ ds) (hl : ds.length ≤ 100000) : Ev K m (tTup t) Γ (.tup ds) := er_tup h fun _ e => by rw [e]; exact ⟨hl, rfl⟩
theorem er_lst {t : TA} {R : List Dt → Prop} (h : EaG K m t Γ R) (hl : ∀ ds, R ds → ds.length ≤ 100000 ∧ P (.lst ds)) : EvG K m (tLst t) Γ P := fun σ G H x s M Q k =>
  h σ G H x s M _ fun vs ds G1 H1 p1 g1 M1 r1 => ⟨by rw [r1.length]; exact Nat.le_trans (hl ds p1).1 (by decide), fun p hp =>
    have g2 : Grow Pure G1 H1 (upd G1 p (.lst vs)) (upd H1 p (.lst vs)) := Grow.grow g1.sub hp
    k _ _ _ _ (hl ds p1).2 (g1.trans g2.lift) (Mu.pure g2 M1) (.lst upd_same (r1.mono g2.g))⟩
theorem ev_lst {t : TA} {ds : List Dt} (h : Ea K m t Γ ds) (hl : ds.length ≤ 100000) : Ev K m (tLst t) Γ (.lst ds) := er_lst h fun _ e => by rw [e]; exact ⟨hl, rfl⟩
theorem eo_none : Eo K m tNoPart Γ none := fun σ G H x s M Q k => k none G H rfl (Grow.refl s) M
theorem er_some {O : Option Int → Prop} (h : EvG K m te Γ P) (hp : ∀ d, P d → ∃ i, d = .int i ∧ O (some i)) : EoG K m (tPart te) Γ O := fun σ G H x s M Q k =>
  h σ G H x s M _ fun v d G1 H1 p1 g1 M1 r1 => by
    obtain ⟨i, rfl, o⟩ := hp d p1
    exact ⟨i, r1.int_inv, k _ G1 H1 o g1 M1⟩
theorem eo_some {i : Int} (h : Ev K m te Γ (.int i)) : Eo K m (tPart te) Γ (some i) := er_some h fun _ e => ⟨i, e, rfl⟩
theorem er_sl {r : V → Option Int → Option Int → Hp → VK → Prop} {tl th : TO} {O1 O2 : Option Int → Prop} (ha : EvG K m te Γ Pa) (h1 : EoG K m tl Γ O1) (h2 : EoG K m th Γ O2) (hr : ∀ a lo hi, Pa a → O1 lo → O2 hi → LG K r a lo hi P) : EvG K m (tSl r te tl th) Γ P := fun σ G H x s M Q k =>
  ha σ G H x s M _ fun v1 d1 G1 H1 p1 g1 M1 r1 => h1 σ G1 H1 (x.mono g1.g) g1.sub M1 _ fun lo G2 H2 p2 g2 M2 => h2 σ G2 H2 ((x.mono g1.g).mono g2.g) g2.sub M2 _ fun hi G3 H3 p3 g3 M3 =>
    hr d1 lo hi p1 p2 p3 G3 H3 v1 g3.sub (r1.mono (g2.g.trans g3.g)) Q fun v d G4 H4 p g4 r4 => k v d G4 H4 p (((g1.trans g2).trans g3).trans g4.lift) (Mu.pure g4 M3) r4
theorem ev_sl {r : V → Option Int → Option Int → Hp → VK → Prop} {tl th : TO} {a : Dt} {lo hi : Option Int} (ha : Ev K m te Γ a) (h1 : Eo K m tl Γ lo) (h2 : Eo K m th Γ hi) (hr : LG K r a lo hi P) : EvG K m (tSl r te tl th) Γ P :=
  er_sl ha h1 h2 fun _ _ _ e1 e2 e3 => by rw [e1, e2, e3]; exact hr
theorem er_cb {r : List V → Hp → VK → Prop} {t : TA} {R : List Dt → Prop} (h : EaG K m t Γ R) (hr : ∀ as, R as → CG K r as P) : EvG K m (tCB r t) Γ P := fun σ G H x s M Q k =>
  h σ G H x s M _ fun vs ds G1 H1 p1 g1 M1 r1 => hr ds p1 G1 H1 vs g1.sub r1 Q fun v d G3 H3 p g3 r3 => k v d G3 H3 p (g1.trans g3.lift) (Mu.pure g3 M1) r3
theorem ev_cb {r : List V → Hp → VK → Prop} {t : TA} {as : List Dt} (h : Ea K m t Γ as) (hr : CG K r as P) : EvG K m (tCB r t) Γ P := er_cb h fun _ e => by rw [e]; exact hr
/-- one argument -/
theorem ev_cb1 {r : List V → Hp → VK → Prop} {a : Dt} (h : Ev K m ta Γ a) (hr : CG K r [a] P) : EvG K m (tCB r (tCons ta tNil)) Γ P := ev_cb (ea_cons h ea_nil) hr
theorem er_cb1 {r : List V → Hp → VK → Prop} (h : EvG K m ta Γ Pa) (hr : ∀ a, Pa a → CG K r [a] P) : EvG K m (tCB r (tCons ta tNil)) Γ P := er_cb (er_cons (P' := fun l => ∃ a, l = [a] ∧ Pa a) h ea_nil fun a as p e => ⟨a, by rw [e], p⟩) fun as ⟨a, e, p⟩ => by rw [e]; exact hr a p
def tyD (T : String) : Dt → Prop
  | .lst _ => T = "list"
  | .str _ => T = "str"
  | _ => False
theorem tyD_ok {T : String} {d : Dt} {v : V} {G H : Hp} (h : tyD T d) (r : Dv K G v d) (s : Same G H) : tyV K T v H := by
  cases d with
  | lst ds =>
    obtain ⟨a, xs, rfl, e, _⟩ := r.lst_inv
    have h' : T = "list" := h
    subst h'
    exact .inl ⟨rfl, xs, .inl (.inl (s _ _ e))⟩
  | str x =>
    obtain rfl := r.str_inv
    exact h
  | _ => exact h.elim
theorem er_bm {T : String} {r : V → List V → Hp → VK → Prop} {t : TA} {R : List Dt → Prop} (ha : EvG K m ta Γ Pa) (h : EaG K m t Γ R) (ht : ∀ a, Pa a → tyD T a) (hr : ∀ a as, Pa a → R as → MG K r a as P) : EvG K m (tBM K T r ta t) Γ P := fun σ G H x s M Q k =>
  ha σ G H x s M _ fun v1 d1 G1 H1 p1 g1 M1 r1 => ⟨tyD_ok (ht d1 p1) r1 g1.sub, h σ G1 H1 (x.mono g1.g) g1.sub M1 _ fun vs ds G2 H2 p2 g2 M2 r2 =>
    hr d1 ds p1 p2 G2 H2 v1 vs g2.sub (r1.mono g2.g) r2 Q fun v d G3 H3 p g3 r3 => k v d G3 H3 p ((g1.trans g2).trans g3.lift) (Mu.pure g3 M2) r3⟩
theorem ev_bm {T : String} {r : V → List V → Hp → VK → Prop} {t : TA} {a : Dt} {as : List Dt} (ha : Ev K m ta Γ a) (h : Ea K m t Γ as) (ht : tyD T a) (hr : MG K r a as P) : EvG K m (tBM K T r ta t) Γ P :=
  er_bm ha h (fun _ e => by rw [e]; exact ht) fun _ _ e1 e2 => by rw [e1, e2]; exact hr
/-- a text's method with one argument -/
theorem er_m1 {r : V → List V → Hp → VK → Prop} (ha : EvG K m ta Γ Pa) (hb : EvG K m tb Γ Pb) (ht : ∀ a, Pa a → ∃ x, a = .str x) (hr : ∀ a b, Pa a → Pb b → MG K r a [b] P) : EvG K m (tM1 r ta tb) Γ P := fun σ G H x s M Q k =>
  ha σ G H x s M _ fun v1 d1 G1 H1 p1 g1 M1 r1 => by
    obtain ⟨z, rfl⟩ := ht d1 p1
    obtain rfl := r1.str_inv
    exact ⟨⟨_, rfl⟩, hb σ G1 H1 (x.mono g1.g) g1.sub M1 _ fun v2 d2 G2 H2 p2 g2 M2 r2 =>
      hr _ d2 p1 p2 G2 H2 _ [v2] g2.sub (r1.mono g2.g) (.cons r2 .nil) Q fun v d G3 H3 p g3 r3 => k v d G3 H3 p ((g1.trans g2).trans g3.lift) (Mu.pure g3 M2) r3⟩
theorem ev_m1 {r : V → List V → Hp → VK → Prop} {x : Tx} {b : Dt} (ha : Ev K m ta Γ (.str x)) (hb : Ev K m tb Γ b) (hr : MG K r (.str x) [b] P) : EvG K m (tM1 r ta tb) Γ P :=
  er_m1 ha hb (fun _ e => ⟨x, e⟩) fun _ _ e1 e2 => by rw [e1, e2]; exact hr
/-! tests -/
theorem er_test (h : EvG K m te Γ P) (hp : ∀ d, P d → ∃ b, d = .bl b ∧ B b) : EtG K m (tTest te) Γ B := fun σ G H x s M Q k =>
  h σ G H x s M _ fun v d G1 H1 p1 g1 M1 r1 => by
    obtain ⟨b, rfl, o⟩ := hp d p1
    exact ⟨b, r1.bl_inv, k _ G1 H1 o g1 M1⟩
theorem et_test {b : Bool} (h : Ev K m te Γ (.bl b)) : Et K m (tTest te) Γ b := er_test h fun _ e => ⟨b, e, rfl⟩
theorem er_B (h : EvG K m te Γ P) (hp : ∀ d, P d → ∃ b, d = .bl b ∧ B b) : EtG K m (tB te) Γ B := fun σ G H x s M Q k =>
  h σ G H x s M _ fun v d G1 H1 p1 g1 M1 r1 => by
    obtain ⟨b, rfl, o⟩ := hp d p1
    exact ⟨b, r1.bl_inv, k _ G1 H1 o g1 M1⟩
theorem et_B {b : Bool} (h : Ev K m te Γ (.bl b)) : Et K m (tB te) Γ b := er_B h fun _ e => ⟨b, e, rfl⟩
theorem et_yes : Et K m tYes Γ true := fun σ G H x s M Q k => k true G H rfl (Grow.refl s) M
theorem er_and (h1 : EtG K m t Γ B) (h2 : B true → EtG K m u Γ B') (h3 : B false → B' false) : EtG K m (tAnd t u) Γ B' := fun σ G H x s M Q k =>
  h1 σ G H x s M _ fun b G1 H1 p1 g1 M1 => by
    cases b with
    | true => exact h2 p1 σ G1 H1 (x.mono g1.g) g1.sub M1 Q fun b G2 H2 p2 g2 M2 => k b G2 H2 p2 (g1.trans g2) M2
    | false => exact k false G1 H1 (h3 p1) g1 M1
theorem er_or (h1 : EtG K m t Γ B) (h2 : B false → EtG K m u Γ B') (h3 : B true → B' true) : EtG K m (tOr t u) Γ B' := fun σ G H x s M Q k =>
  h1 σ G H x s M _ fun b G1 H1 p1 g1 M1 => by
    cases b with
    | false => exact h2 p1 σ G1 H1 (x.mono g1.g) g1.sub M1 Q fun b G2 H2 p2 g2 M2 => k b G2 H2 p2 (g1.trans g2) M2
    | true => exact k true G1 H1 (h3 p1) g1 M1
theorem er_not (h1 : EtG K m t Γ B) : EtG K m (tNot t) Γ (fun b => B !b) := fun σ G H x s M Q k =>
  h1 σ G H x s M _ fun b G1 H1 p1 g1 M1 => k _ G1 H1 (by show B (!!b); rw [Bool.not_not]; exact p1) g1 M1
theorem et_and {a b : Bool} (h1 : Et K m t Γ a) (h2 : a = true → Et K m u Γ b) : Et K m (tAnd t u) Γ (a && b) := er_and h1 (fun e => by rw [← e]; exact h2 e.symm) fun e => by rw [← e]; rfl
theorem et_or {a b : Bool} (h1 : Et K m t Γ a) (h2 : a = false → Et K m u Γ b) : Et K m (tOr t u) Γ (a || b) := er_or h1 (fun e => by rw [← e]; exact h2 e.symm) fun e => by rw [← e]; rfl
theorem et_not {a : Bool} (h1 : Et K m t Γ a) : Et K m (tNot t) Γ (!a) := fun σ G H x s M Q k =>
  h1 σ G H x s M _ fun b G1 H1 p1 g1 M1 => k _ G1 H1 (by rw [p1]) g1 M1
theorem er_notV (h : EvG K m ta Γ Pa) (hp : ∀ d, Pa d → ∃ b, d = .bl b ∧ P (.bl !b)) : EvG K m (tNotV ta) Γ P := fun σ G H x s M Q k =>
  h σ G H x s M _ fun v d G1 H1 p1 g1 M1 r1 => by
    obtain ⟨b, rfl, o⟩ := hp d p1
    exact ⟨b, r1.bl_inv, k _ _ G1 H1 o g1 M1 (.bl _)⟩
theorem ev_notV {b : Bool} (h : Ev K m ta Γ (.bl b)) : Ev K m (tNotV ta) Γ (.bl !b) := er_notV h fun _ e => ⟨b, e, rfl⟩
theorem er_andV (h1 : EvG K m ta Γ Pa) (hp : ∀ d, Pa d → ∃ b, d = .bl b ∧ (b = true → EvG K m tb Γ P) ∧ (b = false → P (.bl false))) : EvG K m (tAndV ta tb) Γ P := fun σ G H x s M Q k =>
  h1 σ G H x s M _ fun v d G1 H1 p1 g1 M1 r1 => by
    obtain ⟨b, rfl, o1, o2⟩ := hp d p1
    refine ⟨b, r1.bl_inv, ?_⟩
    cases b with
    | true => exact o1 rfl σ G1 H1 (x.mono g1.g) g1.sub M1 Q fun v d G2 H2 p2 g2 M2 r2 => k v d G2 H2 p2 (g1.trans g2) M2 r2
    | false => exact k _ _ G1 H1 (o2 rfl) g1 M1 (.bl _)
theorem ev_andV {a b : Bool} (h1 : Ev K m ta Γ (.bl a)) (h2 : a = true → Ev K m tb Γ (.bl b)) : Ev K m (tAndV ta tb) Γ (.bl (a && b)) := er_andV h1 fun _ e => ⟨a, e, fun q => by subst q; exact h2 rfl, fun q => by subst q; rfl⟩
theorem er_orV (h1 : EvG K m ta Γ Pa) (hp : ∀ d, Pa d → ∃ b, d = .bl b ∧ (b = false → EvG K m tb Γ P) ∧ (b = true → P (.bl true))) : EvG K m (tOrV ta tb) Γ P := fun σ G H x s M Q k =>
  h1 σ G H x s M _ fun v d G1 H1 p1 g1 M1 r1 => by
    obtain ⟨b, rfl, o1, o2⟩ := hp d p1
    refine ⟨b, r1.bl_inv, ?_⟩
    cases b with
    | false => exact o1 rfl σ G1 H1 (x.mono g1.g) g1.sub M1 Q fun v d G2 H2 p2 g2 M2 r2 => k v d G2 H2 p2 (g1.trans g2) M2 r2
    | true => exact k _ _ G1 H1 (o2 rfl) g1 M1 (.bl _)
theorem ev_orV {a b : Bool} (h1 : Ev K m ta Γ (.bl a)) (h2 : a = false → Ev K m tb Γ (.bl b)) : Ev K m (tOrV ta tb) Γ (.bl (a || b)) := er_orV h1 fun _ e => ⟨a, e, fun q => by subst q; exact h2 rfl, fun q => by subst q; rfl⟩
theorem er_if (h : EtG K m tt Γ B) (h1 : B true → EvG K m ta Γ P) (h2 : B false → EvG K m tb Γ P) : EvG K m (tIf tt ta tb) Γ P := fun σ G H x s M Q k =>
  h σ G H x s M _ fun b G1 H1 p1 g1 M1 => by
    cases b with
    | true => exact h1 p1 σ G1 H1 (x.mono g1.g) g1.sub M1 Q fun v d G2 H2 p2 g2 M2 r2 => k v d G2 H2 p2 (g1.trans g2) M2 r2
    | false => exact h2 p1 σ G1 H1 (x.mono g1.g) g1.sub M1 Q fun v d G2 H2 p2 g2 M2 r2 => k v d G2 H2 p2 (g1.trans g2) M2 r2
theorem ev_if {b : Bool} (h : Et K m tt Γ b) (h1 : b = true → EvG K m ta Γ P) (h2 : b = false → EvG K m tb Γ P) : EvG K m (tIf tt ta tb) Γ P := er_if h (fun e => h1 e.symm) fun e => h2 e.symm
theorem er_chain {r r' : R2} (ha : EvG K m ta Γ Pa) (hb : EvG K m tb Γ Pb) (hr : ∀ a b, Pa a → Pb b → ∃ c, RG K r a b (· = .bl c) ∧ (c = true → EvG K m tc Γ (fun d => RG K r' b d P)) ∧ (c = false → P (.bl false))) : EvG K m (tChain r r' ta tb tc) Γ P := by
  intro σ G H x s M Q k
  refine ha σ G H x s M _ fun v1 d1 G1 H1 p1 g1 M1 r1 => ?_
  refine hb σ G1 H1 (x.mono g1.g) g1.sub M1 _ fun v2 d2 G2 H2 p2 g2 M2 r2 => ?_
  obtain ⟨c, hc, c1, c2⟩ := hr d1 d2 p1 p2
  refine hc G2 H2 v1 v2 g2.sub (r1.mono g2.g) r2 _ fun v d G3 H3 p g3 r3 => ?_
  rw [p] at r3
  refine ⟨c, r3.bl_inv, ?_⟩
  have M3 := Mu.pure g3 M2
  cases c with
  | true =>
    refine c1 rfl σ G3 H3 ((x.mono (g1.g.trans g2.g)).mono g3.g) g3.sub M3 _ fun v4 d4 G4 H4 p4 g4 M4 r4 => ?_
    refine p4 G4 H4 v2 v4 g4.sub (r2.mono (g3.g.trans g4.g)) r4 Q fun v d G5 H5 p5 g5 r5 => ?_
    exact k v d G5 H5 p5 ((((g1.trans g2).trans g3.lift).trans g4).trans g5.lift) (Mu.pure g5 M4) r5
  | false => exact k _ _ G3 H3 (c2 rfl) ((g1.trans g2).trans g3.lift) M3 (.bl _)
theorem ev_chain {r r' : R2} {a b d : Dt} {c c' : Bool} (ha : Ev K m ta Γ a) (hb : Ev K m tb Γ b) (hr : RG K r a b (· = .bl c)) (hc : c = true → Ev K m tc Γ d) (hr' : c = true → RG K r' b d (· = .bl c')) : Ev K m (tChain r r' ta tb tc) Γ (.bl (c && c')) :=
  er_chain ha hb fun _ _ e1 e2 => ⟨c, by rw [e1, e2]; exact hr, fun e => (hc e).imp fun _ q => by rw [q, e2]; have := hr' e; rw [e]; exact this, fun e => by rw [e]; rfl⟩
theorem EvG.weak {P' : Dt → Prop} (h : EvG K m te Γ P) (f : ∀ d, P d → ∃ d', P' d' ∧ ∀ G v, Dv K G v d → Dv K G v d') : EvG K m te Γ P' := fun σ G H x s M Q k => h σ G H x s M Q fun v d G' H' p g M' r => let ⟨d', p', w⟩ := f d p; k v d' G' H' p' g M' (w G' v r)
theorem ev_tupN {l : List Dt} (h : Ev K m te Γ (.tupN l)) : Ev K m te Γ (.tupW l) := h.weak fun d e => ⟨.tupW l, rfl, fun G v r => by rw [e] at r; exact r.tupN_W⟩
theorem ev_tupW {l : List Dt} (h : Ev K m te Γ (.tup l)) : Ev K m te Γ (.tupW l) := h.weak fun d e => ⟨.tupW l, rfl, fun G v r => by rw [e] at r; exact r.tup_W⟩
/-! fields, calls of defs -/
theorem DvM.lookup {G : Hp} {f : Str} : ∀ {fs : List (Str × V)} {ds : List (Str × Dt)}, DvM K G fs ds → (fs.lookup f = none ∧ ds.lookup f = none) ∨ ∃ v d, fs.lookup f = some v ∧ ds.lookup f = some d ∧ Dv K G v d
  | _, _, .nil => .inl ⟨rfl, rfl⟩
  | _, _, .cons (k := k) (v := v) (d := d) h r => by
    by_cases e : f == k
    · exact .inr ⟨v, d, by rw [List.lookup_cons, e], by rw [List.lookup_cons, e], h⟩
    · have e' : (f == k) = false := by simpa using e
      rw [List.lookup_cons, e', List.lookup_cons, e']
      exact r.lookup
theorem er_fld {C : Addr} {f : Str} (h : EvG K m ta Γ Pa) (hc : Cls K C) (hn : NoAttr K C f) (hp : ∀ a, Pa a → ∃ ds d, a = .ins C ds ∧ ds.lookup f = some d ∧ P d) : EvG K m (tFld K ta f) Γ P := fun σ G H x s M Q k =>
  h σ G H x s M _ fun v d G1 H1 p1 g1 M1 r1 => by
    obtain ⟨ds, d, rfl, e, o⟩ := hp d p1
    obtain ⟨a, dx, fs, rfl, ga, rf⟩ := r1.ins_inv
    rcases rf.lookup (f := f) with ⟨_, z⟩ | ⟨v, d', z1, z2, z3⟩
    · rw [e] at z; cases z
    · rw [e] at z2; cases z2
      exact ⟨a, C, dx, fs, v, rfl, g1.sub _ _ ga, hc, hn, z1, k v d G1 H1 o g1 M1 z3⟩
theorem ev_fld {C : Addr} {f : Str} {ds : List (Str × Dt)} {d : Dt} (h : Ev K m ta Γ (.ins C ds)) (hc : Cls K C) (hn : NoAttr K C f) (e : ds.lookup f = some d) : Ev K m (tFld K ta f) Γ d := er_fld h hc hn fun _ q => ⟨ds, d, q, e, rfl⟩
end

/-- the promise of a def: of data, by what is changed -/
def Fn (K : PySem.W.Frag) {α : Type} (arg : α → List Dt) (mk : α → Mu) (pre : α → Prop) (post : α → Dt → Prop) : Sp := fun vs H Q _ =>
  ∃ a G, Dvs K G vs (arg a) ∧ Same G H ∧ (mk a).M G H ∧ pre a ∧ ∀ v d G' H', post a d → Grow (mk a).μ G H G' H' → (mk a).M G' H' → Dv K G' v d → Q v H'
abbrev stillF {α : Type} : α → Mu := fun _ => still
/-- one that changes nothing -/
abbrev Fs (K : PySem.W.Frag) {α : Type} (arg : α → List Dt) (pre : α → Prop) (post : α → Dt → Prop) : Sp := Fn K arg stillF pre post
section
variable {K : PySem.W.Frag} {m : Mu} {Γ : Ga} {te ta tb tc : TE} {P Pa Pb Pc : Dt → Prop} {E : XK} {α : Type} {arg : α → List Dt} {mk : α → Mu} {pre : α → Prop} {post : α → Dt → Prop}
theorem er_call {t : TA} {R : List Dt → Prop} (h : EaG K m t Γ R) (hp : ∀ ds, R ds → ∃ a, ds = arg a ∧ pre a ∧ mk a = m ∧ ∀ d, post a d → P d) : EvG K m (tCall (Fn K arg mk pre post) [] E t) Γ P := fun σ G H x s M Q k =>
  h σ G H x s M _ fun vs ds G1 H1 p1 g1 M1 r1 => by
    obtain ⟨a, rfl, q1, q2, q3⟩ := hp ds p1
    rw [List.append_nil]
    exact ⟨a, G1, r1, g1.sub, by rw [q2]; exact M1, q1, fun v d G' H' p g Mg r => by
      rw [q2] at g Mg
      exact k v d G' H' (q3 d p) (g1.trans g) Mg r⟩
theorem er_callS {t : TA} {R : List Dt → Prop} (h : EaG K m t Γ R) (hp : ∀ ds, R ds → ∃ a, ds = arg a ∧ pre a ∧ ∀ d, post a d → P d) : EvG K m (tCall (Fs K arg pre post) [] E t) Γ P := fun σ G H x s M Q k =>
  h σ G H x s M _ fun vs ds G1 H1 p1 g1 M1 r1 => by
    obtain ⟨a, rfl, q1, q3⟩ := hp ds p1
    rw [List.append_nil]
    exact ⟨a, G1, r1, g1.sub, trivial, q1, fun v d G' H' p g _ r => k v d G' H' (q3 d p) (g1.trans (Grow.lift g)) (Mu.pure g M1) r⟩
/-- a call of a def that changes nothing -/
theorem ev_call {t : TA} (a : α) (h : Ea K m t Γ (arg a)) (hp : pre a) : EvG K m (tCall (Fs K arg pre post) [] E t) Γ (post a) := er_callS h fun _ e => ⟨a, e, hp, fun _ q => q⟩
theorem er_meth {C : Addr} {f : Str} {t : TA} {R : List Dt → Prop} (ha : EvG K m ta Γ Pa) (h : EaG K m t Γ R) (hc : ∀ a, Pa a → ∃ fs, a = .ins C fs ∧ fs.lookup f = none) (hp : ∀ x ds, Pa x → R ds → ∃ a, x :: ds = arg a ∧ pre a ∧ ∀ d, post a d → P d) :
    EvG K m (tMeth C f (Fs K arg pre post) [] E ta t) Γ P := fun σ G H x s M Q k =>
  ha σ G H x s M _ fun v0 a G0 H0 p0 g0 M0 r0 => by
    obtain ⟨ds0, rfl, e⟩ := hc a p0
    obtain ⟨a, dx, fs, rfl, ga, rf⟩ := id r0.ins_inv
    refine ⟨a, dx, fs, rfl, g0.sub _ _ ga, ?_, ?_⟩
    · rcases rf.lookup (f := f) with ⟨z, _⟩ | ⟨v, d', z1, z2, z3⟩
      · exact z
      · rw [e] at z2; cases z2
    · refine h σ G0 H0 (x.mono g0.g) g0.sub M0 _ fun vs ds G1 H1 p1 g1 M1 r1 => ?_
      obtain ⟨b, e2, q1, q3⟩ := hp _ ds p0 p1
      rw [List.append_nil]
      have r2 : Dvs K G1 (.ref a :: vs) (arg b) := by rw [← e2]; exact .cons (r0.mono g1.g) r1
      exact ⟨b, G1, r2, g1.sub, trivial, q1, fun v d G' H' p g _ r => k v d G' H' (q3 d p) ((g0.trans g1).trans (Grow.lift g)) (Mu.pure g M1) r⟩
theorem ev_meth {C : Addr} {f : Str} {t : TA} {fs : List (Str × Dt)} {ds : List Dt} (a : α) (ha : Ev K m ta Γ (.ins C fs)) (h : Ea K m t Γ ds) (hn : fs.lookup f = none) (he : .ins C fs :: ds = arg a) (hp : pre a) :
    EvG K m (tMeth C f (Fs K arg pre post) [] E ta t) Γ (post a) := er_meth ha h (fun _ e => ⟨fs, e, hn⟩) fun _ _ e1 e2 => ⟨a, by rw [e1, e2, he], hp, fun _ q => q⟩
end
end K70
/-! What is walked, targets, comprehensions, statements. -/
namespace K70
open PySem PySem.Spec PyProof.Rows L2

/-- an iterator that gives these data, whatever else changes -/
structure Src (K : PySem.W.Frag) (G : Hp) (J : It) (ds : List Dt) : Prop where
  goes : ∀ i H, i < ds.length → Same G H → J.go i H
  stops : ∀ H, Same G H → J.stop ds.length H
  yields : ∀ i d H x H' G', ds[i]? = some d → Same G G' → Same G' H → J.yld i H x H' → ∃ G2, Grow Pure G' H G2 H' ∧ Dv K G2 x d
def SrcG (K : PySem.W.Frag) (m : Mu) (wi : TI) (Γ : Ga) (S : List Dt → Prop) : Prop :=
  ∀ σ G H, Sl K G σ Γ → Same G H → m.M G H → ∀ R : It → Hp → Prop, (∀ J ds G1 H1, S ds → Grow m.μ G H G1 H1 → m.M G1 H1 → Src K G1 J ds → R J H1) → wi σ H R
/-- a target: what it stores of d; the slots that it touches are js -/
def TgG (K : PySem.W.Frag) (g : TG) (d : Dt) (Γ Γ' : Ga) (js : List Nat) : Prop :=
  ∀ σ G H x, Sl K G σ Γ → Same G H → Dv K G x d → ∀ Q : L2.St → Hp → Prop, (∀ σ', Sl K G σ' Γ' → (∀ vs : List Nat, (∀ j ∈ js, j ∈ vs) → wipe σ' vs = wipe σ vs) → Q σ' H) → g x σ H Q

theorem wipe_comm (σ : L2.St) (j : Nat) (x : Option V) (v : Nat) (h : j ≠ v) : (σ.set j x).set v none = (σ.set v none).set j x := List.set_comm x none h
theorem wipe_set_out {σ : L2.St} {j : Nat} {x : Option V} : ∀ {vs : List Nat}, j ∉ vs → wipe (σ.set j x) vs = (wipe σ vs).set j x
  | [], _ => rfl
  | v :: vs, h => by
    have h1 : j ≠ v := fun e => h (by rw [e]; exact List.mem_cons_self)
    have h2 : j ∉ vs := fun e => h (List.mem_cons_of_mem _ e)
    show (wipe (σ.set j x) vs).set v none = ((wipe σ vs).set v none).set j x
    rw [wipe_set_out h2, wipe_comm _ _ _ _ h1]
theorem wipe_set {σ : L2.St} {j : Nat} {x : Option V} : ∀ {vs : List Nat}, j ∈ vs → wipe (σ.set j x) vs = wipe σ vs
  | [], h => by cases h
  | v :: vs, h => by
    show (wipe (σ.set j x) vs).set v none = (wipe σ vs).set v none
    by_cases h2 : j ∈ vs
    · rw [wipe_set h2]
    · have e : j = v := by
        rcases List.mem_cons.mp h with e | e
        · exact e
        · exact absurd e h2
      rw [wipe_set_out h2, e, List.set_set]
theorem wipe_wipe {σ : L2.St} : ∀ {us vs : List Nat}, (∀ j ∈ us, j ∈ vs) → wipe (wipe σ us) vs = wipe σ vs
  | [], _, _ => rfl
  | u :: us, vs, h => by
    show wipe ((wipe σ us).set u none) vs = _
    rw [wipe_set (h u List.mem_cons_self), wipe_wipe fun j hj => h j (List.mem_cons_of_mem _ hj)]

section
variable {K : PySem.W.Frag} {m : Mu} {Γ Γ' : Ga} {te ta tb : TE} {P : Dt → Prop} {tt : TT} {wi : TI} {g : TG} {S : List Dt → Prop}
theorem tg_name {j : Nat} {d : Dt} : TgG K (gName j) d Γ (Γ.set j (some d)) [j] := fun σ G H x sl s r Q k =>
  k _ (sl.set j r) fun vs h => wipe_set (h j (by simp))
/-- a, b = .. -/
theorem tg_twoW {i j : Nat} {d e : Dt} : TgG K (gTup K 2 (gCons (gName i) (gCons (gName j) gNil))) (.tupW [d, e]) Γ ((Γ.set i (some d)).set j (some e)) [i, j] := fun σ G H x sl s r Q k => by
  obtain ⟨a, xs, rfl, hs, rs⟩ := r.tupW_inv
  cases rs with
  | cons r1 rs =>
    cases rs with
    | cons r2 rs =>
      cases rs
      rename_i v1 v2
      refine ⟨a, [v1, v2], rfl, same_seqT s hs, rfl, v1, [v2], rfl, v2, [], rfl, rfl, ?_⟩
      refine k _ ((sl.set i r1).set j r2) fun vs h => ?_
      rw [wipe_set (h j (by simp)), wipe_set (h i (by simp))]
theorem tg_two {i j : Nat} {d e : Dt} : TgG K (gTup K 2 (gCons (gName i) (gCons (gName j) gNil))) (.tup [d, e]) Γ ((Γ.set i (some d)).set j (some e)) [i, j] := fun σ G H x sl s r Q k => tg_twoW σ G H x sl s r.tup_W Q k
theorem tg_threeW {i j l : Nat} {d e f : Dt} : TgG K (gTup K 3 (gCons (gName i) (gCons (gName j) (gCons (gName l) gNil)))) (.tupW [d, e, f]) Γ (((Γ.set i (some d)).set j (some e)).set l (some f)) [i, j, l] := fun σ G H x sl s r Q k => by
  obtain ⟨a, xs, rfl, hs, rs⟩ := r.tupW_inv
  cases rs with
  | cons r1 rs =>
    cases rs with
    | cons r2 rs =>
      cases rs with
      | cons r3 rs =>
        cases rs
        rename_i v1 v2 v3
        refine ⟨a, [v1, v2, v3], rfl, same_seqT s hs, rfl, v1, [v2, v3], rfl, v2, [v3], rfl, v3, [], rfl, rfl, ?_⟩
        refine k _ (((sl.set i r1).set j r2).set l r3) fun vs h => ?_
        rw [wipe_set (h l (by simp)), wipe_set (h j (by simp)), wipe_set (h i (by simp))]
theorem tg_three {i j l : Nat} {d e f : Dt} : TgG K (gTup K 3 (gCons (gName i) (gCons (gName j) (gCons (gName l) gNil)))) (.tup [d, e, f]) Γ (((Γ.set i (some d)).set j (some e)).set l (some f)) [i, j, l] := fun σ G H x sl s r Q k => tg_threeW σ G H x sl s r.tup_W Q k
theorem tg_fourW {i j l n : Nat} {d e f b : Dt} : TgG K (gTup K 4 (gCons (gName i) (gCons (gName j) (gCons (gName l) (gCons (gName n) gNil))))) (.tupW [d, e, f, b]) Γ ((((Γ.set i (some d)).set j (some e)).set l (some f)).set n (some b)) [i, j, l, n] := fun σ G H x sl s r Q k => by
  obtain ⟨a, xs, rfl, hs, rs⟩ := r.tupW_inv
  cases rs with
  | cons r1 rs =>
    cases rs with
    | cons r2 rs =>
      cases rs with
      | cons r3 rs =>
        cases rs with
        | cons r4 rs =>
          cases rs
          rename_i v1 v2 v3 v4
          refine ⟨a, [v1, v2, v3, v4], rfl, same_seqT s hs, rfl, v1, [v2, v3, v4], rfl, v2, [v3, v4], rfl, v3, [v4], rfl, v4, [], rfl, rfl, ?_⟩
          refine k _ ((((sl.set i r1).set j r2).set l r3).set n r4) fun vs h => ?_
          rw [wipe_set (h n (by simp)), wipe_set (h l (by simp)), wipe_set (h j (by simp)), wipe_set (h i (by simp))]

theorem tg_four {i j l n : Nat} {d e f b : Dt} : TgG K (gTup K 4 (gCons (gName i) (gCons (gName j) (gCons (gName l) (gCons (gName n) gNil))))) (.tup [d, e, f, b]) Γ ((((Γ.set i (some d)).set j (some e)).set l (some f)).set n (some b)) [i, j, l, n] := fun σ G H x sl s r Q k => tg_fourW σ G H x sl s r.tup_W Q k
/-! ### what is walked -/
theorem sr_list {tl : TE} (h : EvG K m tl Γ P) (hp : ∀ d, P d → ∃ ds, d = .lst ds ∧ S ds) : SrcG K m (iList K tl) Γ S := fun σ G H x s M R k =>
  h σ G H x s M _ fun v d G1 H1 p1 g1 M1 r1 => by
    obtain ⟨ds, rfl, q⟩ := hp d p1
    obtain ⟨a, xs, rfl, ga, rs⟩ := r1.lst_inv
    have hx : ∀ H, Same G1 H → SqL K H a xs := fun H s => SqL.of (s _ _ ga)
    refine ⟨a, rfl, ⟨xs, hx _ g1.sub⟩, k _ ds G1 H1 q g1 M1 ⟨fun i H hi s => ?_, fun H s => ⟨xs, hx H s, by rw [rs.length]; exact Nat.le_refl _⟩, fun i d H x H' G' e sg s y => ?_⟩⟩
    · rw [← rs.length] at hi
      exact ⟨xs, _, hx H s, List.getElem?_eq_getElem hi⟩
    · obtain ⟨rfl, y⟩ := y
      obtain ⟨v, e1, e2⟩ := rs.get e
      have q2 := y xs (hx H' (sg.trans s))
      rw [e1] at q2
      cases q2
      exact ⟨G', Grow.refl s, e2.mono sg⟩
theorem sv_list {tl : TE} {ds : List Dt} (h : Ev K m tl Γ (.lst ds)) : SrcG K m (iList K tl) Γ (· = ds) := sr_list h fun d e => ⟨ds, e, rfl⟩
theorem sr_tupW {tl : TE} (h : EvG K m tl Γ P) (hp : ∀ d, P d → ∃ ds, d = .tupW ds ∧ S ds) : SrcG K m (iTup K tl) Γ S := fun σ G H x s M R k =>
  h σ G H x s M _ fun v d G1 H1 p1 g1 M1 r1 => by
    obtain ⟨ds, rfl, q⟩ := hp d p1
    obtain ⟨a, xs, rfl, ga, rs⟩ := r1.tupW_inv
    have hx : ∀ H, Same G1 H → SqT K H a xs := fun H s => same_seqT s ga
    refine ⟨a, rfl, ⟨xs, hx _ g1.sub⟩, k _ ds G1 H1 q g1 M1 ⟨fun i H hi s => ?_, fun H s => ⟨xs, hx H s, by rw [rs.length]; exact Nat.le_refl _⟩, fun i d H x H' G' e sg s y => ?_⟩⟩
    · rw [← rs.length] at hi
      exact ⟨xs, _, hx H s, List.getElem?_eq_getElem hi⟩
    · obtain ⟨rfl, y⟩ := y
      obtain ⟨v, e1, e2⟩ := rs.get e
      have q2 := y xs (hx H' (sg.trans s))
      rw [e1] at q2
      cases q2
      exact ⟨G', Grow.refl s, e2.mono sg⟩
theorem sv_tupW {tl : TE} {ds : List Dt} (h : Ev K m tl Γ (.tupW ds)) : SrcG K m (iTup K tl) Γ (· = ds) := sr_tupW h fun d e => ⟨ds, e, rfl⟩
theorem sv_tup {tl : TE} {ds : List Dt} (h : Ev K m tl Γ (.tup ds)) : SrcG K m (iTup K tl) Γ (· = ds) := sv_tupW (ev_tupW h)
/-- the signs of a text -/
def sgn (x : Tx) : List Dt := x.map fun c => .str [c]
theorem sr_str {tl : TE} (h : EvG K m tl Γ P) (hp : ∀ d, P d → ∃ x, d = .str x ∧ S (sgn x)) : SrcG K m (iStr tl) Γ S := fun σ G H x s M R k =>
  h σ G H x s M _ fun v d G1 H1 p1 g1 M1 r1 => by
    obtain ⟨z, rfl, q⟩ := hp d p1
    obtain rfl := r1.str_inv
    have hz : (tx z).cps.size = (sgn z).length := by simp [tx, sgn]
    refine ⟨tx z, rfl, k _ (sgn z) G1 H1 q g1 M1 ⟨fun i H hi s => ?_, fun H s => ?_, fun i d H x H' G' e sg s y => ?_⟩⟩
    · show i < (tx z).cps.size
      rw [hz]; exact hi
    · show (tx z).cps.size ≤ _
      rw [hz]; exact Nat.le_refl _
    · obtain ⟨rfl, c, e1, rfl⟩ := y
      refine ⟨G', Grow.refl s, ?_⟩
      have e2 : z[i]? = some c := by
        simpa [tx] using e1
      unfold sgn at e
      rw [List.getElem?_map, e2] at e
      cases e
      exact .str [c]
theorem sv_str {tl : TE} {x : Tx} (h : Ev K m tl Γ (.str x)) : SrcG K m (iStr tl) Γ (· = sgn x) := sr_str h fun d e => ⟨x, e, rfl⟩
def rngD (lo : Int) (n : Nat) : List Dt := (List.range n).map fun (i : Nat) => .int (lo + (i : Int))
theorem rngD_len (lo : Int) (n : Nat) : (rngD lo n).length = n := by simp [rngD]
theorem rngD_get {lo : Int} {n i : Nat} {d : Dt} (h : (rngD lo n)[i]? = some d) : i < n ∧ d = .int (lo + i) := by
  unfold rngD at h
  rw [List.getElem?_map] at h
  by_cases hi : i < n
  · rw [List.getElem?_range hi] at h
    cases h
    exact ⟨hi, rfl⟩
  · rw [List.getElem?_eq_none (by simpa using hi)] at h; cases h
theorem src_range {G : Hp} {lo : Int} {n : Nat} : Src K G (Itr lo n) (rngD lo n) where
  goes := fun i H hi s => by
    rw [rngD_len] at hi; exact hi
  stops := fun H s => by
    show n ≤ (rngD lo n).length
    rw [rngD_len]; exact Nat.le_refl _
  yields := fun i d H x H' G' e sg s y => by
    obtain ⟨rfl, rfl⟩ := y
    rw [(rngD_get e).2]
    exact ⟨G', Grow.refl s, .int _⟩
theorem sr_range1 {ta : TA} {R : List Dt → Prop} (h : EaG K m ta Γ R) (hp : ∀ ds, R ds → ∃ n : Int, ds = [.int n] ∧ -(2 ^ 62) ≤ n ∧ n < 2 ^ 62 ∧ S (rngD 0 n.toNat)) : SrcG K m (iRng1 ta) Γ S := fun σ G H x s M R' k =>
  h σ G H x s M _ fun vs ds G1 H1 p1 g1 M1 r1 => by
    obtain ⟨n, rfl, b1, b2, q⟩ := hp ds p1
    cases r1 with
    | cons r rs =>
      cases rs
      obtain rfl := r.int_inv
      exact ⟨n, rfl, b1, b2, k _ _ G1 H1 q g1 M1 src_range⟩
theorem sv_range1 {n : Int} (h : Ev K m ta Γ (.int n)) (hn : -1000000 ≤ n ∧ n ≤ 1000000) : SrcG K m (iRng1 (tCons ta tNil)) Γ (· = rngD 0 n.toNat) := sr_range1 (ea_cons h ea_nil) fun ds e => ⟨n, e, by omega, by omega, rfl⟩
theorem sr_range2 {ta : TA} {R : List Dt → Prop} (h : EaG K m ta Γ R) (hp : ∀ ds, R ds → ∃ i n : Int, ds = [.int i, .int n] ∧ -1000000 ≤ i ∧ i ≤ 1000000 ∧ -1000000 ≤ n ∧ n ≤ 1000000 ∧ S (rngD i (n - i).toNat)) : SrcG K m (iRng2 ta) Γ S := fun σ G H x s M R' k =>
  h σ G H x s M _ fun vs ds G1 H1 p1 g1 M1 r1 => by
    obtain ⟨i, n, rfl, b1, b2, b3, b4, q⟩ := hp ds p1
    cases r1 with
    | cons r rs =>
      cases rs with
      | cons r2 rs =>
        cases rs
        obtain rfl := r.int_inv
        obtain rfl := r2.int_inv
        exact ⟨i, n, rfl, ⟨by omega, by omega, by omega, by omega⟩, k _ _ G1 H1 q g1 M1 src_range⟩
/-- pairs of two lists -/
def zipD (as bs : List Dt) : List Dt := (as.zip bs).map fun p => .tup [p.1, p.2]
theorem zipD_len (as bs : List Dt) : (zipD as bs).length = min as.length bs.length := by simp [zipD]
theorem zipD_get {as bs : List Dt} {i : Nat} {d : Dt} (h : (zipD as bs)[i]? = some d) : ∃ a b, as[i]? = some a ∧ bs[i]? = some b ∧ d = .tup [a, b] := by
  unfold zipD at h
  rw [List.getElem?_map] at h
  cases q : (as.zip bs)[i]? with
  | none => rw [q] at h; cases h
  | some p =>
    rw [q] at h
    have h2 : Dt.tup [p.1, p.2] = d := Option.some.inj h
    obtain ⟨a, b⟩ := p
    have q2 := List.getElem?_zip_eq_some.mp q
    exact ⟨a, b, q2.1, q2.2, h2.symm⟩
theorem sr_zip {ta : TA} {R : List Dt → Prop} (h : EaG K m ta Γ R) (hp : ∀ ds, R ds → ∃ as bs, ds = [.lst as, .lst bs] ∧ S (zipD as bs)) : SrcG K m (iZip K ta) Γ S := fun σ G H x s M R' k =>
  h σ G H x s M _ fun vs ds G1 H1 p1 g1 M1 r1 => by
    obtain ⟨as, bs, rfl, q⟩ := hp ds p1
    cases r1 with
    | cons r rs =>
      cases rs with
      | cons r2 rs =>
        cases rs
        obtain ⟨a, xs, rfl, ga, ra⟩ := r.lst_inv
        obtain ⟨b, ys, rfl, gb, rb⟩ := r2.lst_inv
        have hx : ∀ H, Same G1 H → SqL K H a xs := fun H s => SqL.of (s _ _ ga)
        have hy : ∀ H, Same G1 H → SqL K H b ys := fun H s => SqL.of (s _ _ gb)
        refine ⟨a, b, xs, ys, rfl, hx _ g1.sub, hy _ g1.sub, k _ _ G1 H1 q g1 M1 ⟨fun i H hi s => ?_, fun H s => ⟨xs, ys, hx H s, hy H s, ?_⟩, fun i d H x H' G' e sg s y => ?_⟩⟩
        · rw [zipD_len, ← ra.length, ← rb.length] at hi
          have h1 : i < xs.length := by omega
          have h2 : i < ys.length := by omega
          exact ⟨xs, ys, _, _, hx H s, hy H s, List.getElem?_eq_getElem h1, List.getElem?_eq_getElem h2⟩
        · rw [zipD_len, ← ra.length, ← rb.length]; omega
        · obtain ⟨T, x1, x2, rfl, nT, rfl, f1, f2⟩ := y
          obtain ⟨d1, d2, e1, e2, rfl⟩ := zipD_get e
          obtain ⟨v1, q1, w1⟩ := ra.get e1
          obtain ⟨v2, q2, w2⟩ := rb.get e2
          have z1 := f1 xs (hx H (sg.trans s))
          have z2 := f2 ys (hy H (sg.trans s))
          obtain rfl : x1 = v1 := by rw [q1] at z1; exact (Option.some.inj z1).symm
          obtain rfl : x2 = v2 := by rw [q2] at z2; exact (Option.some.inj z2).symm
          have gw : Grow Pure G' H (upd G' T (.tup [x1, x2])) (upd H T (.tup [x1, x2])) := Grow.grow s nT
          exact ⟨_, gw, .tup upd_same (.cons (w1.mono (sg.trans gw.g)) (.cons (w2.mono (sg.trans gw.g)) .nil))⟩
def enumD (as : List Dt) : List Dt := (List.range as.length).zip as |>.map fun p => .tup [.int (p.1 : Nat), p.2]
theorem enumD_get {as : List Dt} {i : Nat} {d : Dt} (h : (enumD as)[i]? = some d) : ∃ a, as[i]? = some a ∧ d = .tup [.int i, a] := by
  unfold enumD at h
  rw [List.getElem?_map] at h
  cases q : ((List.range as.length).zip as)[i]? with
  | none => rw [q] at h; cases h
  | some p =>
    rw [q] at h
    have h2 : Dt.tup [.int (p.1 : Nat), p.2] = d := Option.some.inj h
    obtain ⟨a, b⟩ := p
    have q2 := List.getElem?_zip_eq_some.mp q
    have hi : i < as.length := (List.getElem?_eq_some_iff.mp q2.2).1
    rw [List.getElem?_range hi] at q2
    obtain ⟨z1, z2⟩ := q2
    cases z1
    exact ⟨b, z2, h2.symm⟩
theorem enumD_len (as : List Dt) : (enumD as).length = as.length := by simp [enumD]
theorem sr_enum {ta : TA} {R : List Dt → Prop} (h : EaG K m ta Γ R) (hp : ∀ ds, R ds → ∃ as, ds = [.lst as] ∧ S (enumD as)) : SrcG K m (iEnum K ta) Γ S := fun σ G H x s M R' k =>
  h σ G H x s M _ fun vs ds G1 H1 p1 g1 M1 r1 => by
    obtain ⟨as, rfl, q⟩ := hp ds p1
    cases r1 with
    | cons r rs =>
      cases rs
      obtain ⟨a, xs, rfl, ga, ra⟩ := r.lst_inv
      have hx : ∀ H, Same G1 H → SqL K H a xs := fun H s => SqL.of (s _ _ ga)
      refine ⟨a, xs, rfl, hx _ g1.sub, k _ _ G1 H1 q g1 M1 ⟨fun i H hi s => ?_, fun H s => ⟨xs, hx H s, ?_⟩, fun i d H x H' G' e sg s y => ?_⟩⟩
      · rw [enumD_len, ← ra.length] at hi
        exact ⟨xs, _, hx H s, List.getElem?_eq_getElem hi⟩
      · rw [enumD_len, ra.length]; exact Nat.le_refl _
      · obtain ⟨T, x1, rfl, nT, rfl, f1⟩ := y
        obtain ⟨d1, e1, rfl⟩ := enumD_get e
        obtain ⟨v1, q1, w1⟩ := ra.get e1
        have z1 := f1 xs (hx H (sg.trans s))
        obtain rfl : x1 = v1 := by rw [q1] at z1; exact (Option.some.inj z1).symm
        have gw : Grow Pure G' H (upd G' T (.tup [.int (i : Nat), x1])) (upd H T (.tup [.int (i : Nat), x1])) := Grow.grow s nT
        exact ⟨_, gw, .tup upd_same (.cons (.int _) (.cons (w1.mono (sg.trans gw.g)) .nil))⟩

/-! ### list comprehensions -/
theorem lc_at {vs : List Nat} {σ : L2.St} {G H : Hp} (x : Sl K G σ Γ) (s : Same G H) (M : m.M G H) (hs : ∀ R : It → Hp → Prop, (∀ J ds G1 H1, S ds → Grow m.μ G H G1 H1 → m.M G1 H1 → Src K G1 J ds → R J H1) → wi σ H R)
    (hb : ∀ ds, S ds → ds.length ≤ 100000 ∧ ∃ R : Nat → List Dt → Prop, R 0 [] ∧ (∀ acc, R ds.length acc → P (.lst acc)) ∧ ∀ i d acc, ds[i]? = some d → R i acc →
      ∃ Γ' js, (∀ j ∈ js, j ∈ vs) ∧ TgG K g d (wipeG Γ vs) Γ' js ∧ ∃ B : Bool → Prop, EtG K m tt Γ' B ∧ (B true → EvG K m te Γ' fun e => R (i + 1) (acc ++ [e])) ∧ (B false → R (i + 1) acc)) :
    ∀ Q : VK, (∀ v d G' H', P d → Grow m.μ G H G' H' → m.M G' H' → Dv K G' v d → Q v H') → tLc wi g tt te vs σ H Q := by
  intro Q k
  refine hs _ fun J ds G1 H1 p1 g1 M1 src D hD => ?_
  obtain ⟨hlen, R, R0, Rn, Rs⟩ := hb ds p1
  have x1 := x.mono g1.g
  refine ⟨fun i k H => k = ds.length - i ∧ i ≤ ds.length ∧ ∃ G' ys acc, Grow m.μ G1 H1 G' H ∧ m.M G' H ∧ G' D = none ∧ H D = some (.lst ys) ∧ Dvs K G' ys acc ∧ acc.length ≤ i ∧ R i acc,
    ⟨ds.length, by simp, Nat.zero_le _, G1, [], [], Grow.hide g1.sub hD, Mu.hide g1.sub hD M1, g1.sub.free hD, upd_same, .nil, Nat.le_refl _, R0⟩, ?_⟩
  rintro i k' H' ⟨rfl, hi, G', ys, acc, gr, M', gD, hDl, rs, hal, hR⟩
  by_cases hlt : i < ds.length
  · refine .inr ⟨src.goes i H' hlt (gr.g.trans gr.sub), fun H2 => i + 1 ≤ ds.length ∧ ∃ G' ys acc, Grow m.μ G1 H1 G' H2 ∧ m.M G' H2 ∧ G' D = none ∧ H2 D = some (.lst ys) ∧ Dvs K G' ys acc ∧ acc.length ≤ i + 1 ∧ R (i + 1) acc, fun H2 w => ⟨ds.length - (i + 1), by omega, rfl, w⟩, fun z H2 y => ?_⟩
    obtain ⟨d, hd⟩ : ∃ d, ds[i]? = some d := ⟨_, List.getElem?_eq_getElem hlt⟩
    obtain ⟨G2, g2, r2⟩ := src.yields i d H' z H2 G' hd gr.g gr.sub y
    obtain ⟨Γ', js, hjs, htg, B, hB, hte, hff⟩ := Rs i d acc hd hR
    have M2 := Mu.pure g2 M'
    have gD2 : G2 D = none := g2.new D gD (by rw [hDl]; trivial)
    have hD2 : H2 D = some (.lst ys) := g2.same _ _ hDl
    refine htg (wipe σ vs) G2 H2 z ((x1.mono (gr.g.trans g2.g)).wipe vs) g2.sub r2 _ fun σ' sl' hw => ⟨?_, ?_⟩
    · rw [hw vs hjs, wipe_wipe fun j hj => hj]
    · refine hB σ' G2 H2 sl' g2.sub M2 _ fun b G3 H3 p3 g3 M3 => ?_
      have hD3 : H3 D = some (.lst ys) := g3.h D _ (Mu.notNew M1 hD) hD2
      have gD3 : G3 D = none := g3.new D gD2 (by rw [hD2]; trivial)
      have g123 := ((gr.trans g2.lift).trans g3)
      cases b with
      | true =>
        refine hte p3 σ' G3 H3 (sl'.mono g3.g) g3.sub M3 _ fun v e G4 H4 p4 g4 M4 r4 => ?_
        have nD : ¬ m.μ D := Mu.notNew M1 hD
        have hD4 : H4 D = some (.lst ys) := g4.h D _ nD hD3
        have gD4 : G4 D = none := g4.new D gD3 (by rw [hD3]; trivial)
        refine ⟨ys, hD4, by rw [rs.length]; exact Nat.lt_of_le_of_lt (Nat.le_trans hal (Nat.le_trans hi hlen)) (by decide), hlt, G4, ys ++ [v], acc ++ [e], (g123.trans g4).set hD gD4, Mu.set g4.sub gD4 nD M4, gD4, upd_same,
          (rs.mono ((g2.g.trans g3.g).trans g4.g)).snoc r4, by rw [List.length_append]; simp; omega, p4⟩
      | false => exact ⟨hlt, G3, ys, acc, g123, M3, gD3, hD3, rs.mono (g2.g.trans g3.g), by omega, hff p3⟩
  · have e : i = ds.length := by omega
    subst e
    refine .inl ⟨src.stops H' (gr.g.trans gr.sub), ?_⟩
    have nD : ¬ m.μ D := Mu.notNew M1 hD
    have gk := gr.know hD gD hDl
    exact k (.ref D) (.lst acc) _ H' (Rn acc hR) (g1.trans gk) (Mu.know gr.sub gD nD hDl M') (.lst upd_same (rs.mono fun a u q => by rw [upd_ne (ne_of_none q gD)]; exact q))
theorem er_lc {vs : List Nat} (hs : SrcG K m wi Γ S)
    (hb : ∀ ds, S ds → ds.length ≤ 100000 ∧ ∃ R : Nat → List Dt → Prop, R 0 [] ∧ (∀ acc, R ds.length acc → P (.lst acc)) ∧ ∀ i d acc, ds[i]? = some d → R i acc →
      ∃ Γ' js, (∀ j ∈ js, j ∈ vs) ∧ TgG K g d (wipeG Γ vs) Γ' js ∧ ∃ B : Bool → Prop, EtG K m tt Γ' B ∧ (B true → EvG K m te Γ' fun e => R (i + 1) (acc ++ [e])) ∧ (B false → R (i + 1) acc)) :
    EvG K m (tLc wi g tt te vs) Γ P := fun σ G H x s M Q k => lc_at x s M (hs σ G H x s M) hb Q k
end
end K70
/-! Statements by data; the start and the end of a def. -/
namespace K70
open PySem PySem.Spec PyProof.Rows L2

/-- where one stands in a def that was entered at G0, H0 -/
structure Cf (K : PySem.W.Frag) (m : Mu) (G0 H0 : Hp) (σ : L2.St) (Γ : Ga) (G H : Hp) : Prop where
  sl : Sl K G σ Γ
  gh : Same G H
  mm : m.M G H
  gr : Grow m.μ G0 H0 G H
section
variable {K : PySem.W.Frag} {m : Mu} {G0 H0 G H : Hp} {σ : L2.St} {Γ Γ' : Ga} {te ta tb : TE} {P : Dt → Prop} {tt : TT} {B : Bool → Prop} {wi : TI} {g : TG} {S : List Dt → Prop} {D : Ends} {t u w : TS}
theorem Cf.ev (c : Cf K m G0 H0 σ Γ G H) (h : EvG K m te Γ P) {Q : VK} (k : ∀ v d G' H', P d → Cf K m G0 H0 σ Γ G' H' → Grow m.μ G H G' H' → Dv K G' v d → Q v H') : te σ H Q :=
  h σ G H c.sl c.gh c.mm Q fun v d G' H' p g M r => k v d G' H' p ⟨c.sl.mono g.g, g.sub, M, c.gr.trans g⟩ g r
theorem Cf.et (c : Cf K m G0 H0 σ Γ G H) (h : EtG K m tt Γ B) {Q : Bool → Hp → Prop} (k : ∀ b G' H', B b → Cf K m G0 H0 σ Γ G' H' → Grow m.μ G H G' H' → Q b H') : tt σ H Q :=
  h σ G H c.sl c.gh c.mm Q fun b G' H' p g M => k b G' H' p ⟨c.sl.mono g.g, g.sub, M, c.gr.trans g⟩ g
theorem Cf.put {v : V} {d : Dt} (c : Cf K m G0 H0 σ Γ G H) (i : Nat) (r : Dv K G v d) : Cf K m G0 H0 (σ.set i (some v)) (Γ.set i (some d)) G H := ⟨c.sl.set i r, c.gh, c.mm, c.gr⟩
theorem Cf.lose (c : Cf K m G0 H0 σ Γ G H) (i : Nat) : Cf K m G0 H0 σ (Γ.set i none) G H := ⟨c.sl.lose i, c.gh, c.mm, c.gr⟩
/-- x = e -/
theorem c_asg {i : Nat} (c : Cf K m G0 H0 σ Γ G H) (h : EvG K m te Γ P) (k : ∀ d σ' G' H', P d → Cf K m G0 H0 σ' (Γ.set i (some d)) G' H' → Grow m.μ G H G' H' → D.nx σ' H') : tAsg te (gName i) D σ H :=
  c.ev h fun v d G' H' p c' g r => k d _ G' H' p (c'.put i r) g
theorem q_asg {i : Nat} (c : Cf K m G0 H0 σ Γ G H) (h : EvG K m te Γ P) (k : ∀ d σ' G' H', P d → Cf K m G0 H0 σ' (Γ.set i (some d)) G' H' → Grow m.μ G H G' H' → u D σ' H') : tSeq (tAsg te (gName i)) u D σ H := c_asg (D := { D with nx := u D }) c h k
/-- a target of several names -/
theorem c_asgT {js : List Nat} {Γd : Dt → Ga} (c : Cf K m G0 H0 σ Γ G H) (h : EvG K m te Γ P) (hg : ∀ d, P d → TgG K g d Γ (Γd d) js) (k : ∀ d σ' G' H', P d → Cf K m G0 H0 σ' (Γd d) G' H' → Grow m.μ G H G' H' → D.nx σ' H') : tAsg te g D σ H :=
  c.ev h fun v d G' H' p c' g' r => hg d p σ G' H' v c'.sl c'.gh r _ fun σ' sl' _ => k d σ' G' H' p ⟨sl', c'.gh, c'.mm, c'.gr⟩ g'
theorem q_asgT {js : List Nat} {Γd : Dt → Ga} (c : Cf K m G0 H0 σ Γ G H) (h : EvG K m te Γ P) (hg : ∀ d, P d → TgG K g d Γ (Γd d) js) (k : ∀ d σ' G' H', P d → Cf K m G0 H0 σ' (Γd d) G' H' → Grow m.μ G H G' H' → u D σ' H') : tSeq (tAsg te g) u D σ H := c_asgT (D := { D with nx := u D }) c h hg k
theorem c_ret (c : Cf K m G0 H0 σ Γ G H) (h : EvG K m te Γ P) (k : ∀ v d G' H', P d → Cf K m G0 H0 σ Γ G' H' → Grow m.μ G H G' H' → Dv K G' v d → D.rt v H') : tRet te D σ H := c.ev h k
theorem q_ret (c : Cf K m G0 H0 σ Γ G H) (h : EvG K m te Γ P) (k : ∀ v d G' H', P d → Cf K m G0 H0 σ Γ G' H' → Grow m.μ G H G' H' → Dv K G' v d → D.rt v H') : tSeq (tRet te) u D σ H := c.ev h k
theorem c_if (c : Cf K m G0 H0 σ Γ G H) (h : EtG K m tt Γ B) (h1 : B true → ∀ G' H', Cf K m G0 H0 σ Γ G' H' → Grow m.μ G H G' H' → t D σ H') (h2 : B false → ∀ G' H', Cf K m G0 H0 σ Γ G' H' → Grow m.μ G H G' H' → u D σ H') : tIfS tt t u D σ H :=
  c.et h fun b G' H' p c' g => by
    cases b with
    | true => exact h1 p G' H' c' g
    | false => exact h2 p G' H' c' g
/-- an if that knows its way -/
theorem q_if (c : Cf K m G0 H0 σ Γ G H) (h : EtG K m tt Γ B) (h1 : B true → ∀ G' H', Cf K m G0 H0 σ Γ G' H' → Grow m.μ G H G' H' → t { D with nx := w D } σ H') (h2 : B false → ∀ G' H', Cf K m G0 H0 σ Γ G' H' → Grow m.μ G H G' H' → u { D with nx := w D } σ H') : tSeq (tIfS tt t u) w D σ H := c_if (D := { D with nx := w D }) c h h1 h2
/-- an if whose test is false, without else -/
theorem q_skip (c : Cf K m G0 H0 σ Γ G H) (h : Et K m tt Γ false) (k : ∀ G' H', Cf K m G0 H0 σ Γ G' H' → Grow m.μ G H G' H' → w D σ H') : tSeq (tIfS tt t tNext) w D σ H := q_if c h (fun e => nomatch e) fun _ G' H' c' g => k G' H' c' g
/-- an if without else -/
theorem q_when (c : Cf K m G0 H0 σ Γ G H) (h : EtG K m tt Γ B) (h1 : B true → ∀ G' H', Cf K m G0 H0 σ Γ G' H' → Grow m.μ G H G' H' → t { D with nx := w D } σ H') (h2 : B false → ∀ G' H', Cf K m G0 H0 σ Γ G' H' → Grow m.μ G H G' H' → w D σ H') : tSeq (tIfS tt t tNext) w D σ H := q_if c h h1 h2
/-- x op= e -/
theorem c_aug {i : Nat} {ti : TIp} {a : Dt} {Pb : Dt → Prop} (c : Cf K m G0 H0 σ Γ G H) (hi : Γ[i]? = some (some a)) (h : EvG K m te Γ Pb) (hr : ∀ b, Pb b → RG K ti a b P) (k : ∀ d σ' G' H', P d → Cf K m G0 H0 σ' (Γ.set i (some d)) G' H' → Grow m.μ G H G' H' → D.nx σ' H') : tAug i te ti D σ H := by
  obtain ⟨x, e, r⟩ := c.sl.at_ i a hi
  refine ⟨x, e, c.ev h fun v b G' H' p c' g rb => hr b p G' H' x v c'.gh (r.mono g.g) rb _ fun z d G2 H2 pd g2 rd => ?_⟩
  exact k d _ G2 H2 pd (Cf.put ⟨c'.sl.mono g2.g, g2.sub, Mu.pure g2 c'.mm, c'.gr.trans g2.lift⟩ i rd) (g.trans g2.lift)
theorem q_aug {i : Nat} {ti : TIp} {a : Dt} {Pb : Dt → Prop} (c : Cf K m G0 H0 σ Γ G H) (hi : Γ[i]? = some (some a)) (h : EvG K m te Γ Pb) (hr : ∀ b, Pb b → RG K ti a b P) (k : ∀ d σ' G' H', P d → Cf K m G0 H0 σ' (Γ.set i (some d)) G' H' → Grow m.μ G H G' H' → u D σ' H') : tSeq (tAug i te ti) u D σ H := c_aug (D := { D with nx := u D }) c hi h hr k
/-- a for: I by the turn, the slots and the heaps -/
theorem c_forAt (c : Cf K m G0 H0 σ Γ G H) (hs : ∀ R : It → Hp → Prop, (∀ J ds G1 H1, S ds → Grow m.μ G H G1 H1 → m.M G1 H1 → Src K G1 J ds → R J H1) → wi σ H R)
    (k : ∀ ds G1 H1, S ds → Cf K m G0 H0 σ Γ G1 H1 → Grow m.μ G H G1 H1 → ∃ I : Nat → L2.St → Hp → Hp → Prop, I 0 σ G1 H1 ∧ (∀ i σ G H, I i σ G H → Same G1 G ∧ Same G H) ∧
      (∀ i d σ G H G2 H2 x, ds[i]? = some d → I i σ G H → Grow Pure G H G2 H2 → Dv K G2 x d → g x σ H2 fun σ3 H3 => t { D with nx := fun σ' H' => ∃ G', I (i + 1) σ' G' H', ct := fun σ' H' => ∃ G', I (i + 1) σ' G' H', bk := D.nx } σ3 H3) ∧
      ∀ σ G H, I ds.length σ G H → D.nx σ H) : tFor wi g t D σ H := by
  refine hs _ fun J ds G1 H1 p1 g1 M1 src => ?_
  obtain ⟨I, I0, Ik, It, Ie⟩ := k ds G1 H1 p1 ⟨c.sl.mono g1.g, g1.sub, M1, c.gr.trans g1⟩ g1
  refine ⟨fun i k σ' H' => k = ds.length - i ∧ i ≤ ds.length ∧ ∃ G', I i σ' G' H', ⟨ds.length, by simp, Nat.zero_le _, G1, I0⟩, ?_⟩
  rintro i k' σ' H' ⟨rfl, hi, G', hI⟩
  obtain ⟨k1, k2⟩ := Ik i σ' G' H' hI
  by_cases hlt : i < ds.length
  · refine .inr ⟨src.goes i H' hlt (k1.trans k2), fun σ2 H2 => ∃ G2, I (i + 1) σ2 G2 H2, fun σ2 H2 hw => ⟨ds.length - (i + 1), by omega, rfl, hlt, hw⟩, fun z H2 y => ?_⟩
    obtain ⟨d, hd⟩ : ∃ d, ds[i]? = some d := ⟨_, List.getElem?_eq_getElem hlt⟩
    obtain ⟨G2, g2, r2⟩ := src.yields i d H' z H2 G' hd k1 k2 y
    exact It i d σ' G' H' G2 H2 z hd hI g2 r2
  · have e : i = ds.length := by omega
    subst e
    exact .inl ⟨src.stops H' (k1.trans k2), Ie σ' G' H' hI⟩
theorem c_for (c : Cf K m G0 H0 σ Γ G H) (hs : SrcG K m wi Γ S)
    (k : ∀ ds G1 H1, S ds → Cf K m G0 H0 σ Γ G1 H1 → Grow m.μ G H G1 H1 → ∃ I : Nat → L2.St → Hp → Hp → Prop, I 0 σ G1 H1 ∧ (∀ i σ G H, I i σ G H → Same G1 G ∧ Same G H) ∧
      (∀ i d σ G H G2 H2 x, ds[i]? = some d → I i σ G H → Grow Pure G H G2 H2 → Dv K G2 x d → g x σ H2 fun σ3 H3 => t { D with nx := fun σ' H' => ∃ G', I (i + 1) σ' G' H', ct := fun σ' H' => ∃ G', I (i + 1) σ' G' H', bk := D.nx } σ3 H3) ∧
      ∀ σ G H, I ds.length σ G H → D.nx σ H) : tFor wi g t D σ H := c_forAt c (hs σ G H c.sl c.gh c.mm) k
theorem q_for (c : Cf K m G0 H0 σ Γ G H) (hs : SrcG K m wi Γ S)
    (k : ∀ ds G1 H1, S ds → Cf K m G0 H0 σ Γ G1 H1 → Grow m.μ G H G1 H1 → ∃ I : Nat → L2.St → Hp → Hp → Prop, I 0 σ G1 H1 ∧ (∀ i σ G H, I i σ G H → Same G1 G ∧ Same G H) ∧
      (∀ i d σ G H G2 H2 x, ds[i]? = some d → I i σ G H → Grow Pure G H G2 H2 → Dv K G2 x d → g x σ H2 fun σ3 H3 => t { D with nx := fun σ' H' => ∃ G', I (i + 1) σ' G' H', ct := fun σ' H' => ∃ G', I (i + 1) σ' G' H', bk := u D } σ3 H3) ∧
      ∀ σ G H, I ds.length σ G H → u D σ H) : tSeq (tFor wi g t) u D σ H := c_for (D := { D with nx := u D }) c hs k
/-- in a turn: one item has come -/
theorem Cf.step {G2 H2 : Hp} (c : Cf K m G0 H0 σ Γ G H) (g : Grow Pure G H G2 H2) : Cf K m G0 H0 σ Γ G2 H2 := ⟨c.sl.mono g.g, g.sub, Mu.pure g c.mm, c.gr.trans g.lift⟩
theorem Cf.tgt {js : List Nat} {d : Dt} {x : V} {Q : L2.St → Hp → Prop} (c : Cf K m G0 H0 σ Γ G H) (hg : TgG K g d Γ Γ' js) (r : Dv K G x d) (k : ∀ σ', Cf K m G0 H0 σ' Γ' G H → Q σ' H) : g x σ H Q := hg σ G H x c.sl c.gh r Q fun σ' sl' _ => k σ' ⟨sl', c.gh, c.mm, c.gr⟩
theorem Cf.refl {vs : List V} {ds : List Dt} {N : List Str} (h : Dvs K G vs ds) (s : Same G H) (M : m.M G H) : Cf K m G H (L2.start N vs) (startG N.length ds) G H := ⟨Sl.start h, s, M, Grow.refl s⟩
theorem Cf.sub {σ' : L2.St} (c : Cf K m G0 H0 σ Γ G H) (s : Sl K G σ' Γ') : Cf K m G0 H0 σ' Γ' G H := ⟨s, c.gh, c.mm, c.gr⟩

/-! ### what is still to change: a list, a dict of tuples, a dict of texts and ints; it isn't known -/
structure Acc (K : PySem.W.Frag) (G H : Hp) (p : Addr) (ds : List Dt) : Prop where
  out : G p = none
  at_ : ∃ vs, H p = some (.lst vs) ∧ Dvs K G vs ds
structure AccT (K : PySem.W.Frag) (G H : Hp) (p : Addr) (ds : List (List Key × Dt)) : Prop where
  out : G p = none
  at_ : ∃ kvs, H p = some (.dT kvs) ∧ DvM K G kvs ds
structure AccK (K : PySem.W.Frag) (G H : Hp) (p : Addr) (ds : List (Key × Dt)) : Prop where
  out : G p = none
  at_ : ∃ kvs, H p = some (.dK kvs) ∧ DvM K G kvs ds
variable {μ : Addr → Prop} {G' H' : Hp} {p : Addr}
theorem Acc.grow {ds : List Dt} (a : Acc K G H p ds) (g : Grow μ G H G' H') (n : ¬ μ p) : Acc K G' H' p ds := by
  obtain ⟨vs, e, r⟩ := a.at_
  exact ⟨g.new p a.out (by rw [e]; trivial), vs, g.h p _ n e, r.mono g.g⟩
theorem AccT.grow {ds : List (List Key × Dt)} (a : AccT K G H p ds) (g : Grow μ G H G' H') (n : ¬ μ p) : AccT K G' H' p ds := by
  obtain ⟨vs, e, r⟩ := a.at_
  exact ⟨g.new p a.out (by rw [e]; trivial), vs, g.h p _ n e, r.mono g.g⟩
theorem AccK.grow {ds : List (Key × Dt)} (a : AccK K G H p ds) (g : Grow μ G H G' H') (n : ¬ μ p) : AccK K G' H' p ds := by
  obtain ⟨vs, e, r⟩ := a.at_
  exact ⟨g.new p a.out (by rw [e]; trivial), vs, g.h p _ n e, r.mono g.g⟩
/-- another object that isn't known changes -/
theorem Acc.other {ds : List Dt} {q : Addr} {o : HO} (a : Acc K G H p ds) (n : p ≠ q) : Acc K G (upd H q o) p ds := by
  obtain ⟨vs, e, r⟩ := a.at_
  exact ⟨a.out, vs, by rw [upd_ne n]; exact e, r⟩
theorem AccT.other {ds : List (List Key × Dt)} {q : Addr} {o : HO} (a : AccT K G H p ds) (n : p ≠ q) : AccT K G (upd H q o) p ds := by
  obtain ⟨vs, e, r⟩ := a.at_
  exact ⟨a.out, vs, by rw [upd_ne n]; exact e, r⟩
theorem AccK.other {ds : List (Key × Dt)} {q : Addr} {o : HO} (a : AccK K G H p ds) (n : p ≠ q) : AccK K G (upd H q o) p ds := by
  obtain ⟨vs, e, r⟩ := a.at_
  exact ⟨a.out, vs, by rw [upd_ne n]; exact e, r⟩
/-- .. or becomes known -/
theorem Acc.otherK {ds : List Dt} {q : Addr} {o : HO} (a : Acc K G H p ds) (n : p ≠ q) (hq : G q = none) : Acc K (upd G q o) H p ds := by
  obtain ⟨vs, e, r⟩ := a.at_
  exact ⟨by rw [upd_ne n]; exact a.out, vs, e, r.mono fun b u z => by rw [upd_ne (ne_of_none z hq)]; exact z⟩
theorem AccT.otherK {ds : List (List Key × Dt)} {q : Addr} {o : HO} (a : AccT K G H p ds) (n : p ≠ q) (hq : G q = none) : AccT K (upd G q o) H p ds := by
  obtain ⟨vs, e, r⟩ := a.at_
  exact ⟨by rw [upd_ne n]; exact a.out, vs, e, r.mono fun b u z => by rw [upd_ne (ne_of_none z hq)]; exact z⟩
/-- where one stands, once an object that is new since the entry has changed -/
theorem Cf.set {o : HO} (c : Cf K m G0 H0 σ Γ G H) (hp : H0 p = none) (gp : G p = none) (n : ¬ m.μ p) : Cf K m G0 H0 σ Γ G (upd H p o) :=
  ⟨c.sl, fun a u e => by rw [upd_ne (ne_of_none e gp)]; exact c.gh a u e, Mu.set c.gh gp n c.mm, c.gr.set hp gp⟩
/-- .. once it is known -/
theorem Cf.know {o : HO} (c : Cf K m G0 H0 σ Γ G H) (hp : H0 p = none) (gp : G p = none) (n : ¬ m.μ p) (e : H p = some o) : Cf K m G0 H0 σ Γ (upd G p o) H := by
  have g := c.gr.know hp gp e
  exact ⟨c.sl.mono fun a u q => by rw [upd_ne (ne_of_none q gp)]; exact q, g.sub, Mu.know c.gh gp n e c.mm, g⟩
/-- .. once it is made, not known as yet -/
theorem Cf.hide {o : HO} (c : Cf K m G0 H0 σ Γ G H) (hp : H p = none) : Cf K m G0 H0 σ Γ G (upd H p o) := by
  have g : Grow m.μ G H G (upd H p o) := Grow.hide c.gh hp
  exact ⟨c.sl, g.sub, Mu.hide c.gh hp c.mm, c.gr.trans g⟩
/-- .. made and known -/
theorem Cf.new {o : HO} (c : Cf K m G0 H0 σ Γ G H) (hp : H p = none) : Cf K m G0 H0 σ Γ (upd G p o) (upd H p o) := c.step (Grow.grow c.gh hp)
theorem Cf.free (c : Cf K m G0 H0 σ Γ G H) (hp : H p = none) : H0 p = none := c.gr.dom p hp
theorem Cf.notMu (c : Cf K m G0 H0 σ Γ G H) (hp : H p = none) : ¬ m.μ p := Mu.notNew c.mm hp
theorem Acc.known {ds : List Dt} (a : Acc K G H p ds) : ∃ vs, H p = some (.lst vs) ∧ Dv K (upd G p (.lst vs)) (.ref p) (.lst ds) := by
  obtain ⟨vs, e, r⟩ := a.at_
  exact ⟨vs, e, .lst upd_same (r.mono fun b u q => by rw [upd_ne (ne_of_none q a.out)]; exact q)⟩
theorem AccT.known {ds : List (List Key × Dt)} (a : AccT K G H p ds) : ∃ vs, H p = some (.dT vs) ∧ Dv K (upd G p (.dT vs)) (.ref p) (.dT ds) := by
  obtain ⟨vs, e, r⟩ := a.at_
  exact ⟨vs, e, .dT (.inl upd_same) (r.mono fun b u q => by rw [upd_ne (ne_of_none q a.out)]; exact q)⟩
theorem AccK.known {ds : List (Key × Dt)} (a : AccK K G H p ds) : ∃ vs, H p = some (.dK vs) ∧ Dv K (upd G p (.dK vs)) (.ref p) (.dK ds) := by
  obtain ⟨vs, e, r⟩ := a.at_
  exact ⟨vs, e, .dK upd_same (r.mono fun b u q => by rw [upd_ne (ne_of_none q a.out)]; exact q)⟩
/-- x = [], to be filled -/
theorem q_nil {i : Nat} (c : Cf K m G0 H0 σ Γ G H) (k : ∀ p σ' H', H p = none → H0 p = none → ¬ m.μ p → Acc K G H' p [] → Cf K m G0 H0 σ' (Γ.set i (some (.raw (.ref p)))) G H' → H' = upd H p (.lst []) → u D σ' H') : tSeq (tAsg (tLst tNil) (gName i)) u D σ H :=
  ⟨Nat.zero_le _, fun p hp => k p _ _ hp (c.free hp) (c.notMu hp) ⟨c.gh.free hp, [], upd_same, .nil⟩ ((c.hide hp).put i (.raw _)) rfl⟩
/-- x = {}, with keys that are tuples | others -/
theorem q_newT {i : Nat} (c : Cf K m G0 H0 σ Γ G H) (k : ∀ p σ' H', H p = none → H0 p = none → ¬ m.μ p → AccT K G H' p [] → Cf K m G0 H0 σ' (Γ.set i (some (.raw (.ref p)))) G H' → H' = upd H p (.dT []) → u D σ' H') : tSeq (tAsg tDNewT (gName i)) u D σ H :=
  fun p hp => k p _ _ hp (c.free hp) (c.notMu hp) ⟨c.gh.free hp, [], upd_same, .nil⟩ ((c.hide hp).put i (.raw _)) rfl
theorem q_newK {i : Nat} (c : Cf K m G0 H0 σ Γ G H) (k : ∀ p σ' H', H p = none → H0 p = none → ¬ m.μ p → AccK K G H' p [] → Cf K m G0 H0 σ' (Γ.set i (some (.raw (.ref p)))) G H' → H' = upd H p (.dK []) → u D σ' H') : tSeq (tAsg tDNewK (gName i)) u D σ H :=
  fun p hp => k p _ _ hp (c.free hp) (c.notMu hp) ⟨c.gh.free hp, [], upd_same, .nil⟩ ((c.hide hp).put i (.raw _)) rfl
/-- xs.append(e) of such a list -/
theorem c_app {i : Nat} {ds : List Dt} (c : Cf K m G0 H0 σ Γ G H) (hi : Γ[i]? = some (some (.raw (.ref p)))) (a : Acc K G H p ds) (hp : H0 p = none) (n : ¬ m.μ p) (hl : ds.length < 100000) (h : EvG K m te Γ P)
    (k : ∀ d G' H' H2, P d → Grow m.μ G H G' H' → Cf K m G0 H0 σ Γ G' H2 → Acc K G' H2 p (ds ++ [d]) → (∃ o, H2 = upd H' p o) → D.nx σ H2) : tDrop (tBM K "list" rAppend (tVar i) (tCons te tNil)) D σ H := by
  obtain ⟨v, e1, e2⟩ := c.sl.at_ i _ hi
  obtain rfl := e2.raw_inv
  obtain ⟨vs, hv, rv⟩ := a.at_
  refine ⟨_, e1, .inl ⟨rfl, vs, .inl (.inl hv)⟩, c.ev h fun y d G' H' pd c' g r => ?_⟩
  have hv' := g.h p _ n hv
  have gp := g.new p a.out (by rw [hv]; trivial)
  refine ⟨p, vs, y, rfl, rfl, hv', ?_, ?_⟩
  · rw [rv.length]; exact Nat.lt_of_lt_of_le hl (by decide)
  · exact k d G' H' _ pd g (c'.set hp gp n) ⟨gp, _, upd_same, (rv.mono g.g).snoc r⟩ ⟨_, rfl⟩
theorem q_app {i : Nat} {ds : List Dt} (c : Cf K m G0 H0 σ Γ G H) (hi : Γ[i]? = some (some (.raw (.ref p)))) (a : Acc K G H p ds) (hp : H0 p = none) (n : ¬ m.μ p) (hl : ds.length < 100000) (h : EvG K m te Γ P)
    (k : ∀ d G' H' H2, P d → Grow m.μ G H G' H' → Cf K m G0 H0 σ Γ G' H2 → Acc K G' H2 p (ds ++ [d]) → (∃ o, H2 = upd H' p o) → u D σ H2) : tSeq (tDrop (tBM K "list" rAppend (tVar i) (tCons te tNil))) u D σ H := c_app (D := { D with nx := u D }) c hi a hp n hl h k
/-- the list is done: it becomes known by its name -/
theorem Cf.done {i : Nat} {ds : List Dt} (c : Cf K m G0 H0 σ Γ G H) (hi : Γ[i]? = some (some (.raw (.ref p)))) (a : Acc K G H p ds) (hp : H0 p = none) (n : ¬ m.μ p) : ∃ G', Same G G' ∧ Cf K m G0 H0 σ (Γ.set i (some (.lst ds))) G' H ∧ ∀ q, q ≠ p → G' q = G q := by
  obtain ⟨vs, e, r⟩ := a.known
  obtain ⟨v, e1, e2⟩ := c.sl.at_ i _ hi
  obtain rfl := e2.raw_inv
  have c' := c.know hp a.out n e
  refine ⟨_, fun b o q => by rw [upd_ne (ne_of_none q a.out)]; exact q, ⟨?_, c'.gh, c'.mm, c'.gr⟩, fun q hq => by rw [upd_ne hq]⟩
  have s := c'.sl.set i r
  have : σ.set i (some (.ref p)) = σ := by
    apply List.ext_getElem?
    intro j
    by_cases hj : i = j
    · subst hj; rw [List.getElem?_set_self (List.getElem?_eq_some_iff.mp e1).1, e1]
    · rw [List.getElem?_set_ne hj]
  rw [this] at s
  exact s
theorem Cf.doneT {i : Nat} {ds : List (List Key × Dt)} (c : Cf K m G0 H0 σ Γ G H) (hi : Γ[i]? = some (some (.raw (.ref p)))) (a : AccT K G H p ds) (hp : H0 p = none) (n : ¬ m.μ p) : ∃ G', Same G G' ∧ Cf K m G0 H0 σ (Γ.set i (some (.dT ds))) G' H ∧ ∀ q, q ≠ p → G' q = G q := by
  obtain ⟨vs, e, r⟩ := a.known
  obtain ⟨v, e1, e2⟩ := c.sl.at_ i _ hi
  obtain rfl := e2.raw_inv
  have c' := c.know hp a.out n e
  refine ⟨_, fun b o q => by rw [upd_ne (ne_of_none q a.out)]; exact q, ⟨?_, c'.gh, c'.mm, c'.gr⟩, fun q hq => by rw [upd_ne hq]⟩
  have s := c'.sl.set i r
  have : σ.set i (some (.ref p)) = σ := by
    apply List.ext_getElem?
    intro j
    by_cases hj : i = j
    · subst hj; rw [List.getElem?_set_self (List.getElem?_eq_some_iff.mp e1).1, e1]
    · rw [List.getElem?_set_ne hj]
  rw [this] at s
  exact s
end
/-- a def's body: from its promise to its end -/
theorem body {K : PySem.W.Frag} {N : List Str} {α : Type} {arg : α → List Dt} {mk : α → Mu} {pre : α → Prop} {post : α → Dt → Prop} {t : TS} {vs : List V} {H : Hp} {Q : VK} {E : XK} (h : Fn K arg mk pre post vs H Q E)
    (hb : ∀ a σ G, pre a → Cf K (mk a) G H σ (startG N.length (arg a)) G H → ∀ D : Ends, (∀ v d G' H', post a d → Grow (mk a).μ G H G' H' → (mk a).M G' H' → Dv K G' v d → D.rt v H') → (∀ σ' G' H', post a .non → Grow (mk a).μ G H G' H' → (mk a).M G' H' → D.nx σ' H') → t D σ H) :
    t { nx := fun _ H' => Q .non H', rt := Q } (L2.start N vs) H := by
  obtain ⟨a, G, r, s, M, p, k⟩ := h
  exact hb a _ G p (Cf.refl r s M) _ (fun v d G' H' q g M' r' => k v d G' H' q g M' r') fun _ G' H' q g M' => k .non .non G' H' q g M' .non
/-- .. of a def that changes nothing, its answer told -/
theorem bodyS {K : PySem.W.Frag} {N : List Str} {α : Type} {arg : α → List Dt} {pre : α → Prop} {post : α → Dt → Prop} {t : TS} {vs : List V} {H : Hp} {Q : VK} {E : XK} (h : Fs K arg pre post vs H Q E)
    (hb : ∀ a σ G, pre a → Cf K still G H σ (startG N.length (arg a)) G H → ∀ D : Ends, (∀ v d G' H' σ Γ, Dv K G' v d → post a d → Cf K still G H σ Γ G' H' → D.rt v H') → (∀ σ' Γ G' H', post a .non → Cf K still G H σ' Γ G' H' → D.nx σ' H') → t D σ H) :
    t { nx := fun _ H' => Q .non H', rt := Q } (L2.start N vs) H :=
  body h fun a σ G p c D kr kn => hb a σ G p c D (fun v d G' H' σ Γ r q c' => kr v d G' H' q c'.gr c'.mm r) fun σ' Γ G' H' q c' => kn σ' G' H' q c'.gr c'.mm
end K70
/-! Operators, built-ins and methods by data. -/
namespace K70
open PySem PySem.Spec PyProof.Rows L2
section
variable {K : PySem.W.Frag} {P : Dt → Prop}
/-- an answer without a new object -/
theorem rg_val {r : R2} {a b d : Dt} (h : ∀ G H x y, Same G H → Dv K G x a → Dv K G y b → ∃ v, (∀ G, Dv K G v d) ∧ ∀ Q : VK, Q v H → r x y H Q) : RG K r a b (· = d) := fun G H x y s ra rb Q k => by
  obtain ⟨v, hv, hr⟩ := h G H x y s ra rb
  exact hr Q (k v d G H rfl (Grow.refl s) (hv G))
theorem rg_I0 {g : Int → Int → V} {i j : Int} {d : Dt} (hd : ∀ G, Dv K G (g i j) d) : RG K (rI0 g) (.int i) (.int j) (· = d) := rg_val fun G H x y s ra rb => by
  obtain rfl := ra.int_inv
  obtain rfl := rb.int_inv
  exact ⟨_, hd, fun Q q => ⟨i, j, rfl, rfl, q⟩⟩
theorem rg_I {C : Int → Int → Prop} {g : Int → Int → V} {i j : Int} {d : Dt} (hc : C i j) (hd : ∀ G, Dv K G (g i j) d) : RG K (rI C g) (.int i) (.int j) (· = d) := rg_val fun G H x y s ra rb => by
  obtain rfl := ra.int_inv
  obtain rfl := rb.int_inv
  exact ⟨_, hd, fun Q q => ⟨i, j, rfl, rfl, hc, q⟩⟩
theorem rg_add {i j : Int} : RG K (rI0 fun i j => .int (i + j)) (.int i) (.int j) (· = .int (i + j)) := rg_I0 fun _ => .int _
theorem rg_sub {i j : Int} : RG K (rI0 fun i j => .int (i - j)) (.int i) (.int j) (· = .int (i - j)) := rg_I0 fun _ => .int _
theorem rg_lt {i j : Int} : RG K (rI0 fun i j => .bl (decide (i < j))) (.int i) (.int j) (· = .bl (decide (i < j))) := rg_I0 fun _ => .bl _
theorem rg_le {i j : Int} : RG K (rI0 fun i j => .bl (decide (i ≤ j))) (.int i) (.int j) (· = .bl (decide (i ≤ j))) := rg_I0 fun _ => .bl _
theorem rg_gt {i j : Int} : RG K (rI0 fun i j => .bl (decide (j < i))) (.int i) (.int j) (· = .bl (decide (j < i))) := rg_I0 fun _ => .bl _
theorem rg_ge {i j : Int} : RG K (rI0 fun i j => .bl (decide (j ≤ i))) (.int i) (.int j) (· = .bl (decide (j ≤ i))) := rg_I0 fun _ => .bl _
theorem rg_mul {i j : Int} (h : CMul i j) : RG K (rI CMul fun i j => .int (i * j)) (.int i) (.int j) (· = .int (i * j)) := rg_I h fun _ => .int _
theorem rg_mod {i j : Int} (h : 0 < j) : RG K (rI (fun _ j => 0 < j) fun i j => .int (i % j)) (.int i) (.int j) (· = .int (i % j)) := rg_I h fun _ => .int _
theorem rg_fdivW {i j : Int} (h : CDivW i j) : RG K (rI CDivW fun i j => .int (i / j)) (.int i) (.int j) (· = .int (i / j)) := rg_I h fun _ => .int _
theorem rg_fdiv {i j : Int} (h : CDiv i j) : RG K (rI CDiv fun i j => .int (i / j)) (.int i) (.int j) (· = .int (i / j)) := rg_I h fun _ => .int _
theorem rg_pow {i j : Int} (h : CPow i j) : RG K (rI CPow fun i j => .int (i ^ j.toNat)) (.int i) (.int j) (· = .int (i ^ j.toNat)) := rg_I h fun _ => .int _
theorem ug_neg {i : Int} : UG K (rU fun i => .int (-i)) (.int i) (· = .int (-i)) := fun G H x s ra Q k => by
  obtain rfl := ra.int_inv
  exact ⟨i, rfl, k _ _ G H rfl (Grow.refl s) (.int _)⟩
theorem rg_eqI {i j : Int} : RG K rEq (.int i) (.int j) (· = .bl (decide (i = j))) := rg_val fun G H x y s ra rb => by
  obtain rfl := ra.int_inv
  obtain rfl := rb.int_inv
  refine ⟨.bl (decide (i = j)), fun _ => .bl _, fun Q q => ⟨rfl, ?_⟩⟩
  rw [show decide (V.int i = V.int j) = decide (i = j) by simp]; exact q
theorem rg_neI {i j : Int} : RG K rNe (.int i) (.int j) (· = .bl (!decide (i = j))) := rg_val fun G H x y s ra rb => by
  obtain rfl := ra.int_inv
  obtain rfl := rb.int_inv
  refine ⟨.bl (!decide (i = j)), fun _ => .bl _, fun Q q => ⟨rfl, ?_⟩⟩
  rw [show decide (V.int i = V.int j) = decide (i = j) by simp]; exact q
theorem tx_dec {i j : Tx} : decide (V.str (tx i) = V.str (tx j)) = decide (i = j) := by
  by_cases e : i = j
  · subst e; simp
  · rw [decide_eq_false e, decide_eq_false]
    intro q
    injection q with q
    exact e (tx_inj q)
theorem rg_eqS {i j : Tx} : RG K rEq (.str i) (.str j) (· = .bl (decide (i = j))) := rg_val fun G H x y s ra rb => by
  obtain rfl := ra.str_inv
  obtain rfl := rb.str_inv
  exact ⟨.bl (decide (i = j)), fun _ => .bl _, fun Q q => ⟨rfl, by rw [tx_dec]; exact q⟩⟩
theorem rg_neS {i j : Tx} : RG K rNe (.str i) (.str j) (· = .bl (!decide (i = j))) := rg_val fun G H x y s ra rb => by
  obtain rfl := ra.str_inv
  obtain rfl := rb.str_inv
  exact ⟨.bl (!decide (i = j)), fun _ => .bl _, fun Q q => ⟨rfl, by rw [tx_dec]; exact q⟩⟩
theorem rg_isN {a : Dt} {b : Bool} (h : ∀ G v, Dv K G v a → decide (v = .non) = b) : RG K (fun x y H Q => y = .non ∧ Q (.bl (decide (x = .non))) H) a .non (· = .bl b) := rg_val fun G H x y s ra rb => by
  obtain rfl := rb.non_inv
  exact ⟨.bl b, fun _ => .bl _, fun Q q => ⟨rfl, by rw [h G x ra]; exact q⟩⟩
theorem rg_isB {a b : Bool} : RG K (fun x y H Q => ∃ a b : Bool, x = .bl a ∧ y = .bl b ∧ Q (.bl (decide (a = b))) H) (.bl a) (.bl b) (· = .bl (decide (a = b))) := rg_val fun G H x y s ra rb => by
  obtain rfl := ra.bl_inv
  obtain rfl := rb.bl_inv
  exact ⟨.bl _, fun _ => .bl _, fun Q q => ⟨a, b, rfl, rfl, q⟩⟩
/-! texts -/
theorem tx_app (a b : Tx) : tx a ++ tx b = tx (a ++ b) := by
  show (⟨_⟩ : Str) = ⟨_⟩
  simp [tx]
theorem rg_addS {i j : Tx} (h : i.length + j.length ≤ 1000000) : RG K (fun x y H Q => ∃ i j, x = .str i ∧ y = .str j ∧ i.length + j.length ≤ sizeLine ∧ Q (.str (i ++ j)) H) (.str i) (.str j) (· = .str (i ++ j)) := rg_val fun G H x y s ra rb => by
  obtain rfl := ra.str_inv
  obtain rfl := rb.str_inv
  refine ⟨.str (tx (i ++ j)), fun _ => .str _, fun Q q => ⟨tx i, tx j, rfl, rfl, ?_, by rw [tx_app]; exact q⟩⟩
  rw [tx_len, tx_len]; exact Nat.le_trans h (by decide)
theorem rg_ltS {i j : Tx} : RG K (fun x y H Q => ∃ i j, x = .str i ∧ y = .str j ∧ Q (.bl (decide (i.cps.toList < j.cps.toList))) H) (.str i) (.str j) (· = .bl (decide (i < j))) := rg_val fun G H x y s ra rb => by
  obtain rfl := ra.str_inv
  obtain rfl := rb.str_inv
  exact ⟨.bl (decide (i < j)), fun _ => .bl _, fun Q q => ⟨tx i, tx j, rfl, rfl, by rw [tx_list, tx_list]; exact q⟩⟩
theorem rg_inS {c : Nat} {z : Tx} : RG K (fun x y H Q => ∃ (c : Nat) (z : Str), x = .str ⟨#[c]⟩ ∧ y = .str z ∧ Q (.bl (decide (c ∈ z.cps.toList))) H) (.str [c]) (.str z) (· = .bl (decide (c ∈ z))) := rg_val fun G H x y s ra rb => by
  obtain rfl := ra.str_inv
  obtain rfl := rb.str_inv
  exact ⟨.bl (decide (c ∈ z)), fun _ => .bl _, fun Q q => ⟨c, tx z, rfl, rfl, by rw [tx_list]; exact q⟩⟩
theorem rg_notInS {c : Nat} {z : Tx} : RG K (fun x y H Q => ∃ (c : Nat) (z : Str), x = .str ⟨#[c]⟩ ∧ y = .str z ∧ Q (.bl (!decide (c ∈ z.cps.toList))) H) (.str [c]) (.str z) (· = .bl (!decide (c ∈ z))) := rg_val fun G H x y s ra rb => by
  obtain rfl := ra.str_inv
  obtain rfl := rb.str_inv
  exact ⟨.bl (!decide (c ∈ z)), fun _ => .bl _, fun Q q => ⟨c, tx z, rfl, rfl, by rw [tx_list]; exact q⟩⟩
theorem atI_of {α : Type} {xs : List α} {j : Nat} {v : α} (h : xs[j]? = some v) : atI xs (j : Int) = some v := atI_nat h
theorem rg_ixS {z : Tx} {j : Nat} {c : Nat} (h : z[j]? = some c) (hl : z.length ≤ 1000000) : RG K rIxS (.str z) (.int (j : Int)) (· = .str [c]) := rg_val fun G H x y s ra rb => by
  obtain rfl := ra.str_inv
  obtain rfl := rb.int_inv
  exact ⟨.str (tx [c]), fun _ => .str _, fun Q q => ⟨tx z, j, c, rfl, rfl, by rw [tx_len]; exact Nat.le_trans hl (by decide), atI_of (by rw [tx_list]; exact h), q⟩⟩
/-! lists, tuples: an item -/
theorem rg_ixL {ds : List Dt} {j : Nat} {d : Dt} (h : ds[j]? = some d) : RG K (rIxL K) (.lst ds) (.int (j : Int)) (· = d) := fun G H x y s ra rb Q k => by
  obtain ⟨a, xs, rfl, ga, rs⟩ := ra.lst_inv
  obtain rfl := rb.int_inv
  obtain ⟨v, e1, e2⟩ := rs.get h
  exact ⟨a, xs, j, v, rfl, rfl, SqL.of (s _ _ ga), atI_of e1, k v d G H rfl (Grow.refl s) e2⟩
theorem RG.weakL {r : R2} {a a' b : Dt} (h : RG K r a' b P) (f : ∀ G v, Dv K G v a → Dv K G v a') : RG K r a b P := fun G H x y s ra rb => h G H x y s (f G x ra) rb
theorem RG.weakR {r : R2} {a b b' : Dt} (h : RG K r a b' P) (f : ∀ G v, Dv K G v b → Dv K G v b') : RG K r a b P := fun G H x y s ra rb => h G H x y s ra (f G y rb)
theorem rg_ixW {ds : List Dt} {j : Nat} {d : Dt} (h : ds[j]? = some d) : RG K (rIxT K) (.tupW ds) (.int (j : Int)) (· = d) := fun G H x y s ra rb Q k => by
  obtain ⟨a, xs, rfl, ga, rs⟩ := ra.tupW_inv
  obtain rfl := rb.int_inv
  obtain ⟨v, e1, e2⟩ := rs.get h
  exact ⟨a, xs, j, v, rfl, rfl, same_seqT s ga, atI_of e1, k v d G H rfl (Grow.refl s) e2⟩
theorem rg_ixT {ds : List Dt} {j : Nat} {d : Dt} (h : ds[j]? = some d) : RG K (rIxT K) (.tup ds) (.int (j : Int)) (· = d) := (rg_ixW h).weakL fun _ _ r => r.tup_W
theorem atI_neg1 {α : Type} {xs : List α} {v : α} (h : xs[xs.length - 1]? = some v) : atI xs (-1) = some v := by
  have hl : xs.length - 1 < xs.length := (List.getElem?_eq_some_iff.mp h).1
  unfold atI ixN
  rw [if_neg (by omega), if_pos (by omega)]
  have e : ((-1 : Int) + (xs.length : Int)).toNat = xs.length - 1 := by omega
  rw [e]
  exact h
theorem rg_lastL {ds : List Dt} {d : Dt} (h : ds[ds.length - 1]? = some d) : RG K (rIxL K) (.lst ds) (.int (-1)) (· = d) := fun G H x y s ra rb Q k => by
  obtain ⟨a, xs, rfl, ga, rs⟩ := ra.lst_inv
  obtain rfl := rb.int_inv
  obtain ⟨v, e1, e2⟩ := rs.get h
  exact ⟨a, xs, -1, v, rfl, rfl, SqL.of (s _ _ ga), atI_neg1 (by rw [rs.length]; exact e1), k v d G H rfl (Grow.refl s) e2⟩
theorem rg_cat {as bs : List Dt} (h : as.length + bs.length ≤ 1000000) : RG K rCat (.lst as) (.lst bs) (· = .lst (as ++ bs)) := fun G H x y s ra rb Q k => by
  obtain ⟨a, xs, rfl, ga, rs⟩ := ra.lst_inv
  obtain ⟨b, ys, rfl, gb, rt⟩ := rb.lst_inv
  refine ⟨a, b, xs, ys, rfl, rfl, s _ _ ga, s _ _ gb, by rw [rs.length, rt.length]; exact Nat.le_trans h (by decide), fun p hp => ?_⟩
  have g : Grow Pure G H (upd G p (.lst (xs ++ ys))) (upd H p (.lst (xs ++ ys))) := Grow.grow s hp
  exact k _ _ _ _ rfl g (.lst upd_same ((rs.append rt).mono g.g))
theorem rg_catT {as bs : List Dt} (ha : as ≠ []) (hb : bs ≠ []) (h : as.length + bs.length ≤ 1000000) : RG K (rCatT K) (.tup as) (.tup bs) (· = .tup (as ++ bs)) := fun G H x y s ra rb Q k => by
  obtain ⟨a, xs, rfl, ga, rs⟩ := ra.tup_inv
  obtain ⟨b, ys, rfl, gb, rt⟩ := rb.tup_inv
  have hx : xs ≠ [] := fun e => ha (List.eq_nil_of_length_eq_zero (by rw [← rs.length, e]; rfl))
  have hy : ys ≠ [] := fun e => hb (List.eq_nil_of_length_eq_zero (by rw [← rt.length, e]; rfl))
  refine ⟨a, b, xs, ys, rfl, rfl, SqT.of (s _ _ ga), SqT.of (s _ _ gb), hx, by rw [rs.length, rt.length]; exact Nat.le_trans h (by decide), fun e => absurd e hy, fun _ p hp => ?_⟩
  have g : Grow Pure G H (upd G p (.tup (xs ++ ys))) (upd H p (.tup (xs ++ ys))) := Grow.grow s hp
  exact k _ _ _ _ rfl g (.tup upd_same ((rs.append rt).mono g.g))
theorem Dvs.rep {G : Hp} {vs : List V} {ds : List Dt} (r : Dvs K G vs ds) : ∀ n : Nat, Dvs K G (List.replicate n vs).flatten (List.replicate n ds).flatten
  | 0 => .nil
  | n + 1 => by
    rw [List.replicate_succ, List.replicate_succ, List.flatten_cons, List.flatten_cons]
    exact r.append (r.rep n)
theorem rg_rep {as : List Dt} {n : Int} (h0 : -1000000 ≤ n ∧ n ≤ 1000000) (h : as.length * n.toNat ≤ 1000000) : RG K rRep (.lst as) (.int n) (· = .lst (List.replicate n.toNat as).flatten) := fun G H x y s ra rb Q k => by
  obtain ⟨a, xs, rfl, ga, rs⟩ := ra.lst_inv
  obtain rfl := rb.int_inv
  refine ⟨a, n, xs, rfl, rfl, s _ _ ga, by omega, by omega, by rw [rs.length]; exact Nat.le_trans h (by decide), fun p hp => ?_⟩
  have g : Grow Pure G H (upd G p (.lst (List.replicate n.toNat xs).flatten)) (upd H p (.lst (List.replicate n.toNat xs).flatten)) := Grow.grow s hp
  exact k _ _ _ _ rfl g (.lst upd_same ((rs.rep _).mono g.g))
/-! == and != all through -/
def flatD : Dt → Bool
  | .non => true
  | .bl _ => true
  | .int _ => true
  | .str _ => true
  | _ => false
theorem flatD_ok {G : Hp} {d : Dt} {v : V} (h : flatD d = true) (r : Dv K G v d) : flatV v = true := by
  cases d with
  | non => cases r; rfl
  | bl b => cases r; rfl
  | int b => cases r; rfl
  | str b => cases r; rfl
  | _ => cases h
mutual
/-- plain data: texts and ints, in lists and tuples -/
def plainD : Dt → Bool
  | .int _ => true
  | .str _ => true
  | .lst l => plainDs l
  | .tup l => plainDs l
  | _ => false
def plainDs : List Dt → Bool
  | [] => true
  | d :: l => plainD d && plainDs l
end
mutual
def pyD : Dt → PyData
  | .int i => .int i
  | .str x => .str (tx x)
  | .lst l => .list (pyDs l)
  | .tup l => .tuple (pyDs l)
  | _ => .none
def pyDs : List Dt → List PyData
  | [] => []
  | d :: l => pyD d :: pyDs l
end
mutual
theorem Dv.dp {G H : Hp} (s : Same G H) : ∀ {v : V} {d : Dt}, Dv K G v d → plainD d = true → Dp K H v (pyD d)
  | _, _, .int i, _ => .int i
  | _, _, .str x, _ => .str _
  | _, .lst ds, .lst h r, p => .lst (SqL.of (s _ _ h)) (Dvs.dp s r p)
  | _, .tup ds, .tup h r, p => .tup (SqT.of (s _ _ h)) (Dvs.dp s r p)
  | _, .tupW _, .tupW _ _, p => nomatch p
  | _, .raw _, .raw _, p => nomatch p
  | _, .non, .non, p => nomatch p
  | _, .bl _, .bl _, p => nomatch p
  | _, .dT _, .dT _ _, p => nomatch p
  | _, .dK _, .dK _ _, p => nomatch p
  | _, .ins _ _, .ins _ _, p => nomatch p
  | _, .tupN _, .tupN _ _ _ _, p => nomatch p
  | _, .ob _, .ob _, p => nomatch p
theorem Dvs.dp {G H : Hp} (s : Same G H) : ∀ {vs : List V} {ds : List Dt}, Dvs K G vs ds → plainDs ds = true → DpAll K H vs (pyDs ds)
  | _, _, .nil, _ => .nil
  | _, d :: ds, .cons h r, p => by
    have p' : (plainD d && plainDs ds) = true := p
    obtain ⟨p1, p2⟩ := Bool.and_eq_true_iff.mp p'
    exact .cons (Dv.dp s h p1) (Dvs.dp s r p2)
end
mutual
theorem eqv_py : ∀ {a b : Dt}, plainD a = true → plainD b = true → (PyData.eqv (pyD a) (pyD b) = true ↔ a = b)
  | .int i, .int j, _, _ => by
    show ((i == j) = true) ↔ _
    rw [beq_iff_eq]
    exact ⟨fun e => by rw [e], fun e => by injection e⟩
  | .str i, .str j, _, _ => by
    show ((tx i == tx j) = true) ↔ _
    rw [beq_iff_eq]
    exact ⟨fun e => by rw [tx_inj e], fun e => by injection e with e; rw [e]⟩
  | .lst l, .lst k, p, q => by
    show (PyData.eqvAll (pyDs l) (pyDs k) = true) ↔ _
    rw [eqv_pys p q]
    exact ⟨fun e => by rw [e], fun e => by injection e⟩
  | .tup l, .tup k, p, q => by
    show (PyData.eqvAll (pyDs l) (pyDs k) = true) ↔ _
    rw [eqv_pys p q]
    exact ⟨fun e => by rw [e], fun e => by injection e⟩
  | .int _, .str _, _, _ => ⟨(fun e => nomatch e), (fun e => nomatch e)⟩
  | .int _, .lst _, _, _ => ⟨(fun e => nomatch e), (fun e => nomatch e)⟩
  | .int _, .tup _, _, _ => ⟨(fun e => nomatch e), (fun e => nomatch e)⟩
  | .str _, .int _, _, _ => ⟨(fun e => nomatch e), (fun e => nomatch e)⟩
  | .str _, .lst _, _, _ => ⟨(fun e => nomatch e), (fun e => nomatch e)⟩
  | .str _, .tup _, _, _ => ⟨(fun e => nomatch e), (fun e => nomatch e)⟩
  | .lst _, .int _, _, _ => ⟨(fun e => nomatch e), (fun e => nomatch e)⟩
  | .lst _, .str _, _, _ => ⟨(fun e => nomatch e), (fun e => nomatch e)⟩
  | .lst _, .tup _, _, _ => ⟨(fun e => nomatch e), (fun e => nomatch e)⟩
  | .tup _, .int _, _, _ => ⟨(fun e => nomatch e), (fun e => nomatch e)⟩
  | .tup _, .str _, _, _ => ⟨(fun e => nomatch e), (fun e => nomatch e)⟩
  | .tup _, .lst _, _, _ => ⟨(fun e => nomatch e), (fun e => nomatch e)⟩
theorem eqv_pys : ∀ {a b : List Dt}, plainDs a = true → plainDs b = true → (PyData.eqvAll (pyDs a) (pyDs b) = true ↔ a = b)
  | [], [], _, _ => ⟨fun _ => rfl, fun _ => rfl⟩
  | [], _ :: _, _, _ => ⟨(fun e => nomatch e), (fun e => nomatch e)⟩
  | _ :: _, [], _, _ => ⟨(fun e => nomatch e), (fun e => nomatch e)⟩
  | a :: l, b :: k, p, q => by
    have p' : (plainD a && plainDs l) = true := p
    have q' : (plainD b && plainDs k) = true := q
    obtain ⟨p1, p2⟩ := Bool.and_eq_true_iff.mp p'
    obtain ⟨q1, q2⟩ := Bool.and_eq_true_iff.mp q'
    show ((PyData.eqv (pyD a) (pyD b) && PyData.eqvAll (pyDs l) (pyDs k)) = true) ↔ _
    rw [Bool.and_eq_true_iff, eqv_py p1 q1, eqv_pys p2 q2]
    exact ⟨fun e => by rw [e.1, e.2], fun e => by injection e with e1 e2; exact ⟨e1, e2⟩⟩
end
theorem rg_eqD {a b : Dt} {c : Bool} (pa : plainD a = true) (pb : plainD b = true) (sa : SeqAt.shaped (pyD a) = true) (sb : SeqAt.shaped (pyD b) = true) (hc : c = true ↔ a = b) : RG K (rEqD K) a b (· = .bl c) := rg_val fun G H x y s ra rb => by
  have e : PyData.eqv (pyD a) (pyD b) = c := by
    rw [Bool.eq_iff_iff, eqv_py pa pb, hc]
  exact ⟨.bl c, fun _ => .bl _, fun Q q => ⟨pyD a, pyD b, ra.dp s pa, rb.dp s pb, sa, sb, by rw [e]; exact q⟩⟩
theorem rg_neD {a b : Dt} {c : Bool} (pa : plainD a = true) (pb : plainD b = true) (sa : SeqAt.shaped (pyD a) = true) (sb : SeqAt.shaped (pyD b) = true) (hc : c = true ↔ ¬ a = b) : RG K (rNeD K) a b (· = .bl c) := rg_val fun G H x y s ra rb => by
  have e : (!PyData.eqv (pyD a) (pyD b)) = c := by
    rw [Bool.eq_iff_iff, Bool.not_eq_true', ← Bool.not_eq_true, eqv_py pa pb, hc]
  exact ⟨.bl c, fun _ => .bl _, fun Q q => ⟨pyD a, pyD b, ra.dp s pa, rb.dp s pb, sa, sb, by rw [e]; exact q⟩⟩
/-- x in a tuple of texts, x a text -/
def txs (l : List Tx) : List Dt := l.map .str
theorem inV_txs {z : Tx} : ∀ {l : List Tx}, inV (.str (tx z)) (l.map fun x => V.str (tx x)) = decide (z ∈ l)
  | [] => rfl
  | a :: l => by
    have ih := inV_txs (z := z) (l := l)
    unfold inV at ih ⊢
    rw [List.map_cons, List.any_cons, ih]
    have e : eqV (.str (tx a)) (.str (tx z)) = decide (z = a) := by
      show (tx a == tx z) = _
      by_cases q : z = a
      · subst q; simp
      · rw [decide_eq_false q, beq_eq_false_iff_ne]
        intro w; exact q (tx_inj w).symm
    rw [e, Bool.eq_iff_iff]
    simp [List.mem_cons]
theorem Dvs.txs_inv {G : Hp} {vs : List V} {l : List Tx} (r : Dvs K G vs (txs l)) : vs = l.map fun x => V.str (tx x) := Dvs.map_inv (fun a v h => h.str_inv) r
theorem rg_inW {z : Tx} {l : List Tx} : RG K (rIn K false) (.str z) (.tupW (txs l)) (· = .bl (decide (z ∈ l))) := rg_val fun G H x y s ra rb => by
  obtain rfl := ra.str_inv
  obtain ⟨a, xs, rfl, ga, rs⟩ := rb.tupW_inv
  obtain rfl := rs.txs_inv
  refine ⟨.bl (decide (z ∈ l)), fun _ => .bl _, fun Q q => ⟨a, _, rfl, .inr (same_seqT s ga), rfl, by rw [List.all_map]; exact List.all_eq_true.mpr fun _ _ => rfl, ?_⟩⟩
  rw [if_neg (by decide), inV_txs]; exact q
theorem rg_inT {z : Tx} {l : List Tx} : RG K (rIn K false) (.str z) (.tup (txs l)) (· = .bl (decide (z ∈ l))) := rg_inW.weakR fun _ _ r => r.tup_W
/-- t != () -/
theorem rg_neNil {l : List Tx} (sl : SeqAt.shaped (.tuple (pyDs (txs l))) = true) : RG K (rNeD K) (.tupW (txs l)) (.tup []) (· = .bl (!l.isEmpty)) := rg_val fun G H x y s ra rb => by
  obtain ⟨a, xs, rfl, ga, rs⟩ := ra.tupW_inv
  obtain ⟨b, ys, rfl, gb, rt⟩ := rb.tup_inv
  have pl : plainDs (txs l) = true := by
    induction l with
    | nil => rfl
    | cons c r ih =>
      show (plainD (.str c) && plainDs (txs r)) = true
      rw [Bool.and_eq_true_iff]
      refine ⟨rfl, ?_⟩
      clear ih sl ra rs
      induction r with
      | nil => rfl
      | cons c r ih => exact ih
  refine ⟨.bl (!l.isEmpty), fun _ => .bl _, fun Q q => ⟨.tuple (pyDs (txs l)), .tuple [], .tup (same_seqT s ga) (rs.dp s pl), .tup (SqT.of (s _ _ gb)) (by cases rt; exact .nil), sl, by decide, ?_⟩⟩
  have e : PyData.eqv (.tuple (pyDs (txs l))) (.tuple []) = l.isEmpty := by
    cases l with
    | nil => rfl
    | cons c r => rfl
  rw [e]; exact q
/-! calls of built-ins -/
theorem cg_val {r : List V → Hp → VK → Prop} {as : List Dt} {d : Dt} (h : ∀ G H xs, Same G H → Dvs K G xs as → ∃ v, Dv K G v d ∧ ∀ Q : VK, Q v H → r xs H Q) : CG K r as (· = d) := fun G H xs s rs Q k => by
  obtain ⟨v, hv, hr⟩ := h G H xs s rs
  exact hr Q (k v d G H rfl (Grow.refl s) hv)
theorem dvs1 {G : Hp} {xs : List V} {a : Dt} (r : Dvs K G xs [a]) : ∃ x, xs = [x] ∧ Dv K G x a := by
  cases r with
  | cons h r => cases r; exact ⟨_, rfl, h⟩
theorem dvs2 {G : Hp} {xs : List V} {a b : Dt} (r : Dvs K G xs [a, b]) : ∃ x y, xs = [x, y] ∧ Dv K G x a ∧ Dv K G y b := by
  cases r with
  | cons h r =>
    cases r with
    | cons h2 r => cases r; exact ⟨_, _, rfl, h, h2⟩
theorem cg_lenL {ds : List Dt} : CG K (fun xs H Q => ∃ p ys, xs = [.ref p] ∧ (SqL K H p ys ∨ SqT K H p ys) ∧ Q (.int ys.length) H) [.lst ds] (· = .int ds.length) := cg_val fun G H xs s rs => by
  obtain ⟨x, rfl, r⟩ := dvs1 rs
  obtain ⟨a, ys, rfl, ga, rd⟩ := r.lst_inv
  exact ⟨.int ds.length, .int _, fun Q q => ⟨a, ys, rfl, .inl (SqL.of (s _ _ ga)), by rw [rd.length]; exact q⟩⟩
theorem cg_lenW {ds : List Dt} : CG K (fun xs H Q => ∃ p ys, xs = [.ref p] ∧ (SqL K H p ys ∨ SqT K H p ys) ∧ Q (.int ys.length) H) [.tupW ds] (· = .int ds.length) := cg_val fun G H xs s rs => by
  obtain ⟨x, rfl, r⟩ := dvs1 rs
  obtain ⟨a, ys, rfl, ga, rd⟩ := r.tupW_inv
  exact ⟨.int ds.length, .int _, fun Q q => ⟨a, ys, rfl, .inr (same_seqT s ga), by rw [rd.length]; exact q⟩⟩
theorem CG.weak1 {r : List V → Hp → VK → Prop} {a a' : Dt} (h : CG K r [a'] P) (f : ∀ G v, Dv K G v a → Dv K G v a') : CG K r [a] P := fun G H xs s rs => by
  obtain ⟨x, rfl, q⟩ := dvs1 rs
  exact h G H [x] s (.cons (f G x q) .nil)
theorem cg_lenT {ds : List Dt} : CG K (fun xs H Q => ∃ p ys, xs = [.ref p] ∧ (SqL K H p ys ∨ SqT K H p ys) ∧ Q (.int ys.length) H) [.tup ds] (· = .int ds.length) := cg_lenW.weak1 fun _ _ r => r.tup_W
theorem cg_lenS {z : Tx} (h : z.length ≤ 1000000) : CG K (fun xs H Q => ∃ z, xs = [.str z] ∧ z.length ≤ sizeLine ∧ Q (.int z.length) H) [.str z] (· = .int z.length) := cg_val fun G H xs s rs => by
  obtain ⟨x, rfl, r⟩ := dvs1 rs
  obtain rfl := r.str_inv
  exact ⟨.int z.length, .int _, fun Q q => ⟨tx z, rfl, by rw [tx_len]; exact Nat.le_trans h (by decide), by rw [tx_len]; exact q⟩⟩
theorem cg_abs {i : Int} : CG K (fun xs H Q => ∃ i, xs = [.int i] ∧ Q (.int (if i < 0 then -i else i)) H) [.int i] (· = .int (if i < 0 then -i else i)) := cg_val fun G H xs s rs => by
  obtain ⟨x, rfl, r⟩ := dvs1 rs
  obtain rfl := r.int_inv
  exact ⟨_, .int _, fun Q q => ⟨i, rfl, q⟩⟩
theorem cg_min2 {i j : Int} : CG K (fun xs H Q => ∃ i j, xs = [.int i, .int j] ∧ Q (.int (if j < i then j else i)) H) [.int i, .int j] (· = .int (if j < i then j else i)) := cg_val fun G H xs s rs => by
  obtain ⟨x, y, rfl, r, r2⟩ := dvs2 rs
  obtain rfl := r.int_inv
  obtain rfl := r2.int_inv
  exact ⟨_, .int _, fun Q q => ⟨i, j, rfl, q⟩⟩
theorem cg_intB {b : Bool} : CG K (fun xs H Q => (∃ i, xs = [.int i] ∧ Q (.int i) H) ∨ ∃ k, xs = [.bl k] ∧ Q (.int (if k then 1 else 0)) H) [.bl b] (· = .int (if b then 1 else 0)) := cg_val fun G H xs s rs => by
  obtain ⟨x, rfl, r⟩ := dvs1 rs
  obtain rfl := r.bl_inv
  exact ⟨_, .int _, fun Q q => .inr ⟨b, rfl, q⟩⟩
def intsD (l : List Int) : List Dt := l.map .int
theorem Dvs.ints_inv {G : Hp} {vs : List V} {l : List Int} (r : Dvs K G vs (intsD l)) : vs = l.map V.int := Dvs.map_inv (fun a v h => h.int_inv) r
theorem cg_sum {l : List Int} : CG K (rSum K) [.lst (intsD l)] (· = .int l.sum) := cg_val fun G H xs s rs => by
  obtain ⟨x, rfl, r⟩ := dvs1 rs
  obtain ⟨a, ys, rfl, ga, rd⟩ := r.lst_inv
  obtain rfl := rd.ints_inv
  exact ⟨.int l.sum, .int _, fun Q q => ⟨a, l, rfl, SqL.of (s _ _ ga), q⟩⟩
def blsD (l : List Bool) : List Dt := l.map .bl
theorem Dvs.bls_inv {G : Hp} {vs : List V} {l : List Bool} (r : Dvs K G vs (blsD l)) : vs = l.map V.bl := Dvs.map_inv (fun a v h => h.bl_inv) r
theorem cg_all {l : List Bool} : CG K (rAll K) [.lst (blsD l)] (· = .bl (l.all id)) := cg_val fun G H xs s rs => by
  obtain ⟨x, rfl, r⟩ := dvs1 rs
  obtain ⟨a, ys, rfl, ga, rd⟩ := r.lst_inv
  obtain rfl := rd.bls_inv
  exact ⟨.bl (l.all id), .bl _, fun Q q => ⟨a, l, rfl, SqL.of (s _ _ ga), q⟩⟩
/-- list(xs) -/
theorem cg_listL {ds : List Dt} : CG K (fun xs H Q => ∃ p ys, xs = [.ref p] ∧ (SqL K H p ys ∨ SqT K H p ys) ∧ ∀ l, H l = none → Q (.ref l) (upd H l (.lst ys))) [.lst ds] (· = .lst ds) := fun G H xs s rs Q k => by
  obtain ⟨x, rfl, r⟩ := dvs1 rs
  obtain ⟨a, ys, rfl, ga, rd⟩ := r.lst_inv
  refine ⟨a, ys, rfl, .inl (SqL.of (s _ _ ga)), fun p hp => ?_⟩
  have g : Grow Pure G H (upd G p (.lst ys)) (upd H p (.lst ys)) := Grow.grow s hp
  exact k _ _ _ _ rfl g (.lst upd_same (rd.mono g.g))
theorem cg_listT {ds : List Dt} : CG K (fun xs H Q => ∃ p ys, xs = [.ref p] ∧ (SqL K H p ys ∨ SqT K H p ys) ∧ ∀ l, H l = none → Q (.ref l) (upd H l (.lst ys))) [.tup ds] (· = .lst ds) := fun G H xs s rs Q k => by
  obtain ⟨x, rfl, r⟩ := dvs1 rs
  obtain ⟨a, ys, rfl, ga, rd⟩ := r.tup_inv
  refine ⟨a, ys, rfl, .inr (SqT.of (s _ _ ga)), fun p hp => ?_⟩
  have g : Grow Pure G H (upd G p (.lst ys)) (upd H p (.lst ys)) := Grow.grow s hp
  exact k _ _ _ _ rfl g (.lst upd_same (rd.mono g.g))
/-- tuple(xs) -/
theorem cg_tupleL {ds : List Dt} : CG K (fun xs H Q => ∃ p ys, xs = [.ref p] ∧ ((SqL K H p ys ∧ ∀ l, H l = none → Q (.ref l) (upd H l (.tup ys))) ∨ (SqT K H p ys ∧ Q (.ref p) H))) [.lst ds] (· = .tup ds) := fun G H xs s rs Q k => by
  obtain ⟨x, rfl, r⟩ := dvs1 rs
  obtain ⟨a, ys, rfl, ga, rd⟩ := r.lst_inv
  refine ⟨a, ys, rfl, .inl ⟨SqL.of (s _ _ ga), fun p hp => ?_⟩⟩
  have g : Grow Pure G H (upd G p (.tup ys)) (upd H p (.tup ys)) := Grow.grow s hp
  exact k _ _ _ _ rfl g (.tup upd_same (rd.mono g.g))
/-- isinstance -/
def tyN : Dt → String
  | .non => "NoneType"
  | .bl _ => "bool"
  | .int _ => "int"
  | .str _ => "str"
  | .lst _ => "list"
  | .tup _ => "tuple"
  | .tupW _ => "tuple"
  | .tupN _ => "tuple"
  | .dK _ => "dict"
  | _ => ""
theorem tyX_of {G H : Hp} {v : V} {d : Dt} (s : Same G H) (r : Dv K G v d) (h : tyN d ≠ "") : TyX K H v (.type (tyN d)) := by
  cases r with
  | non => exact .base .non
  | bl b => exact .base (.bl b)
  | int b => exact .base (.int b)
  | str b => exact .base (.str _)
  | raw v => exact absurd rfl h
  | lst e _ => exact .base (.lst (s _ _ e))
  | tup e _ => exact .base (.tup (s _ _ e))
  | tupW e _ =>
    rcases same_seqT s e with (e | ⟨o, e⟩) | ⟨o, its, n, e, c, _⟩
    · exact .base (.tup e)
    · exact .fTuple e
    · exact .kTuple e c
  | dT e _ => exact absurd rfl h
  | dK e _ => exact .base (.dK (s _ _ e))
  | ins e _ => exact absurd rfl h
  | tupN e _ _ _ => exact .fTuple (s _ _ e)
  | ob e => exact absurd rfl h
theorem cg_isi {d : Dt} {t n : String} {b : Bool} (e : tyN d = t) (h : kitB t n = some b) (h0 : t ≠ "") : CG K (rIsi K) [d, .raw (.ty n)] (· = .bl b) := cg_val fun G H xs s rs => by
  obtain ⟨x, y, rfl, r, r2⟩ := dvs2 rs
  obtain rfl := r2.raw_inv
  subst e
  exact ⟨.bl b, .bl _, fun Q q => ⟨x, .ty n, .type (tyN d), .type n, b, rfl, .ty n, tyX_of s r h0, kit_ty h, q⟩⟩
/-! slices -/
def cutD {α : Type} (xs : List α) (lo hi : Option Int) : List α := (xs.drop (HT.sIx xs.length 0 lo)).take (HT.sIx xs.length xs.length hi - HT.sIx xs.length 0 lo)
theorem Dvs.cut {G : Hp} {vs : List V} {ds : List Dt} (r : Dvs K G vs ds) (lo hi : Option Int) : Dvs K G (cutV vs lo hi) (cutD ds lo hi) := by
  unfold cutV cutD
  rw [r.length]
  exact (r.drop _).take _
theorem lg_list {ds : List Dt} {lo hi : Option Int} : LG K (rSlL K) (.lst ds) lo hi (· = .lst (cutD ds lo hi)) := fun G H x s r Q k => by
  obtain ⟨a, ys, rfl, ga, rd⟩ := r.lst_inv
  refine ⟨a, ys, rfl, SqL.of (s _ _ ga), fun p hp => ?_⟩
  have g : Grow Pure G H (upd G p (.lst (cutV ys lo hi))) (upd H p (.lst (cutV ys lo hi))) := Grow.grow s hp
  exact k _ _ _ _ rfl g (.lst upd_same ((rd.cut lo hi).mono g.g))
theorem lg_tup {ds : List Dt} {lo hi : Option Int} (hn : ¬ (HT.sIx ds.length 0 lo = 0 ∧ HT.sIx ds.length ds.length hi = ds.length)) : LG K (rSlT K) (.tup ds) lo hi (· = .tup (cutD ds lo hi)) := fun G H x s r Q k => by
  obtain ⟨a, ys, rfl, ga, rd⟩ := r.tup_inv
  refine ⟨a, ys, rfl, SqT.of (s _ _ ga), by rw [rd.length]; exact hn, fun p hp => ?_⟩
  have g : Grow Pure G H (upd G p (.tup (cutV ys lo hi))) (upd H p (.tup (cutV ys lo hi))) := Grow.grow s hp
  exact k _ _ _ _ rfl g (.tup upd_same ((rd.cut lo hi).mono g.g))
theorem lg_str {z : Tx} {lo hi : Option Int} (h : z.length ≤ 1000000) : LG K rSlS (.str z) lo hi (· = .str (cutD z lo hi)) := fun G H x s r Q k => by
  obtain rfl := r.str_inv
  refine ⟨tx z, rfl, by rw [tx_len]; exact Nat.le_trans h (by decide), ?_⟩
  have e : cutS (tx z) lo hi = tx (cutD z lo hi) := by
    unfold cutS cutD tx
    simp [Str.length]
  rw [e]
  exact k _ _ G H rfl (Grow.refl s) (.str _)
/-! join -/
theorem joinL_nil (ps : List (List Nat)) : TL.joinL [] ps = ps.flatten := by
  induction ps with
  | nil => rfl
  | cons p r ih =>
    cases r with
    | nil => simp [TL.joinL]
    | cons q r =>
      show p ++ ([] ++ TL.joinL [] (q :: r)) = _
      rw [ih]; rfl
theorem sum_len : ∀ l : List Tx, ((l.map tx).map (·.length)).sum = l.flatten.length
  | [] => rfl
  | a :: l => by
    rw [List.map_cons, List.map_cons, List.sum_cons, sum_len l, List.flatten_cons, List.length_append, tx_len]
theorem mg_join {l : List Tx} (h : l.flatten.length ≤ 1000000) : MG K (fun x xs H Q => ∃ a p, ∃ ys : List Str, x = .str a ∧ xs = [.ref p] ∧ (SqL K H p (ys.map V.str) ∨ SqT K H p (ys.map V.str)) ∧
    (ys.map (·.length)).sum + ys.length * a.length ≤ 16777216 ∧ Q (.str (Txt.join a ys)) H) (.str []) [.lst (txs l)] (· = .str l.flatten) := fun G H x xs s rx rs Q k => by
  obtain rfl := rx.str_inv
  obtain ⟨y, rfl, r⟩ := dvs1 rs
  obtain ⟨a, ys, rfl, ga, rd⟩ := r.lst_inv
  obtain rfl := rd.txs_inv
  refine ⟨tx [], a, l.map tx, rfl, rfl, .inl ?_, ?_, ?_⟩
  · rw [List.map_map]; exact SqL.of (s _ _ ga)
  · rw [sum_len]
    have : (tx []).length = 0 := rfl
    rw [this]; omega
  · have e : Txt.join (tx []) (l.map tx) = tx l.flatten := by
      have h1 : TL.tl (Str.join (tx []) (l.map tx)) = TL.joinL (TL.tl (tx [])) ((l.map tx).map TL.tl) := TL.tl_join _ _
      have h2 : (l.map tx).map TL.tl = l := by
        rw [List.map_map]
        have : (TL.tl ∘ tx) = id := by funext z; exact tx_list z
        rw [this, List.map_id]
      have h3 : TL.tl (tx []) = [] := rfl
      rw [h2, h3, joinL_nil] at h1
      rw [TL.join_eq]
      rw [← tx_of (Str.join (tx []) (l.map tx))]
      exact congrArg tx h1
    rw [e]
    exact k _ _ G H rfl (Grow.refl s) (.str _)
end
end K70
/-! Comprehensions whose answer is told; two fors. -/
namespace K70
open PySem PySem.Spec PyProof.Rows L2
section
variable {K : PySem.W.Frag} {m : Mu} {Γ : Ga} {te tl : TE} {P : Dt → Prop} {tt : TT} {wi wi1 : TI} {g g1 : TG} {S : List Dt → Prop}
theorem filter_take_succ {α : Type} {p : α → Bool} {ds : List α} {i : Nat} {d : α} (h : ds[i]? = some d) : (ds.take (i + 1)).filter p = (ds.take i).filter p ++ (if p d then [d] else []) := by
  rw [List.take_add_one, h]
  simp only [Option.toList_some, List.filter_append]
  congr 1
  by_cases q : p d = true
  · rw [if_pos q, List.filter_cons_of_pos q]; rfl
  · rw [if_neg q, List.filter_cons_of_neg q]; rfl
/-- [f x for x in ds if p x] -/
theorem ev_lc {vs : List Nat} {ds : List Dt} (p : Dt → Bool) (f : Dt → Dt) (hs : SrcG K m wi Γ (· = ds)) (hl : ds.length ≤ 100000)
    (hb : ∀ d ∈ ds, ∃ Γ' js, (∀ j ∈ js, j ∈ vs) ∧ TgG K g d (wipeG Γ vs) Γ' js ∧ Et K m tt Γ' (p d) ∧ (p d = true → Ev K m te Γ' (f d))) : Ev K m (tLc wi g tt te vs) Γ (.lst ((ds.filter p).map f)) :=
  er_lc hs fun ds' e => by
    subst e
    refine ⟨hl, fun i acc => acc = ((ds'.take i).filter p).map f, rfl, fun acc e => by rw [e, List.take_length], fun i d acc hd e => ?_⟩
    obtain ⟨Γ', js, h1, h2, h3, h4⟩ := hb d (List.mem_of_getElem? hd)
    refine ⟨Γ', js, h1, h2, _, h3, fun q => (h4 q.symm).imp fun x hx => ?_, fun q => ?_⟩
    · show acc ++ [x] = ((ds'.take (i + 1)).filter p).map f
      rw [hx, e, filter_take_succ hd, if_pos q.symm, List.map_append]; rfl
    · show acc = ((ds'.take (i + 1)).filter p).map f
      rw [e, filter_take_succ hd, if_neg (by rw [← q]; decide), List.append_nil]
/-- [f x for x in ds] -/
theorem ev_map {vs : List Nat} {ds : List Dt} (f : Dt → Dt) (hs : SrcG K m wi Γ (· = ds)) (hl : ds.length ≤ 100000)
    (hb : ∀ d ∈ ds, ∃ Γ' js, (∀ j ∈ js, j ∈ vs) ∧ TgG K g d (wipeG Γ vs) Γ' js ∧ Ev K m te Γ' (f d)) : Ev K m (tLc wi g tYes te vs) Γ (.lst (ds.map f)) := by
  have h := ev_lc (tt := tYes) (te := te) (g := g) (vs := vs) (fun _ => true) f hs hl fun d hd => by
    obtain ⟨Γ', js, h1, h2, h3⟩ := hb d hd
    exact ⟨Γ', js, h1, h2, et_yes, fun _ => h3⟩
  rw [List.filter_eq_self.mpr (fun _ _ => rfl)] at h
  exact h
/-- [f a for a in l if p a], the items told by what they stand for -/
theorem ev_lcA {vs : List Nat} {α : Type} {l : List α} {enc : α → Dt} (p : α → Bool) (f : α → Dt) (hs : SrcG K m wi Γ (· = l.map enc)) (hl : l.length ≤ 100000)
    (hb : ∀ a ∈ l, ∃ Γ' js, (∀ j ∈ js, j ∈ vs) ∧ TgG K g (enc a) (wipeG Γ vs) Γ' js ∧ Et K m tt Γ' (p a) ∧ (p a = true → Ev K m te Γ' (f a))) : Ev K m (tLc wi g tt te vs) Γ (.lst ((l.filter p).map f)) :=
  er_lc hs fun ds' e => by
    subst e
    refine ⟨by rw [List.length_map]; exact hl, fun i acc => acc = ((l.take i).filter p).map f, rfl, fun acc e => by rw [e, List.length_map, List.take_length], fun i d acc hd e => ?_⟩
    rw [List.getElem?_map] at hd
    cases ha : l[i]? with
    | none => rw [ha] at hd; cases hd
    | some a =>
      rw [ha] at hd
      obtain rfl : enc a = d := Option.some.inj hd
      obtain ⟨Γ', js, h1, h2, h3, h4⟩ := hb a (List.mem_of_getElem? ha)
      refine ⟨Γ', js, h1, h2, _, h3, fun q => (h4 q.symm).imp fun x hx => ?_, fun q => ?_⟩
      · show acc ++ [x] = ((l.take (i + 1)).filter p).map f
        rw [hx, e, filter_take_succ ha, if_pos q.symm, List.map_append]; rfl
      · show acc = ((l.take (i + 1)).filter p).map f
        rw [e, filter_take_succ ha, if_neg (by rw [← q]; decide), List.append_nil]
theorem ev_mapA {vs : List Nat} {α : Type} {l : List α} {enc : α → Dt} (f : α → Dt) (hs : SrcG K m wi Γ (· = l.map enc)) (hl : l.length ≤ 100000)
    (hb : ∀ a ∈ l, ∃ Γ' js, (∀ j ∈ js, j ∈ vs) ∧ TgG K g (enc a) (wipeG Γ vs) Γ' js ∧ Ev K m te Γ' (f a)) : Ev K m (tLc wi g tYes te vs) Γ (.lst (l.map f)) := by
  have h := ev_lcA (tt := tYes) (te := te) (g := g) (vs := vs) (fun _ => true) f hs hl fun d hd => by
    obtain ⟨Γ', js, h1, h2, h3⟩ := hb d hd
    exact ⟨Γ', js, h1, h2, et_yes, fun _ => h3⟩
  rw [List.filter_eq_self.mpr (fun _ _ => rfl)] at h
  exact h
theorem rng_map (n : Nat) : rngD 0 n = (List.range n).map fun i => Dt.int (i : Nat) := by
  unfold rngD
  apply List.map_congr_left
  intro i _
  rw [Int.zero_add]
/-- over range(n) -/
theorem sv_rangeN {ta : TE} {n : Nat} (h : Ev K m ta Γ (.int (n : Nat))) (hn : n ≤ 1000000) : SrcG K m (iRng1 (tCons ta tNil)) Γ (· = (List.range n).map fun i => Dt.int (i : Nat)) := by
  have q := sv_range1 h ⟨by omega, by omega⟩
  rw [show ((n : Nat) : Int).toNat = n from rfl, rng_map] at q
  exact q
/-- each item gives something -/
theorem er_map {vs : List Nat} (hs : SrcG K m wi Γ S) (Pe : Nat → Dt → Prop)
    (hb : ∀ ds, S ds → ds.length ≤ 100000 ∧ (∀ acc, acc.length = ds.length → (∀ i e, acc[i]? = some e → Pe i e) → P (.lst acc)) ∧ ∀ i d, ds[i]? = some d → ∃ Γ' js, (∀ j ∈ js, j ∈ vs) ∧ TgG K g d (wipeG Γ vs) Γ' js ∧ EvG K m te Γ' (Pe i)) : EvG K m (tLc wi g tYes te vs) Γ P :=
  er_lc hs fun ds e => by
    obtain ⟨h1, h2, h3⟩ := hb ds e
    refine ⟨h1, fun i acc => acc.length = i ∧ ∀ j e, acc[j]? = some e → Pe j e, ⟨rfl, fun _ _ h => by simp at h⟩, fun acc ⟨q1, q2⟩ => h2 acc q1 q2, fun i d acc hd ⟨q1, q2⟩ => ?_⟩
    obtain ⟨Γ', js, z1, z2, z3⟩ := h3 i d hd
    refine ⟨Γ', js, z1, z2, _, et_yes, fun _ => z3.imp fun x hx => ⟨by rw [List.length_append, q1]; rfl, fun j e hj => ?_⟩, fun q => nomatch q⟩
    by_cases hjl : j < acc.length
    · rw [List.getElem?_append_left hjl] at hj; exact q2 j e hj
    · rw [List.getElem?_append_right (by omega)] at hj
      have hj0 : j - acc.length = 0 := by
        have := (List.getElem?_eq_some_iff.mp hj).1
        simp at this; omega
      rw [hj0] at hj
      have e2 : j = i := by omega
      have e3 : x = e := Option.some.inj hj
      rw [← e3, e2]; exact hx
/-- two fors -/
theorem er_lc2 {vs vs1 : List Nat} (hs : SrcG K m wi Γ S)
    (hb : ∀ ds, S ds → ∃ R : Nat → List Dt → Prop, R 0 [] ∧ (∀ acc, R ds.length acc → P (.lst acc)) ∧ ∀ i d acc, ds[i]? = some d → R i acc →
      ∃ Γ' js, (∀ j ∈ js, j ∈ vs) ∧ TgG K g d (wipeG Γ vs) Γ' js ∧ ∃ S1, SrcG K m wi1 Γ' S1 ∧ ∀ es, S1 es → ∃ R1 : Nat → List Dt → Prop, R1 0 acc ∧ (∀ acc, R1 es.length acc → R (i + 1) acc) ∧
        ∀ j e acc, es[j]? = some e → R1 j acc → acc.length ≤ 100000 ∧ ∃ Γ'' js1, (∀ j ∈ js1, j ∈ vs1) ∧ TgG K g1 e (wipeG Γ' vs1) Γ'' js1 ∧ EvG K m te Γ'' fun x => R1 (j + 1) (acc ++ [x])) :
    EvG K m (tLc2 wi g tYes wi1 g1 tYes te vs vs1) Γ P := by
  intro σ G H x s M Q k
  refine hs σ G H x s M _ fun J ds G1 H1 p1 gr1 M1 src D hD => ?_
  obtain ⟨R, R0, Rn, Rs⟩ := hb ds p1
  have x1 := x.mono gr1.g
  have nD : ¬ m.μ D := Mu.notNew M1 hD
  refine ⟨fun i k H => k = ds.length - i ∧ i ≤ ds.length ∧ ∃ G' ys acc, Grow m.μ G1 H1 G' H ∧ m.M G' H ∧ G' D = none ∧ H D = some (.lst ys) ∧ Dvs K G' ys acc ∧ R i acc,
    ⟨ds.length, by simp, Nat.zero_le _, G1, [], [], Grow.hide gr1.sub hD, Mu.hide gr1.sub hD M1, gr1.sub.free hD, upd_same, .nil, R0⟩, ?_⟩
  rintro i k' H' ⟨rfl, hi, G', ys, acc, gr, M', gD, hDl, rs, hR⟩
  by_cases hlt : i < ds.length
  · refine .inr ⟨src.goes i H' hlt (gr.g.trans gr.sub), fun H2 => i + 1 ≤ ds.length ∧ ∃ G' ys acc, Grow m.μ G1 H1 G' H2 ∧ m.M G' H2 ∧ G' D = none ∧ H2 D = some (.lst ys) ∧ Dvs K G' ys acc ∧ R (i + 1) acc, fun H2 w => ⟨ds.length - (i + 1), by omega, rfl, w⟩, fun z H2 y => ?_⟩
    obtain ⟨d, hd⟩ : ∃ d, ds[i]? = some d := ⟨_, List.getElem?_eq_getElem hlt⟩
    obtain ⟨G2, g2, r2⟩ := src.yields i d H' z H2 G' hd gr.g gr.sub y
    obtain ⟨Γ', js, hjs, htg, S1, hs1, hin⟩ := Rs i d acc hd hR
    have M2 := Mu.pure g2 M'
    have gD2 : G2 D = none := g2.new D gD (by rw [hDl]; trivial)
    have hD2 : H2 D = some (.lst ys) := g2.same _ _ hDl
    refine htg (wipe σ vs) G2 H2 z ((x1.mono (gr.g.trans g2.g)).wipe vs) g2.sub r2 _ fun σ' sl' hw => ⟨?_, ?_⟩
    · rw [hw vs hjs, wipe_wipe fun j hj => hj]
    · show wi1 σ' H2 _
      refine hs1 σ' G2 H2 sl' g2.sub M2 _ fun J1 es G3 H3 p3 g3 M3 src1 => ?_
      have hD3 : H3 D = some (.lst ys) := g3.h D _ nD hD2
      have gD3 : G3 D = none := g3.new D gD2 (by rw [hD2]; trivial)
      obtain ⟨R1, R10, R1n, R1s⟩ := hin es p3
      refine ⟨fun j k H => k = es.length - j ∧ j ≤ es.length ∧ ∃ G' ys acc, Same G3 G' ∧ Grow m.μ G1 H1 G' H ∧ m.M G' H ∧ G' D = none ∧ H D = some (.lst ys) ∧ Dvs K G' ys acc ∧ R1 j acc,
        ⟨es.length, by simp, Nat.zero_le _, G3, ys, acc, Same.refl _, (gr.trans g2.lift).trans g3, M3, gD3, hD3, rs.mono (g2.g.trans g3.g), R10⟩, ?_⟩
      rintro j k' H4 ⟨rfl, hj, G4, zs, acc1, s34, gr4, M4, gD4, hD4, rs4, hR1⟩
      by_cases hlt1 : j < es.length
      · refine .inr ⟨src1.goes j H4 hlt1 (s34.trans gr4.sub), fun H5 => j + 1 ≤ es.length ∧ ∃ G' ys acc, Same G3 G' ∧ Grow m.μ G1 H1 G' H5 ∧ m.M G' H5 ∧ G' D = none ∧ H5 D = some (.lst ys) ∧ Dvs K G' ys acc ∧ R1 (j + 1) acc, fun H5 w => ⟨es.length - (j + 1), by omega, rfl, w⟩, fun u H5 y5 => ?_⟩
        obtain ⟨e, he⟩ : ∃ e, es[j]? = some e := ⟨_, List.getElem?_eq_getElem hlt1⟩
        obtain ⟨G5, g5, r5⟩ := src1.yields j e H4 u H5 G4 he s34 gr4.sub y5
        obtain ⟨hal, Γ'', js1, hjs1, htg1, hte⟩ := R1s j e acc1 he hR1
        have M5 := Mu.pure g5 M4
        have gD5 : G5 D = none := g5.new D gD4 (by rw [hD4]; trivial)
        have hD5 : H5 D = some (.lst zs) := g5.same _ _ hD4
        refine htg1 (wipe σ' vs1) G5 H5 u ((sl'.mono (g3.g.trans (s34.trans g5.g))).wipe vs1) g5.sub r5 _ fun σ3 sl3 hw3 => ⟨?_, ?_⟩
        · rw [hw3 vs1 hjs1, wipe_wipe fun j hj => hj]
        · show te σ3 H5 _
          refine hte σ3 G5 H5 sl3 g5.sub M5 _ fun v x6 G6 H6 p6 g6 M6 r6 => ?_
          have hD6 : H6 D = some (.lst zs) := g6.h D _ nD hD5
          have gD6 : G6 D = none := g6.new D gD5 (by rw [hD5]; trivial)
          exact ⟨zs, hD6, by rw [rs4.length]; exact Nat.lt_of_le_of_lt hal (by decide), hlt1, G6, zs ++ [v], acc1 ++ [x6], s34.trans (g5.g.trans g6.g), ((gr4.trans g5.lift).trans g6).set hD gD6, Mu.set g6.sub gD6 nD M6, gD6, upd_same,
            (rs4.mono (g5.g.trans g6.g)).snoc r6, p6⟩
      · have e : j = es.length := by omega
        subst e
        exact .inl ⟨src1.stops H4 (s34.trans gr4.sub), hlt, G4, zs, acc1, gr4, M4, gD4, hD4, rs4, R1n acc1 hR1⟩
  · have e : i = ds.length := by omega
    subst e
    refine .inl ⟨src.stops H' (gr.g.trans gr.sub), ?_⟩
    have gk := gr.know hD gD hDl
    exact k (.ref D) (.lst acc) _ H' (Rn acc hR) (gr1.trans gk) (Mu.know gr.sub gD nD hDl M') (.lst upd_same (rs.mono fun a u q => by rw [upd_ne (ne_of_none q gD)]; exact q))
theorem flatMap_take_succ {α β : Type} {f : α → List β} {ds : List α} {i : Nat} {d : α} (h : ds[i]? = some d) : (ds.take (i + 1)).flatMap f = (ds.take i).flatMap f ++ f d := by
  rw [List.take_add_one, h]
  simp [List.flatMap_append]
theorem map_take_succ {α β : Type} {f : α → β} {ds : List α} {i : Nat} {d : α} (h : ds[i]? = some d) : (ds.take (i + 1)).map f = (ds.take i).map f ++ [f d] := by
  rw [List.take_add_one, h]
  simp
/-- [f x y for x in ds for y in es] -/
theorem ev_lc2 {vs vs1 : List Nat} {ds es : List Dt} (f : Dt → Dt → Dt) (hs : SrcG K m wi Γ (· = ds)) (hl : ds.length * es.length ≤ 100000)
    (hb : ∀ d ∈ ds, ∃ Γ' js, (∀ j ∈ js, j ∈ vs) ∧ TgG K g d (wipeG Γ vs) Γ' js ∧ SrcG K m wi1 Γ' (· = es) ∧ ∀ e ∈ es, ∃ Γ'' js1, (∀ j ∈ js1, j ∈ vs1) ∧ TgG K g1 e (wipeG Γ' vs1) Γ'' js1 ∧ Ev K m te Γ'' (f d e)) :
    Ev K m (tLc2 wi g tYes wi1 g1 tYes te vs vs1) Γ (.lst (ds.flatMap fun d => es.map (f d))) :=
  er_lc2 hs fun ds' e => by
    subst e
    refine ⟨fun i acc => acc = (ds'.take i).flatMap (fun d => es.map (f d)), rfl, fun acc e => by rw [e, List.take_length], fun i d acc hd e => ?_⟩
    obtain ⟨Γ', js, h1, h2, h3, h4⟩ := hb d (List.mem_of_getElem? hd)
    refine ⟨Γ', js, h1, h2, _, h3, fun es' e' => ?_⟩
    subst e'
    refine ⟨fun j acc' => acc' = acc ++ (es'.take j).map (f d), by simp, fun acc' q => by
      show acc' = (ds'.take (i + 1)).flatMap (fun d => es'.map (f d))
      rw [q, e, List.take_length, flatMap_take_succ hd], fun j x acc' hx q => ⟨?_, ?_⟩⟩
    · have hi : i < ds'.length := (List.getElem?_eq_some_iff.mp hd).1
      have hj : j < es'.length := (List.getElem?_eq_some_iff.mp hx).1
      have l1 : ∀ l : List Dt, (l.flatMap fun d => es'.map (f d)).length = l.length * es'.length := by
        intro l
        induction l with
        | nil => simp
        | cons a r ih => rw [List.flatMap_cons, List.length_append, ih, List.length_map, List.length_cons, Nat.succ_mul, Nat.add_comm]
      rw [q, e, List.length_append, l1, List.length_map, List.length_take, List.length_take]
      have a1 : min i ds'.length = i := by omega
      have a2 : min j es'.length = j := by omega
      rw [a1, a2]
      have a3 : (i + 1) * es'.length ≤ ds'.length * es'.length := Nat.mul_le_mul_right _ hi
      rw [Nat.succ_mul] at a3
      omega
    · obtain ⟨Γ'', js1, z1, z2, z3⟩ := h4 x (List.mem_of_getElem? hx)
      exact ⟨Γ'', js1, z1, z2, z3.imp fun y hy => by
        show acc' ++ [y] = acc ++ (es'.take (j + 1)).map (f d)
        rw [hy, q, map_take_succ hx, List.append_assoc]⟩
end
end K70
/-! What the top has left; defs and methods that keep a promise. -/
namespace K70
open PySem PySem.Spec PyProof.Rows L2
abbrev cS (K : PySem.W.Frag) : Addr := He.ga K "Strip"
abbrev cR (K : PySem.W.Frag) : Addr := He.ga K "Rule"
structure Tp (K : PySem.W.Frag) (mg : Str → Option Value) : Prop where
  fr : ∀ x ∈ frees, mg x = none
  fn : ∀ (i : Nat) (d : He.DefD), fns[i]? = some d → ∃ fd, FunD K d.name d.qual d.params d.body d.scope [] [] (He.fAd K d.at_) fd
  gl : ∀ x ∈ globs, mg x = some (.ref (He.ga K x))
  mS : ∀ m ∈ methsS, Meth K (cS K) m (He.ma K (cS K) m)
  mR : ∀ m ∈ methsR, Meth K (cR K) m (He.ma K (cR K) m)
  kS : Mk K (cS K) (He.ma K (cS K) "__init__")
  kR : Mk K (cR K) (He.ma K (cR K) "__init__")
  clS : Cls K (cS K)
  clR : Cls K (cR K)
  nS : ∀ f ∈ fieldsS, NoAttr K (cS K) f
  nR : ∀ f ∈ fieldsR, NoAttr K (cR K) f
  tSigns : ∃ t, mg "SIGNS" = some (.str ".abcdefghijklmnopqrstuvwxyz" t)
  tFolded : ∃ t, mg "FOLDED" = some (.str "" t)
  iStates : ∃ t, mg "MOST_STATES" = some (.int 64 t)
  iRows : ∃ t, mg "MOST_ROWS" = some (.int 80 t)
  iTests : ∃ t, mg "MOST_TESTS" = some (.int 8 t)
  tPlaces : ∀ G : Hp, SqT K G (He.ga K "PLACES") ((["n", "ne", "e", "se", "s", "sw", "w", "nw"] : List Str).map fun x : Str => V.str x)
  tSorts : ∀ G : Hp, SqT K G (He.ga K "SORTS") ((["around", "halves", "blocks"] : List Str).map fun x : Str => V.str x)
section
variable {K : PySem.W.Frag} {mg : Str → Option Value}
theorem Tp.len (T : Tp K mg) : mg "len" = none := T.fr _ (by decide +kernel)
theorem Tp.all (T : Tp K mg) : mg "all" = none := T.fr _ (by decide +kernel)
theorem Tp.zip (T : Tp K mg) : mg "zip" = none := T.fr _ (by decide +kernel)
theorem Tp.sorted (T : Tp K mg) : mg "sorted" = none := T.fr _ (by decide +kernel)
theorem Tp.range (T : Tp K mg) : mg "range" = none := T.fr _ (by decide +kernel)
theorem Tp.sum (T : Tp K mg) : mg "sum" = none := T.fr _ (by decide +kernel)
theorem Tp.set (T : Tp K mg) : mg "set" = none := T.fr _ (by decide +kernel)
theorem Tp.enumerate (T : Tp K mg) : mg "enumerate" = none := T.fr _ (by decide +kernel)
theorem Tp.list (T : Tp K mg) : mg "list" = none := T.fr _ (by decide +kernel)
theorem Tp.tuple (T : Tp K mg) : mg "tuple" = none := T.fr _ (by decide +kernel)
theorem Tp.dict (T : Tp K mg) : mg "dict" = none := T.fr _ (by decide +kernel)
theorem Tp.min (T : Tp K mg) : mg "min" = none := T.fr _ (by decide +kernel)
theorem Tp.abs (T : Tp K mg) : mg "abs" = none := T.fr _ (by decide +kernel)
theorem Tp.int (T : Tp K mg) : mg "int" = none := T.fr _ (by decide +kernel)
theorem Tp.str (T : Tp K mg) : mg "str" = none := T.fr _ (by decide +kernel)
theorem Tp.bool (T : Tp K mg) : mg "bool" = none := T.fr _ (by decide +kernel)
theorem Tp.isinstance (T : Tp K mg) : mg "isinstance" = none := T.fr _ (by decide +kernel)
theorem Tp.repr (T : Tp K mg) : mg "repr" = none := T.fr _ (by decide +kernel)
end
theorem Tp.gPlaces {K : PySem.W.Frag} {mg : Str → Option Value} (T : Tp K mg) : mg "PLACES" = some (.ref (He.ga K "PLACES")) := T.gl _ (by decide +kernel)
theorem Tp.gSorts {K : PySem.W.Frag} {mg : Str → Option Value} (T : Tp K mg) : mg "SORTS" = some (.ref (He.ga K "SORTS")) := T.gl _ (by decide +kernel)
theorem Fn.len {K : PySem.W.Frag} {α : Type} {arg : α → List Dt} {mk : α → Mu} {pre : α → Prop} {post : α → Dt → Prop} {vs : List V} {H : Hp} {Q : VK} {E : XK} {n : Nat} (h : Fn K arg mk pre post vs H Q E) (hp : ∀ a, (arg a).length = n := by intro _; rfl) : vs.length = n := by
  obtain ⟨a, G, r, _, _, p, _⟩ := h
  rw [r.length]; exact hp a
/-- the def x keeps the promise sp, at the level k -/
def Okd (P : Program) (w : World) (K : PySem.W.Frag) (mg : Str → Option Value) (base : Heap) (k : Nat) (x : Str) (ps : List Str) (sp : Sp) : Prop :=
  ∃ f fd, FnOk P w K mg base CX0 k f fd ps sp ∧ mg x = some (.ref f) ∧ PySem.W.keepIn K (.ref f) = true ∧ Binds K fd ps []
/-- the method m of the class at C -/
def Okm (P : Program) (w : World) (K : PySem.W.Frag) (mg : Str → Option Value) (base : Heap) (k : Nat) (C : Addr) (m : Str) (ps : List Str) (sp : Sp) : Prop :=
  ∃ f fd, FnOk P w K mg base CX0 k f fd ps sp ∧ Meth K C m f ∧ Binds K fd ps []
/-- C(..) -/
def Okc (P : Program) (w : World) (K : PySem.W.Frag) (mg : Str → Option Value) (base : Heap) (k : Nat) (C : Addr) (x : Str) (ps : List Str) (sp : Sp) : Prop :=
  ∃ f fd, FnOk P w K mg base CX0 k f fd ps sp ∧ Mk K C f ∧ mg x = some (.ref C) ∧ Binds K fd ps []
/-- a def of the text: it stands at f -/
abbrev FnAt (K : PySem.W.Frag) (x qual : Str) (st : Stmt) (f : Addr) (fd : FuncData) : Prop := FunD K x qual (defArgs st) (defBody st) (defScope st) [] [] f fd
/-- code that the proof never comes to -/
def tNo : TE := fun _ _ _ => False
theorem pe_no {X : Cx} {e : Expr} : PE X e tNo := ⟨fun _ _ _ _ _ _ h => h.elim⟩
def tNoT : TT := fun _ _ _ => False
theorem pt_no {X : Cx} {e : Expr} : PT X e tNoT := ⟨fun _ _ _ _ _ _ h => h.elim⟩
theorem pw_no {X : Cx} {e : Expr} : PW X e tNoT := ⟨fun _ _ _ _ _ _ _ h => h.elim⟩
end K70
/-! Loops over slots alone. -/
namespace K70
open PySem PySem.Spec PyProof.Rows L2
section
variable {K : PySem.W.Frag} {m : Mu} {G0 H0 G1 H1 G H : Hp} {σ : L2.St} {Γ : Ga} {wi : TI} {g : TG} {D : Ends} {t u : TS} {ds : List Dt}
theorem Cf.base (c : Cf K m G1 H1 σ Γ G H) (g : Grow m.μ G0 H0 G1 H1) : Cf K m G0 H0 σ Γ G H := ⟨c.sl, c.gh, c.mm, g.trans c.gr⟩
theorem c_forG {Γd : Nat → Dt → Ga} {js : List Nat} (c : Cf K m G0 H0 σ Γ G H) (hs : SrcG K m wi Γ (· = ds)) (Γs : Nat → Ga) (h0 : Γs 0 = Γ)
    (hg : ∀ i d, ds[i]? = some d → TgG K g d (Γs i) (Γd i d) js)
    (ht : ∀ G1 H1, Grow m.μ G0 H0 G1 H1 → ∀ i d σ' G' H' (D' : Ends), ds[i]? = some d → Cf K m G1 H1 σ' (Γd i d) G' H' → D'.rt = D.rt → (∀ σ G H, Cf K m G1 H1 σ (Γs (i + 1)) G H → D'.nx σ H) → t D' σ' H')
    (hd : ∀ σ G H, Cf K m G0 H0 σ (Γs ds.length) G H → D.nx σ H) : tFor wi g t D σ H :=
  c_for c hs fun ds' G1 H1 e c1 g1 => by
    subst e
    refine ⟨fun i σ G H => Cf K m G1 H1 σ (Γs i) G H, ⟨by rw [h0]; exact c1.sl, c1.gh, c1.mm, Grow.refl c1.gh⟩, fun i σ G H a => ⟨a.gr.g, a.gh⟩, fun i d σ G H G2 H2 x hi a g2 r => ?_, fun σ G H a => hd σ G H (a.base c1.gr)⟩
    have a2 := a.step g2
    refine hg i d hi σ G2 H2 x a2.sl a2.gh r _ fun σ' sl' _ => ?_
    exact ht G1 H1 c1.gr i d σ' G2 H2 _ hi ⟨sl', a2.gh, a2.mm, a2.gr⟩ rfl fun σ3 G3 H3 c3 => ⟨G3, c3⟩
theorem q_forG {Γd : Nat → Dt → Ga} {js : List Nat} (c : Cf K m G0 H0 σ Γ G H) (hs : SrcG K m wi Γ (· = ds)) (Γs : Nat → Ga) (h0 : Γs 0 = Γ)
    (hg : ∀ i d, ds[i]? = some d → TgG K g d (Γs i) (Γd i d) js)
    (ht : ∀ G1 H1, Grow m.μ G0 H0 G1 H1 → ∀ i d σ' G' H' (D' : Ends), ds[i]? = some d → Cf K m G1 H1 σ' (Γd i d) G' H' → D'.rt = D.rt → (∀ σ G H, Cf K m G1 H1 σ (Γs (i + 1)) G H → D'.nx σ H) → t D' σ' H')
    (hd : ∀ σ G H, Cf K m G0 H0 σ (Γs ds.length) G H → u D σ H) : tSeq (tFor wi g t) u D σ H := c_forG (D := { D with nx := u D }) c hs Γs h0 hg ht hd
theorem q_forN {j : Nat} (c : Cf K m G0 H0 σ Γ G H) (hs : SrcG K m wi Γ (· = ds)) (Γs : Nat → Ga) (h0 : Γs 0 = Γ)
    (ht : ∀ G1 H1, Grow m.μ G0 H0 G1 H1 → ∀ i d σ' G' H' (D' : Ends), ds[i]? = some d → Cf K m G1 H1 σ' ((Γs i).set j (some d)) G' H' → D'.rt = D.rt → (∀ σ G H, Cf K m G1 H1 σ (Γs (i + 1)) G H → D'.nx σ H) → t D' σ' H')
    (hd : ∀ σ G H, Cf K m G0 H0 σ (Γs ds.length) G H → u D σ H) : tSeq (tFor wi (gName j) t) u D σ H := q_forG (js := [j]) c hs Γs h0 (fun _ _ _ => tg_name) ht hd
theorem c_forN {j : Nat} (c : Cf K m G0 H0 σ Γ G H) (hs : SrcG K m wi Γ (· = ds)) (Γs : Nat → Ga) (h0 : Γs 0 = Γ)
    (ht : ∀ G1 H1, Grow m.μ G0 H0 G1 H1 → ∀ i d σ' G' H' (D' : Ends), ds[i]? = some d → Cf K m G1 H1 σ' ((Γs i).set j (some d)) G' H' → D'.rt = D.rt → (∀ σ G H, Cf K m G1 H1 σ (Γs (i + 1)) G H → D'.nx σ H) → t D' σ' H')
    (hd : ∀ σ G H, Cf K m G0 H0 σ (Γs ds.length) G H → D.nx σ H) : tFor wi (gName j) t D σ H := c_forG (js := [j]) c hs Γs h0 (fun _ _ _ => tg_name) ht hd
theorem Cf.to {Δ : Ga} (c : Cf K m G0 H0 σ Γ G H) (e : Γ = Δ) : Cf K m G0 H0 σ Δ G H := e ▸ c
/-- a name's value is forgotten -/
theorem Cf.forget {Δ : Ga} (c : Cf K m G0 H0 σ Γ G H) (h : ∀ (i : Nat) (d : Dt), Δ[i]? = some (some d) → Γ[i]? = some (some d)) (hl : Γ.length = Δ.length) : Cf K m G0 H0 σ Δ G H := ⟨⟨by rw [c.sl.len, hl], fun i d e => c.sl.at_ i d (h i d e)⟩, c.gh, c.mm, c.gr⟩
end
end K70
/-! What the defs reckon, in plain Lean. -/
namespace K70
open PySem PySem.Spec PyProof.Rows L2
/-- the signs, as codes -/
def sg : Tx := [46, 97, 98, 99, 100, 101, 102, 103, 104, 105, 106, 107, 108, 109, 110, 111, 112, 113, 114, 115, 116, 117, 118, 119, 120, 121, 122]
theorem sg_str : (".abcdefghijklmnopqrstuvwxyz" : Str) = tx sg := by decide +kernel
theorem at_getD {α : Type} {l : List α} {j : Nat} (h : j < l.length) (d : α) : l[j]? = some (l.getD j d) := by
  rw [List.getD_eq_getElem?_getD, List.getElem?_eq_getElem h]; rfl
theorem ev_SIGNS {K : PySem.W.Frag} {m : Mu} {Γ : Ga} : Ev K m (tC (.str ".abcdefghijklmnopqrstuvwxyz")) Γ (.str sg) := ev_c fun G => by rw [sg_str]; exact .str _
/-- the columns of some rows, the rows of some columns -/
def colsM (rows : List Tx) : List Tx := (List.range (rows.getD 0 []).length).map fun at_ => rows.map fun r => r.getD at_ 0
def rowsM (cols : List Tx) (high : Nat) : List Tx := (List.range high).map fun y => cols.map fun c => c.getD y 0
/-- a test of a rule's row; a row; a rule of the sort around -/
inductive Tst where
  | at (p s : Tx)
  | cnt (lo hi : Nat) (s : Tx)
structure Rw where
  own : Tx
  tests : List Tst
  sign : Nat
structure Rl where
  many : Nat
  near : List Tx
  rows : List Rw
def tAround : Tx := [97, 114, 111, 117, 110, 100]
def tAt : Tx := [97, 116]
def tCount : Tx := [99, 111, 117, 110, 116]
def places : List Tx := [[110], [110, 101], [101], [115, 101], [115], [115, 119], [119], [110, 119]]
def Rl.signs (r : Rl) : Tx := sg.take r.many
/-- a row of signs: some, rising -/
def Rising (s : Tx) : Prop := s ≠ [] ∧ s.Pairwise (· < ·)
def Tst.ok (near : List Tx) (signs : Tx) : Tst → Prop
  | .at p s => p ∈ near ∧ Rising s ∧ ∀ c ∈ s, c ∈ signs
  | .cnt lo hi s => lo ≤ hi ∧ hi ≤ 8 ∧ Rising s ∧ ∀ c ∈ s, c ∈ signs
structure Rw.ok (r : Rw) (near : List Tx) (signs : Tx) : Prop where
  own : Rising r.own
  ownIn : ∀ c ∈ r.own, c ∈ signs
  few : r.tests.length ≤ 8
  tests : ∀ t ∈ r.tests, t.ok near signs
  sign : r.sign ∈ signs
structure Rl.ok (r : Rl) : Prop where
  lo : 2 ≤ r.many
  hi : r.many ≤ 27
  nearIn : ∀ p ∈ r.near, p ∈ places
  nearND : r.near.Nodup
  few : r.rows.length ≤ 80
  rows : ∀ q ∈ r.rows, q.ok r.near r.signs
theorem nodup_len {α : Type} [DecidableEq α] : ∀ {l k : List α}, l.Nodup → (∀ x ∈ l, x ∈ k) → l.length ≤ k.length
  | [], _, _, _ => Nat.zero_le _
  | a :: l, k, h, hs => by
    have h1 := List.nodup_cons.mp h
    have h2 : l.length ≤ (k.erase a).length := nodup_len h1.2 fun x hx => by
      have ne : x ≠ a := fun e => h1.1 (e ▸ hx)
      exact (List.mem_erase_of_ne ne).mpr (hs x (List.mem_cons_of_mem _ hx))
    have ha := hs a List.mem_cons_self
    rw [List.length_erase_of_mem ha] at h2
    have := List.length_pos_of_mem ha
    rw [List.length_cons]; omega
theorem Rl.ok.nearLen {r : Rl} (h : r.ok) : r.near.length ≤ 8 := nodup_len h.nearND h.nearIn
def Tst.holds (near : List Tx) (around : Tx) : Tst → Bool
  | .at p s => decide (around.getD (near.idxOf p) 0 ∈ s)
  | .cnt lo hi s => decide (lo ≤ (around.filter fun c => decide (c ∈ s)).length) && decide ((around.filter fun c => decide (c ∈ s)).length ≤ hi)
/-- what a cell becomes -/
def Rl.fate (r : Rl) (own : Nat) (around : Tx) : Nat := match r.rows.find? fun q => decide (own ∈ q.own) && q.tests.all (Tst.holds r.near around) with
  | some q => q.sign
  | none => own
def offOf (p : Tx) : Int × Int :=
  if p = [110] then (0, -1) else if p = [110, 101] then (1, -1) else if p = [101] then (1, 0) else if p = [115, 101] then (1, 1) else if p = [115] then (0, 1) else if p = [115, 119] then (-1, 1) else if p = [119] then (-1, 0) else (-1, -1)
/-- the sign of a column at a height, the edge above and below it -/
def signIn (edge : Nat) (col : Tx) (y : Int) : Nat := if 0 ≤ y ∧ y < col.length then col.getD y.toNat 0 else edge
/-- what the middle one of three columns becomes -/
def Rl.around (r : Rl) (edge : Nat) (one two three : Tx) (y : Nat) : Tx := r.near.map fun p =>
  signIn edge (if (offOf p).1 = -1 then one else if (offOf p).1 = 0 then two else three) (y + (offOf p).2)
def Rl.mid (r : Rl) (edge : Nat) (one two three : Tx) : Tx := (List.range two.length).map fun y => r.fate (two.getD y 0) (r.around edge one two three y)
/-- what stands for them -/
def tstD : Tst → Dt
  | .at p s => .tup [.str tAt, .str p, .str s]
  | .cnt lo hi s => .tup [.str tCount, .int lo, .int hi, .str s]
def rwD (r : Rw) : Dt := .tup [.str r.own, .tup (r.tests.map tstD), .str [r.sign]]
def rlD (C : Addr) (r : Rl) : Dt := .ins C [("sort_told", .str tAround), ("count", .int r.many), ("looked_at", .tupN (txs r.near)), ("listed", .lst (r.rows.map rwD))]
end K70
/-! The layer's rules with the written part by its own letter (within a comprehension's block it is hidden by the block's context). -/
namespace K70
open PySem PySem.Spec PyProof.Rows L2
section
variable {X : Cx} {K : PySem.W.Frag} {a b e o : Expr} {es : List Expr} {ta tb te to : TE} {t : TA} {tg : Expr} {p pos apos cpos : Pos}
def rLenSq (K : PySem.W.Frag) : List V → Hp → VK → Prop := fun xs H Q => ∃ p ys, xs = [.ref p] ∧ (SqL K H p ys ∨ SqT K H p ys) ∧ Q (.int ys.length) H
def rListOf (K : PySem.W.Frag) : List V → Hp → VK → Prop := fun xs H Q => ∃ p ys, xs = [.ref p] ∧ (SqL K H p ys ∨ SqT K H p ys) ∧ ∀ l, H l = none → Q (.ref l) (upd H l (.lst ys))
def rTupleOf (K : PySem.W.Frag) : List V → Hp → VK → Prop := fun xs H Q => ∃ p ys, xs = [.ref p] ∧ ((SqL K H p ys ∧ ∀ l, H l = none → Q (.ref l) (upd H l (.tup ys))) ∨ (SqT K H p ys ∧ Q (.ref p) H))
def rJoin (K : PySem.W.Frag) : V → List V → Hp → VK → Prop := fun x xs H Q => ∃ a p, ∃ ys : List Str, x = .str a ∧ xs = [.ref p] ∧ (SqL K H p (ys.map V.str) ∨ SqT K H p (ys.map V.str)) ∧
    (ys.map (·.length)).sum + ys.length * a.length ≤ 16777216 ∧ Q (.str (Txt.join a ys)) H
def rLenStr : List V → Hp → VK → Prop := fun xs H Q => ∃ z, xs = [.str z] ∧ z.length ≤ sizeLine ∧ Q (.int z.length) H
def rAddStr : R2 := fun x y H Q => ∃ i j, x = .str i ∧ y = .str j ∧ i.length + j.length ≤ sizeLine ∧ Q (.str (i ++ j)) H
def rLtStr : R2 := fun x y H Q => ∃ i j, x = .str i ∧ y = .str j ∧ Q (.bl (decide (i.cps.toList < j.cps.toList))) H
def rInSign : R2 := fun x y H Q => ∃ (c : Nat) (z : Str), x = .str ⟨#[c]⟩ ∧ y = .str z ∧ Q (.bl (decide (c ∈ z.cps.toList))) H
def rNotInSign : R2 := fun x y H Q => ∃ (c : Nat) (z : Str), x = .str ⟨#[c]⟩ ∧ y = .str z ∧ Q (.bl (!decide (c ∈ z.cps.toList))) H
theorem ix_listK (hK : X.K = K := by rfl) : IxR X (rIxL K) := by subst hK; exact ix_list
theorem ix_tupK (hK : X.K = K := by rfl) : IxR X (rIxT K) := by subst hK; exact ix_tup
theorem sl_listK (hK : X.K = K := by rfl) : SlR X (rSlL K) := by subst hK; exact sl_list
theorem sl_tupK (hK : X.K = K := by rfl) : SlR X (rSlT K) := by subst hK; exact sl_tup
theorem call_lenK (hK : X.K = K := by rfl) : CallR X (.builtin "len") (rLenSq K) := by subst hK; exact call_len_seq
theorem call_lenS : CallR X (.builtin "len") rLenStr := call_len_str
theorem call_listK (hK : X.K = K := by rfl) : CallR X (.type "list") (rListOf K) := by subst hK; exact call_list_of
theorem call_tupleK (hK : X.K = K := by rfl) : CallR X (.type "tuple") (rTupleOf K) := by subst hK; exact call_tuple_of
theorem cr_allK (hc : X.calm = true) (hK : X.K = K := by rfl) : CallR X (.builtin "all") (rAll K) := by subst hK; exact cr_all hc
theorem cr_sumK (hc : X.calm = true) (hK : X.K = K := by rfl) : CallR X (.builtin "sum") (rSum K) := by subst hK; exact cr_sum hc
theorem call_isiK (hK : X.K = K := by rfl) : CallR X (.builtin "isinstance") (rIsi K) := by subst hK; exact call_isi
theorem cr_sortedSK (hK : X.K = K := by rfl) : CallR X (.builtin "sorted") (rSortedS K) := by subst hK; exact cr_sortedS
theorem op_in_seqK (hK : X.K = K := by rfl) : OpR X (compareOp .In) (rIn K false) := by subst hK; exact op_in_seq
theorem op_eqDK (hu : X.A.units + 64 < cLine) (hK : X.K = K := by rfl) : OpR X (compareOp .Eq) (rEqD K) := by subst hK; exact op_eqD hu
theorem op_neDK (hu : X.A.units + 64 < cLine) (hK : X.K = K := by rfl) : OpR X (compareOp .NotEq) (rNeD K) := by subst hK; exact op_neD hu
theorem op_inDK (hu : X.A.units + 65 < cLine) (hK : X.K = K := by rfl) : OpR X (compareOp .In) (rInD K) := by subst hK; exact op_inD hu
theorem op_catTK (hK : X.K = K := by rfl) : OpR X (binaryOp .Add) (rCatT K) := by subst hK; exact op_catT
theorem op_addS : OpR X (binaryOp .Add) rAddStr := op_add_str
theorem op_ltS : OpR X (compareOp .Lt) rLtStr := op_lt_str
theorem op_inSg : OpR X (compareOp .In) rInSign := op_in_sign
theorem op_notInSg : OpR X (compareOp .NotIn) rNotInSign := op_notIn_sign
theorem pi_listK {l : Expr} {tl : TE} (hl : PE X l tl) (hK : X.K = K := by rfl) : PI X tg l (iList K tl) := by subst hK; exact pi_list hl
theorem pi_tupK {l : Expr} {tl : TE} (hl : PE X l tl) (hK : X.K = K := by rfl) : PI X tg l (iTup K tl) := by subst hK; exact pi_tup hl
theorem pe_fldK {f : Str} (he : PE X e te) (hb : attributeBase e f X.env (eval e X.env) = eval e X.env) (hK : X.K = K := by rfl) : PE X (.Attribute e f pos) (tFld K te f) := by subst hK; exact pe_fld he hb
theorem pg_tupK {k : Nat} {tgs : TGs} {n : Nat} (hc : X.calm = true) (h : PGs X es tgs) (hK : X.K = K := by rfl) (hn : (assignEach es X.env).length = n := by rfl) (hst : (assignEach es X.env).findIdx? (·.1) = none := by rfl) : PG X (.Tuple es k pos) (gTup K n tgs) := by
  subst hK; exact pg_tup hc h hn hst
theorem pe_joinK (ho : PE X o to) (he : PE X e te) (hK : X.K = K := by rfl) (hs : starEach [e] X.env = [(false, eval e X.env)] := by rfl) (hbase : attributeBase o "join" X.env (eval o X.env) = eval o X.env := by rfl) (hline : (apos.endLine == pos.line) = true := by rfl) :
    PE X (.Call (.Attribute o "join" apos) [e] [] pos) (tM1 (rJoin K) to te) := by subst hK; exact pe_join ho he hs hbase hline
theorem pi_zipK {e2 : Expr} {ta : TA} {elts : List Expr} {kk : Nat} {tpos : Pos} (hg : Gl X "zip") (hm : X.mg "zip" = none) (ha : PA X [e, e2] ta) (hK : X.K = K := by rfl)
    (hs : starEach [e, e2] X.env = (false, eval e X.env) :: starEach [e2] X.env := by rfl) (hpl : (backTo pos (starEach [e2] X.env)).any (·.1) = false := by rfl) : PI X (.Tuple elts kk tpos) (.Call (.Name "zip" p) [e, e2] [] pos) (iZip K ta) := by
  subst hK; exact pi_zip hg hm ha hs hpl
theorem pi_enumK {ta : TA} {elts : List Expr} {kk : Nat} {tpos : Pos} (hg : Gl X "enumerate") (hm : X.mg "enumerate" = none) (ha : PA X [e] ta) (hK : X.K = K := by rfl) (hs : starEach [e] X.env = [(false, eval e X.env)] := by rfl) :
    PI X (.Tuple elts kk tpos) (.Call (.Name "enumerate" p) [e] [] pos) (iEnum K ta) := by subst hK; exact pi_enum hg hm ha hs
theorem pe_revLK {k : Nat} {p1 p2 p3 : Pos} (he : PE X e te) (hK : X.K = K := by rfl) : PE X (.Subscript e (.Slice none none (some (.UnaryOp .USub (.Constant (.int 1) k p1) p2)) p3) pos) (tRevL K te) := by subst hK; exact pe_revL he
theorem pe_orTK {rest : List Expr} (ha : PE X a ta) (hb : PE X (.BoolOp .Or (b :: rest) pos) tb) (hK : X.K = K := by rfl) : PE X (.BoolOp .Or (a :: b :: rest) pos) (tOrT K ta tb) := by subst hK; exact pe_orT ha hb
theorem pe_bmK {T id : String} {name : Str} {r : V → List V → Hp → VK → Prop} (pa : PlainAttrs T) (slot : Slot T name id) (hty : typeOf (.builtin id) = pure (.type "method_descriptor")) (hm : MtR X id r) (ho : PE X o to) (ha : PA X (e :: es) t) (hK : X.K = K := by rfl)
    (hbase : attributeBase o name X.env (eval o X.env) = eval o X.env := by rfl)
    (hfew : ((backTo cpos (starEach (e :: es) X.env)).all (fun x => !x.1) && (backToKw cpos (keywordEach [] X.env)).all (fun x => x.1.isSome)
      && decide ((e :: es).length + ([] : List Keyword).length + (if ([] : List Keyword).isEmpty then 0 else 1) < 30)) = true := by rfl)
    (hline : (apos.endLine == cpos.line) = true := by rfl) (hs : starEach (e :: es) X.env = (false, eval e X.env) :: starEach es X.env := by rfl) (hplain : (backTo cpos (starEach es X.env)).any (·.1) = false := by rfl) :
    PE X (.Call (.Attribute o name apos) (e :: es) [] cpos) (tBM K T r to t) := by subst hK; exact pe_bm pa slot hty hm ho ha hbase hfew hline hs hplain
end
end K70
set_option maxHeartbeats 4000000
/-! Rules of our own: t.index(x) of a tuple that was made of a list, a text times an int, xs[i] += e. -/
namespace K70
open PySem PySem.Spec PyProof.Rows L2
theorem Room.units65 {k : Nat} {A : Around} (r : Room k A) : A.units + 65 < cLine := by have := r.un; omega
section
variable {X : Cx} {K : PySem.W.Frag} {a b e o : Expr} {es : List Expr} {ta tb te to : TE} {t : TA} {tg : Expr} {p pos apos cpos : Pos}
/-- a tuple whose object is told -/
def IsTupN (H : Hp) (x : V) : Prop := ∃ p o xs, x = .ref p ∧ H p = some (.frz o (.tup xs)) ∧ o.cls = .type "tuple" ∧ o.dict = none
/-- tuple(xs) of a list: its object told -/
def rTupleN (K : PySem.W.Frag) : List V → Hp → VK → Prop := fun xs H Q => ∃ p ys, xs = [.ref p] ∧ SqL K H p ys ∧ ∀ l o, H l = none → o.cls = .type "tuple" → o.dict = none → Q (.ref l) (upd H l (.frz o (.tup ys)))
theorem call_tupleN (hK : X.K = K := by rfl) : CallR X (.type "tuple") (rTupleN K) := by
  subst hK
  intro pins s σ H xs us Q I r h
  obtain ⟨p, ys, rfl, hq, q⟩ := h
  obtain ⟨u, rfl, rx⟩ := vals1 r
  cases rx
  obtain ⟨its, r', pl, hz⟩ := I.list hq
  have hlen := r'.length
  refine call_tuple_list pl.isList (fun h' kp => ?_) (by simp only [List.size_toArray] <;> omega)
  have I1 : Inv X pins σ H { s with heap := h' } := I.kept (t' := s.toks) kp
  have I2 : Inv X pins σ (upd H h'.objs.size (.frz { cls := .type "tuple", data := .seq its.toArray } (.tup ys))) { s with heap := h'.push { cls := .type "tuple", data := .seq its.toArray } } :=
    I1.laid (t' := s.toks) (fun b o e => Heap.get?_push_of_some _ e) (Nat.le_refl _) (show ObjOk X.prog X.w _ _ _ (.frz _ (.tup ys)) from ⟨Heap.get?_push_size _ rfl, hz, its, r', IsTup.new _ _⟩)
  exact ⟨.ref h'.objs.size, _, I2, rfl, q _ _ (I1.hok.fresh (Nat.le_refl _)) rfl rfl⟩
theorem cg_tupleN {P : Dt → Prop} {ds : List Dt} : CG K (rTupleN K) [.lst ds] (· = .tupN ds) := fun G H xs s rs Q k => by
  obtain ⟨x, rfl, r⟩ := dvs1 rs
  obtain ⟨a, ys, rfl, ga, rd⟩ := r.lst_inv
  refine ⟨a, ys, rfl, SqL.of (s _ _ ga), fun p o hp h1 h2 => ?_⟩
  have g : Grow Pure G H (upd G p (.frz o (.tup ys))) (upd H p (.frz o (.tup ys))) := Grow.grow s hp
  exact k _ _ _ _ rfl g (.tupN upd_same h1 h2 (rd.mono g.g))
def rTIndex (K : PySem.W.Frag) : V → List V → Hp → VK → Prop := fun x xs H Q => ∃ p, ∃ ys : List Str, ∃ z j, x = .ref p ∧ xs = [.str z] ∧ SqT K H p (ys.map V.str) ∧ ys[j]? = some z ∧ (∀ m, m < j → ys[m]? ≠ some z) ∧ Q (.int (j : Nat)) H
def tTIndex (K : PySem.W.Frag) (to : TE) (t : TA) : TE := fun σ H Q => to σ H fun x H1 => IsTupN H1 x ∧ t σ H1 fun xs H2 => rTIndex K x xs H2 Q
theorem pe_tindex (ho : PE X o to) (ha : PA X (e :: es) t) (hK : X.K = K := by rfl)
    (hbase : attributeBase o "index" X.env (eval o X.env) = eval o X.env := by rfl)
    (hfew : ((backTo cpos (starEach (e :: es) X.env)).all (fun x => !x.1) && (backToKw cpos (keywordEach [] X.env)).all (fun x => x.1.isSome)
      && decide ((e :: es).length + ([] : List Keyword).length + (if ([] : List Keyword).isEmpty then 0 else 1) < 30)) = true := by rfl)
    (hline : (apos.endLine == cpos.line) = true := by rfl) (hs : starEach (e :: es) X.env = (false, eval e X.env) :: starEach es X.env := by rfl) (hplain : (backTo cpos (starEach es X.env)).any (·.1) = false := by rfl) :
    PE X (.Call (.Attribute o "index" apos) (e :: es) [] cpos) (tTIndex K to t) := by
  subst hK
  refine ⟨fun pins s σ H Q I h => ?_⟩
  refine wpAny_Call_method_late hbase hfew hline rfl (thn (ho.run pins s σ H _ I h) fun v s1 ⟨x, H1, I1, r1, ty, q1⟩ => ?_)
  obtain ⟨p, ob, xs, rfl, hp, hc, hd⟩ := ty
  cases r1
  have hob : s1.heap.get? p = some ob := (show ObjOk X.prog X.w H1 s1.heap p (.frz ob (.tup xs)) from I1.hok p _ hp).1
  refine ⟨"tuple", "tuple.index", F.plainAttrs_tuple, F.slot_tuple_index, F.type_tuple_index, ⟨ob, hob, hc⟩, fun a ea => by cases ea; exact ⟨ob, hob, hd⟩, ?_⟩
  have hA := ha.run cpos pins s1 σ H1 _ I1 q1
  rw [hs] at hA ⊢
  refine Calls.callWith_builtin (by show (false || (backTo cpos (starEach es X.env)).any (·.1)) = false; rw [hplain] <;> rfl) (Calls.evalArgs_plain ?_)
  exact thn hA fun us s2 ⟨vs, H2, I2, r2, q2⟩ => mt_tup_index pins s2 σ H2 (.ref p) vs (.ref p) us Q I2 rfl r2 q2
theorem idx_first {α : Type} [BEq α] [LawfulBEq α] : ∀ {l : List α} {z : α}, z ∈ l → l[l.idxOf z]? = some z ∧ ∀ j, j < l.idxOf z → l[j]? ≠ some z
  | [], z, h => nomatch h
  | a :: l, z, h => by
    by_cases e : a = z
    · subst e
      rw [List.idxOf_cons_self]
      exact ⟨rfl, fun j hj => absurd hj (Nat.not_lt_zero _)⟩
    · have h2 : z ∈ l := by
        rcases List.mem_cons.mp h with q | q
        · exact absurd q.symm e
        · exact q
      obtain ⟨i1, i2⟩ := idx_first h2
      have e3 : (a :: l).idxOf z = l.idxOf z + 1 := by
        rw [List.idxOf_cons, show (a == z) = false from beq_eq_false_iff_ne.mpr e]; rfl
      rw [e3]
      refine ⟨i1, fun j hj => ?_⟩
      cases j with
      | zero => exact fun q => e (Option.some.inj q)
      | succ j => exact i2 j (Nat.lt_of_succ_lt_succ hj)
theorem er_tindex {m : Mu} {Γ : Ga} {l : List Tx} {z : Tx} (ho : Ev K m to Γ (.tupN (txs l))) (ha : Ev K m te Γ (.str z)) (hz : z ∈ l) : Ev K m (tTIndex K to (tCons te tNil)) Γ (.int (l.idxOf z : Nat)) := fun σ G H x s M Q k =>
  ho σ G H x s M _ fun v d G1 H1 p1 g1 M1 r1 => by
    subst p1
    obtain ⟨a, o, xs, rfl, ga, h1, h2, rs⟩ := r1.tupN_inv
    obtain rfl := rs.txs_inv
    refine ⟨⟨a, o, _, rfl, g1.sub _ _ ga, h1, h2⟩, ha σ G1 H1 (x.mono g1.g) g1.sub M1 _ fun v2 d2 G2 H2 p2 g2 M2 r2 => ?_⟩
    subst p2
    obtain rfl := r2.str_inv
    obtain ⟨i1, i2⟩ := idx_first hz
    refine ⟨a, l.map tx, tx z, l.idxOf z, rfl, rfl, .inl (.inr ⟨o, ?_⟩), by rw [List.getElem?_map, i1]; rfl, fun j hj q => ?_, k _ _ G2 H2 rfl (g1.trans g2) M2 (.int _)⟩
    · rw [List.map_map]; exact g2.sub _ _ (g2.g _ _ ga)
    · rw [List.getElem?_map] at q
      cases w : l[j]? with
      | none => rw [w] at q; cases q
      | some y =>
        rw [w] at q
        exact i2 j hj (by rw [w, tx_inj (Option.some.inj q)])
/-! a text times an int -/
def rMulS : R2 := fun x y H Q => ∃ (z : Str) (n : Int), x = .str z ∧ y = .int n ∧ -1000000 ≤ n ∧ n ≤ 1000000 ∧ z.length ≤ 10 ∧ Q (.str (Txt.mul z n)) H
theorem op_mulS : OpR X (binaryOp .Mult) rMulS := by
  intro pins s σ H x y v u Q I rx ry h
  obtain ⟨z, n, rfl, rfl, h1, h2, h3, q⟩ := h
  obtain ⟨t, rfl⟩ := rx
  obtain ⟨t', rfl⟩ := ry
  refine SB.mul ⟨?_, fun hn _ => ?_, fun hn _ => ?_⟩ fun t' k => ⟨.str (Txt.mul z n), H, I.tok k, ⟨t', rfl⟩, q⟩
  · rw [Bool.or_eq_false_iff]
    exact ⟨decide_eq_false (by omega), decide_eq_false (by omega)⟩
  · intro hgt
    have hpos : 0 < n := by omega
    have e : (2 ^ 63 - 1 : Int) / n ≥ (2 ^ 63 - 1) / 1000000 := by
      apply Int.le_ediv_of_mul_le hpos
      have : (2 ^ 63 - 1 : Int) / 1000000 * n ≤ (2 ^ 63 - 1 : Int) / 1000000 * 1000000 := Int.mul_le_mul_of_nonneg_left h2 (by decide)
      have h4 : (2 ^ 63 - 1 : Int) / 1000000 * 1000000 ≤ 2 ^ 63 - 1 := Int.ediv_mul_le _ (by decide)
      omega
    have e2 : (2 ^ 63 - 1 : Int) / 1000000 > 10 := by decide
    omega
  · have h5 : z.length * n.toNat ≤ 10 * 1000000 := Nat.mul_le_mul h3 (by omega)
    unfold Builtin.Str.tooLong
    exact decide_eq_false (by
      have : (10 * 1000000 : Nat) < sizeLine + 1 := by decide
      omega)
theorem mul_tx (c : Nat) (n : Int) : Txt.mul (tx [c]) n = tx (List.replicate n.toNat c) := by
  have hf : ∀ (k : Nat) (acc : Array Nat), (List.replicate k #[c]).foldl (· ++ ·) acc = acc ++ (List.replicate k c).toArray := by
    intro k
    induction k with
    | zero => intro acc; simp
    | succ k ih =>
      intro acc
      rw [List.replicate_succ, List.foldl_cons, ih, List.replicate_succ]
      apply Array.ext'
      simp
  unfold Txt.mul
  by_cases h : n < 1
  · rw [if_pos h]
    have : n.toNat = 0 := by omega
    rw [this]; rfl
  · rw [if_neg h]
    by_cases h1 : n = 1
    · subst h1
      rw [if_pos (by rw [Bool.or_eq_true]; exact .inl rfl)]; rfl
    · rw [if_neg (by
        rw [Bool.or_eq_true]
        rintro (q | q)
        · exact h1 (beq_iff_eq.mp q)
        · exact absurd q (by simp [tx, Str.length]))]
      show (⟨_⟩ : Str) = ⟨_⟩
      have e : (tx [c]).cps = #[c] := rfl
      rw [e, hf]
      simp
theorem rg_mulS {c : Nat} {n : Int} (h : -1000000 ≤ n ∧ n ≤ 1000000) : RG K rMulS (.str [c]) (.int n) (· = .str (List.replicate n.toNat c)) := rg_val fun G H x y s ra rb => by
  obtain rfl := ra.str_inv
  obtain rfl := rb.int_inv
  exact ⟨.str (tx (List.replicate n.toNat c)), fun _ => .str _, fun Q q => ⟨tx [c], n, rfl, rfl, h.1, h.2, by show 1 ≤ 10; decide, by rw [mul_tx]; exact q⟩⟩
/-! xs[i] += e -/
theorem pget_list (hK : X.K = K := by rfl) : PGet X (rIxL K) := by
  subst hK
  intro pins s σ H x y v u Q I rx ry h
  obtain ⟨p, xs, i, z, rfl, rfl, hq, he, q⟩ := h
  cases rx
  obtain ⟨t, rfl⟩ := ry
  obtain ⟨its, r, pl, hz⟩ := I.list hq
  obtain ⟨j, h1, h2, h3, h4, h5⟩ := atI_get he
  obtain ⟨w, ew, rw'⟩ := r.get h2
  have hl := r.length
  have hn := line63
  have fin : EP X pins σ Q w s := ⟨z, H, I, rw', q⟩
  by_cases h0 : 0 ≤ i
  · have hj : i.toNat = j := by
      rw [seqIndex_of h0 h5] at h1
      exact Option.some.inj h1
    exact wpAny_getItem_list pl.isList h0 (by omega) (by rw [hj]; simpa using ew) fin
  · have hj : (i + (its.toArray.size : Int)).toNat = j := by
      rw [seqIndex_neg (by omega) h4] at h1
      rw [List.size_toArray, ← hl]
      exact Option.some.inj h1
    exact wpAny_getItem_list_neg pl.isList (by omega) (by rw [List.size_toArray] <;> omega) (by omega) (by rw [hj]; simpa using ew) fin
end
end K70
/-! Rules of our own: enumerate of a text, zip of two texts, zip of three lists. -/
namespace K70
open PySem PySem.Spec PyProof.Rows L2
/-! ### enumerate(text) -/
def ItEs (x : Str) : It := ⟨fun i _ => i < x.cps.size, fun i H v H' => ∃ T c, v = .ref T ∧ H T = none ∧ H' = upd H T (.tup [.int (i : Nat), .str ⟨#[c]⟩]) ∧ x.cps[i]? = some c, fun i _ => x.cps.size ≤ i⟩
theorem turn_enumS {P : Program} {w : World} {K : PySem.W.Frag} {elts : List Expr} {kk : Nat} {tpos : Pos} (x : Str) (t : Tok) (e it : Addr) :
    Turn P w K (.Tuple elts kk tpos) (ItEs x) [e, it] e (fun i h => (∃ old, IsEnum h e it ((i : Nat) : Int) old) ∧ h.IsStrIter it (strIterType x) x t i ∧ e ≠ it ∧ i ≤ x.cps.size) where
  mem := by simp
  obj := fun i h st b hb => by
    obtain ⟨⟨old, he⟩, ⟨o, ho, hc, hd⟩, _⟩ := st
    have e' : b = e ∨ b = it := by simpa using hb
    rcases e' with z | z
    · rw [z]; exact ⟨_, he, fun v q => nomatch q⟩
    · rw [z]; exact ⟨o, ho, fun v q => by rw [hd] at q; cases q⟩
  keep := fun i h h' st k => by
    obtain ⟨⟨old, he⟩, ⟨o, ho, hc, hd⟩, hne, hle⟩ := st
    exact ⟨⟨old, k e (by simp) _ he⟩, ⟨o, k it (by simp) o ho, hc, hd⟩, hne, hle⟩
  item := by
    intro X hP hw hK hc i pins s σ H E I hf st hg
    subst hP hw hK
    obtain ⟨⟨old, he⟩, hit, hne, hle⟩ := st
    have hel : e < s.heap.objs.size := Heap.lt_size he
    have hil : it < s.heap.objs.size := by obtain ⟨_, q, _⟩ := hit; exact Heap.lt_size q
    have D := Draws.text (prog := X.prog) (w := X.w) (A := X.A.in1) (I.ok.hd hc) it x t
    refine wpAny_pyNext_enum_itemD D he hit hg hne (by simpa using hne) fun u h' tk hu ho hit' hT hsz hk => ?_
    obtain ⟨c, tu, hcx, rfl⟩ := hu
    refine ⟨_, rfl, wpAny_letOwnedTupleGo_enum (s := { s with heap := h', toks := tk + 1 }) ho fun h'' he' sb => ?_⟩
    have hT2 : h''.get? s.heap.objs.size = some { cls := .type "tuple", data := .seq #[.int i tk, .str ⟨#[c]⟩ tu] } := (sb.2 _ (Nat.ne_of_gt hel)).trans hT
    have new : ObjOk X.prog X.w (upd H s.heap.objs.size (.tup [.int (i : Nat), .str ⟨#[c]⟩])) h'' s.heap.objs.size (.tup [.int (i : Nat), .str ⟨#[c]⟩]) :=
      ⟨by show 2 ≤ sizeLine; decide, [.int i tk, .str ⟨#[c]⟩ tu], .cons ⟨_, rfl⟩ (.cons ⟨_, rfl⟩ .nil), ⟨_, hT2, rfl, _, rfl⟩⟩
    have I1 : Inv X pins σ (upd H s.heap.objs.size (.tup [.int (i : Nat), .str ⟨#[c]⟩])) { s with heap := h'', toks := tk + 1 } :=
      I.turnedNew (ch := [e, it]) (fun b ob hb q => (sb.2 b (fun z => hb (by simp [z]))).trans (hk b ob (fun z => hb (by simp [z])) (fun z => hb (by simp [z])) q)) hf (Nat.le_refl _) new
    refine ⟨.ref s.heap.objs.size, _, I1, rfl, ⟨_, c, rfl, I.hok.fresh (Nat.le_refl _), rfl, hcx⟩, ⟨⟨.str ⟨#[c]⟩ tu, ?_⟩, ?_, hne, hg⟩, fun b hb => ?_⟩
    · have e1 : ((i + 1 : Nat) : Int) = (i : Int) + 1 := by omega
      rw [e1]; exact he'
    · obtain ⟨o, h1, h2, h3⟩ := hit'
      exact ⟨o, (sb.2 it (Ne.symm hne)).trans h1, h2, h3⟩
    · have hb' : b < s.heap.objs.size := by
        have e' : b = e ∨ b = it := by simpa using hb
        rcases e' with z | z
        · rw [z]; exact hel
        · rw [z]; exact hil
      rw [upd_ne (Nat.ne_of_lt hb')]
      exact (hf b hb).1
  done := by
    intro X hP hw hK hc i pins s σ H E I hf st hg
    subst hP hw hK
    obtain ⟨⟨old, he⟩, hit, hne, hle⟩ := st
    obtain ⟨f0, f1, f2, f3, f4, f5⟩ := hf it (by simp)
    have D := Draws.text (prog := X.prog) (w := X.w) (A := X.A.in1) (I.ok.hd hc) it x t
    have hi : i = x.cps.size := Nat.le_antisymm hle hg
    exact wpAny_pyNext_enum_endD D he (by rw [← hi]; exact hit) fun h' eb => ⟨rfl, I.turned (t' := s.toks) (fun b o hb q => eb b o hb q) f0 f1 f3 f4 f5⟩
  self := fun A i s Q E st h => let ⟨⟨_, he⟩, _⟩ := st; wpAny_pyIter_enum he h
def iEnumS (ta : TA) : TI := fun σ H R => ta σ H fun vs H1 => ∃ x, vs = [.str x] ∧ R (ItEs x) H1
theorem pi_enumS {X : Cx} {e : Expr} {ta : TA} {p pos tpos : Pos} {elts : List Expr} {kk : Nat} (hg : Gl X "enumerate") (hm : X.mg "enumerate" = none) (ha : PA X [e] ta) (hs : starEach [e] X.env = [(false, eval e X.env)] := by rfl) :
    PI X (.Tuple elts kk tpos) (.Call (.Name "enumerate" p) [e] [] pos) (iEnumS ta) := by
  refine ⟨fun pins s σ H R I h => ?_⟩
  refine Call_ (ld_blt I hg hm boot_enumerate (PyProof.Rows.callWith_type1 (thn (ha.run pos pins s σ H _ I h) fun us s1 ⟨vs, H1, I1, r1, q1⟩ => ?_) hs rfl))
  obtain ⟨x, ex, q⟩ := q1
  subst ex
  cases r1 with
  | cons r rr =>
    cases rr
    obtain ⟨t, rfl⟩ := r
    refine call_enumerate_str fun h' he hit hsz hk => wpAny_pyIter_enum he ?_
    have I2 : Inv X pins σ H1 { s1 with heap := h' } := I1.kept (t' := s1.toks) hk
    refine ⟨s1.heap.objs.size + 1, [s1.heap.objs.size + 1, s1.heap.objs.size], _, _, H1, rfl, I2, turn_enumS x t (s1.heap.objs.size + 1) s1.heap.objs.size, ⟨⟨.none, he⟩, hit, Nat.succ_ne_self _, Nat.zero_le _⟩, fun b hb => ?_, q⟩
    have e' : b = s1.heap.objs.size + 1 ∨ b = s1.heap.objs.size := by simpa using hb
    have hle : s1.heap.objs.size ≤ b := by
      rcases e' with z | z
      · rw [z]; exact Nat.le_add_right _ _
      · rw [z]; exact Nat.le_refl _
    exact I1.fpOk hle (I1.hok.fresh hle)
/-! ### zip of two texts -/
def ItZs (x y : Str) : It := ⟨fun i _ => i < x.cps.size ∧ i < y.cps.size, fun i H v H' => ∃ T c d, v = .ref T ∧ H T = none ∧ H' = upd H T (.tup [.str ⟨#[c]⟩, .str ⟨#[d]⟩]) ∧ x.cps[i]? = some c ∧ y.cps[i]? = some d, fun i _ => x.cps.size ≤ i ∨ y.cps.size ≤ i⟩
theorem turn_zipS {P : Program} {w : World} {K : PySem.W.Frag} {elts : List Expr} {kk : Nat} {tpos : Pos} {x y : Str} {t u : Tok} {z TI TO i1 i2 : Addr} (S : ZipSep2 z TI TO i1 i2 [i1] [i2]) :
    Turn P w K (.Tuple elts kk tpos) (ItZs x y) [z, TI, TO, i1, i2] z (fun i h => IsZip h z TI TO .none ∧ IsTupOf2 h TI (.ref i1) (.ref i2) ∧ (∃ x y, IsTupOf2 h TO x y) ∧ h.IsStrIter i1 (strIterType x) x t i ∧ h.IsStrIter i2 (strIterType y) y u i ∧ i ≤ x.cps.size ∧ i ≤ y.cps.size) where
  mem := by simp
  obj := fun i h st c hc => by
    obtain ⟨hz, hTI, ⟨x, y, hTO⟩, ⟨o1, e1, _, d1⟩, ⟨o2, e2, _, d2⟩, _⟩ := st
    have e' : c = z ∨ c = TI ∨ c = TO ∨ c = i1 ∨ c = i2 := by simpa using hc
    rcases e' with q | q | q | q | q
    · rw [q]; exact ⟨_, hz, fun v q => nomatch q⟩
    · rw [q]; exact ⟨_, hTI, fun v q => nomatch q⟩
    · rw [q]; exact ⟨_, hTO, fun v q => nomatch q⟩
    · rw [q]; exact ⟨o1, e1, fun v q => by rw [d1] at q; cases q⟩
    · rw [q]; exact ⟨o2, e2, fun v q => by rw [d2] at q; cases q⟩
  keep := fun i h h' st k => by
    obtain ⟨hz, hTI, ⟨x, y, hTO⟩, ⟨o1, e1, r1⟩, ⟨o2, e2, r2⟩, l1, l2⟩ := st
    exact ⟨k z (by simp) _ hz, k TI (by simp) _ hTI, ⟨x, y, k TO (by simp) _ hTO⟩, ⟨o1, k i1 (by simp) o1 e1, r1⟩, ⟨o2, k i2 (by simp) o2 e2, r2⟩, l1, l2⟩
  item := by
    intro X hP hw hK hc i pins s σ H E I hf st hg
    subst hP hw hK
    obtain ⟨hz, hTI, ⟨x0, y0, hTO⟩, h1, h2, l1, l2⟩ := st
    obtain ⟨g1, g2⟩ := hg
    have hzl : z < s.heap.objs.size := Heap.lt_size hz
    have D1 := Draws.text (prog := X.prog) (w := X.w) (A := X.A.in1) (I.ok.hd hc) i1 x t
    have D2 := Draws.text (prog := X.prog) (w := X.w) (A := X.A.in1) (I.ok.hd hc) i2 y u
    refine wpAny_pyNext_zipD2_item S D1 D2 hz hTI hTO h1 h2 g1 g2 fun v1 v2 h' tk hv1 hv2 z' TO' h1' h2' hT hsz hk => ?_
    obtain ⟨c, tc, hcx, rfl⟩ := hv1
    obtain ⟨d, td, hdy, rfl⟩ := hv2
    refine ⟨_, rfl, wpAny_letOwnedTupleGo_zip (s := { s with heap := h', toks := tk }) z' fun h'' z'' sb => ?_⟩
    have hT2 : h''.get? s.heap.objs.size = some { cls := .type "tuple", data := .seq #[.str ⟨#[c]⟩ tc, .str ⟨#[d]⟩ td] } := (sb.2 _ (Nat.ne_of_gt hzl)).trans hT
    have new : ObjOk X.prog X.w (upd H s.heap.objs.size (.tup [.str ⟨#[c]⟩, .str ⟨#[d]⟩])) h'' s.heap.objs.size (.tup [.str ⟨#[c]⟩, .str ⟨#[d]⟩]) :=
      ⟨by show 2 ≤ sizeLine; decide, [.str ⟨#[c]⟩ tc, .str ⟨#[d]⟩ td], .cons ⟨_, rfl⟩ (.cons ⟨_, rfl⟩ .nil), ⟨_, hT2, rfl, _, rfl⟩⟩
    have I1 : Inv X pins σ (upd H s.heap.objs.size (.tup [.str ⟨#[c]⟩, .str ⟨#[d]⟩])) { s with heap := h'', toks := tk } :=
      I.turnedNew (t' := tk) (ch := [z, TI, TO, i1, i2]) (fun c o hb q => (sb.2 c (fun q' => hb (by simp [q']))).trans (hk c o (fun q' => hb (by simp [q'])) (fun q' => hb (by simp [q'])) (fun q' => hb (by simp [q'])) (fun q' => hb (by simp [q'])) q)) hf (Nat.le_refl _) new
    obtain ⟨o1, e1, r1⟩ := h1'
    obtain ⟨o2, e2, r2⟩ := h2'
    refine ⟨.ref s.heap.objs.size, _, I1, rfl, ⟨_, c, d, rfl, I.hok.fresh (Nat.le_refl _), rfl, hcx, hdy⟩, ⟨z'', ?_, ⟨.str ⟨#[c]⟩ tc, .str ⟨#[d]⟩ td, ?_⟩, ⟨o1, ?_, r1⟩, ⟨o2, ?_, r2⟩, g1, g2⟩, fun c hcm => ?_⟩
    · exact (sb.2 _ S.TIz).trans (hk _ _ S.TIz S.TITO S.TIi1 S.TIi2 hTI)
    · exact (sb.2 _ S.TOz).trans TO'
    · exact (sb.2 _ S.zi1.symm).trans e1
    · exact (sb.2 _ S.zi2.symm).trans e2
    · have hlt : c < s.heap.objs.size := by
        have e' : c = z ∨ c = TI ∨ c = TO ∨ c = i1 ∨ c = i2 := by simpa using hcm
        rcases e' with q | q | q | q | q
        · rw [q]; exact hzl
        · rw [q]; exact Heap.lt_size hTI
        · rw [q]; exact Heap.lt_size hTO
        · rw [q]; obtain ⟨_, e1, _⟩ := h1; exact Heap.lt_size e1
        · rw [q]; obtain ⟨_, e2, _⟩ := h2; exact Heap.lt_size e2
      rw [upd_ne (Nat.ne_of_lt hlt)]
      exact (hf c hcm).1
  done := by
    intro X hP hw hK hc i pins s σ H E I hf st hg
    subst hP hw hK
    obtain ⟨hz, hTI, ⟨x0, y0, hTO⟩, h1, h2, l1, l2⟩ := st
    have D1 := Draws.text (prog := X.prog) (w := X.w) (A := X.A.in1) (I.ok.hd hc) i1 x t
    have D2 := Draws.text (prog := X.prog) (w := X.w) (A := X.A.in1) (I.ok.hd hc) i2 y u
    have he : i = x.cps.size ∨ i = y.cps.size := by
      rcases hg with q | q
      · exact .inl (Nat.le_antisymm l1 q)
      · exact .inr (Nat.le_antisymm l2 q)
    exact wpAny_pyNext_zipD2_end S D1 D2 hz hTI hTO h1 h2 l1 l2 he fun h' tk hk => ⟨rfl, I.turnedL (t' := tk) (ch := [z, TI, TO, i1, i2]) (fun c o hb q =>
      hk c o (fun q' => hb (by simp [q'])) (fun q' => hb (by simp [q'])) (fun q' => hb (by simp [q'])) (fun q' => hb (by simp [q'])) q) hf⟩
  self := fun A i s Q E st h => wpAny_pyIter_zip st.1 h
def iZipS (ta : TA) : TI := fun σ H R => ta σ H fun vs H1 => ∃ x y, vs = [.str x, .str y] ∧ R (ItZs x y) H1
theorem sep2 (n : Nat) : ZipSep2 (n + 4) (n + 2) (n + 3) n (n + 1) [n] [n + 1] := by
  constructor
  all_goals first
    | (show (_ : Nat) ≠ (_ : Nat); omega)
    | (simp only [List.mem_cons, List.not_mem_nil, or_false]; done)
    | (simp only [List.mem_cons, List.not_mem_nil, or_false]; show ¬ ((_ : Nat) = (_ : Nat)); omega)
theorem pi_zipS {X : Cx} {e e2 : Expr} {ta : TA} {p pos tpos : Pos} {elts : List Expr} {kk : Nat} (hg : Gl X "zip") (hm : X.mg "zip" = none) (ha : PA X [e, e2] ta)
    (hs : starEach [e, e2] X.env = (false, eval e X.env) :: starEach [e2] X.env := by rfl) (hpl : (backTo pos (starEach [e2] X.env)).any (·.1) = false := by rfl) :
    PI X (.Tuple elts kk tpos) (.Call (.Name "zip" p) [e, e2] [] pos) (iZipS ta) := by
  refine ⟨fun pins s σ H R I h => ?_⟩
  refine Call_ (ld_blt I hg hm PyProof.Rows.boot_zip (PyProof.Rows.callWith_type1 (thn (ha.run pos pins s σ H _ I h) fun us s1 ⟨vs, H1, I1, r1, q1⟩ => ?_) hs hpl))
  obtain ⟨x, y, ex, q⟩ := q1
  subst ex
  cases r1 with
  | cons r rr =>
    cases rr with
    | cons r' rr =>
      cases rr
      obtain ⟨t, rfl⟩ := r
      obtain ⟨u, rfl⟩ := r'
      refine zip_begins2 (begins_text x t) (begins_text y u) trivial trivial fun h' hz hTI hTO h1 h2 hsz hk => wpAny_pyIter_zip hz ?_
      have I2 : Inv X pins σ H1 { s1 with heap := h' } := I1.kept (t' := s1.toks) hk
      refine ⟨s1.heap.objs.size + 4, [s1.heap.objs.size + 4, s1.heap.objs.size + 2, s1.heap.objs.size + 3, s1.heap.objs.size, s1.heap.objs.size + 1], _, _, H1, rfl, I2, turn_zipS (x := x) (y := y) (t := t) (u := u) (sep2 s1.heap.objs.size), ⟨hz, hTI, ⟨_, _, hTO⟩, ⟨_, h1, rfl, rfl⟩, ⟨_, h2, rfl, rfl⟩, Nat.zero_le _, Nat.zero_le _⟩, fun c hcm => ?_, q⟩
      have e' : c = s1.heap.objs.size + 4 ∨ c = s1.heap.objs.size + 2 ∨ c = s1.heap.objs.size + 3 ∨ c = s1.heap.objs.size ∨ c = s1.heap.objs.size + 1 := by simpa using hcm
      have hle : s1.heap.objs.size ≤ c := by
        rcases e' with z | z | z | z | z <;> rw [z] <;> first | exact Nat.le_refl _ | exact Nat.le_add_right _ _
      exact I1.fpOk hle (I1.hok.fresh hle)
/-! ### zip of three lists -/
def ItZ3 (K : PySem.W.Frag) (a b d : Addr) : It :=
  ⟨fun i H => ∃ (xs ys zs : List V) (x y z : V), SqL K H a xs ∧ SqL K H b ys ∧ SqL K H d zs ∧ xs[i]? = some x ∧ ys[i]? = some y ∧ zs[i]? = some z,
    fun i H v H' => ∃ T x y z, v = .ref T ∧ H T = none ∧ H' = upd H T (.tup [x, y, z]) ∧ (∀ xs, SqL K H a xs → xs[i]? = some x) ∧ (∀ ys, SqL K H b ys → ys[i]? = some y) ∧ ∀ zs, SqL K H d zs → zs[i]? = some z,
    fun i H => ∃ xs ys zs : List V, SqL K H a xs ∧ SqL K H b ys ∧ SqL K H d zs ∧ i ≤ xs.length ∧ i ≤ ys.length ∧ i ≤ zs.length ∧ (i = xs.length ∨ i = ys.length ∨ i = zs.length)⟩
structure Sep3 (z TI TO i1 i2 i3 l1 l2 l3 : Addr) : Prop where
  S : ZipSep3 z TI TO i1 i2 i3 [i1, l1] [i2, l2] [i3, l3]
  e1 : l1 ≠ i1
  e2 : l2 ≠ i2
  e3 : l3 ≠ i3
theorem turn_zip3 {P : Program} {w : World} {K : PySem.W.Frag} {elts : List Expr} {kk : Nat} {tpos : Pos} {a b d z TI TO i1 i2 i3 : Addr} (D : Sep3 z TI TO i1 i2 i3 a b d) :
    Turn P w K (.Tuple elts kk tpos) (ItZ3 K a b d) [z, TI, TO, i1, i2, i3] z (fun i h => IsZip h z TI TO .none ∧ IsTupOf3 h TI (.ref i1) (.ref i2) (.ref i3) ∧ (∃ x y z, IsTupOf3 h TO x y z) ∧ h.IsListIter i1 a i ∧ h.IsListIter i2 b i ∧ h.IsListIter i3 d i) where
  mem := by simp
  obj := fun i h st c hc => by
    obtain ⟨hz, hTI, ⟨x, y, z', hTO⟩, ⟨o1, e1, _, d1⟩, ⟨o2, e2, _, d2⟩, ⟨o3, e3, _, d3⟩⟩ := st
    have e' : c = z ∨ c = TI ∨ c = TO ∨ c = i1 ∨ c = i2 ∨ c = i3 := by simpa using hc
    rcases e' with q | q | q | q | q | q
    · rw [q]; exact ⟨_, hz, fun v q => nomatch q⟩
    · rw [q]; exact ⟨_, hTI, fun v q => nomatch q⟩
    · rw [q]; exact ⟨_, hTO, fun v q => nomatch q⟩
    · rw [q]; exact ⟨o1, e1, fun v q => by rw [d1] at q; cases q⟩
    · rw [q]; exact ⟨o2, e2, fun v q => by rw [d2] at q; cases q⟩
    · rw [q]; exact ⟨o3, e3, fun v q => by rw [d3] at q; cases q⟩
  keep := fun i h h' st k => by
    obtain ⟨hz, hTI, ⟨x, y, z', hTO⟩, h1, h2, h3⟩ := st
    exact ⟨k z (by simp) _ hz, k TI (by simp) _ hTI, ⟨x, y, z', k TO (by simp) _ hTO⟩, h1.at fun o q => k i1 (by simp) o q, h2.at fun o q => k i2 (by simp) o q, h3.at fun o q => k i3 (by simp) o q⟩
  item := by
    intro X hP hw hK hc i pins s σ H E I hf st hg
    subst hP hw hK
    obtain ⟨hz, hTI, ⟨x0, y0, z0, hTO⟩, h1, h2, h3⟩ := st
    obtain ⟨xs, ys, zs, x, y, w0, hqx, hqy, hqz, hx, hy, hw0⟩ := hg
    obtain ⟨its, rv, p, _⟩ := I.list hqx
    obtain ⟨its2, rv2, p2, _⟩ := I.list hqy
    obtain ⟨its3, rv3, p3, _⟩ := I.list hqz
    have hzl : z < s.heap.objs.size := Heap.lt_size hz
    have hh : X.A.in1.handled = none := I.ok.hd hc
    have D1 := Draws.list (prog := X.prog) (w := X.w) hh i1 a D.e1 its.toArray
    have D2 := Draws.list (prog := X.prog) (w := X.w) hh i2 b D.e2 its2.toArray
    have D3 := Draws.list (prog := X.prog) (w := X.w) hh i3 d D.e3 its3.toArray
    obtain ⟨u, hu, ru⟩ := rv.get hx
    obtain ⟨u2, hu2, ru2⟩ := rv2.get hy
    obtain ⟨u3, hu3, ru3⟩ := rv3.get hw0
    have n1 : i < its.toArray.size := by
      have := (List.getElem?_eq_some_iff.mp hu).1
      simpa using this
    have n2 : i < its2.toArray.size := by
      have := (List.getElem?_eq_some_iff.mp hu2).1
      simpa using this
    have n3 : i < its3.toArray.size := by
      have := (List.getElem?_eq_some_iff.mp hu3).1
      simpa using this
    refine wpAny_pyNext_zipD3_item D.S D1 D2 D3 hz hTI hTO ⟨h1, p.isList⟩ ⟨h2, p2.isList⟩ ⟨h3, p3.isList⟩ n1 n2 n3 fun v1 v2 v3 h' tk hv1 hv2 hv3 z' TO' h1' h2' h3' hT hsz hk => ?_
    obtain rfl : v1 = u := by
      have : its[i]? = some v1 := by simpa using hv1
      rw [hu] at this; exact (Option.some.inj this).symm
    obtain rfl : v2 = u2 := by
      have : its2[i]? = some v2 := by simpa using hv2
      rw [hu2] at this; exact (Option.some.inj this).symm
    obtain rfl : v3 = u3 := by
      have : its3[i]? = some v3 := by simpa using hv3
      rw [hu3] at this; exact (Option.some.inj this).symm
    refine ⟨_, rfl, wpAny_letOwnedTupleGo_zip (s := { s with heap := h', toks := tk }) z' fun h'' z'' sb => ?_⟩
    have hT2 : h''.get? s.heap.objs.size = some { cls := .type "tuple", data := .seq #[v1, v2, v3] } := (sb.2 _ (Nat.ne_of_gt hzl)).trans hT
    have new : ObjOk X.prog X.w (upd H s.heap.objs.size (.tup [x, y, w0])) h'' s.heap.objs.size (.tup [x, y, w0]) :=
      ⟨by show 3 ≤ sizeLine; decide, [v1, v2, v3], .cons ru (.cons ru2 (.cons ru3 .nil)), ⟨_, hT2, rfl, _, rfl⟩⟩
    have I1 : Inv X pins σ (upd H s.heap.objs.size (.tup [x, y, w0])) { s with heap := h'', toks := tk } :=
      I.turnedNew (t' := tk) (ch := [z, TI, TO, i1, i2, i3]) (fun c o hb q => (sb.2 c (fun q' => hb (by simp [q']))).trans (hk c o (fun q' => hb (by simp [q'])) (fun q' => hb (by simp [q'])) (fun q' => hb (by simp [q'])) (fun q' => hb (by simp [q'])) (fun q' => hb (by simp [q'])) q)) hf (Nat.le_refl _) new
    refine ⟨.ref s.heap.objs.size, _, I1, rfl, ⟨_, x, y, w0, rfl, I.hok.fresh (Nat.le_refl _), rfl, fun l hl => by rw [I.list_inj hl hqx]; exact hx, fun l hl => by rw [I.list_inj hl hqy]; exact hy, fun l hl => by rw [I.list_inj hl hqz]; exact hw0⟩, ⟨z'', ?_, ⟨v1, v2, v3, ?_⟩, ?_, ?_, ?_⟩, fun c hcm => ?_⟩
    · exact (sb.2 _ D.S.TIz).trans (hk _ _ D.S.TIz D.S.TITO D.S.TIi1 D.S.TIi2 D.S.TIi3 hTI)
    · exact (sb.2 _ D.S.TOz).trans TO'
    · exact h1'.1.at fun o q => (sb.2 _ D.S.zi1.symm).trans q
    · exact h2'.1.at fun o q => (sb.2 _ D.S.zi2.symm).trans q
    · exact h3'.1.at fun o q => (sb.2 _ D.S.zi3.symm).trans q
    · have hlt : c < s.heap.objs.size := by
        have e' : c = z ∨ c = TI ∨ c = TO ∨ c = i1 ∨ c = i2 ∨ c = i3 := by simpa using hcm
        rcases e' with q | q | q | q | q | q
        · rw [q]; exact hzl
        · rw [q]; exact Heap.lt_size hTI
        · rw [q]; exact Heap.lt_size hTO
        · rw [q]; obtain ⟨_, e1, _⟩ := h1; exact Heap.lt_size e1
        · rw [q]; obtain ⟨_, e2, _⟩ := h2; exact Heap.lt_size e2
        · rw [q]; obtain ⟨_, e3, _⟩ := h3; exact Heap.lt_size e3
      rw [upd_ne (Nat.ne_of_lt hlt)]
      exact (hf c hcm).1
  done := by
    intro X hP hw hK hc i pins s σ H E I hf st hg
    subst hP hw hK
    obtain ⟨hz, hTI, ⟨x0, y0, z0, hTO⟩, h1, h2, h3⟩ := st
    obtain ⟨xs, ys, zs, hqx, hqy, hqz, m1, m2, m3, hend⟩ := hg
    obtain ⟨its, rv, p, _⟩ := I.list hqx
    obtain ⟨its2, rv2, p2, _⟩ := I.list hqy
    obtain ⟨its3, rv3, p3, _⟩ := I.list hqz
    have l1 := rv.length
    have l2 := rv2.length
    have l3 := rv3.length
    have hh : X.A.in1.handled = none := I.ok.hd hc
    have D1 := Draws.list (prog := X.prog) (w := X.w) hh i1 a D.e1 its.toArray
    have D2 := Draws.list (prog := X.prog) (w := X.w) hh i2 b D.e2 its2.toArray
    have D3 := Draws.list (prog := X.prog) (w := X.w) hh i3 d D.e3 its3.toArray
    refine wpAny_pyNext_zipD3_end D.S D1 D2 D3 hz hTI hTO ⟨h1, p.isList⟩ ⟨h2, p2.isList⟩ ⟨h3, p3.isList⟩ (by simp; omega) (by simp; omega) (by simp; omega) (by simp; omega) fun h' tk hk => ⟨rfl, I.turnedL (t' := tk) (ch := [z, TI, TO, i1, i2, i3]) (fun c o hb q =>
      hk c o (fun q' => hb (by simp [q'])) (fun q' => hb (by simp [q'])) (fun q' => hb (by simp [q'])) (fun q' => hb (by simp [q'])) (fun q' => hb (by simp [q'])) q) hf⟩
  self := fun A i s Q E st h => wpAny_pyIter_zip st.1 h
def iZip3 (K : PySem.W.Frag) (ta : TA) : TI := fun σ H R => ta σ H fun vs H1 => ∃ a b d xs ys zs, vs = [.ref a, .ref b, .ref d] ∧ SqL K H1 a xs ∧ SqL K H1 b ys ∧ SqL K H1 d zs ∧ R (ItZ3 K a b d) H1
theorem sep3 (n a b d : Nat) (ha : a < n) (hb : b < n) (hd : d < n) : Sep3 (n + 5) (n + 3) (n + 4) n (n + 1) (n + 2) a b d := by
  have q1 : a ≠ n := Nat.ne_of_lt ha
  have q2 : b ≠ n + 1 := Nat.ne_of_lt (Nat.lt_succ_of_lt hb)
  have q3 : d ≠ n + 2 := Nat.ne_of_lt (Nat.lt_succ_of_lt (Nat.lt_succ_of_lt hd))
  refine ⟨?_, q1, q2, q3⟩
  constructor
  all_goals first
    | (show (_ : Nat) ≠ (_ : Nat); omega)
    | (simp only [List.mem_cons, List.not_mem_nil, or_false, true_or, or_true]; done)
    | (simp only [List.mem_cons, List.not_mem_nil, or_false]; show ¬ ((_ : Nat) = (_ : Nat) ∨ (_ : Nat) = (_ : Nat)); omega)
theorem pi_zip3 {X : Cx} {K : PySem.W.Frag} {e e2 e3 : Expr} {ta : TA} {p pos tpos : Pos} {elts : List Expr} {kk : Nat} (hg : Gl X "zip") (hm : X.mg "zip" = none) (ha : PA X [e, e2, e3] ta) (hK : X.K = K := by rfl)
    (hs : starEach [e, e2, e3] X.env = (false, eval e X.env) :: starEach [e2, e3] X.env := by rfl) (hpl : (backTo pos (starEach [e2, e3] X.env)).any (·.1) = false := by rfl) :
    PI X (.Tuple elts kk tpos) (.Call (.Name "zip" p) [e, e2, e3] [] pos) (iZip3 K ta) := by
  subst hK
  refine ⟨fun pins s σ H R I h => ?_⟩
  refine Call_ (ld_blt I hg hm PyProof.Rows.boot_zip (PyProof.Rows.callWith_type1 (thn (ha.run pos pins s σ H _ I h) fun us s1 ⟨vs, H1, I1, r1, q1⟩ => ?_) hs hpl))
  obtain ⟨a, b, d, xs, ys, zs, ex, hqx, hqy, hqz, q⟩ := q1
  subst ex
  cases r1 with
  | cons r rr =>
    cases rr with
    | cons r' rr =>
      cases rr with
      | cons r'' rr =>
        cases rr
        cases r
        cases r'
        cases r''
        obtain ⟨its, rv, p1, _⟩ := I1.list hqx
        obtain ⟨its2, rv2, p2, _⟩ := I1.list hqy
        obtain ⟨its3, rv3, p3, _⟩ := I1.list hqz
        have la : a < s1.heap.objs.size := p1.lt
        have lb : b < s1.heap.objs.size := p2.lt
        have ld : d < s1.heap.objs.size := p3.lt
        refine zip_begins3 (begins_list a its.toArray) (begins_list b its2.toArray) (begins_list d its3.toArray) p1.isList p2.isList p3.isList fun h' hz hTI hTO h1 h2 h3 hsz hk => wpAny_pyIter_zip hz ?_
        have I2 : Inv X pins σ H1 { s1 with heap := h' } := I1.kept (t' := s1.toks) hk
        refine ⟨s1.heap.objs.size + 5, [s1.heap.objs.size + 5, s1.heap.objs.size + 3, s1.heap.objs.size + 4, s1.heap.objs.size, s1.heap.objs.size + 1, s1.heap.objs.size + 2], _, _, H1, rfl, I2, turn_zip3 (sep3 s1.heap.objs.size a b d la lb ld), ⟨hz, hTI, ⟨_, _, _, hTO⟩, ⟨_, h1, rfl, rfl⟩, ⟨_, h2, rfl, rfl⟩, ⟨_, h3, rfl, rfl⟩⟩, fun c hcm => ?_, q⟩
        have e' : c = s1.heap.objs.size + 5 ∨ c = s1.heap.objs.size + 3 ∨ c = s1.heap.objs.size + 4 ∨ c = s1.heap.objs.size ∨ c = s1.heap.objs.size + 1 ∨ c = s1.heap.objs.size + 2 := by simpa using hcm
        have hle : s1.heap.objs.size ≤ c := by
          rcases e' with z | z | z | z | z | z <;> rw [z] <;> first | exact Nat.le_refl _ | exact Nat.le_add_right _ _
        exact I1.fpOk hle (I1.hok.fresh hle)
end K70
/-! By data: enumerate of a text, zip of texts and of three lists; dicts; a dict that is locked while it is walked. -/
namespace K70
open PySem PySem.Spec PyProof.Rows L2
section
variable {K : PySem.W.Frag} {m : Mu} {Γ Γ' : Ga} {te ta tb td ty tl : TE} {P : Dt → Prop} {tt : TT} {wi : TI} {g : TG} {S : List Dt → Prop}
theorem sgn_get {x : Tx} {i : Nat} {c : Nat} (h : (tx x).cps[i]? = some c) : (sgn x)[i]? = some (.str [c]) := by
  have e2 : x[i]? = some c := by simpa [tx] using h
  unfold sgn
  rw [List.getElem?_map, e2]; rfl
theorem sgn_len (x : Tx) : (sgn x).length = (tx x).cps.size := by simp [tx, sgn]
theorem sv_enumS {x : Tx} (h : Ev K m ta Γ (.str x)) : SrcG K m (iEnumS (tCons ta tNil)) Γ (· = enumD (sgn x)) := fun σ G H xx s M R' k =>
  ea_cons h ea_nil σ G H xx s M _ fun vs ds G1 H1 p1 g1 M1 r1 => by
    subst p1
    cases r1 with
    | cons r rs =>
      cases rs
      obtain rfl := r.str_inv
      refine ⟨tx x, rfl, k _ _ G1 H1 rfl g1 M1 ⟨fun i H hi s => ?_, fun H s => ?_, fun i d H xx H' G' e sg s y => ?_⟩⟩
      · rw [enumD_len, sgn_len] at hi; exact hi
      · show (tx x).cps.size ≤ _
        rw [enumD_len, sgn_len]; exact Nat.le_refl _
      · obtain ⟨T, c, rfl, nT, rfl, f1⟩ := y
        obtain ⟨d1, e1, rfl⟩ := enumD_get e
        obtain rfl : d1 = .str [c] := by rw [sgn_get f1] at e1; exact (Option.some.inj e1).symm
        have gw : Grow Pure G' H (upd G' T (.tup [.int (i : Nat), .str ⟨#[c]⟩])) (upd H T (.tup [.int (i : Nat), .str ⟨#[c]⟩])) := Grow.grow s nT
        exact ⟨_, gw, .tup upd_same (.cons (.int _) (.cons (.str [c]) .nil))⟩
theorem sv_zipS {x z : Tx} (h : Ev K m ta Γ (.str x)) (h2 : Ev K m tb Γ (.str z)) : SrcG K m (iZipS (tCons ta (tCons tb tNil))) Γ (· = zipD (sgn x) (sgn z)) := fun σ G H xx s M R' k =>
  ea_cons h (ea_cons h2 ea_nil) σ G H xx s M _ fun vs ds G1 H1 p1 g1 M1 r1 => by
    subst p1
    cases r1 with
    | cons r rs =>
      cases rs with
      | cons r2 rs =>
        cases rs
        obtain rfl := r.str_inv
        obtain rfl := r2.str_inv
        refine ⟨tx x, tx z, rfl, k _ _ G1 H1 rfl g1 M1 ⟨fun i H hi s => ?_, fun H s => ?_, fun i d H xx H' G' e sg s y => ?_⟩⟩
        · rw [zipD_len, sgn_len, sgn_len] at hi
          exact ⟨by omega, by omega⟩
        · show (tx x).cps.size ≤ _ ∨ (tx z).cps.size ≤ _
          rw [zipD_len, sgn_len, sgn_len]; omega
        · obtain ⟨T, c, c', rfl, nT, rfl, f1, f2⟩ := y
          obtain ⟨d1, d2, e1, e2, rfl⟩ := zipD_get e
          obtain rfl : d1 = .str [c] := by rw [sgn_get f1] at e1; exact (Option.some.inj e1).symm
          obtain rfl : d2 = .str [c'] := by rw [sgn_get f2] at e2; exact (Option.some.inj e2).symm
          have gw : Grow Pure G' H (upd G' T (.tup [.str ⟨#[c]⟩, .str ⟨#[c']⟩])) (upd H T (.tup [.str ⟨#[c]⟩, .str ⟨#[c']⟩])) := Grow.grow s nT
          exact ⟨_, gw, .tup upd_same (.cons (.str [c]) (.cons (.str [c']) .nil))⟩
def zip3D (as bs cs : List Dt) : List Dt := (as.zip (bs.zip cs)).map fun p => .tup [p.1, p.2.1, p.2.2]
theorem zip3D_len (as bs cs : List Dt) : (zip3D as bs cs).length = min as.length (min bs.length cs.length) := by simp [zip3D]
theorem zip3D_get {as bs cs : List Dt} {i : Nat} {d : Dt} (h : (zip3D as bs cs)[i]? = some d) : ∃ a b c, as[i]? = some a ∧ bs[i]? = some b ∧ cs[i]? = some c ∧ d = .tup [a, b, c] := by
  unfold zip3D at h
  rw [List.getElem?_map] at h
  cases q : (as.zip (bs.zip cs))[i]? with
  | none => rw [q] at h; cases h
  | some p =>
    rw [q] at h
    have h2 : Dt.tup [p.1, p.2.1, p.2.2] = d := Option.some.inj h
    obtain ⟨a, b, c⟩ := p
    have q2 := List.getElem?_zip_eq_some.mp q
    have q3 := List.getElem?_zip_eq_some.mp q2.2
    exact ⟨a, b, c, q2.1, q3.1, q3.2, h2.symm⟩
theorem sv_zip3 {as bs cs : List Dt} {tc : TE} (h : Ev K m ta Γ (.lst as)) (h2 : Ev K m tb Γ (.lst bs)) (h3 : Ev K m tc Γ (.lst cs)) : SrcG K m (iZip3 K (tCons ta (tCons tb (tCons tc tNil)))) Γ (· = zip3D as bs cs) := fun σ G H xx s M R' k =>
  ea_cons h (ea_cons h2 (ea_cons h3 ea_nil)) σ G H xx s M _ fun vs ds G1 H1 p1 g1 M1 r1 => by
    subst p1
    cases r1 with
    | cons r rs =>
      cases rs with
      | cons r2 rs =>
        cases rs with
        | cons r3 rs =>
          cases rs
          obtain ⟨a, xs, rfl, ga, ra⟩ := r.lst_inv
          obtain ⟨b, ys, rfl, gb, rb⟩ := r2.lst_inv
          obtain ⟨c, zs, rfl, gc, rc⟩ := r3.lst_inv
          have hx : ∀ H, Same G1 H → SqL K H a xs := fun H s => SqL.of (s _ _ ga)
          have hy : ∀ H, Same G1 H → SqL K H b ys := fun H s => SqL.of (s _ _ gb)
          have hz : ∀ H, Same G1 H → SqL K H c zs := fun H s => SqL.of (s _ _ gc)
          refine ⟨a, b, c, xs, ys, zs, rfl, hx _ g1.sub, hy _ g1.sub, hz _ g1.sub, k _ _ G1 H1 rfl g1 M1 ⟨fun i H hi s => ?_, fun H s => ⟨xs, ys, zs, hx H s, hy H s, hz H s, ?_⟩, fun i d H x H' G' e sg s y => ?_⟩⟩
          · rw [zip3D_len, ← ra.length, ← rb.length, ← rc.length] at hi
            have h1 : i < xs.length := by omega
            have h2 : i < ys.length := by omega
            have h3 : i < zs.length := by omega
            exact ⟨xs, ys, zs, _, _, _, hx H s, hy H s, hz H s, List.getElem?_eq_getElem h1, List.getElem?_eq_getElem h2, List.getElem?_eq_getElem h3⟩
          · rw [zip3D_len, ← ra.length, ← rb.length, ← rc.length]; omega
          · obtain ⟨T, x1, x2, x3, rfl, nT, rfl, f1, f2, f3⟩ := y
            obtain ⟨d1, d2, d3, e1, e2, e3, rfl⟩ := zip3D_get e
            obtain ⟨v1, q1, w1⟩ := ra.get e1
            obtain ⟨v2, q2, w2⟩ := rb.get e2
            obtain ⟨v3, q3, w3⟩ := rc.get e3
            have z1 := f1 xs (hx H (sg.trans s))
            have z2 := f2 ys (hy H (sg.trans s))
            have z3 := f3 zs (hz H (sg.trans s))
            obtain rfl : x1 = v1 := by rw [q1] at z1; exact (Option.some.inj z1).symm
            obtain rfl : x2 = v2 := by rw [q2] at z2; exact (Option.some.inj z2).symm
            obtain rfl : x3 = v3 := by rw [q3] at z3; exact (Option.some.inj z3).symm
            have gw : Grow Pure G' H (upd G' T (.tup [x1, x2, x3])) (upd H T (.tup [x1, x2, x3])) := Grow.grow s nT
            exact ⟨_, gw, .tup upd_same (.cons (w1.mono (sg.trans gw.g)) (.cons (w2.mono (sg.trans gw.g)) (.cons (w3.mono (sg.trans gw.g)) .nil)))⟩
/-! ### keys -/
def kD : Key → Dt
  | .inl i => .int i
  | .inr x => .str x.cps.toList
theorem Dv.kV_inv {G : Hp} {v : V} {k : Key} (r : Dv K G v (kD k)) : v = kV k := by
  cases k with
  | inl i => exact r.int_inv
  | inr x =>
    have e := Dv.str_inv r
    rw [tx_of] at e; exact e
theorem Dv.kV_of {G : Hp} {k : Key} : Dv K G (kV k) (kD k) := by
  cases k with
  | inl i => exact .int i
  | inr x =>
    have h : Dv K G (.str (tx x.cps.toList)) (.str x.cps.toList) := .str _
    rw [tx_of] at h; exact h
theorem Dvs.kV_inv {G : Hp} {vs : List V} {k : List Key} (r : Dvs K G vs (k.map kD)) : vs = k.map kV := Dvs.map_inv (fun a v h => h.kV_inv) r
theorem Dvs.kV_of {G : Hp} : ∀ {k : List Key}, Dvs K G (k.map kV) (k.map kD)
  | [] => .nil
  | _ :: _ => .cons Dv.kV_of Dvs.kV_of
/-- a pair of texts as a key -/
def kT (s : Tx × Tx) : List Key := [.inr (tx s.1), .inr (tx s.2)]
def stD (s : Tx × Tx) : Dt := .tup [.str s.1, .str s.2]
theorem kT_D (s : Tx × Tx) : Dt.tup ((kT s).map kD) = stD s := by
  show Dt.tup [.str (tx s.1).cps.toList, .str (tx s.2).cps.toList] = _
  rw [tx_list, tx_list]; rfl
theorem kT_inj {a b : Tx × Tx} (h : kT a = kT b) : a = b := by
  obtain ⟨a1, a2⟩ := a
  obtain ⟨b1, b2⟩ := b
  unfold kT at h
  injection h with h1 h2
  injection h2 with h2 _
  injection h1 with h1
  injection h2 with h2
  have e1 : a1 = b1 := tx_inj h1
  have e2 : a2 = b2 := tx_inj h2
  rw [e1, e2]
/-- the key that stands in a tuple -/
theorem Dv.key_at {G H : Hp} {v : V} {k : List Key} (s : Same G H) (r : Dv K G v (.tup (k.map kD))) : ∃ b, v = .ref b ∧ H b = some (.tup (k.map kV)) := by
  obtain ⟨b, xs, rfl, gb, rx⟩ := r.tup_inv
  obtain rfl := rx.kV_inv
  exact ⟨b, rfl, s _ _ gb⟩
/-! ### d[k], k in d, d.get(k, e) -/
theorem er_dgetT {ds : List (List Key × Dt)} {k : List Key} {d : Dt} (h : Ev K m td Γ (.dT ds)) (h2 : Ev K m ty Γ (.tup (k.map kD))) (e : lk ds k = some d) : Ev K m (tDGet td ty) Γ d := fun σ G H x s M Q kk =>
  h σ G H x s M _ fun v1 d1 G1 H1 p1 g1 M1 r1 => h2 σ G1 H1 (x.mono g1.g) g1.sub M1 _ fun v2 d2 G2 H2 p2 g2 M2 r2 => by
    subst p1 p2
    obtain ⟨a, kvs, rfl, ga, rm⟩ := r1.dT_inv
    obtain ⟨b, rfl, hb⟩ := r2.key_at g2.sub
    have rm2 := rm.mono g2.g
    rcases rm2.look k with ⟨_, z⟩ | ⟨v, d', z1, z2, z3⟩
    · rw [e] at z; cases z
    · rw [e] at z2; cases z2
      exact ⟨a, v, rfl, .inr ⟨kvs, k, b, same_rd (g2.g.trans g2.sub) ga, rfl, hb, z1.symm⟩, kk v _ G2 H2 rfl (g1.trans g2) M2 z3⟩
theorem ev_dgetT {ds : List (List Key × Dt)} {q : Tx × Tx} {d : Dt} (h : Ev K m td Γ (.dT ds)) (h2 : Ev K m ty Γ (stD q)) (e : lk ds (kT q) = some d) : Ev K m (tDGet td ty) Γ d := er_dgetT h (h2.to (kT_D q).symm) e
theorem er_dgetK {ds : List (Key × Dt)} {k : Key} {d : Dt} (h : Ev K m td Γ (.dK ds)) (h2 : Ev K m ty Γ (kD k)) (e : lk ds k = some d) : Ev K m (tDGet td ty) Γ d := fun σ G H x s M Q kk =>
  h σ G H x s M _ fun v1 d1 G1 H1 p1 g1 M1 r1 => h2 σ G1 H1 (x.mono g1.g) g1.sub M1 _ fun v2 d2 G2 H2 p2 g2 M2 r2 => by
    subst p1 p2
    obtain ⟨a, kvs, rfl, ga, rm⟩ := r1.dK_inv
    obtain rfl := r2.kV_inv
    have rm2 := rm.mono g2.g
    rcases rm2.look k with ⟨_, z⟩ | ⟨v, d', z1, z2, z3⟩
    · rw [e] at z; cases z
    · rw [e] at z2; cases z2
      exact ⟨a, v, rfl, .inl ⟨kvs, k, .inl ((g2.g.trans g2.sub) _ _ ga), rfl, z1.symm⟩, kk v _ G2 H2 rfl (g1.trans g2) M2 z3⟩
theorem er_dget2T {ds : List (List Key × Dt)} {k : List Key} {d : Dt} (h : Ev K m td Γ (.dT ds)) (h2 : Ev K m ty Γ (.tup (k.map kD))) (h3 : Ev K m ta Γ d) : Ev K m (tDGet2 td ty ta) Γ ((lk ds k).getD d) := fun σ G H x s M Q kk =>
  h σ G H x s M _ fun v1 d1 G1 H1 p1 g1 M1 r1 => by
    subst p1
    obtain ⟨a, kvs, rfl, ga, rm⟩ := r1.dT_inv
    refine ⟨a, rfl, .inr ⟨kvs, same_rd g1.sub ga⟩, h2 σ G1 H1 (x.mono g1.g) g1.sub M1 _ fun v2 d2 G2 H2 p2 g2 M2 r2 => h3 σ G2 H2 ((x.mono g1.g).mono g2.g) g2.sub M2 _ fun v3 d3 G3 H3 p3 g3 M3 r3 => ?_⟩
    subst p2 p3
    obtain ⟨b, rfl, hb⟩ := (r2.mono g3.g).key_at g3.sub
    have rm2 := rm.mono (g2.g.trans g3.g)
    refine ⟨valV kvs k, .inr ⟨kvs, k, b, same_rd ((g2.g.trans g3.g).trans g3.sub) ga, rfl, hb, rfl⟩, ?_⟩
    rcases rm2.look k with ⟨z1, z2⟩ | ⟨v, d', z1, z2, z3⟩
    · rw [z1]; exact kk v3 _ G3 H3 (by rw [z2]; rfl) ((g1.trans g2).trans g3) M3 r3
    · rw [z1]; exact kk v _ G3 H3 (by rw [z2]; rfl) ((g1.trans g2).trans g3) M3 z3
theorem ev_dget2T {ds : List (List Key × Dt)} {q : Tx × Tx} {d : Dt} (h : Ev K m td Γ (.dT ds)) (h2 : Ev K m ty Γ (stD q)) (h3 : Ev K m ta Γ d) : Ev K m (tDGet2 td ty ta) Γ ((lk ds (kT q)).getD d) := er_dget2T h (h2.to (kT_D q).symm) h3
theorem ev_dget2K {ds : List (Key × Dt)} {k : Key} {d : Dt} (h : Ev K m td Γ (.dK ds)) (h2 : Ev K m ty Γ (kD k)) (h3 : Ev K m ta Γ d) : Ev K m (tDGet2 td ty ta) Γ ((lk ds k).getD d) := fun σ G H x s M Q kk =>
  h σ G H x s M _ fun v1 d1 G1 H1 p1 g1 M1 r1 => by
    subst p1
    obtain ⟨a, kvs, rfl, ga, rm⟩ := r1.dK_inv
    refine ⟨a, rfl, .inl ⟨kvs, .inl (g1.sub _ _ ga)⟩, h2 σ G1 H1 (x.mono g1.g) g1.sub M1 _ fun v2 d2 G2 H2 p2 g2 M2 r2 => h3 σ G2 H2 ((x.mono g1.g).mono g2.g) g2.sub M2 _ fun v3 d3 G3 H3 p3 g3 M3 r3 => ?_⟩
    subst p2 p3
    obtain rfl := r2.kV_inv
    have rm2 := rm.mono (g2.g.trans g3.g)
    refine ⟨valV kvs k, .inl ⟨kvs, k, .inl (((g2.g.trans g3.g).trans g3.sub) _ _ ga), rfl, rfl⟩, ?_⟩
    rcases rm2.look k with ⟨z1, z2⟩ | ⟨v, d', z1, z2, z3⟩
    · rw [z1]; exact kk v3 _ G3 H3 (by rw [z2]; rfl) ((g1.trans g2).trans g3) M3 r3
    · rw [z1]; exact kk v _ G3 H3 (by rw [z2]; rfl) ((g1.trans g2).trans g3) M3 z3
theorem er_dinT {ds : List (List Key × Dt)} {k : List Key} (h2 : Ev K m ty Γ (.tup (k.map kD))) (h : Ev K m td Γ (.dT ds)) : Ev K m (tDIn ty td) Γ (.bl (lk ds k).isSome) := fun σ G H x s M Q kk =>
  h2 σ G H x s M _ fun v2 d2 G1 H1 p2 g1 M1 r2 => h σ G1 H1 (x.mono g1.g) g1.sub M1 _ fun v1 d1 G2 H2 p1 g2 M2 r1 => by
    subst p1 p2
    obtain ⟨a, kvs, rfl, ga, rm⟩ := r1.dT_inv
    obtain ⟨b, rfl, hb⟩ := (r2.mono g2.g).key_at g2.sub
    refine ⟨a, valV kvs k, rfl, .inr ⟨kvs, k, b, same_rd g2.sub ga, rfl, hb, rfl⟩, ?_⟩
    rcases rm.look k with ⟨z1, z2⟩ | ⟨v, d', z1, z2, z3⟩
    · rw [z1]; exact kk _ _ G2 H2 (by rw [z2]; rfl) (g1.trans g2) M2 (.bl _)
    · rw [z1]; exact kk _ _ G2 H2 (by rw [z2]; rfl) (g1.trans g2) M2 (.bl _)
theorem ev_dinT {ds : List (List Key × Dt)} {q : Tx × Tx} (h2 : Ev K m ty Γ (stD q)) (h : Ev K m td Γ (.dT ds)) : Ev K m (tDIn ty td) Γ (.bl (lk ds (kT q)).isSome) := er_dinT (h2.to (kT_D q).symm) h
/-! ### d[k] = e of a dict that is not known yet -/
variable {G0 H0 G H : Hp} {σ : L2.St} {D : Ends} {u : TS} {p : Addr}
theorem putD_len {κ β : Type} [DecidableEq κ] (l : List (κ × β)) (k : κ) (v : β) : (putD l k v).length ≤ l.length + 1 := by
  unfold putD
  split
  · rw [List.length_map]; omega
  · rw [List.length_append]; simp
theorem c_putT {i : Nat} {ds : List (List Key × Dt)} {q : Tx × Tx} {tv : TE} (c : Cf K m G0 H0 σ Γ G H) (hi : Γ[i]? = some (some (.raw (.ref p)))) (a : AccT K G H p ds) (hp : H0 p = none) (n : ¬ m.μ p) (hl : ds.length < 100000)
    (hv : EvG K m tv Γ P) (hk : Ev K m ty Γ (stD q))
    (k : ∀ d G' H' H2, P d → Grow m.μ G H G' H' → Cf K m G0 H0 σ Γ G' H2 → AccT K G' H2 p (putD ds (kT q) d) → (∃ o, H2 = upd H' p o) → D.nx σ H2) : sDPut (tVar i) ty tv D σ H := by
  refine c.ev hv fun v d G' H' pd c' g r => ?_
  obtain ⟨v1, e1, e2⟩ := c'.sl.at_ i _ hi
  obtain rfl := e2.raw_inv
  refine ⟨_, e1, c'.ev hk fun v2 d2 G2 H2 p2 c2 g2 r2 => ?_⟩
  subst p2
  have r2' : Dv K G2 v2 (.tup ((kT q).map kD)) := by rw [kT_D]; exact r2
  obtain ⟨b, rfl, hb⟩ := r2'.key_at c2.gh
  have gg := g.trans g2
  have a2 := a.grow gg n
  obtain ⟨kvs, hkv, rm⟩ := a2.at_
  refine ⟨p, _, rfl, DPut.t hkv hb ?_, ?_⟩
  · rw [rm.length]; exact Nat.lt_of_lt_of_le hl (by decide)
  · exact k d G2 H2 _ pd gg (c2.set hp a2.out n) ⟨a2.out, _, upd_same, rm.put (r.mono g2.g)⟩ ⟨_, rfl⟩
theorem q_putT {i : Nat} {ds : List (List Key × Dt)} {q : Tx × Tx} {tv : TE} (c : Cf K m G0 H0 σ Γ G H) (hi : Γ[i]? = some (some (.raw (.ref p)))) (a : AccT K G H p ds) (hp : H0 p = none) (n : ¬ m.μ p) (hl : ds.length < 100000)
    (hv : EvG K m tv Γ P) (hk : Ev K m ty Γ (stD q))
    (k : ∀ d G' H' H2, P d → Grow m.μ G H G' H' → Cf K m G0 H0 σ Γ G' H2 → AccT K G' H2 p (putD ds (kT q) d) → (∃ o, H2 = upd H' p o) → u D σ H2) : tSeq (sDPut (tVar i) ty tv) u D σ H := c_putT (D := { D with nx := u D }) c hi a hp n hl hv hk k
/-! ### a dict locked while it is walked -/
/-- .. or locked already -/
def tLockR (t : TS) : TS := fun D σ H => tLock t D σ H ∨ t D σ H
theorem ps_lockR {X : Cx} {st : Stmt} {t : TS} (h : PS X st t) : PS X st (tLockR t) := ⟨fun pins s σ H D I hw => by
  rcases hw with hw | hw
  · exact (ps_lock h).run pins s σ H D I hw
  · exact h.run pins s σ H D I hw⟩
def tLockRE (t : TE) : TE := fun σ H Q => tLockE t σ H Q ∨ t σ H Q
theorem pe_lockR {X : Cx} {e : Expr} {t : TE} (h : PE X e t) : PE X e (tLockRE t) := ⟨fun pins s σ H Q I hw => by
  rcases hw with hw | hw
  · exact (pe_lock h).run pins s σ H Q I hw
  · exact h.run pins s σ H Q I hw⟩
/-- locked: from G, H to G1, H1; U goes back -/
structure Lkd (d : Addr) (od : Obj) (kvs : List (List Key × V)) (G H G1 H1 : Hp) (U : Hp → Hp) : Prop where
  at_ : G1 d = some (.frz od (.dT kvs))
  s1 : SameD G G1
  other : ∀ X b, b ≠ d → U X b = X b
  sub : Same G1 H1
  un : ∀ G', Same G1 G' → SameD G' (U G')
  gr : ∀ G' H', Grow Pure G1 H1 G' H' → Grow Pure G H (U G') (U H')
  H1o : ∀ b, b ≠ d → H1 b = H b
  G1o : ∀ b, b ≠ d → G1 b = G b
theorem lkd_of {d : Addr} {kvs : List (List Key × V)} {od : Obj} (s : Same G H) (h : G d = some (.dT kvs)) : Lkd d od kvs G H (upd G d (.frz od (.dT kvs))) (upd H d (.frz od (.dT kvs))) fun X => upd X d (.dT kvs) := by
  refine ⟨upd_same, fun a o e => ?_, fun X b n => upd_ne n, fun a o e => ?_, fun G' sg a o e => ?_, fun G' H' g => ⟨fun a o e => ?_, fun a o n e => ?_, fun a e => ?_, fun a o e => ?_, fun a n e => ?_, fun a e => ?_⟩, fun b n => upd_ne n, fun b n => upd_ne n⟩
  · by_cases q : a = d
    · subst q
      rw [h] at e
      cases e
      exact .inr ⟨kvs, .inr ⟨od, upd_same⟩, .inl rfl⟩
    · exact .inl (by rw [upd_ne q]; exact e)
  · by_cases q : a = d
    · subst q
      rw [upd_same] at e ⊢; exact e
    · rw [upd_ne q] at e ⊢; exact s _ _ e
  · by_cases q : a = d
    · subst q
      have z := sg _ _ (upd_same (H := G) (o := HO.frz od (.dT kvs)))
      rw [z] at e
      cases e
      exact .inr ⟨kvs, .inl upd_same, .inr ⟨od, rfl⟩⟩
    · exact .inl (by rw [upd_ne q]; exact e)
  · by_cases q : a = d
    · subst q
      rw [h] at e
      cases e
      exact upd_same
    · rw [upd_ne q]; exact g.g a o (by rw [upd_ne q]; exact e)
  · by_cases q : a = d
    · subst q
      rw [s _ _ h] at e
      cases e
      exact upd_same
    · rw [upd_ne q]; exact g.h a o n (by rw [upd_ne q]; exact e)
  · by_cases q : a = d
    · subst q
      rw [upd_same] at e; cases e
    · rw [upd_ne q] at e
      have z := g.dom a e
      rw [upd_ne q] at z; exact z
  · by_cases q : a = d
    · subst q
      rw [upd_same] at e ⊢; exact e
    · rw [upd_ne q] at e ⊢; exact g.sub _ _ e
  · have q : a ≠ d := fun z => by subst z; rw [h] at n; cases n
    rw [upd_ne q]; exact g.new a (by rw [upd_ne q]; exact n) (by rw [upd_ne q]; exact e)
  · by_cases q : a = d
    · subst q
      rw [upd_same]; trivial
    · rw [upd_ne q]; exact g.mv a (by rw [upd_ne q]; exact e)
theorem lkd_id {d : Addr} {kvs : List (List Key × V)} {od : Obj} (s : Same G H) (h : G d = some (.frz od (.dT kvs))) : Lkd d od kvs G H G H id :=
  ⟨h, fun a o e => .inl e, fun _ _ _ => rfl, s, fun G' _ a o e => .inl e, fun _ _ g => g, fun _ _ => rfl, fun _ _ => rfl⟩
theorem Cf.unlock {d : Addr} {od : Obj} {kvs : List (List Key × V)} {G1 H1 G' H' : Hp} {U : Hp → Hp} {σ' : L2.St} (c : Cf K still G0 H0 σ Γ G H) (L : Lkd d od kvs G H G1 H1 U) (c' : Cf K still G1 H1 σ' Γ' G' H') : Cf K still G0 H0 σ' Γ' (U G') (U H') := by
  have g := L.gr _ _ c'.gr
  exact ⟨c'.sl.lock (L.un _ c'.gr.g), g.sub, trivial, c.gr.trans g⟩
theorem Cf.locked {d : Addr} {od : Obj} {kvs : List (List Key × V)} {G1 H1 : Hp} {U : Hp → Hp} (c : Cf K still G0 H0 σ Γ G H) (L : Lkd d od kvs G H G1 H1 U) : Cf K still G1 H1 σ Γ G1 H1 := ⟨c.sl.lock L.s1, L.sub, trivial, Grow.refl L.sub⟩
theorem AccT.locked {d : Addr} {od : Obj} {kvs : List (List Key × V)} {G1 H1 : Hp} {U : Hp → Hp} {ds : List (List Key × Dt)} (L : Lkd d od kvs G H G1 H1 U) (a : AccT K G H p ds) (n : p ≠ d) : AccT K G1 H1 p ds := by
  obtain ⟨vs, e, r⟩ := a.at_
  exact ⟨by rw [L.G1o _ n]; exact a.out, vs, by rw [L.H1o _ n]; exact e, r.lock L.s1⟩
theorem AccT.unlock {d : Addr} {od : Obj} {kvs : List (List Key × V)} {G1 H1 G' H' : Hp} {U : Hp → Hp} {ds : List (List Key × Dt)} (L : Lkd d od kvs G H G1 H1 U) (s : Same G1 G') (a : AccT K G' H' p ds) (n : p ≠ d) : AccT K (U G') (U H') p ds := by
  obtain ⟨vs, e, r⟩ := a.at_
  exact ⟨by rw [L.other _ _ n]; exact a.out, vs, by rw [L.other _ _ n]; exact e, r.lock (L.un _ s)⟩
theorem c_lock {i : Nat} {ds : List (List Key × Dt)} {t : TS} (c : Cf K still G0 H0 σ Γ G H) (hi : Γ[i]? = some (some (.dT ds)))
    (k : ∀ d od kvs G1 H1 U (D1 : Ends), Lkd d od kvs G H G1 H1 U → σ[i]? = some (some (.ref d)) → DvM K G1 kvs ds → Cf K still G1 H1 σ Γ G1 H1 → (∀ σ' G' H', Same G1 G' → Same G' H' → D.nx σ' (U H') → D1.nx σ' H') → t D1 σ H1) : tLockR t D σ H := by
  obtain ⟨v, e, r⟩ := c.sl.at_ i _ hi
  obtain ⟨d, kvs, rfl, ga, rm⟩ := r.dT_inv
  rcases ga with ga | ⟨od, ga⟩
  · refine .inl ⟨d, .dT kvs, c.gh _ _ ga, trivial, fun od => ?_⟩
    have L := lkd_of (od := od) c.gh ga
    exact k d od kvs _ _ _ _ L e (rm.lock L.s1) (c.locked L) fun σ' G' H' s1 s2 q => ⟨s2 _ _ (s1 _ _ L.at_), q⟩
  · have L := lkd_id c.gh ga
    exact .inr (k d od kvs _ _ _ _ L e rm (c.locked L) fun σ' G' H' s1 s2 q => q)
theorem q_lock {i : Nat} {ds : List (List Key × Dt)} {t : TS} (c : Cf K still G0 H0 σ Γ G H) (hi : Γ[i]? = some (some (.dT ds)))
    (k : ∀ d od kvs G1 H1 U (D1 : Ends), Lkd d od kvs G H G1 H1 U → σ[i]? = some (some (.ref d)) → DvM K G1 kvs ds → Cf K still G1 H1 σ Γ G1 H1 → (∀ σ' G' H', Same G1 G' → Same G' H' → u D σ' (U H') → D1.nx σ' H') → t D1 σ H1) : tSeq (tLockR t) u D σ H := c_lock (D := { D with nx := u D }) c hi k
theorem Grow.locked {d : Addr} {od : Obj} {kvs : List (List Key × V)} {G1 H1 G0' H0' : Hp} {U U' : Hp → Hp} (g : Grow Pure G0 H0 G H) (h0 : G0 d = some (.dT kvs)) : Grow Pure (upd G0 d (.frz od (.dT kvs))) (upd H0 d (.frz od (.dT kvs))) (upd G d (.frz od (.dT kvs))) (upd H d (.frz od (.dT kvs))) := by
  have hG := g.g _ _ h0
  have hH := g.sub _ _ hG
  refine ⟨fun a o e => ?_, fun a o n e => ?_, fun a e => ?_, fun a o e => ?_, fun a n e => ?_, fun a e => ?_⟩
  · by_cases q : a = d
    · subst q; rw [upd_same] at e ⊢; exact e
    · rw [upd_ne q] at e ⊢; exact g.g _ _ e
  · by_cases q : a = d
    · subst q; rw [upd_same] at e ⊢; exact e
    · rw [upd_ne q] at e ⊢; exact g.h a o n e
  · by_cases q : a = d
    · subst q; rw [upd_same] at e; cases e
    · rw [upd_ne q] at e ⊢; exact g.dom a e
  · by_cases q : a = d
    · subst q; rw [upd_same] at e ⊢; exact e
    · rw [upd_ne q] at e ⊢; exact g.sub _ _ e
  · by_cases q : a = d
    · subst q; rw [upd_same] at n; cases n
    · rw [upd_ne q] at n e ⊢; exact g.new a n e
  · by_cases q : a = d
    · subst q; rw [upd_same]; trivial
    · rw [upd_ne q] at e ⊢; exact g.mv a e
/-- locked, the dict being known since the base -/
theorem c_lockB {d : Addr} {kvs : List (List Key × V)} {t : TS} (c : Cf K still G0 H0 σ Γ G H) (s0 : Same G0 H0) (hd : Rd G0 d (.dT kvs))
    (k : ∀ od G0' H0' G1 H1 U (D1 : Ends), Lkd d od kvs G0 H0 G0' H0' U → Lkd d od kvs G H G1 H1 U → Cf K still G0' H0' σ Γ G1 H1 → (∀ σ' Γ' G' H', Cf K still G0' H0' σ' Γ' G' H' → (Cf K still G0 H0 σ' Γ' (U G') (U H') → D.nx σ' (U H')) → D1.nx σ' H') → t D1 σ H1) : tLockR t D σ H := by
  rcases hd with h0 | ⟨od, h0⟩
  · have hG := c.gr.g _ _ h0
    refine .inl ⟨d, .dT kvs, c.gh _ _ hG, trivial, fun od => ?_⟩
    have L0 := lkd_of (od := od) s0 h0
    have L := lkd_of (od := od) c.gh hG
    have c1 : Cf K still (upd G0 d (.frz od (.dT kvs))) (upd H0 d (.frz od (.dT kvs))) σ Γ (upd G d (.frz od (.dT kvs))) (upd H d (.frz od (.dT kvs))) := ⟨c.sl.lock L.s1, L.sub, trivial, Grow.locked (G1 := G) (H1 := H) (G0' := G) (H0' := H) (U := id) (U' := id) c.gr h0⟩
    refine k od _ _ _ _ _ _ L0 L c1 fun σ' Γ' G' H' c' q => ?_
    have g := L0.gr _ _ c'.gr
    exact ⟨c'.gh _ _ (c'.gr.g _ _ L0.at_), q ⟨c'.sl.lock (L0.un _ c'.gr.g), g.sub, trivial, g⟩⟩
  · have hG := c.gr.g _ _ h0
    refine .inr (k od _ _ _ _ _ _ (lkd_id s0 h0) (lkd_id c.gh hG) c fun σ' Γ' G' H' c' q => q c')
theorem hs_keys {d : Addr} {od : Obj} {kvs : List (List Key × V)} {ds : List (List Key × Dt)} {i : Nat} {G1 H1 : Hp} (e : σ[i]? = some (some (.ref d))) (h : G1 d = some (.frz od (.dT kvs))) (s : Same G1 H1) (src : Src K G1 (Itkt d od kvs) (ds.map fun q => .tup (q.1.map kD))) : ∀ R : It → Hp → Prop, (∀ J es G2 H2, es = ds.map (fun q => Dt.tup (q.1.map kD)) → Grow (still).μ G1 H1 G2 H2 → still.M G2 H2 → Src K G2 J es → R J H2) → iKeys (tVar i) σ H1 R := fun R hR => ⟨_, e, d, od, rfl, .inr ⟨kvs, s _ _ h, hR _ _ G1 H1 rfl (Grow.refl s) trivial src⟩⟩
/-- the keys of a locked dict -/
def keysD (ds : List (List Key × Dt)) : List Dt := ds.map fun q => .tup (q.1.map kD)
theorem src_keys {d : Addr} {od : Obj} {kvs : List (List Key × V)} {ds : List (List Key × Dt)} {G1 : Hp} (h : G1 d = some (.frz od (.dT kvs))) (rm : DvM K G1 kvs ds) : Src K G1 (Itkt d od kvs) (keysD ds) where
  goes := fun i H hi s => ⟨s _ _ h, by unfold keysD at hi; rw [List.length_map] at hi; rw [rm.length]; exact hi⟩
  stops := fun H s => ⟨s _ _ h, by unfold keysD; rw [List.length_map, rm.length]; exact Nat.le_refl _⟩
  yields := fun i x H xv H' G' e sg s y => by
    obtain ⟨rfl, k, v, q, e1, rfl, hq⟩ := y
    have e2 : ds[i]?.map (·.1) = some k := by
      have := congrArg (·[i]?) rm.keys
      simp only [List.getElem?_map] at this
      rw [e1] at this
      exact this.symm
    unfold keysD at e
    rw [List.getElem?_map] at e
    cases hd : ds[i]? with
    | none => rw [hd] at e; cases e
    | some z =>
      rw [hd] at e e2
      cases e
      have e3 : z.1 = k := Option.some.inj e2
      by_cases gq : G' q = some (.tup (k.map kV))
      · exact ⟨G', Grow.refl s, .tup gq (by rw [e3]; exact Dvs.kV_of)⟩
      · have gn : G' q = none := by
          cases w : G' q with
          | none => rfl
          | some o => exact absurd (by rw [w]; rw [s _ _ w] at hq; exact hq) gq
        refine ⟨upd G' q (.tup (k.map kV)), ⟨fun a o u => ?_, fun a o _ u => u, fun a u => u, fun a o u => ?_, fun a n u => ?_, fun a u => u⟩, .tup upd_same (by rw [e3]; exact Dvs.kV_of)⟩
        · rw [upd_ne (ne_of_none u gn)]; exact u
        · by_cases z2 : a = q
          · subst z2; rw [upd_same] at u; cases u; exact hq
          · rw [upd_ne z2] at u; exact s _ _ u
        · have z2 : a ≠ q := fun z => by subst z; rw [hq] at u; exact u
          rw [upd_ne z2]; exact n
end
end K70
/-! By data: literals, loops that carry a fact, displays of dicts. -/
namespace K70
open PySem PySem.Spec PyProof.Rows L2
theorem lit_at : ("at" : Str).cps.toList = tAt := by decide +kernel
theorem lit_count : ("count" : Str).cps.toList = tCount := by decide +kernel
theorem lit_around : ("around" : Str).cps.toList = tAround := by decide +kernel
theorem lit_nil : ("" : Str).cps.toList = ([] : Tx) := by decide +kernel
theorem lit_dot : ("." : Str).cps.toList = ([46] : Tx) := by decide +kernel
theorem lit_signs : (".abcdefghijklmnopqrstuvwxyz" : Str).cps.toList = sg := by decide +kernel
section
variable {K : PySem.W.Frag} {m : Mu} {G0 H0 G1 H1 G H : Hp} {σ : L2.St} {Γ : Ga} {wi : TI} {g : TG} {D : Ends} {t u : TS} {ds : List Dt} {te ta tb : TE}
theorem ev_lit {x : Str} {l : Tx} (h : x.cps.toList = l) : Ev K m (tC (.str x)) Γ (.str l) := ev_str.to (by rw [h])
theorem c_forF {Γd : Nat → Dt → Ga} {js : List Nat} (c : Cf K m G0 H0 σ Γ G H) (hs : SrcG K m wi Γ (· = ds)) (Γs : Nat → Ga) (F : Nat → Prop) (h0 : Γs 0 = Γ) (f0 : F 0)
    (hg : ∀ i d, ds[i]? = some d → TgG K g d (Γs i) (Γd i d) js)
    (ht : ∀ G1 H1, Grow m.μ G0 H0 G1 H1 → ∀ i d σ' G' H' (D' : Ends), ds[i]? = some d → F i → Cf K m G1 H1 σ' (Γd i d) G' H' → D'.rt = D.rt → (F (i + 1) → ∀ σ G H, Cf K m G1 H1 σ (Γs (i + 1)) G H → D'.nx σ H) → t D' σ' H')
    (hd : F ds.length → ∀ σ G H, Cf K m G0 H0 σ (Γs ds.length) G H → D.nx σ H) : tFor wi g t D σ H :=
  c_for c hs fun ds' G1 H1 e c1 g1 => by
    subst e
    refine ⟨fun i σ G H => F i ∧ Cf K m G1 H1 σ (Γs i) G H, ⟨f0, by rw [h0]; exact c1.sl, c1.gh, c1.mm, Grow.refl c1.gh⟩, fun i σ G H a => ⟨a.2.gr.g, a.2.gh⟩, fun i d σ G H G2 H2 x hi a g2 r => ?_, fun σ G H a => hd a.1 σ G H (a.2.base c1.gr)⟩
    have a2 := a.2.step g2
    refine hg i d hi σ G2 H2 x a2.sl a2.gh r _ fun σ' sl' _ => ?_
    exact ht G1 H1 c1.gr i d σ' G2 H2 _ hi a.1 ⟨sl', a2.gh, a2.mm, a2.gr⟩ rfl fun f σ3 G3 H3 c3 => ⟨G3, f, c3⟩
theorem q_forF {Γd : Nat → Dt → Ga} {js : List Nat} (c : Cf K m G0 H0 σ Γ G H) (hs : SrcG K m wi Γ (· = ds)) (Γs : Nat → Ga) (F : Nat → Prop) (h0 : Γs 0 = Γ) (f0 : F 0)
    (hg : ∀ i d, ds[i]? = some d → TgG K g d (Γs i) (Γd i d) js)
    (ht : ∀ G1 H1, Grow m.μ G0 H0 G1 H1 → ∀ i d σ' G' H' (D' : Ends), ds[i]? = some d → F i → Cf K m G1 H1 σ' (Γd i d) G' H' → D'.rt = D.rt → (F (i + 1) → ∀ σ G H, Cf K m G1 H1 σ (Γs (i + 1)) G H → D'.nx σ H) → t D' σ' H')
    (hd : F ds.length → ∀ σ G H, Cf K m G0 H0 σ (Γs ds.length) G H → u D σ H) : tSeq (tFor wi g t) u D σ H := c_forF (D := { D with nx := u D }) c hs Γs F h0 f0 hg ht hd
theorem c_forA {α : Type} {l : List α} {enc : α → Dt} {Γd : Nat → α → Ga} {js : List Nat} (c : Cf K m G0 H0 σ Γ G H) (hs : SrcG K m wi Γ (· = l.map enc)) (Γs : Nat → Ga) (F : Nat → Prop) (h0 : Γs 0 = Γ) (f0 : F 0)
    (hg : ∀ i a, l[i]? = some a → TgG K g (enc a) (Γs i) (Γd i a) js)
    (ht : ∀ G1 H1, Grow m.μ G0 H0 G1 H1 → ∀ i a σ' G' H' (D' : Ends), l[i]? = some a → F i → Cf K m G1 H1 σ' (Γd i a) G' H' → D'.rt = D.rt → (F (i + 1) → ∀ σ G H, Cf K m G1 H1 σ (Γs (i + 1)) G H → D'.nx σ H) → t D' σ' H')
    (hd : F l.length → ∀ σ G H, Cf K m G0 H0 σ (Γs l.length) G H → D.nx σ H) : tFor wi g t D σ H :=
  c_for c hs fun ds' G1 H1 e c1 g1 => by
    subst e
    refine ⟨fun i σ G H => F i ∧ Cf K m G1 H1 σ (Γs i) G H, ⟨f0, by rw [h0]; exact c1.sl, c1.gh, c1.mm, Grow.refl c1.gh⟩, fun i σ G H a => ⟨a.2.gr.g, a.2.gh⟩, fun i d σ G H G2 H2 x hi a g2 r => ?_, fun σ G H a => ?_⟩
    · have a2 := a.2.step g2
      rw [List.getElem?_map] at hi
      cases ha : l[i]? with
      | none => rw [ha] at hi; cases hi
      | some q =>
        rw [ha] at hi
        obtain rfl : enc q = d := Option.some.inj hi
        refine hg i q ha σ G2 H2 x a2.sl a2.gh r _ fun σ' sl' _ => ?_
        exact ht G1 H1 c1.gr i q σ' G2 H2 _ ha a.1 ⟨sl', a2.gh, a2.mm, a2.gr⟩ rfl fun f σ3 G3 H3 c3 => ⟨G3, f, c3⟩
    · rw [List.length_map] at a
      exact hd a.1 σ G H (a.2.base c1.gr)
theorem q_forA {α : Type} {l : List α} {enc : α → Dt} {Γd : Nat → α → Ga} {js : List Nat} (c : Cf K m G0 H0 σ Γ G H) (hs : SrcG K m wi Γ (· = l.map enc)) (Γs : Nat → Ga) (F : Nat → Prop) (h0 : Γs 0 = Γ) (f0 : F 0)
    (hg : ∀ i a, l[i]? = some a → TgG K g (enc a) (Γs i) (Γd i a) js)
    (ht : ∀ G1 H1, Grow m.μ G0 H0 G1 H1 → ∀ i a σ' G' H' (D' : Ends), l[i]? = some a → F i → Cf K m G1 H1 σ' (Γd i a) G' H' → D'.rt = D.rt → (F (i + 1) → ∀ σ G H, Cf K m G1 H1 σ (Γs (i + 1)) G H → D'.nx σ H) → t D' σ' H')
    (hd : F l.length → ∀ σ G H, Cf K m G0 H0 σ (Γs l.length) G H → u D σ H) : tSeq (tFor wi g t) u D σ H := c_forA (D := { D with nx := u D }) c hs Γs F h0 f0 hg ht hd
theorem find_first {α : Type} {p : α → Bool} : ∀ {l : List α} {i : Nat} {q : α}, (∀ j, j < i → ∀ q, l[j]? = some q → p q = false) → l[i]? = some q → p q = true → l.find? p = some q
  | [], _, _, _, h, _ => by simp at h
  | a :: l, 0, q, _, h, hp => by
    obtain rfl : a = q := by simpa using h
    exact List.find?_cons_of_pos hp
  | a :: l, i + 1, q, hn, h, hp => by
    have h0 := hn 0 (Nat.succ_pos i) a rfl
    rw [List.find?_cons_of_neg (by rw [h0]; decide)]
    exact find_first (fun j hj q hq => hn (j + 1) (Nat.succ_lt_succ hj) q (by simpa using hq)) (by simpa using h) hp
theorem find_no {α : Type} {p : α → Bool} : ∀ {l : List α}, (∀ j, j < l.length → ∀ q, l[j]? = some q → p q = false) → l.find? p = none
  | [], _ => rfl
  | a :: l, hn => by
    have h0 := hn 0 (Nat.succ_pos _) a rfl
    rw [List.find?_cons_of_neg (by rw [h0]; decide)]
    exact find_no fun j hj q hq => hn (j + 1) (Nat.succ_lt_succ hj) q (by simpa using hq)
theorem upto_succ {α : Type} {p : α → Bool} {l : List α} {i : Nat} {a : α} (h : ∀ j, j < i → ∀ q, l[j]? = some q → p q = false) (ha : l[i]? = some a) (hp : p a = false) : ∀ j, j < i + 1 → ∀ q, l[j]? = some q → p q = false := fun j hj q hq => by
  by_cases e : j = i
  · subst e
    rw [ha] at hq
    cases hq
    exact hp
  · exact h j (by omega) q hq
theorem c_asgV {d : Dt} {Γ' : Ga} {js : List Nat} (c : Cf K m G0 H0 σ Γ G H) (h : Ev K m te Γ d) (hg : TgG K g d Γ Γ' js) (k : ∀ σ' G' H', Cf K m G0 H0 σ' Γ' G' H' → Grow m.μ G H G' H' → D.nx σ' H') : tAsg te g D σ H :=
  c_asgT (Γd := fun _ => Γ') c h (fun d' e => by rw [e]; exact hg) fun d' σ' G' H' e c' g' => k σ' G' H' c' g'
theorem q_asgV {d : Dt} {Γ' : Ga} {js : List Nat} (c : Cf K m G0 H0 σ Γ G H) (h : Ev K m te Γ d) (hg : TgG K g d Γ Γ' js) (k : ∀ σ' G' H', Cf K m G0 H0 σ' Γ' G' H' → Grow m.μ G H G' H' → u D σ' H') : tSeq (tAsg te g) u D σ H := c_asgV (D := { D with nx := u D }) c h hg k
/-- x = e, the value told -/
theorem q_setV {d : Dt} {i : Nat} (c : Cf K m G0 H0 σ Γ G H) (h : Ev K m te Γ d) (k : ∀ σ' G' H', Cf K m G0 H0 σ' (Γ.set i (some d)) G' H' → Grow m.μ G H G' H' → u D σ' H') : tSeq (tAsg te (gName i)) u D σ H := q_asg c h fun d' σ' G' H' e c' g' => by
  rw [e] at c'; exact k σ' G' H' c' g'
theorem c_setV {d : Dt} {i : Nat} (c : Cf K m G0 H0 σ Γ G H) (h : Ev K m te Γ d) (k : ∀ σ' G' H', Cf K m G0 H0 σ' (Γ.set i (some d)) G' H' → Grow m.μ G H G' H' → D.nx σ' H') : tAsg te (gName i) D σ H := c_asg c h fun d' σ' G' H' e c' g' => by
  rw [e] at c'; exact k σ' G' H' c' g'
/-- the pairs of a display -/
inductive Prs (K : PySem.W.Frag) (m : Mu) (Γ : Ga) : List (TE × TE) → List (Key × Dt) → Prop
  | nil : Prs K m Γ [] []
  | cons {tk tv : TE} {k : Key} {d : Dt} {trs : List (TE × TE)} {ps : List (Key × Dt)} : Ev K m tk Γ (kD k) → Ev K m tv Γ d → Prs K m Γ trs ps → Prs K m Γ ((tk, tv) :: trs) ((k, d) :: ps)
theorem Prs.run : ∀ {trs : List (TE × TE)} {ps : List (Key × Dt)}, Prs K m Γ trs ps → ∀ (σ : L2.St) (G H : Hp), Sl K G σ Γ → Same G H → m.M G H → ∀ Q : List (V × V) → Hp → Prop,
    (∀ (kvs : List (Key × V)) G' H', Grow m.μ G H G' H' → m.M G' H' → DvM K G' kvs ps → Q (kvs.map fun kv => (kV kv.1, kv.2)) H') → tPairs trs σ H Q
  | _, _, .nil, σ, G, H, x, s, M, Q, k => k [] G H (Grow.refl s) M .nil
  | _, _, .cons (k := key) h1 h2 r, σ, G, H, x, s, M, Q, k => h1 σ G H x s M _ fun v1 d1 G1 H1 p1 g1 M1 r1 => h2 σ G1 H1 (x.mono g1.g) g1.sub M1 _ fun v2 d2 G2 H2 p2 g2 M2 r2 =>
    r.run σ G2 H2 (x.mono (g1.g.trans g2.g)) g2.sub M2 _ fun kvs G3 H3 g3 M3 rm => by
      subst p1 p2
      obtain rfl := r1.kV_inv
      exact k ((key, v2) :: kvs) G3 H3 ((g1.trans g2).trans g3) M3 (.cons (r2.mono g3.g) rm)
def mergeD (l more : List (Key × Dt)) : List (Key × Dt) := more.foldl (fun acc kv => putD acc kv.1 kv.2) l
theorem DvM.merge {G : Hp} : ∀ {more : List (Key × V)} {dm : List (Key × Dt)} {kvs : List (Key × V)} {ds : List (Key × Dt)}, DvM K G more dm → DvM K G kvs ds → DvM K G (mergeK kvs more) (mergeD ds dm)
  | _, _, _, _, .nil, r => r
  | _, _, _, _, .cons (k := key) h t, r => by
    have z := DvM.merge t (DvM.put (k := key) r h)
    exact z
theorem ev_disp {trs : List (TE × TE)} {ps : List (Key × Dt)} (h : Prs K m Γ trs ps) (hl : ps.length ≤ 15) : Ev K m (tDisp trs) Γ (.dK (mergeD [] ps)) := fun σ G H x s M Q k p hp => by
  have nD : ¬ m.μ p := Mu.notNew M hp
  refine h.run σ G (upd H p (.dK [])) x (Grow.hide (μ := m.μ) s hp).sub (Mu.hide s hp M) _ fun kvs G1 H1 g1 M1 rm => ?_
  have h1 : H1 p = some (.dK []) := g1.h p _ nD upd_same
  have gp : G1 p = none := g1.new p (s.free hp) (by rw [upd_same]; trivial)
  refine ⟨h1, kvs, rfl, by rw [rm.length]; exact hl, ?_⟩
  have gr : Grow m.μ G H G1 (upd H1 p (.dK (mergeK [] kvs))) := ((Grow.hide s hp).trans g1).set hp gp
  have gk := gr.know hp gp upd_same
  exact k _ _ _ _ rfl gk (Mu.know gr.sub gp nD upd_same (Mu.set g1.sub gp nD M1)) (.dK upd_same ((rm.mono fun b o q => by rw [upd_ne (ne_of_none q gp)]; exact q).merge .nil))
end
end K70
/-! Loops that fill a list or a dict; reading a list or a dict that isn't known yet. -/
namespace K70
open PySem PySem.Spec PyProof.Rows L2
section
variable {K : PySem.W.Frag} {m : Mu} {G0 H0 G1 H1 G H G' H' : Hp} {σ : L2.St} {Γ : Ga} {wi : TI} {g : TG} {D : Ends} {t u : TS} {te ta tb : TE} {p : Addr} {P : Dt → Prop}
/-- a loop over l; X is what it fills: it stays through what else happens -/
theorem c_forXat {α : Type} {l : List α} {enc : α → Dt} {Γd : Nat → α → Ga} {js : List Nat} {β : Type} (X : Hp → Hp → β → Prop) (hX : ∀ {G H G' H' : Hp} {b : β}, X G H b → Grow Pure G H G' H' → X G' H' b) (c : Cf K m G0 H0 σ Γ G H) (hs : ∀ R : It → Hp → Prop, (∀ J ds G1 H1, ds = l.map enc → Grow m.μ G H G1 H1 → m.M G1 H1 → Src K G1 J ds → R J H1) → wi σ H R) {x0 : β} (hx : ∀ G1 H1, Grow m.μ G H G1 H1 → X G1 H1 x0) (Γs : Nat → Ga) (A : Nat → β → Prop) (h0 : Γs 0 = Γ) (a0 : A 0 x0)
    (hg : ∀ i a, l[i]? = some a → TgG K g (enc a) (Γs i) (Γd i a) js)
    (ht : ∀ i a b σ' G' H' (D' : Ends), l[i]? = some a → A i b → Same G G' → Cf K m G0 H0 σ' (Γd i a) G' H' → X G' H' b → D'.rt = D.rt → (∀ b' σ2 G2 H2, A (i + 1) b' → Same G' G2 → Cf K m G0 H0 σ2 (Γs (i + 1)) G2 H2 → X G2 H2 b' → D'.nx σ2 H2) → t D' σ' H')
    (hd : ∀ b σ G' H', A l.length b → Same G G' → Cf K m G0 H0 σ (Γs l.length) G' H' → X G' H' b → D.nx σ H') : tFor wi g t D σ H :=
  c_forAt (S := (· = l.map enc)) c hs fun ds' G1 H1 e c1 g1 => by
    subst e
    refine ⟨fun i σ G2 H2 => Same G1 G2 ∧ ∃ b, A i b ∧ Cf K m G0 H0 σ (Γs i) G2 H2 ∧ X G2 H2 b, ⟨Same.refl _, x0, a0, by rw [h0]; exact c1, hx G1 H1 g1⟩, fun i σ G H a => ⟨a.1, let ⟨_, _, c, _⟩ := a.2; c.gh⟩, fun i d σ G2 H2 G3 H3 x hi a g2 r => ?_, fun σ G2 H2 a => ?_⟩
    · obtain ⟨s, b, ab, cb, xb⟩ := a
      have a2 := cb.step g2
      rw [List.getElem?_map] at hi
      cases ha : l[i]? with
      | none => rw [ha] at hi; cases hi
      | some q =>
        rw [ha] at hi
        obtain rfl : enc q = d := Option.some.inj hi
        refine hg i q ha σ G3 H3 x a2.sl a2.gh r _ fun σ' sl' _ => ?_
        exact ht i q b σ' G3 H3 _ ha ab (g1.g.trans (s.trans g2.g)) ⟨sl', a2.gh, a2.mm, a2.gr⟩ (hX xb g2) rfl fun b' σ4 G4 H4 ab' s4 c4 x4 => ⟨G4, (s.trans g2.g).trans s4, b', ab', c4, x4⟩
    · rw [List.length_map] at a
      obtain ⟨s, b, ab, cb, xb⟩ := a
      exact hd b σ G2 H2 ab (g1.g.trans s) cb xb
theorem c_forX {α : Type} {l : List α} {enc : α → Dt} {Γd : Nat → α → Ga} {js : List Nat} {β : Type} (X : Hp → Hp → β → Prop) (hX : ∀ {G H G' H' : Hp} {b : β}, X G H b → Grow Pure G H G' H' → X G' H' b) (c : Cf K m G0 H0 σ Γ G H) (hs : SrcG K m wi Γ (· = l.map enc)) {x0 : β} (hx : ∀ G1 H1, Grow m.μ G H G1 H1 → X G1 H1 x0) (Γs : Nat → Ga) (A : Nat → β → Prop) (h0 : Γs 0 = Γ) (a0 : A 0 x0)
    (hg : ∀ i a, l[i]? = some a → TgG K g (enc a) (Γs i) (Γd i a) js)
    (ht : ∀ i a b σ' G' H' (D' : Ends), l[i]? = some a → A i b → Same G G' → Cf K m G0 H0 σ' (Γd i a) G' H' → X G' H' b → D'.rt = D.rt → (∀ b' σ2 G2 H2, A (i + 1) b' → Same G' G2 → Cf K m G0 H0 σ2 (Γs (i + 1)) G2 H2 → X G2 H2 b' → D'.nx σ2 H2) → t D' σ' H')
    (hd : ∀ b σ G' H', A l.length b → Same G G' → Cf K m G0 H0 σ (Γs l.length) G' H' → X G' H' b → D.nx σ H') : tFor wi g t D σ H := c_forXat X hX c (hs σ G H c.sl c.gh c.mm) hx Γs A h0 a0 hg ht hd
theorem q_forX {α : Type} {l : List α} {enc : α → Dt} {Γd : Nat → α → Ga} {js : List Nat} {β : Type} (X : Hp → Hp → β → Prop) (hX : ∀ {G H G' H' : Hp} {b : β}, X G H b → Grow Pure G H G' H' → X G' H' b) (c : Cf K m G0 H0 σ Γ G H) (hs : SrcG K m wi Γ (· = l.map enc)) {x0 : β} (hx : ∀ G1 H1, Grow m.μ G H G1 H1 → X G1 H1 x0) (Γs : Nat → Ga) (A : Nat → β → Prop) (h0 : Γs 0 = Γ) (a0 : A 0 x0)
    (hg : ∀ i a, l[i]? = some a → TgG K g (enc a) (Γs i) (Γd i a) js)
    (ht : ∀ i a b σ' G' H' (D' : Ends), l[i]? = some a → A i b → Same G G' → Cf K m G0 H0 σ' (Γd i a) G' H' → X G' H' b → D'.rt = D.rt → (∀ b' σ2 G2 H2, A (i + 1) b' → Same G' G2 → Cf K m G0 H0 σ2 (Γs (i + 1)) G2 H2 → X G2 H2 b' → D'.nx σ2 H2) → t D' σ' H')
    (hd : ∀ b σ G' H', A l.length b → Same G G' → Cf K m G0 H0 σ (Γs l.length) G' H' → X G' H' b → u D σ H') : tSeq (tFor wi g t) u D σ H := c_forX (D := { D with nx := u D }) X hX c hs hx Γs A h0 a0 hg ht hd
/-- .. a list -/
theorem q_forL {α : Type} {l : List α} {enc : α → Dt} {Γd : Nat → α → Ga} {js : List Nat} {x0 : List Dt} (c : Cf K m G0 H0 σ Γ G H) (a : Acc K G H p x0) (n : ¬ m.μ p) (hs : SrcG K m wi Γ (· = l.map enc)) (Γs : Nat → Ga) (A : Nat → List Dt → Prop) (h0 : Γs 0 = Γ) (a0 : A 0 x0)
    (hg : ∀ i a, l[i]? = some a → TgG K g (enc a) (Γs i) (Γd i a) js)
    (ht : ∀ i a b σ' G' H' (D' : Ends), l[i]? = some a → A i b → Same G G' → Cf K m G0 H0 σ' (Γd i a) G' H' → Acc K G' H' p b → D'.rt = D.rt → (∀ b' σ2 G2 H2, A (i + 1) b' → Same G' G2 → Cf K m G0 H0 σ2 (Γs (i + 1)) G2 H2 → Acc K G2 H2 p b' → D'.nx σ2 H2) → t D' σ' H')
    (hd : ∀ b σ G' H', A l.length b → Same G G' → Cf K m G0 H0 σ (Γs l.length) G' H' → Acc K G' H' p b → u D σ H') : tSeq (tFor wi g t) u D σ H :=
  q_forX (fun G H b => Acc K G H p b) (fun x g => x.grow g fun z => z) c hs (fun G1 H1 g1 => a.grow g1 n) Γs A h0 a0 hg ht hd
theorem c_forL {α : Type} {l : List α} {enc : α → Dt} {Γd : Nat → α → Ga} {js : List Nat} {x0 : List Dt} (c : Cf K m G0 H0 σ Γ G H) (a : Acc K G H p x0) (n : ¬ m.μ p) (hs : SrcG K m wi Γ (· = l.map enc)) (Γs : Nat → Ga) (A : Nat → List Dt → Prop) (h0 : Γs 0 = Γ) (a0 : A 0 x0)
    (hg : ∀ i a, l[i]? = some a → TgG K g (enc a) (Γs i) (Γd i a) js)
    (ht : ∀ i a b σ' G' H' (D' : Ends), l[i]? = some a → A i b → Same G G' → Cf K m G0 H0 σ' (Γd i a) G' H' → Acc K G' H' p b → D'.rt = D.rt → (∀ b' σ2 G2 H2, A (i + 1) b' → Same G' G2 → Cf K m G0 H0 σ2 (Γs (i + 1)) G2 H2 → Acc K G2 H2 p b' → D'.nx σ2 H2) → t D' σ' H')
    (hd : ∀ b σ G' H', A l.length b → Same G G' → Cf K m G0 H0 σ (Γs l.length) G' H' → Acc K G' H' p b → D.nx σ H') : tFor wi g t D σ H :=
  c_forX (fun G H b => Acc K G H p b) (fun x g => x.grow g fun z => z) c hs (fun G1 H1 g1 => a.grow g1 n) Γs A h0 a0 hg ht hd
/-- .. a dict -/
theorem q_forT {α : Type} {l : List α} {enc : α → Dt} {Γd : Nat → α → Ga} {js : List Nat} {x0 : List (List Key × Dt)} (c : Cf K m G0 H0 σ Γ G H) (a : AccT K G H p x0) (n : ¬ m.μ p) (hs : SrcG K m wi Γ (· = l.map enc)) (Γs : Nat → Ga) (A : Nat → List (List Key × Dt) → Prop) (h0 : Γs 0 = Γ) (a0 : A 0 x0)
    (hg : ∀ i a, l[i]? = some a → TgG K g (enc a) (Γs i) (Γd i a) js)
    (ht : ∀ i a b σ' G' H' (D' : Ends), l[i]? = some a → A i b → Same G G' → Cf K m G0 H0 σ' (Γd i a) G' H' → AccT K G' H' p b → D'.rt = D.rt → (∀ b' σ2 G2 H2, A (i + 1) b' → Same G' G2 → Cf K m G0 H0 σ2 (Γs (i + 1)) G2 H2 → AccT K G2 H2 p b' → D'.nx σ2 H2) → t D' σ' H')
    (hd : ∀ b σ G' H', A l.length b → Same G G' → Cf K m G0 H0 σ (Γs l.length) G' H' → AccT K G' H' p b → u D σ H') : tSeq (tFor wi g t) u D σ H :=
  q_forX (fun G H b => AccT K G H p b) (fun x g => x.grow g fun z => z) c hs (fun G1 H1 g1 => a.grow g1 n) Γs A h0 a0 hg ht hd
theorem c_forT {α : Type} {l : List α} {enc : α → Dt} {Γd : Nat → α → Ga} {js : List Nat} {x0 : List (List Key × Dt)} (c : Cf K m G0 H0 σ Γ G H) (a : AccT K G H p x0) (n : ¬ m.μ p) (hs : SrcG K m wi Γ (· = l.map enc)) (Γs : Nat → Ga) (A : Nat → List (List Key × Dt) → Prop) (h0 : Γs 0 = Γ) (a0 : A 0 x0)
    (hg : ∀ i a, l[i]? = some a → TgG K g (enc a) (Γs i) (Γd i a) js)
    (ht : ∀ i a b σ' G' H' (D' : Ends), l[i]? = some a → A i b → Same G G' → Cf K m G0 H0 σ' (Γd i a) G' H' → AccT K G' H' p b → D'.rt = D.rt → (∀ b' σ2 G2 H2, A (i + 1) b' → Same G' G2 → Cf K m G0 H0 σ2 (Γs (i + 1)) G2 H2 → AccT K G2 H2 p b' → D'.nx σ2 H2) → t D' σ' H')
    (hd : ∀ b σ G' H', A l.length b → Same G G' → Cf K m G0 H0 σ (Γs l.length) G' H' → AccT K G' H' p b → D.nx σ H') : tFor wi g t D σ H :=
  c_forX (fun G H b => AccT K G H p b) (fun x g => x.grow g fun z => z) c hs (fun G1 H1 g1 => a.grow g1 n) Γs A h0 a0 hg ht hd
/-! ### a list, a dict read though it isn't known -/
def holdL (K : PySem.W.Frag) (p : Addr) (vs : List V) (ds : List Dt) : Mu where
  μ := (· = p)
  M := fun G H => G p = none ∧ H p = some (.lst vs) ∧ Dvs K G vs ds
  there := fun h e => by subst e; rw [h.2.1]; trivial
  out := fun h e => by subst e; exact h.1
  st := fun s1 s2 h1 h2 h => ⟨h2 p rfl, by rw [h1 p rfl]; exact h.2.1, h.2.2.mono s1⟩
def holdT (K : PySem.W.Frag) (p : Addr) (vs : List (List Key × V)) (ds : List (List Key × Dt)) : Mu where
  μ := (· = p)
  M := fun G H => G p = none ∧ H p = some (.dT vs) ∧ DvM K G vs ds
  there := fun h e => by subst e; rw [h.2.1]; trivial
  out := fun h e => by subst e; exact h.1
  st := fun s1 s2 h1 h2 h => ⟨h2 p rfl, by rw [h1 p rfl]; exact h.2.1, h.2.2.mono s1⟩
theorem Grow.held {o : HO} (x : Grow (fun a => a = p) G H G' H') (h : H p = some o) (h' : H' p = some o) : Grow Pure G H G' H' := by
  refine ⟨x.g, fun a u _ e => ?_, x.dom, x.sub, x.new, x.mv⟩
  by_cases q : a = p
  · subst q; rw [h] at e; rw [h']; exact e
  · exact x.h a u q e
/-- an expression read while the list at p isn't known -/
theorem Cf.evL {ds : List Dt} (c : Cf K still G0 H0 σ Γ G H) (a : Acc K G H p ds) (h : ∀ vs, vs.length = ds.length → EvG K (holdL K p vs ds) te Γ P) {Q : VK} (k : ∀ v d G' H', P d → Cf K still G0 H0 σ Γ G' H' → Grow Pure G H G' H' → Acc K G' H' p ds → Dv K G' v d → Q v H') : te σ H Q := by
  obtain ⟨vs, e, r⟩ := a.at_
  refine h vs r.length σ G H c.sl c.gh ⟨a.out, e, r⟩ Q fun v d G' H' pd g M rv => ?_
  have g2 : Grow Pure G H G' H' := Grow.held g e M.2.1
  exact k v d G' H' pd ⟨c.sl.mono g.g, g.sub, trivial, c.gr.trans g2⟩ g2 ⟨M.1, vs, M.2⟩ rv
theorem Cf.etL {tt : TT} {B : Bool → Prop} {ds : List Dt} (c : Cf K still G0 H0 σ Γ G H) (a : Acc K G H p ds) (h : ∀ vs, vs.length = ds.length → EtG K (holdL K p vs ds) tt Γ B) {Q : Bool → Hp → Prop} (k : ∀ b G' H', B b → Cf K still G0 H0 σ Γ G' H' → Grow Pure G H G' H' → Acc K G' H' p ds → Q b H') : tt σ H Q := by
  obtain ⟨vs, e, r⟩ := a.at_
  refine h vs r.length σ G H c.sl c.gh ⟨a.out, e, r⟩ Q fun b G' H' pd g M => ?_
  have g2 : Grow Pure G H G' H' := Grow.held g e M.2.1
  exact k b G' H' pd ⟨c.sl.mono g.g, g.sub, trivial, c.gr.trans g2⟩ g2 ⟨M.1, vs, M.2⟩
theorem Cf.evT {ds : List (List Key × Dt)} (c : Cf K still G0 H0 σ Γ G H) (a : AccT K G H p ds) (h : ∀ vs, EvG K (holdT K p vs ds) te Γ P) {Q : VK} (k : ∀ v d G' H', P d → Cf K still G0 H0 σ Γ G' H' → Grow Pure G H G' H' → AccT K G' H' p ds → Dv K G' v d → Q v H') : te σ H Q := by
  obtain ⟨vs, e, r⟩ := a.at_
  refine h vs σ G H c.sl c.gh ⟨a.out, e, r⟩ Q fun v d G' H' pd g M rv => ?_
  have g2 : Grow Pure G H G' H' := Grow.held g e M.2.1
  exact k v d G' H' pd ⟨c.sl.mono g.g, g.sub, trivial, c.gr.trans g2⟩ g2 ⟨M.1, vs, M.2⟩ rv
/-- xs[-1] of it -/
theorem ev_lastAcc {i : Nat} {vs : List V} {ds : List Dt} {d : Dt} (hi : Γ[i]? = some (some (.raw (.ref p)))) (e : ds[ds.length - 1]? = some d) (hj : Ev K (holdL K p vs ds) tb Γ (.int (-1))) : Ev K (holdL K p vs ds) (tOp (rIxL K) (tVar i) tb) Γ d := fun σ G H x s M Q k => by
  obtain ⟨w, e1, e2⟩ := x.at_ i _ hi
  obtain rfl := e2.raw_inv
  refine ⟨_, e1, hj σ G H x s M _ fun y d' G1 H1 p1 g1 M1 r1 => ?_⟩
  subst p1
  obtain rfl := r1.int_inv
  obtain ⟨v, hv, rv⟩ := M1.2.2.get e
  rw [← M1.2.2.length] at hv
  exact ⟨p, vs, -1, v, rfl, rfl, SqL.of M1.2.1, atI_neg1 hv, k v d G1 H1 rfl g1 M1 rv⟩
/-- d.get(k, e) of it -/
theorem ev_dget2Acc {i : Nat} {vs : List (List Key × V)} {ds : List (List Key × Dt)} {q : Tx × Tx} {d : Dt} {ty : TE} (hi : Γ[i]? = some (some (.raw (.ref p)))) (h2 : Ev K (holdT K p vs ds) ty Γ (stD q)) (h3 : Ev K (holdT K p vs ds) ta Γ d) : Ev K (holdT K p vs ds) (tDGet2 (tVar i) ty ta) Γ ((lk ds (kT q)).getD d) := fun σ G H x s M Q kk => by
  obtain ⟨w, e1, e2⟩ := x.at_ i _ hi
  obtain rfl := e2.raw_inv
  refine ⟨_, e1, p, rfl, .inr ⟨vs, .inl M.2.1⟩, h2 σ G H x s M _ fun v2 d2 G2 H2 p2 g2 M2 r2 => h3 σ G2 H2 (x.mono g2.g) g2.sub M2 _ fun v3 d3 G3 H3 p3 g3 M3 r3 => ?_⟩
  subst p2 p3
  have r2' : Dv K G2 v2 (.tup ((kT q).map kD)) := by rw [kT_D]; exact r2
  obtain ⟨b, rfl, hb⟩ := (r2'.mono g3.g).key_at g3.sub
  refine ⟨valV vs (kT q), .inr ⟨vs, kT q, b, .inl M3.2.1, rfl, hb, rfl⟩, ?_⟩
  rcases M3.2.2.look (kT q) with ⟨z1, z2⟩ | ⟨v, d', z1, z2, z3⟩
  · rw [z1]; exact kk v3 _ G3 H3 (by rw [z2]; rfl) (g2.trans g3) M3 r3
  · rw [z1]; exact kk v _ G3 H3 (by rw [z2]; rfl) (g2.trans g3) M3 z3
/-- xs = [..] that is to change -/
theorem q_lstH {i : Nat} {t : TA} {ds : List Dt} (c : Cf K m G0 H0 σ Γ G H) (h : Ea K m t Γ ds) (hl : ds.length ≤ 100000) (k : ∀ p σ' G' H', H0 p = none → ¬ m.μ p → Acc K G' H' p ds → Cf K m G0 H0 σ' (Γ.set i (some (.raw (.ref p)))) G' H' → Grow m.μ G H G' H' → u D σ' H') : tSeq (tAsg (tLst t) (gName i)) u D σ H :=
  h σ G H c.sl c.gh c.mm _ fun vs ds' G1 H1 p1 g1 M1 r1 => by
    subst p1
    have c1 : Cf K m G0 H0 σ Γ G1 H1 := ⟨c.sl.mono g1.g, g1.sub, M1, c.gr.trans g1⟩
    refine ⟨by rw [r1.length]; exact Nat.le_trans hl (by decide), fun p hp => k p _ _ _ (c1.free hp) (c1.notMu hp) ⟨c1.gh.free hp, vs, upd_same, r1⟩ ((c1.hide hp).put i (.raw _)) (g1.trans (Grow.hide c1.gh hp))⟩
/-- xs = list(ys) that is to change -/
theorem q_listH {i : Nat} {ds : List Dt} (c : Cf K m G0 H0 σ Γ G H) (h : EvG K m te Γ fun d => d = .lst ds ∨ d = .tup ds) (k : ∀ p σ' G' H', H0 p = none → ¬ m.μ p → Acc K G' H' p ds → Cf K m G0 H0 σ' (Γ.set i (some (.raw (.ref p)))) G' H' → Grow m.μ G H G' H' → u D σ' H') : tSeq (tAsg (tCB (rListOf K) (tCons te tNil)) (gName i)) u D σ H :=
  h σ G H c.sl c.gh c.mm _ fun v d G1 H1 p1 g1 M1 r1 => by
    have c1 : Cf K m G0 H0 σ Γ G1 H1 := ⟨c.sl.mono g1.g, g1.sub, M1, c.gr.trans g1⟩
    obtain ⟨a, xs, rfl, hx, rs⟩ : ∃ a xs, v = .ref a ∧ (SqL K H1 a xs ∨ SqT K H1 a xs) ∧ Dvs K G1 xs ds := by
      rcases p1 with e | e
      · rw [e] at r1
        obtain ⟨a, xs, rfl, ga, ra⟩ := r1.lst_inv
        exact ⟨a, xs, rfl, .inl (SqL.of (g1.sub _ _ ga)), ra⟩
      · rw [e] at r1
        obtain ⟨a, xs, rfl, ga, ra⟩ := r1.tup_inv
        exact ⟨a, xs, rfl, .inr (SqT.of (g1.sub _ _ ga)), ra⟩
    exact ⟨a, xs, rfl, hx, fun p hp => k p _ _ _ (c1.free hp) (c1.notMu hp) ⟨c1.gh.free hp, xs, upd_same, rs⟩ ((c1.hide hp).put i (.raw _)) (g1.trans (Grow.hide c1.gh hp))⟩
end
end K70
/-! Groups: a dict of lists that are still to grow (setdefault(..).append(..)). -/
namespace K70
open PySem PySem.Spec PyProof.Rows L2
structure AccG (G H : Hp) (p : Addr) (gs : List (Key × Addr × List Tx)) : Prop where
  out : G p = none
  at_ : H p = some (.dK (gs.map fun g => (g.1, V.ref g.2.1)))
  nd : (gs.map (·.2.1)).Nodup
  kn : (gs.map (·.1)).Nodup
  np : ∀ g ∈ gs, p ≠ g.2.1
  each : ∀ g ∈ gs, G g.2.1 = none ∧ H g.2.1 = some (.lst (g.2.2.map fun x => V.str (tx x)))
def addG (l : List (Key × List Tx)) (k : Key) (t : Tx) : List (Key × List Tx) := if l.any (fun g => decide (g.1 = k)) then l.map (fun g => if g.1 = k then (g.1, g.2 ++ [t]) else g) else l ++ [(k, [t])]
def stripG (gs : List (Key × Addr × List Tx)) : List (Key × List Tx) := gs.map fun g => (g.1, g.2.2)
section
variable {K : PySem.W.Frag} {G0 H0 G H G' H' : Hp} {σ : L2.St} {Γ : Ga} {D : Ends} {t u : TS} {te ty : TE} {p : Addr} {gs : List (Key × Addr × List Tx)}
theorem AccG.grow (a : AccG G H p gs) (g : Grow Pure G H G' H') : AccG G' H' p gs where
  out := g.new p a.out (by rw [a.at_]; trivial)
  at_ := g.same _ _ a.at_
  nd := a.nd
  kn := a.kn
  np := a.np
  each := fun q hq => ⟨g.new _ (a.each q hq).1 (by rw [(a.each q hq).2]; trivial), g.same _ _ (a.each q hq).2⟩
theorem valG {k : Key} : ∀ {gs : List (Key × Addr × List Tx)}, (∃ g ∈ gs, g.1 = k ∧ valV (gs.map fun g => (g.1, V.ref g.2.1)) k = some (.ref g.2.1)) ∨ (valV (gs.map fun g => (g.1, V.ref g.2.1)) k = none ∧ ∀ g ∈ gs, g.1 ≠ k)
  | [] => .inr ⟨rfl, fun _ h => nomatch h⟩
  | g :: gs => by
    by_cases e : g.1 = k
    · exact .inl ⟨g, List.mem_cons_self, e, valV_pos (p := (g.1, V.ref g.2.1)) e⟩
    · rcases valG (k := k) (gs := gs) with ⟨q, hq, e2, e3⟩ | ⟨e2, e3⟩
      · exact .inl ⟨q, List.mem_cons_of_mem _ hq, e2, (valV_neg (p := (g.1, V.ref g.2.1)) e).trans e3⟩
      · refine .inr ⟨(valV_neg (p := (g.1, V.ref g.2.1)) e).trans e2, fun q hq => ?_⟩
        rcases List.mem_cons.mp hq with z | z
        · rw [z]; exact e
        · exact e3 q z
/-- the group of k, with t behind -/
def moreG (gs : List (Key × Addr × List Tx)) (k : Key) (t : Tx) : List (Key × Addr × List Tx) := gs.map fun g => if g.1 = k then (g.1, g.2.1, g.2.2 ++ [t]) else g
theorem moreG_key (gs : List (Key × Addr × List Tx)) (k : Key) (t : Tx) : (moreG gs k t).map (·.1) = gs.map (·.1) := by
  unfold moreG
  rw [List.map_map]
  apply List.map_congr_left
  intro g _
  show (if g.1 = k then (g.1, g.2.1, g.2.2 ++ [t]) else g).1 = g.1
  split <;> rfl
theorem moreG_addr (gs : List (Key × Addr × List Tx)) (k : Key) (t : Tx) : (moreG gs k t).map (·.2.1) = gs.map (·.2.1) := by
  unfold moreG
  rw [List.map_map]
  apply List.map_congr_left
  intro g _
  show (if g.1 = k then (g.1, g.2.1, g.2.2 ++ [t]) else g).2.1 = g.2.1
  split <;> rfl
theorem moreG_pair (gs : List (Key × Addr × List Tx)) (k : Key) (t : Tx) : ((moreG gs k t).map fun g => (g.1, V.ref g.2.1)) = gs.map fun g => (g.1, V.ref g.2.1) := by
  unfold moreG
  rw [List.map_map]
  apply List.map_congr_left
  intro g _
  show ((if g.1 = k then (g.1, g.2.1, g.2.2 ++ [t]) else g).1, V.ref (if g.1 = k then (g.1, g.2.1, g.2.2 ++ [t]) else g).2.1) = _
  split <;> rfl
theorem moreG_strip {gs : List (Key × Addr × List Tx)} {k : Key} {t : Tx} {g : Key × Addr × List Tx} (hg : g ∈ gs) (e : g.1 = k) : stripG (moreG gs k t) = addG (stripG gs) k t := by
  have h : (stripG gs).any (fun g => decide (g.1 = k)) = true := List.any_eq_true.mpr ⟨(g.1, g.2.2), List.mem_map.mpr ⟨g, hg, rfl⟩, decide_eq_true e⟩
  unfold addG
  rw [if_pos h]
  unfold stripG moreG
  rw [List.map_map, List.map_map]
  apply List.map_congr_left
  intro q _
  show ((if q.1 = k then (q.1, q.2.1, q.2.2 ++ [t]) else q).1, (if q.1 = k then (q.1, q.2.1, q.2.2 ++ [t]) else q).2.2) = if q.1 = k then (q.1, q.2.2 ++ [t]) else (q.1, q.2.2)
  split <;> rfl
theorem addG_new {gs : List (Key × Addr × List Tx)} {k : Key} {t : Tx} (h : ∀ g ∈ gs, g.1 ≠ k) : addG (stripG gs) k t = stripG gs ++ [(k, [t])] := by
  unfold addG
  refine if_neg fun z => ?_
  obtain ⟨x, hx, e⟩ := List.any_eq_true.mp z
  obtain ⟨g, hg, rfl⟩ := List.mem_map.mp hx
  exact h g hg (of_decide_eq_true e)
theorem inj_of_nodup {α β : Type} {f : α → β} : ∀ {l : List α}, (l.map f).Nodup → ∀ {a b : α}, a ∈ l → b ∈ l → f a = f b → a = b
  | [], _, _, _, h, _, _ => nomatch h
  | x :: l, nd, a, b, ha, hb, e => by
    rw [List.map_cons, List.nodup_cons] at nd
    rcases List.mem_cons.mp ha with h1 | h1
    · rcases List.mem_cons.mp hb with h2 | h2
      · rw [h1, h2]
      · exact absurd (List.mem_map.mpr ⟨b, h2, by rw [← e, h1]⟩) nd.1
    · rcases List.mem_cons.mp hb with h2 | h2
      · exact absurd (List.mem_map.mpr ⟨a, h1, by rw [e, h2]⟩) nd.1
      · exact inj_of_nodup nd.2 h1 h2 e
/-- found.setdefault(k, []).append(t) -/
theorem c_grp {i : Nat} {k : Key} {t : Tx} (c : Cf K still G0 H0 σ Γ G H) (hi : Γ[i]? = some (some (.raw (.ref p)))) (a : AccG G H p gs) (hp : H0 p = none) (hq : ∀ g ∈ gs, H0 g.2.1 = none) (hl : gs.length < 100000) (hls : ∀ g ∈ gs, g.2.2.length < 100000)
    (hk : Ev K still ty Γ (kD k)) (ht : Ev K still te Γ (.str t))
    (kk : ∀ gs' G' H', AccG G' H' p gs' → (∀ g ∈ gs', H0 g.2.1 = none) → stripG gs' = addG (stripG gs) k t → Cf K still G0 H0 σ Γ G' H' → Same G G' → D.nx σ H') :
    tDrop (tBM K "list" rAppend (tDSetd (tVar i) ty (tLst tNil)) (tCons te tNil)) D σ H := by
  obtain ⟨w, e1, e2⟩ := c.sl.at_ i _ hi
  obtain rfl := e2.raw_inv
  refine ⟨_, e1, p, rfl, .inl ⟨_, .inl a.at_⟩, c.ev hk fun v2 d2 G2 H2 p2 c2 g2 r2 => ?_⟩
  subst p2
  obtain rfl := r2.kV_inv
  have a2 := a.grow g2
  refine ⟨Nat.zero_le _, fun q hq0 => ?_⟩
  have c3 := c2.hide (o := .lst []) hq0
  have g3 : Grow Pure G2 H2 G2 (upd H2 q (.lst [])) := Grow.hide c2.gh hq0
  have a3 := a2.grow g3
  refine ⟨_, k, a3.at_, rfl, by rw [List.length_map]; exact Nat.lt_of_lt_of_le hl (by decide), fun v hv => ?_, fun hv => ?_⟩
  · rcases valG (k := k) (gs := gs) with ⟨g, hg, ek, ev⟩ | ⟨ev, _⟩
    · rw [ev] at hv
      cases hv
      have hg3 := (a3.each g hg).2
      refine ⟨.inl ⟨rfl, _, .inl (.inl hg3)⟩, c3.ev ht fun v4 d4 G4 H4 p4 c4 g4 r4 => ?_⟩
      subst p4
      obtain rfl := r4.str_inv
      have a4 := a3.grow g4
      have hg4 := a4.each g hg
      refine ⟨g.2.1, _, _, rfl, rfl, hg4.2, by rw [List.length_map]; exact Nat.lt_of_lt_of_le (hls g hg) (by decide), ?_⟩
      refine kk (moreG gs k t) G4 _ ⟨a4.out, ?_, by rw [moreG_addr]; exact a.nd, by rw [moreG_key]; exact a.kn, fun x hx => ?_, fun x hx => ?_⟩ (fun x hx => ?_) (moreG_strip hg ek) (c4.set (hq g hg) hg4.1 (fun z => z)) (g2.g.trans g4.g)
      · rw [upd_ne (a.np g hg), moreG_pair]; exact a4.at_
      · obtain ⟨y, hy, rfl⟩ := List.mem_map.mp hx
        split
        · exact a.np y hy
        · exact a.np y hy
      · obtain ⟨y, hy, rfl⟩ := List.mem_map.mp hx
        by_cases z : y.1 = k
        · rw [if_pos z]
          have yg : y = g := inj_of_nodup a.kn hy hg (z.trans ek.symm)
          subst yg
          refine ⟨hg4.1, ?_⟩
          rw [upd_same, List.map_append]; rfl
        · rw [if_neg z]
          have ne : y.2.1 ≠ g.2.1 := fun w => z (by rw [inj_of_nodup a.nd hy hg w]; exact ek)
          exact ⟨(a4.each y hy).1, by rw [upd_ne ne]; exact (a4.each y hy).2⟩
      · obtain ⟨y, hy, rfl⟩ := List.mem_map.mp hx
        split
        · exact hq y hy
        · exact hq y hy
    · rw [ev] at hv; cases hv
  · have nk : ∀ g ∈ gs, g.1 ≠ k := by
      rcases valG (k := k) (gs := gs) with ⟨g, hg, ek, ev⟩ | ⟨_, e⟩
      · rw [ev] at hv; cases hv
      · exact e
    have hpq : p ≠ q := fun z => by rw [← z, a2.at_] at hq0; cases hq0
    have q0 : H0 q = none := c2.free hq0
    have gq : G2 q = none := c2.gh.free hq0
    rw [putK_new _ hv]
    generalize hkv : ((gs.map fun g => (g.1, V.ref g.2.1)) ++ [(k, V.ref q)]) = kvs
    have c4 := c3.set (o := .dK kvs) hp a2.out (fun z => z)
    have hq4 : upd (upd H2 q (.lst [])) p (.dK kvs) q = some (.lst []) := by rw [upd_ne (Ne.symm hpq), upd_same]
    refine ⟨.inl ⟨rfl, _, .inl (.inl hq4)⟩, c4.ev ht fun v4 d4 G4 H4 p4 c5 g4 r4 => ?_⟩
    subst p4
    obtain rfl := r4.str_inv
    have hq5 := g4.same _ _ hq4
    have nq : ∀ g ∈ gs, g.2.1 ≠ q := fun g hg z => by
      have := (a2.each g hg).2
      rw [z, hq0] at this; cases this
    have gq4 : G4 q = none := g4.new q gq (by rw [hq4]; trivial)
    have hp4 : H4 p = some (.dK kvs) := g4.same _ _ upd_same
    have each4 : ∀ g ∈ gs, G4 g.2.1 = none ∧ H4 g.2.1 = some (.lst (g.2.2.map fun x => V.str (tx x))) := fun g hg => by
      have b := a3.each g hg
      have b2 : upd (upd H2 q (.lst [])) p (.dK kvs) g.2.1 = some (.lst (g.2.2.map fun x => V.str (tx x))) := by rw [upd_ne (fun z => a.np g hg z.symm)]; exact b.2
      exact ⟨g4.new _ b.1 (by rw [b2]; trivial), g4.same _ _ b2⟩
    refine ⟨q, [], _, rfl, rfl, hq5, by decide, ?_⟩
    refine kk (gs ++ [(k, q, [t])]) G4 _ ⟨g4.new p a2.out (by rw [upd_same]; trivial), ?_, ?_, ?_, fun x hx => ?_, fun x hx => ?_⟩ (fun x hx => ?_) ?_ (c5.set q0 gq4 (fun z => z)) (g2.g.trans g4.g)
    · rw [upd_ne hpq, hp4, ← hkv, List.map_append]; rfl
    · rw [List.map_append, List.nodup_append]
      refine ⟨a.nd, by simp, fun x hx y hy => ?_⟩
      obtain ⟨g, hg, rfl⟩ := List.mem_map.mp hx
      have : y = q := by simpa using hy
      rw [this]; exact nq g hg
    · rw [List.map_append, List.nodup_append]
      refine ⟨a.kn, by simp, fun x hx y hy => ?_⟩
      obtain ⟨g, hg, rfl⟩ := List.mem_map.mp hx
      have : y = k := by simpa using hy
      rw [this]; exact nk g hg
    · rcases List.mem_append.mp hx with hx | hx
      · exact a.np x hx
      · have : x = (k, q, [t]) := by simpa using hx
        rw [this]; exact hpq
    · rcases List.mem_append.mp hx with hx | hx
      · exact ⟨(each4 x hx).1, by rw [upd_ne (nq x hx)]; exact (each4 x hx).2⟩
      · have : x = (k, q, [t]) := by simpa using hx
        rw [this]
        exact ⟨gq4, upd_same⟩
    · rcases List.mem_append.mp hx with hx | hx
      · exact hq x hx
      · have : x = (k, q, [t]) := by simpa using hx
        rw [this]; exact q0
    · rw [addG_new nk]
      unfold stripG
      rw [List.map_append]; rfl
/-- what a list of new things holds becomes known -/
def knownBy (G H : Hp) (S : List Addr) : Hp := fun b => if b ∈ S then H b else G b
theorem knownBy_in {S : List Addr} {b : Addr} (h : b ∈ S) : knownBy G H S b = H b := if_pos h
theorem knownBy_out {S : List Addr} {b : Addr} (h : b ∉ S) : knownBy G H S b = G b := if_neg h
theorem knownBy_same {S : List Addr} (hS : ∀ b ∈ S, G b = none) : Same G (knownBy G H S) := fun b o e => by
  by_cases h : b ∈ S
  · rw [hS b h] at e; cases e
  · rw [knownBy_out h]; exact e
theorem Cf.knowAll {m : Mu} {S : List Addr} (c : Cf K m G0 H0 σ Γ G H) (hS : ∀ b ∈ S, G b = none ∧ H0 b = none) (hm : m.M G H → m.M (knownBy G H S) H) : Cf K m G0 H0 σ Γ (knownBy G H S) H := by
  have s := knownBy_same (H := H) fun b hb => (hS b hb).1
  refine ⟨c.sl.mono s, fun b o e => ?_, hm c.mm, ⟨c.gr.g.trans s, c.gr.h, c.gr.dom, fun b o e => ?_, fun b n z => ?_, c.gr.mv⟩⟩
  · by_cases h : b ∈ S
    · rw [knownBy_in h] at e; exact e
    · rw [knownBy_out h] at e; exact c.gh _ _ e
  · by_cases h : b ∈ S
    · rw [knownBy_in h] at e; exact e
    · rw [knownBy_out h] at e; exact c.gh _ _ e
  · by_cases h : b ∈ S
    · rw [(hS b h).2] at z; exact z.elim
    · rw [knownBy_out h]; exact c.gr.new b n z
theorem Cf.reput {m : Mu} {i : Nat} {v : V} {d : Dt} (c : Cf K m G0 H0 σ Γ G H) (e1 : σ[i]? = some (some v)) (r : Dv K G v d) : Cf K m G0 H0 σ (Γ.set i (some d)) G H := by
  have s := c.sl.set i r
  have : σ.set i (some v) = σ := by
    apply List.ext_getElem?
    intro j
    by_cases hj : i = j
    · subst hj; rw [List.getElem?_set_self (List.getElem?_eq_some_iff.mp e1).1, e1]
    · rw [List.getElem?_set_ne hj]
  rw [this] at s
  exact ⟨s, c.gh, c.mm, c.gr⟩
def grpD (l : List (Key × List Tx)) : Dt := .dK (l.map fun g => (g.1, .lst (txs g.2)))
theorem dvs_txs : ∀ {l : List Tx}, Dvs K G (l.map fun x => V.str (tx x)) (txs l)
  | [] => .nil
  | _ :: _ => .cons (.str _) dvs_txs
theorem grp_dvm : ∀ {gs : List (Key × Addr × List Tx)}, (∀ g ∈ gs, G g.2.1 = some (.lst (g.2.2.map fun x => V.str (tx x)))) → DvM K G (gs.map fun g => (g.1, V.ref g.2.1)) ((stripG gs).map fun g => (g.1, Dt.lst (txs g.2)))
  | [], _ => .nil
  | g :: gs, h => .cons (.lst (h g List.mem_cons_self) dvs_txs) (grp_dvm fun q hq => h q (List.mem_cons_of_mem _ hq))
theorem Cf.doneG {i : Nat} (c : Cf K still G0 H0 σ Γ G H) (hi : Γ[i]? = some (some (.raw (.ref p)))) (a : AccG G H p gs) (hp : H0 p = none) (hq : ∀ g ∈ gs, H0 g.2.1 = none) : ∃ G', Cf K still G0 H0 σ (Γ.set i (some (grpD (stripG gs)))) G' H := by
  obtain ⟨w, e1, e2⟩ := c.sl.at_ i _ hi
  obtain rfl := e2.raw_inv
  have c2 := c.knowAll (S := p :: gs.map (·.2.1)) (fun b hb => by
    rcases List.mem_cons.mp hb with z | z
    · rw [z]; exact ⟨a.out, hp⟩
    · obtain ⟨g, hg, rfl⟩ := List.mem_map.mp z
      exact ⟨(a.each g hg).1, hq g hg⟩) (fun z => z)
  refine ⟨_, c2.reput e1 (.dK (kvs := gs.map fun g => (g.1, V.ref g.2.1)) ((knownBy_in List.mem_cons_self).trans a.at_) (grp_dvm fun g hg => ?_))⟩
  rw [knownBy_in (List.mem_cons_of_mem _ (List.mem_map.mpr ⟨g, hg, rfl⟩))]
  exact (a.each g hg).2
/-- x = e, e read while the list at p isn't known -/
theorem q_asgL {i : Nat} {ds : List Dt} {P : Dt → Prop} (c : Cf K still G0 H0 σ Γ G H) (a : Acc K G H p ds) (h : ∀ vs, vs.length = ds.length → EvG K (holdL K p vs ds) te Γ P) (k : ∀ d σ' G' H', P d → Cf K still G0 H0 σ' (Γ.set i (some d)) G' H' → Same G G' → Acc K G' H' p ds → u D σ' H') : tSeq (tAsg te (gName i)) u D σ H :=
  c.evL a h fun v d G' H' pd c' g a' r => k d _ G' H' pd (c'.put i r) g.g a'
theorem c_asgL {i : Nat} {ds : List Dt} {P : Dt → Prop} (c : Cf K still G0 H0 σ Γ G H) (a : Acc K G H p ds) (h : ∀ vs, vs.length = ds.length → EvG K (holdL K p vs ds) te Γ P) (k : ∀ d σ' G' H', P d → Cf K still G0 H0 σ' (Γ.set i (some d)) G' H' → Same G G' → Acc K G' H' p ds → D.nx σ' H') : tAsg te (gName i) D σ H :=
  c.evL a h fun v d G' H' pd c' g a' r => k d _ G' H' pd (c'.put i r) g.g a'
theorem q_asgT' {i : Nat} {ds : List (List Key × Dt)} {P : Dt → Prop} (c : Cf K still G0 H0 σ Γ G H) (a : AccT K G H p ds) (h : ∀ vs, EvG K (holdT K p vs ds) te Γ P) (k : ∀ d σ' G' H', P d → Cf K still G0 H0 σ' (Γ.set i (some d)) G' H' → Same G G' → AccT K G' H' p ds → u D σ' H') : tSeq (tAsg te (gName i)) u D σ H :=
  c.evT a h fun v d G' H' pd c' g a' r => k d _ G' H' pd (c'.put i r) g.g a'
theorem putD_new {κ β : Type} [DecidableEq κ] {l : List (κ × β)} {k : κ} {v : β} (h : ∀ q ∈ l, q.1 ≠ k) : putD l k v = l ++ [(k, v)] := by
  unfold putD
  refine if_neg fun z => ?_
  obtain ⟨x, hx, e⟩ := List.any_eq_true.mp z
  exact h x hx (of_decide_eq_true e)
theorem ev_revL {m : Mu} {ds : List Dt} (h : Ev K m te Γ (.lst ds)) : Ev K m (tRevL K te) Γ (.lst ds.reverse) := fun σ G H x s M Q k =>
  h σ G H x s M _ fun v d G1 H1 p1 g1 M1 r1 => by
    subst p1
    obtain ⟨a, xs, rfl, ga, ra⟩ := r1.lst_inv
    refine ⟨a, xs, rfl, SqL.of (g1.sub _ _ ga), fun q hq => ?_⟩
    have g : Grow Pure G1 H1 (upd G1 q (.lst xs.reverse)) (upd H1 q (.lst xs.reverse)) := Grow.grow g1.sub hq
    exact k _ _ _ _ rfl (g1.trans g.lift) (Mu.pure g M1) (.lst upd_same (ra.reverse.mono g.g))
/-! what the groups hold -/
def waysM (f : Tx → Tx) (L : List Tx) : List (Key × List Tx) := L.foldl (fun l t => addG l (.inr (tx (f t))) t) []
theorem addG_len (l : List (Key × List Tx)) (k : Key) (t : Tx) : (addG l k t).length ≤ l.length + 1 := by
  unfold addG
  split
  · rw [List.length_map]; omega
  · rw [List.length_append]; simp
theorem addG_each {l : List (Key × List Tx)} {k : Key} {t : Tx} {n : Nat} (h : ∀ g ∈ l, g.2.length ≤ n) : ∀ g ∈ addG l k t, g.2.length ≤ n + 1 := by
  intro g hg
  unfold addG at hg
  split at hg
  · obtain ⟨q, hq, rfl⟩ := List.mem_map.mp hg
    have := h q hq
    split
    · rw [List.length_append]; simp; omega
    · omega
  · rcases List.mem_append.mp hg with z | z
    · have := h g z; omega
    · rw [List.mem_singleton.mp z]; simp
theorem waysM_take {f : Tx → Tx} {L : List Tx} {i : Nat} {t : Tx} (h : L[i]? = some t) : waysM f (L.take (i + 1)) = addG (waysM f (L.take i)) (.inr (tx (f t))) t := by
  unfold waysM
  rw [List.take_add_one, h]
  simp only [Option.toList_some, List.foldl_append]
  rfl
theorem waysM_few (f : Tx → Tx) (L : List Tx) : (waysM f L).length ≤ L.length ∧ ∀ g ∈ waysM f L, g.2.length ≤ L.length := by
  have h : ∀ i, i ≤ L.length → (waysM f (L.take i)).length ≤ i ∧ ∀ g ∈ waysM f (L.take i), g.2.length ≤ i := by
    intro i
    induction i with
    | zero => intro _; exact ⟨Nat.le_refl 0, fun g hg => nomatch hg⟩
    | succ i ih =>
      intro hi
      obtain ⟨h1, h2⟩ := ih (by omega)
      obtain ⟨t, ht⟩ : ∃ t, L[i]? = some t := ⟨_, List.getElem?_eq_getElem hi⟩
      rw [waysM_take ht]
      exact ⟨Nat.le_trans (addG_len _ _ _) (by omega), addG_each h2⟩
  have := h L.length (Nat.le_refl _)
  rw [List.take_length] at this
  exact this
theorem lk_addG {l : List (Key × List Tx)} {k j : Key} {t : Tx} : lk (addG l k t) j = if j = k then some (((lk l k).getD []) ++ [t]) else lk l j := by
  have ind : ∀ l : List (Key × List Tx), l.any (fun g => decide (g.1 = k)) = true → lk (l.map (fun g => if g.1 = k then (g.1, g.2 ++ [t]) else g)) j = if j = k then some (((lk l k).getD []) ++ [t]) else lk l j := by
    intro l
    induction l with
    | nil => intro h; cases h
    | cons g r ih =>
      obtain ⟨a, b⟩ := g
      intro h
      rw [List.map_cons]
      by_cases e : a = k
      · subst e
        rw [if_pos rfl]
        by_cases ej : j = a
        · subst ej
          rw [if_pos rfl, lk_pos, lk_pos]; rfl
        · rw [if_neg ej, lk_neg (fun z => ej z.symm), lk_neg (fun z => ej z.symm)]
          by_cases h2 : r.any (fun g => decide (g.1 = a)) = true
          · rw [ih h2, if_neg ej]
          · have : (r.map fun g => if g.1 = a then (g.1, g.2 ++ [t]) else g) = r := by
              rw [List.map_congr_left (g := id)]
              · exact List.map_id _
              · intro x hx
                have : x.1 ≠ a := fun z => h2 (List.any_eq_true.mpr ⟨x, hx, decide_eq_true z⟩)
                rw [if_neg this]; rfl
            rw [this]
      · rw [if_neg e]
        have h2 : r.any (fun g => decide (g.1 = k)) = true := by
          rw [List.any_cons] at h
          simpa [e] using h
        by_cases ej : a = j
        · subst ej
          rw [lk_pos, if_neg e, lk_pos]
        · rw [lk_neg ej, ih h2, lk_neg e, lk_neg ej]
  unfold addG
  split
  · rename_i h; exact ind l h
  · rename_i h
    have hn : lk l k = none := by
      unfold lk
      rw [List.find?_eq_none.mpr]
      · rfl
      · intro x hx z
        exact h (List.any_eq_true.mpr ⟨x, hx, z⟩)
    have app : ∀ l : List (Key × List Tx), lk l k = none → lk (l ++ [(k, [t])]) j = if j = k then some [t] else lk l j := by
      intro l
      induction l with
      | nil =>
        intro _
        by_cases ej : j = k
        · subst ej; rw [if_pos rfl]; exact lk_pos
        · rw [if_neg ej]; exact lk_neg (fun z => ej z.symm)
      | cons g r ih =>
        obtain ⟨a, b⟩ := g
        intro hn
        have e : a ≠ k := fun z => by subst z; rw [lk_pos] at hn; cases hn
        rw [lk_neg e] at hn
        rw [List.cons_append]
        by_cases ej : a = j
        · subst ej; rw [lk_pos, lk_pos, if_neg e]
        · rw [lk_neg ej, ih hn, lk_neg ej]
    rw [app l hn, hn]; rfl
theorem waysM_lk (f : Tx → Tx) (c : Tx) (L : List Tx) : lk (waysM f L) (.inr (tx c)) = (let F := L.filter fun t => decide (f t = c); if F = [] then none else some F) := by
  have gen : ∀ (L : List Tx) (l0 : List (Key × List Tx)), lk (L.foldl (fun l t => addG l (.inr (tx (f t))) t) l0) (.inr (tx c)) = (let F := L.filter fun t => decide (f t = c); if F = [] then lk l0 (.inr (tx c)) else some (((lk l0 (.inr (tx c))).getD []) ++ F)) := by
    intro L
    induction L with
    | nil => intro l0; rfl
    | cons t L ih =>
      intro l0
      rw [List.foldl_cons, ih, lk_addG]
      by_cases e : f t = c
      · have ek : (Sum.inr (tx c) : Key) = .inr (tx (f t)) := by rw [e]
        rw [if_pos ek, List.filter_cons_of_pos (by simpa using e)]
        simp only [Option.getD_some]
        rw [if_neg (List.cons_ne_nil _ _), ← ek]
        split
        · rename_i h; rw [h]
        · rw [List.append_assoc]; rfl
      · have ek : ¬ (Sum.inr (tx c) : Key) = .inr (tx (f t)) := fun z => e (tx_inj (Sum.inr.inj z)).symm
        rw [if_neg ek, List.filter_cons_of_neg (by simpa using e)]
  have := gen L []
  rw [lk_nil] at this
  exact this
end
end K70
/-! A comprehension of a dict whose keys are tuples (HandS.DictComp's proof, turned to these keys). -/
namespace K70
open PySem PySem.Spec PyProof.Rows L2
theorem d_dictSetT {X : Cx} {pins : List (Addr × Obj)} {σ : L2.St} {H : Hp} {s : Shared} {E : Value → Shared → Prop} {D b : Addr} {kvs : List (List Key × V)} {k : List Key} {v : V} {r : Value} {Q : Unit → Shared → Prop} (hu : X.A.units < cLine) (I : L2.Inv X pins σ H s) (hD : H D = some (.dT kvs)) (hb : H b = some (.tup (k.map kV))) (hz : kvs.length < sizeLine)
    (rv : RelV v r) (h : ∀ s', L2.Inv X pins σ (upd H D (.dT (putK kvs k v))) s' → Q () s') : wpAny (model X.prog X.w) X.A (dictSet D (.ref b) r) Q E s := by
  obtain ⟨z, hd, xs, rel, dd⟩ := dt_of I.hok hD
  have hzv : xs.length ≤ sizeLine := by rw [← Paired.length rel]; exact z
  have hl : (putK kvs k v).length ≤ sizeLine := by have := length_putK kvs k v; omega
  refine wpAny_dictSet_heap (hsz := hzv) hu (key_of I.hok hb) dd fun h' dd' hs => h _ ?_
  obtain ⟨q, es, ep, hq, h2, h3, h4, _, h5⟩ := dd'
  refine d_write I (by rw [hD]; exact True.intro) hs ⟨q, hq⟩ ⟨hl, hd, _, (rel.put k hb rv).keeps fun c ys ec => ?_, q, es, ep, hq, h2, h3, h4, h5⟩
  rw [upd_ne (ne_of ec hD (fun z => nomatch z))]
  exact ec
section
variable {X : Cx}
def tDcT (wi : TI) (g : TG) (tt : TT) (tk tv : TE) (vs : List Nat) : TE := fun σ H Q => wi σ H fun J H1 => ∀ D, H1 D = none → ∃ W : Nat → Nat → Hp → Prop, (∃ m, W 0 m (upd H1 D (.dT []))) ∧ ∀ i m H, W i m H →
  (J.stop i H ∧ Q (.ref D) H) ∨ (J.go i H ∧ ∃ Nx : Hp → Prop, (∀ H', Nx H' → ∃ m', m' < m ∧ W (i + 1) m' H') ∧ ∀ x H', J.yld i H x H' → g x (wipe σ vs) H' fun σ2 H2 => wipe σ2 vs = wipe σ vs ∧ tt σ2 H2 fun b H3 =>
    if b = true then tk σ2 H3 fun y H4 => tv σ2 H4 fun z H5 => ∃ kvs k, (∃ b, y = .ref b ∧ H5 b = some (.tup (k.map kV))) ∧ H5 D = some (.dT kvs) ∧ kvs.length < sizeLine ∧ Nx (upd H5 D (.dT (putK kvs k z))) else Nx H3)
theorem dc_coreT {pins : List (Addr × Obj)} {s : Shared} {σ : L2.St} {H : Hp} {Q : VK} {kx vx tg iter : Expr} {ifs : List Expr} {scope : Scope} {own : List (Str × Nat)} {pos pos' : Pos} {wi : TI} {g : TG} {tt : TT} {tk tv : TE} {use : Option (Value → Sem Unit)} {Qf : Value → Shared → Prop}
    (hu : X.A.units < cLine) (hc : X.calm = true) (hN : X.N.Nodup) (I : L2.Inv X pins σ H s) (hi : PI X tg iter wi) (ok : BlkOk X.N X.env.scope scope own)
    (hg : ∀ (s : Shared) (H : Hp) (C : Addr) (cl : List (Str × Addr)) (fp : List Addr), PG (X.blk s H scope (compEnvC scope cl C X.env) fp) tg g) (ht : ∀ (s : Shared) (H : Hp) (C : Addr) (cl : List (Str × Addr)) (fp : List Addr), PTs (X.blk s H scope (compEnvC scope cl C X.env) fp) ifs tt)
    (hk : ∀ (s : Shared) (H : Hp) (C : Addr) (cl : List (Str × Addr)) (fp : List Addr), PE (X.blk s H scope (compEnvC scope cl C X.env) fp) kx tk)
    (he : ∀ (s : Shared) (H : Hp) (C : Addr) (cl : List (Str × Addr)) (fp : List Addr), PE (X.blk s H scope (compEnvC scope cl C X.env) fp) vx tv) (hs : ∀ x, foldedSetIterable iter X.env x = pure x)
    (h : tDcT wi g tt tk tv (own.map (·.2)) σ H Q)
    (hRR : ∀ D C s' m H', L2.Inv X pins σ H' s' → Q (.ref D) H' → s'.heap.Ns C m → FpOk X pins H' C → compPost (model X.prog X.w) X.A X.xe use Qf (.ref D) C (.ok .next) s') :
    wpAny (model X.prog X.w) X.A (comprehension (.DictComp kx vx [⟨tg, iter, ifs, 0⟩] scope pos) scope X.env pos' newDict false (eval iter X.env) use) Qf X.xe s := by
  have hfree : ∀ y ∈ scope.names, y.2 = .free → ∃ c, X.env.cells.lookup y.1 = some c := fun y hy e => by
    rcases ok.free y hy e with k | k
    · exact I.ok.has _ (.inl k)
    · exact I.ok.has _ (.inr k)
  refine wpAny_comprehension_free (use := use) rfl hs (closure_ok hfree) ok.kind (fun y hy e => by rw [ok.uniq y hy, e])
    (thn (hi.run pins s σ H _ I h) fun xv s1 hx => thn hx fun itv s2 h2 => ?_)
  obtain ⟨it, fp, tn, J, H2, e, I2, T, st2, f2, q⟩ := h2
  subst e
  refine wpAny_newObj_type (newEnv_comp ?_)
  generalize hD : s2.heap.objs.size = D
  have hDn : H2 D = none := I2.hok.fresh (Nat.le_of_eq hD)
  obtain ⟨W, ⟨m0, w0⟩, turn⟩ := q D hDn
  -- the new list
  generalize hs3 : ({ s2 with heap := s2.heap.push { cls := .type "dict", data := .dict #[] } } : Shared) = s3
  have I3 : L2.Inv X pins σ (upd H2 D (.dT [])) s3 := by
    rw [← hs3]
    refine I2.laid (t' := s2.toks) (fun b o e => Heap.get?_push_of_some _ e) (Nat.le_of_eq hD) ?_
    rw [← hD]
    exact dt_empty s2.heap I2.big
  have h3 : s3.heap = s2.heap.push { cls := .type "dict", data := .dict #[] } := by rw [← hs3]
  have sz : ∀ b ∈ fp, b < s2.heap.objs.size := fun b hb => by
    obtain ⟨o, e, _⟩ := T.obj _ _ st2 b hb
    exact Heap.lt_size e
  have f3 : ∀ b ∈ fp, FpOk X pins (upd H2 D (.dT [])) b ∧ b < s3.heap.objs.size := fun b hb => by
    have hlt := sz b hb
    refine ⟨⟨?_, (f2 b hb).2⟩, by rw [h3, Heap.size_push]; exact Nat.lt_succ_of_lt hlt⟩
    rw [upd_ne (by rw [← hD]; exact Nat.ne_of_lt hlt)]
    exact (f2 b hb).1
  have st3 : tn 0 s3.heap := T.keep _ _ _ st2 fun b _ o e => by rw [h3]; exact Heap.get?_push_of_some _ e
  have I4 := block_start I3 ok hN f3
  have pg := hg s3 (upd H2 D (.dT [])) s3.heap.objs.size (cellsFrom (s3.heap.objs.size + 1) scope.names (cloFrom X.env.cells scope.names [])) fp
  have pt := ht s3 (upd H2 D (.dT [])) s3.heap.objs.size (cellsFrom (s3.heap.objs.size + 1) scope.names (cloFrom X.env.cells scope.names [])) fp
  have pk := hk s3 (upd H2 D (.dT [])) s3.heap.objs.size (cellsFrom (s3.heap.objs.size + 1) scope.names (cloFrom X.env.cells scope.names [])) fp
  have pe := he s3 (upd H2 D (.dT [])) s3.heap.objs.size (cellsFrom (s3.heap.objs.size + 1) scope.names (cloFrom X.env.cells scope.names [])) fp
  show codeAny _ _ (.compStart (.DictComp kx vx [⟨tg, iter, ifs, 0⟩] scope pos) 0 (.ref it) (.ref D) (compEnvC scope (cellsFrom (s3.heap.objs.size + 1) scope.names (cloFrom X.env.cells scope.names [])) s3.heap.objs.size X.env)) (compPost (model X.prog X.w) X.A X.xe use Qf (.ref D) s3.heap.objs.size) { s3 with heap := pushCells (s3.heap.push { cls := .type "dict", data := .dict #[] }) scope.names }
  have nfp : ∀ b ∈ fp, (upd H2 D (.dT [])) b = none := fun b hb => (f3 b hb).1.1
  generalize hce : compEnvC scope (cellsFrom (s3.heap.objs.size + 1) scope.names (cloFrom X.env.cells scope.names [])) s3.heap.objs.size X.env = ce at I4 pg pt pk pe ⊢
  have cL : ce.locals = s3.heap.objs.size := by subst hce; rfl
  generalize hH3 : upd H2 D (.dT []) = H3 at I3 I4 pg pt pk pe w0 nfp f3
  generalize hs4 : ({ s3 with heap := pushCells (s3.heap.push { cls := .type "dict", data := .dict #[] }) scope.names } : Shared) = s4 at I4 ⊢
  have st4 : tn 0 s4.heap := T.keep _ _ _ st3 fun b _ o e => by rw [← hs4]; exact pushCells_keeps _ _ _ _ (Heap.get?_push_of_some _ e)
  have stat : ∀ {σ' : L2.St} {H' : Hp} {s' : Shared}, Inv (X.blk s3 H3 scope ce fp) [] σ' H' s' → (∀ b ∈ fp, H' b = none) → ∀ b ∈ fp, FpOk (X.blk s3 H3 scope ce fp) [] H' b := fun {σ' H' s'} I' hn b hb =>
    ⟨hn b hb, (I'.ok.exf b hb).1, I'.ok.exfs b hb, .inl hb, fun x c e => (I'.ok.exf b hb).2 x c e, fun p hp => absurd (show p ∈ ([] : List (Addr × Obj)) ++ [] from hp) (by simp)⟩
  have loop : codeAny (model X.prog X.w) X.A (.compLoop (.DictComp kx vx [⟨tg, iter, ifs, 0⟩] scope pos) 0 (.ref it) (.ref D) ce) (compPost (model X.prog X.w) X.A X.xe use Qf (.ref D) s3.heap.objs.size) s4 := by
    refine compLoop_anyD (fun n s' => ∃ i H', Inv (X.blk s3 H3 scope ce fp) [] (wipe σ (own.map (·.2))) H' s' ∧ tn i s'.heap ∧ (∀ b ∈ fp, H' b = none) ∧ W i n H') ?_ m0 ⟨0, H3, I4, st4, nfp, w0⟩
    rintro n s5 ⟨i, H5, I5, st5, n5, w5⟩
    rcases turn i n H5 w5 with ⟨stop, qq⟩ | ⟨go, Nx, hNx, step⟩
    · have td := T.done (X.blk s3 H3 scope ce fp) rfl rfl rfl hc i [] s5 _ H5 (fun _ _ => False) I5 (stat I5 n5) st5 stop
      refine thnF td fun r s6 ⟨hr, I6⟩ => ?_
      subst hr
      -- back in the def's context
      have I7 : L2.Inv X pins σ H5 s6 := I3.call' (ch := fp) I6.os I6.base I6.hok I6.bare fun b hb => ⟨(f3 b hb).1.2.2.2.1, (f3 b hb).1.2.1, (f3 b hb).1.2.2.2.2.1, (f3 b hb).1.2.2.2.2.2⟩
      have nC : H5 s3.heap.objs.size = none := by
        have z : H5 ce.locals = none := I6.free
        rw [cL] at z
        exact z
      obtain ⟨m, hn, _⟩ := I6.loc
      have hn : s6.heap.Ns ce.locals m := hn
      rw [cL] at hn
      exact hRR D s3.heap.objs.size s6 m H5 I7 qq hn (I3.fpOk (Nat.le_refl _) nC)
    · have ti := T.item (X.blk s3 H3 scope ce fp) rfl rfl rfl hc i [] s5 _ H5 (fun _ _ => False) I5 (stat I5 n5) st5 go
      refine thnF ti fun r s6 ⟨u, hr, h6⟩ => ?_
      subst hr
      refine thnF h6 fun _ s7 ⟨x, H7, I7, r7, y7, st7, n7⟩ => ?_
      have I7' := I7.pinned (stat I7 n7) (T.obj _ _ st7)
      refine thnF (pg.run _ s7 _ H7 x u _ I7' r7 (step x H7 y7)) fun _ s8 ⟨σ8, H8, I8, hw8, q8⟩ => ?_
      refine thnF (pt.run _ s8 σ8 H8 _ I8 q8) fun b s9 ⟨H9, I9, q9⟩ => ?_
      -- the turn's end
      have fin : ∀ {s' : Shared} {H' : Hp}, Inv (X.blk s3 H3 scope ce fp) ([] ++ pinsAt fp s7.heap) σ8 H' s' → Nx H' → ∃ m, m < n ∧ ∃ i H', Inv (X.blk s3 H3 scope ce fp) [] (wipe σ (own.map (·.2))) H' s' ∧ tn i s'.heap ∧ (∀ b ∈ fp, H' b = none) ∧ W i m H' := fun {s' H'} I' nx => by
        obtain ⟨m', hm, w'⟩ := hNx H' nx
        have pin' : ∀ b ∈ fp, ∀ o, s7.heap.get? b = some o → s'.heap.get? b = some o ∧ H' b = none := fun b hb o e =>
          let z := I'.pin (b, o) (List.mem_append_right _ (List.mem_append_right _ (mem_pinsAt hb e)))
          ⟨z.1, z.2.1⟩
        have hl : (wipe σ (own.map (·.2))).length = σ8.length := by rw [← hw8, wipe_length]
        refine ⟨m', hm, i + 1, H', (I'.unpinned (pins := [])).weak hl (fun j v e => ?_), T.keep _ _ _ st7 fun b hb o e => (pin' b hb o e).1, fun b hb => ?_, w'⟩
        · rw [← hw8] at e
          exact (wipe_some e).1
        · obtain ⟨o, e, _⟩ := T.obj _ _ st7 b hb
          exact (pin' b hb o e).2
      cases b with
      | false =>
        simp only [Bool.false_eq_true, if_false] at q9 ⊢
        exact fin I9 q9
      | true =>
        simp only [if_true] at q9 ⊢
        refine thnF (pk.run _ s9 σ8 H9 _ I9 q9) fun z s10 ⟨yk, H10, I10, r10, q10⟩ => ?_
        refine thnF (pe.run _ s10 σ8 H10 _ I10 q10) fun z2 s11 ⟨yv, H11, I11, r11, kvs, k, ek, hD11, hz11, nx⟩ => ?_
        obtain ⟨b, rfl, hb⟩ := ek
        cases (show z = Value.ref b from r10)
        exact d_dictSetT (X := X.blk s3 H3 scope ce fp) hu I11 hD11 hb hz11 r11 fun s12 I12 => fin I12 nx
  exact codeAny_compStart_dict loop (T.self X.A 0 _ _ _ st4 loop)
/-- as a value -/
theorem pe_dcT {kx vx tg iter : Expr} {ifs : List Expr} {scope : Scope} {own : List (Str × Nat)} {pos : Pos} {wi : TI} {g : TG} {tt : TT} {tk tv : TE} (hu : X.A.units < cLine) (hc : X.calm = true) (hN : X.N.Nodup) (hi : PI X tg iter wi) (ok : BlkOk X.N X.env.scope scope own)
    (hg : ∀ (s : Shared) (H : Hp) (C : Addr) (cl : List (Str × Addr)) (fp : List Addr), PG (X.blk s H scope (compEnvC scope cl C X.env) fp) tg g) (ht : ∀ (s : Shared) (H : Hp) (C : Addr) (cl : List (Str × Addr)) (fp : List Addr), PTs (X.blk s H scope (compEnvC scope cl C X.env) fp) ifs tt)
    (hk : ∀ (s : Shared) (H : Hp) (C : Addr) (cl : List (Str × Addr)) (fp : List Addr), PE (X.blk s H scope (compEnvC scope cl C X.env) fp) kx tk)
    (he : ∀ (s : Shared) (H : Hp) (C : Addr) (cl : List (Str × Addr)) (fp : List Addr), PE (X.blk s H scope (compEnvC scope cl C X.env) fp) vx tv) (hs : ∀ x, foldedSetIterable iter X.env x = pure x := by intro _; rfl) :
    PE X (.DictComp kx vx [⟨tg, iter, ifs, 0⟩] scope pos) (tDcT wi g tt tk tv (own.map (·.2))) := by
  refine ⟨fun pins s σ H Q I h => ?_⟩
  rw [arm_eval_DictComp]
  refine dc_coreT hu hc hN I hi ok hg ht hk he hs h fun D C s' m H' I' q hn f => ⟨m, hn, fun h'' sb => ?_⟩
  obtain ⟨f0, f1, f2, f3, f4, f5⟩ := f
  exact ⟨.ref D, H', I'.turned (t' := s'.toks) (fun b o hb e => (sb.2 b hb).trans e) f0 f1 f3 f4 f5, rfl, q⟩
end
end K70
namespace K70
open PySem PySem.Spec PyProof.Rows L2
section
variable {K : PySem.W.Frag} {m : Mu} {Γ : Ga} {wi : TI} {g : TG} {tk tv : TE}
theorem take_not_mem' {α : Type} {l : List α} (h : l.Nodup) {i : Nat} {s : α} (hs : l[i]? = some s) : s ∉ l.take i := fun z => by
  obtain ⟨j, hj⟩ := List.mem_iff_getElem?.mp z
  have hj2 : j < i := by
    have := (List.getElem?_eq_some_iff.mp hj).1
    rw [List.length_take] at this; omega
  rw [List.getElem?_take, if_pos hj2] at hj
  have := (List.getElem?_inj (List.getElem?_eq_some_iff.mp hj).1 h).mp (hj.trans hs.symm)
  omega
/-- {s: f s for s in l} -/
theorem ev_dcT {vs : List Nat} {l : List (Tx × Tx)} (f : Tx × Tx → Dt) (hs : SrcG K m wi Γ (· = l.map stD)) (hl : l.length ≤ 100000) (nd : l.Nodup)
    (hb : ∀ s ∈ l, ∃ Γ' js, (∀ j ∈ js, j ∈ vs) ∧ TgG K g (stD s) (wipeG Γ vs) Γ' js ∧ Ev K m tk Γ' (stD s) ∧ Ev K m tv Γ' (f s)) : Ev K m (tDcT wi g tYes tk tv vs) Γ (.dT (l.map fun s => (kT s, f s))) := by
  intro σ G H x s M Q k
  refine hs σ G H x s M _ fun J ds G1 H1 p1 g1 M1 src D hD => ?_
  subst p1
  have x1 := x.mono g1.g
  have nD : ¬ m.μ D := Mu.notNew M1 hD
  have dl : (l.map stD).length = l.length := List.length_map ..
  refine ⟨fun i k H => k = l.length - i ∧ i ≤ l.length ∧ ∃ G' kvs, Grow m.μ G1 H1 G' H ∧ m.M G' H ∧ G' D = none ∧ H D = some (.dT kvs) ∧ DvM K G' kvs ((l.take i).map fun s => (kT s, f s)),
    ⟨l.length, by simp, Nat.zero_le _, G1, [], Grow.hide g1.sub hD, Mu.hide g1.sub hD M1, g1.sub.free hD, upd_same, .nil⟩, ?_⟩
  rintro i k' H' ⟨rfl, hi, G', kvs, gr, M', gD, hDl, rm⟩
  by_cases hlt : i < l.length
  · refine .inr ⟨src.goes i H' (by rw [dl]; exact hlt) (gr.g.trans gr.sub), fun H2 => i + 1 ≤ l.length ∧ ∃ G' kvs, Grow m.μ G1 H1 G' H2 ∧ m.M G' H2 ∧ G' D = none ∧ H2 D = some (.dT kvs) ∧ DvM K G' kvs ((l.take (i + 1)).map fun s => (kT s, f s)), fun H2 w => ⟨l.length - (i + 1), by omega, rfl, w⟩, fun z H2 y => ?_⟩
    obtain ⟨st, hst⟩ : ∃ st, l[i]? = some st := ⟨_, List.getElem?_eq_getElem hlt⟩
    have hd : (l.map stD)[i]? = some (stD st) := by rw [List.getElem?_map, hst]; rfl
    obtain ⟨G2, g2, r2⟩ := src.yields i _ H' z H2 G' hd gr.g gr.sub y
    obtain ⟨Γ', js, hjs, htg, hk, hv⟩ := hb st (List.mem_of_getElem? hst)
    have M2 := Mu.pure g2 M'
    have gD2 : G2 D = none := g2.new D gD (by rw [hDl]; trivial)
    have hD2 : H2 D = some (.dT kvs) := g2.same _ _ hDl
    refine htg (wipe σ vs) G2 H2 z ((x1.mono (gr.g.trans g2.g)).wipe vs) g2.sub r2 _ fun σ' sl' hw => ⟨?_, ?_⟩
    · rw [hw vs hjs, wipe_wipe fun j hj => hj]
    · show tk σ' H2 _
      refine hk σ' G2 H2 sl' g2.sub M2 _ fun v3 d3 G3 H3 p3 g3 M3 r3 => ?_
      refine hv σ' G3 H3 (sl'.mono g3.g) g3.sub M3 _ fun v4 d4 G4 H4 p4 g4 M4 r4 => ?_
      subst p3 p4
      have gg := g3.trans g4
      have hD4 : H4 D = some (.dT kvs) := gg.h D _ nD hD2
      have gD4 : G4 D = none := gg.new D gD2 (by rw [hD2]; trivial)
      have r3' : Dv K G4 v3 (.tup ((kT st).map kD)) := by rw [kT_D]; exact r3.mono g4.g
      obtain ⟨b, rfl, hbk⟩ := r3'.key_at g4.sub
      have len := rm.length
      rw [List.length_map, List.length_take] at len
      refine ⟨kvs, kT st, ⟨b, rfl, hbk⟩, hD4, Nat.lt_of_le_of_lt (Nat.le_trans (by omega) hl) (by decide), hlt, G4, putK kvs (kT st) v4, (((gr.trans g2.lift).trans gg).set hD gD4), Mu.set g4.sub gD4 nD M4, gD4, upd_same, ?_⟩
      have rm4 := rm.mono (g2.g.trans gg.g)
      have z2 := rm4.put (k := kT st) r4
      rw [putD_new (fun q hq => ?_)] at z2
      · rw [map_take_succ hst]; exact z2
      · obtain ⟨s0, hs0, rfl⟩ := List.mem_map.mp hq
        intro w
        exact take_not_mem' nd hst (kT_inj w ▸ hs0)
  · have e : i = l.length := by omega
    subst e
    rw [List.take_length] at rm
    refine .inl ⟨src.stops H' (gr.g.trans gr.sub) |> fun q => by rw [dl] at q; exact q, ?_⟩
    have gk := gr.know hD gD hDl
    exact k (.ref D) _ _ H' rfl (g1.trans gk) (Mu.know gr.sub gD nD hDl M') (.dT (.inl upd_same) (rm.mono fun a u q => by rw [upd_ne (ne_of_none q gD)]; exact q))
/-! d.values(), summed -/
end
end K70
/-! d.values() of a dict whose keys are tuples; its sum, its list. -/
namespace K70
open PySem PySem.Spec PyProof.Rows L2
/-- the view d.values() at p -/
def valsO (p d : Addr) : HO := .ext fun h => h.IsValuesView p d
theorem valsO_ok {P : Program} {w : World} {H : Hp} {h : Heap} {p d : Addr} (e : h.get? p = some { cls := .type "dict_values", data := .fields #[.ref d] }) : ObjOk P w H h p (valsO p d) :=
  ⟨⟨_, e, rfl, rfl⟩, ⟨_, e⟩, fun h1 h2 x k => let ⟨o, ho, r⟩ := x; ⟨o, k o ho, r⟩⟩
def tVals (td : TE) : TE := fun σ H Q => td σ H fun x H1 => ∃ a kvs, x = .ref a ∧ Rd H1 a (.dT kvs) ∧ ∀ p, H1 p = none → Q (.ref p) (upd H1 p (valsO p a))
theorem pair_at {α β : Type} {F : α → β → Prop} : ∀ {l₁ : List α} {l₂ : List β} {j : Nat} {x : β}, Paired F l₁ l₂ → l₂[j]? = some x → ∃ y, l₁[j]? = some y ∧ F y x
  | _, _, _, _, .nil, h => by simp at h
  | _, _, 0, _, .cons (a := a) h _, e => by
    simp at e; subst e; exact ⟨a, rfl, h⟩
  | _, _, j + 1, _, .cons _ t, e => by
    obtain ⟨y, h1, h2⟩ := pair_at (j := j) t (by simpa using e)
    exact ⟨y, by simpa using h1, h2⟩
section
variable {X : Cx} {pins : List (Addr × Obj)} {σ : L2.St} {H : Hp} {s : Shared} {a : Addr} {kvs : List (List Key × V)}
/-- the raw dict, its values in the order of the keys -/
theorem raw_of (I : L2.Inv X pins σ H s) (e : Rd H a (.dT kvs)) : kvs.length ≤ sizeLine ∧ (a == sysModules) = false ∧ ∃ es ep, Heap.DictRaw s.heap a es ep ∧ es.size = kvs.length ∧
    (∀ (j : Nat) (hj : j < es.size), ∃ v, (kvs.map (·.2))[j]? = some v ∧ RelV v es[j].val) ∧ ∀ (j : Nat) (hj : j < es.size), ∃ k q, (kvs.map (·.1))[j]? = some k ∧ es[j].key = .ref q ∧ H q = some (.tup (k.map kV)) := by
  obtain ⟨z, y, xs, r, o, es, ep, h1, h2, h3, h4, h5⟩ := (show ObjOk X.prog X.w H s.heap a (.dT kvs) from rd_of I.hok e)
  have hl : es.size = kvs.length := by rw [size_of_entries h4, ← Paired.length r]
  refine ⟨z, y, es, ep, ⟨o, h1, h2, h3⟩, hl, fun j hj => ?_, fun j hj => ?_⟩
  · have e1 := entry_at h4 j
    rw [Array.getElem?_eq_getElem hj] at e1
    cases q : xs[j]? with
    | none => rw [q] at e1; cases e1
    | some x =>
      rw [q] at e1
      have e2 : es[j] = entryOfKey (tupleKind (mixKind X.prog X.w)) x := Option.some.inj e1
      obtain ⟨p, hp, r1, r2, r3⟩ := pair_at r q
      exact ⟨p.2, by rw [List.getElem?_map, hp]; rfl, by rw [e2]; exact r3⟩
  · have e1 := entry_at h4 j
    rw [Array.getElem?_eq_getElem hj] at e1
    cases q : xs[j]? with
    | none => rw [q] at e1; cases e1
    | some x =>
      rw [q] at e1
      have e2 : es[j] = entryOfKey (tupleKind (mixKind X.prog X.w)) x := Option.some.inj e1
      obtain ⟨p, hp, r1, r2, r3⟩ := pair_at r q
      exact ⟨p.1, x.2.1, by rw [List.getElem?_map, hp]; rfl, by rw [e2]; rfl, r2⟩
end
section
variable {X : Cx} {o : Expr} {apos cpos : Pos} {td : TE}
theorem pe_vals (ho : PE X o td) (hbase : attributeBase o "values" X.env (eval o X.env) = eval o X.env := by rfl) (hline : (apos.endLine == cpos.line) = true := by rfl) : PE X (.Call (.Attribute o "values" apos) [] [] cpos) (tVals td) := by
  refine ⟨fun pins s σ H Q I h => ?_⟩
  refine wpAny_Call_method0_late hbase hline (thn (ho.run pins s σ H _ I h) fun v s1 ⟨x, H1, I1, r1, a, kvs, ex, ha, q1⟩ => ?_)
  subst ex
  obtain rfl : v = Value.ref a := r1
  obtain ⟨z, lo, es, ep, raw, _⟩ := raw_of I1 ha
  obtain ⟨od, hod, hex, hdat⟩ := id raw
  refine ⟨"dict", "dict.values", PySem.F.plainAttrs_dict, PySem.F.slot_dict_values, PySem.F.type_dict_values, raw.typeIs, fun b e => by cases e; exact ⟨od, hod, hex.2.1⟩, Calls.callWith_builtin rfl (PySem.evalArgs_none ?_)⟩
  refine call_meetsIn PySem.F.slot_dict_values raw.typeIs PySem.F.entry_dict_values (PySem.F.args_dict_values_1 _) (meets_dict_values_raw a lo) ⟨⟨es, ep, raw⟩, ?_⟩
  exact ⟨.ref s1.heap.objs.size, upd H1 s1.heap.objs.size (valsO s1.heap.objs.size a), I1.laid (t' := s1.toks) (fun b u e => Heap.get?_push_of_some _ e) (Nat.le_refl _) (valsO_ok (Heap.get?_push_size _ rfl)), rfl, q1 _ (I1.hok.fresh (Nat.le_refl _))⟩
theorem preSum_getD : ∀ ns : List Int, preSum (fun i => ns.getD i 0) ns.length = ns.sum
  | [] => rfl
  | n :: ns => by
    rw [List.length_cons, PySem.W.kdu_shift, List.sum_cons, ← preSum_getD ns]
    rfl
/-- sum(d.values()) -/
def rSumV : List V → Hp → VK → Prop := fun vs H Q => ∃ (p a : Addr) (kvs : List (List Key × V)) (ns : List Int), vs = [.ref p] ∧ H p = some (valsO p a) ∧ Rd H a (.dT kvs) ∧ kvs.map (·.2) = ns.map V.int ∧ Q (.int ns.sum) H
theorem cr_sumV (hc : X.calm = true) : CallR X (.builtin "sum") rSumV := by
  intro pins s σ H vs us Q I r h
  obtain ⟨p, a, kvs, ns, rfl, hp, ha, hv, q⟩ := h
  rw [Vals.ref1 r]
  obtain ⟨z, lo, es, ep, raw, hsz, hval, _⟩ := raw_of I ha
  have view : s.heap.IsValuesView p a := (show ObjOk X.prog X.w H s.heap p (valsO p a) from I.hok p _ hp).1
  have Ks := KdlSrc.rawValues (prog := X.prog) (w := X.w) (r := p) (d := a) (es := es) (ep := ep)
  have hok : s.heap.IsValuesView p a ∧ Heap.DictRaw s.heap a es ep := ⟨view, raw⟩
  have hlen : es.size = ns.length := by
    have := congrArg List.length hv
    rw [List.length_map, List.length_map] at this
    rw [hsz, this]
  refine call_sum_walkAnyS ?_
  obtain ⟨oI, St, hit, W, st⟩ := Ks.iter X.A.in1 s (I.ok.hd hc) hok
  refine hit _ _ ⟨s.heap.objs.size, _, _, _, es.size, _, _, fun i => ns.getD i 0, rfl, W.toS, st, fun b hb => ?_, fun i v hi => ?_, fun s' t' hm => ?_⟩
  · show b < (s.heap.push oI).objs.size
    rw [size_push']
    rcases List.mem_cons.mp hb with e | hb
    · rw [e]; exact Nat.lt_succ_self _
    · rw [List.mem_singleton.mp hb]; exact Nat.lt_succ_of_lt (Ks.there _ hok).2
  · obtain ⟨hi, rfl⟩ := hi
    obtain ⟨v, e1, e2⟩ := hval i hi
    rw [hv, List.getElem?_map] at e1
    cases w : ns[i]? with
    | none => rw [w] at e1; cases e1
    | some n =>
      rw [w] at e1
      cases e1
      obtain ⟨t, e3⟩ := e2
      exact ⟨t, by rw [e3]; show Value.int n t = Value.int (ns.getD i 0) t; rw [List.getD_eq_getElem?_getD, w]; rfl⟩
  · have hk : ∀ b o, s.heap.get? b = some o → s'.heap.get? b = some o := fun b o e =>
      hm.heap b o (fun hI => absurd (Heap.lt_size e) (by rw [List.mem_singleton.mp hI]; exact Nat.lt_irrefl _)) (Heap.get?_push_of_some _ e)
    rw [Moved.eq_with hm, hlen, preSum_getD]
    exact ⟨.int _, H, I.kept (t' := s'.toks) hk, ⟨_, rfl⟩, q⟩
theorem vals_at : ∀ {xs : List V} {us : List Value}, us.length = xs.length → (∀ (j : Nat) (u : Value), us[j]? = some u → ∃ x, xs[j]? = some x ∧ RelV x u) → Vals xs us
  | [], [], _, _ => .nil
  | x :: xs, u :: us, hl, h => by
    obtain ⟨y, e1, e2⟩ := h 0 u rfl
    cases e1
    exact .cons e2 (vals_at (by simpa using hl) fun j u e => by
      obtain ⟨y, a, b⟩ := h (j + 1) u (by simpa using e)
      exact ⟨y, by simpa using a, b⟩)
  | [], _ :: _, hl, _ => by simp at hl
  | _ :: _, [], hl, _ => by simp at hl
/-- list(d.values()) -/
def rListV : List V → Hp → VK → Prop := fun vs H Q => ∃ (p a : Addr) (kvs : List (List Key × V)), vs = [.ref p] ∧ H p = some (valsO p a) ∧ Rd H a (.dT kvs) ∧ ∀ l, H l = none → Q (.ref l) (upd H l (.lst (kvs.map (·.2))))
theorem cr_listV (hc : X.calm = true) : CallR X (.type "list") rListV := by
  intro pins s σ H vs us Q I r h
  obtain ⟨p, a, kvs, rfl, hp, ha, q⟩ := h
  rw [Vals.ref1 r]
  obtain ⟨z, lo, es, ep, raw, hsz, hval, _⟩ := raw_of I ha
  have view : s.heap.IsValuesView p a := (show ObjOk X.prog X.w H s.heap p (valsO p a) from I.hok p _ hp).1
  refine PySem.W.kdl_call (KdlSrc.rawValues (prog := X.prog) (w := X.w) (r := p) (d := a) (es := es) (ep := ep)) (I.ok.hd hc) ⟨view, raw⟩ (by rw [hsz]; exact z) fun h' tk acc c' hk hD hacc => ?_
  have hv : Vals (kvs.map (·.2)) acc.toList := vals_at (by rw [Array.length_toList, List.length_map, ← hsz]; exact hacc.1) fun j u e => by
    obtain ⟨hj, rfl⟩ := hacc.2 j u (by rw [← Array.getElem?_toList]; exact e)
    exact hval j hj
  refine ⟨.ref s.heap.objs.size, upd H s.heap.objs.size (.lst (kvs.map (·.2))), I.laid (t' := tk) hk (Nat.le_refl _)
    (show ObjOk X.prog X.w _ _ _ (.lst (kvs.map (·.2))) from ⟨by rw [List.length_map]; exact z, acc.toList, c', hv, by rw [Array.toArray_toList]; exact hD⟩), rfl, q _ (I.hok.fresh (Nat.le_refl _))⟩
end
section
variable {K : PySem.W.Frag} {m : Mu} {Γ : Ga} {td : TE}
theorem er_vals {ds : List (List Key × Dt)} {Q0 : V → Hp → Prop} (h : Ev K m td Γ (.dT ds)) : ∀ σ G H, Sl K G σ Γ → Same G H → m.M G H → ∀ Q : VK, (∀ p a kvs G' H', Grow m.μ G H G' H' → m.M G' H' → H' p = some (valsO p a) → Rd H' a (.dT kvs) → DvM K G' kvs ds → Q (.ref p) H') → tVals td σ H Q := fun σ G H x s M Q k =>
  h σ G H x s M _ fun v d G1 H1 p1 g1 M1 r1 => by
    subst p1
    obtain ⟨a, kvs, rfl, ga, rm⟩ := r1.dT_inv
    refine ⟨a, kvs, rfl, same_rd g1.sub ga, fun p hp => ?_⟩
    have g2 : Grow m.μ G1 H1 G1 (upd H1 p (valsO p a)) := Grow.hide g1.sub hp
    refine k p a kvs G1 _ (g1.trans g2) (Mu.hide g1.sub hp M1) upd_same ?_ rm
    rcases same_rd g1.sub ga with e | ⟨o, e⟩
    · exact .inl (by rw [upd_ne (ne_of_none e hp)]; exact e)
    · exact .inr ⟨o, by rw [upd_ne (ne_of_none e hp)]; exact e⟩
theorem ev_sumV {ds : List (List Key × Dt)} {ns : List Int} (h : Ev K m td Γ (.dT ds)) (hn : ds.map (·.2) = intsD ns) : Ev K m (tCB rSumV (tCons (tVals td) tNil)) Γ (.int ns.sum) := fun σ G H x s M Q k => show tVals td σ H fun v H1 => rSumV [v] H1 Q from
  er_vals (Q0 := fun _ _ => True) h σ G H x s M _ fun p a kvs G1 H1 g1 M1 hp ha rm => by
    have e := rm.vals
    rw [hn] at e
    exact ⟨p, a, kvs, ns, rfl, hp, ha, e.ints_inv, k _ _ G1 H1 rfl g1 M1 (.int _)⟩
theorem ev_listV {ds : List (List Key × Dt)} (h : Ev K m td Γ (.dT ds)) : Ev K m (tCB rListV (tCons (tVals td) tNil)) Γ (.lst (ds.map (·.2))) := fun σ G H x s M Q k => show tVals td σ H fun v H1 => rListV [v] H1 Q from
  er_vals (Q0 := fun _ _ => True) h σ G H x s M _ fun p a kvs G1 H1 g1 M1 hp ha rm => by
    refine ⟨p, a, kvs, rfl, hp, ha, fun l hl => ?_⟩
    have g2 : Grow Pure G1 H1 (upd G1 l (.lst (kvs.map (·.2)))) (upd H1 l (.lst (kvs.map (·.2)))) := Grow.grow g1.sub hl
    exact k _ _ _ _ rfl (g1.trans g2.lift) (Mu.pure g2 M1) (.lst upd_same (rm.vals.mono g2.g))
end
end K70
/-! Instances that are made: their fields while they are set; a dict that is written. -/
namespace K70
open PySem PySem.Spec PyProof.Rows L2
/-- the promise of an __init__ -/
def Ini (K : PySem.W.Frag) (C : Addr) {α : Type} (arg : α → List Dt) (pre : α → Prop) (ds : α → List (Str × Dt)) : Sp := fun vs H Q _ =>
  ∃ (a : α) (x dx : Addr) (G H1 : Hp) (ws : List V), vs = .ref x :: ws ∧ Dvs K G ws (arg a) ∧ Same G H1 ∧ H1 x = none ∧ H1 dx = none ∧ dx ≠ x ∧ H = upd (upd H1 dx (.own x)) x (.ins C dx []) ∧ pre a ∧
    ∀ G' H', Grow Pure G H1 G' H' → Dv K G' (.ref x) (.ins C (ds a)) → Q .non H'
theorem Ini.len {K : PySem.W.Frag} {C : Addr} {α : Type} {arg : α → List Dt} {pre : α → Prop} {ds : α → List (Str × Dt)} {vs : List V} {H : Hp} {Q : VK} {E : XK} {n : Nat} (h : Ini K C arg pre ds vs H Q E) (hp : ∀ a, (arg a).length + 1 = n := by intro _; rfl) : vs.length = n := by
  obtain ⟨a, x, dx, G, H1, ws, rfl, r, _⟩ := h
  rw [List.length_cons, r.length]; exact hp a
/-- what an instance has while it is made -/
structure AccI (K : PySem.W.Frag) (G H : Hp) (x C dx : Addr) (ds : List (Str × Dt)) : Prop where
  out : G x = none
  at_ : ∃ fs, H x = some (.ins C dx fs) ∧ DvM K G fs ds
def putFD (f : Str) (v : Dt) : List (Str × Dt) → List (Str × Dt)
  | [] => [(f, v)]
  | (g, x) :: r => if g = f then (g, v) :: r else (g, x) :: putFD f v r
/-- a heap without x -/
def wo (G : Hp) (x : Addr) : Hp := fun a => if a = x then none else G a
theorem wo_same (G : Hp) (x : Addr) : wo G x x = none := if_pos rfl
theorem wo_ne {G : Hp} {x a : Addr} (h : a ≠ x) : wo G x a = G a := if_neg h
mutual
def noIns : Dt → Bool
  | .ins _ _ => false
  | .lst l => noInss l
  | .tup l => noInss l
  | .tupW l => noInss l
  | .tupN l => noInss l
  | .dT l => noInsT l
  | .dK l => noInsK l
  | _ => true
def noInss : List Dt → Bool
  | [] => true
  | d :: l => noIns d && noInss l
def noInsT : List (List Key × Dt) → Bool
  | [] => true
  | (_, d) :: l => noIns d && noInsT l
def noInsK : List (Key × Dt) → Bool
  | [] => true
  | (_, d) :: l => noIns d && noInsK l
end
section
variable {K : PySem.W.Frag} {G : Hp} {x C dx : Addr} {fs : List (Str × V)}
theorem wo_keep (hx : G x = some (.ins C dx fs)) {a : Addr} {o : HO} (h : G a = some o) (n : ∀ C dx fs, o ≠ .ins C dx fs) : wo G x a = some o := by
  have e : a ≠ x := fun z => by subst z; rw [hx] at h; cases h; exact n _ _ _ rfl
  rw [wo_ne e]; exact h
mutual
theorem Dv.without (hx : G x = some (.ins C dx fs)) : ∀ {v : V} {d : Dt}, noIns d = true → Dv K G v d → Dv K (wo G x) v d
  | _, _, _, .non => .non
  | _, _, _, .bl b => .bl b
  | _, _, _, .int i => .int i
  | _, _, _, .str x => .str x
  | _, _, _, .raw v => .raw v
  | _, _, n, .lst h r => .lst (wo_keep hx h fun _ _ _ z => nomatch z) (Dvs.without hx n r)
  | _, _, n, .tup h r => .tup (wo_keep hx h fun _ _ _ z => nomatch z) (Dvs.without hx n r)
  | _, _, n, .tupW h r => .tupW (by
      rcases h with (h | ⟨o, h⟩) | h
      · exact .inl (.inl (wo_keep hx h fun _ _ _ z => nomatch z))
      · exact .inl (.inr ⟨o, wo_keep hx h fun _ _ _ z => nomatch z⟩)
      · exact .inr h) (Dvs.without hx n r)
  | _, _, n, .dT h r => .dT (by
      rcases h with h | ⟨o, h⟩
      · exact .inl (wo_keep hx h fun _ _ _ z => nomatch z)
      · exact .inr ⟨o, wo_keep hx h fun _ _ _ z => nomatch z⟩) (DvM.withoutT hx n r)
  | _, _, n, .dK h r => .dK (wo_keep hx h fun _ _ _ z => nomatch z) (DvM.withoutK hx n r)
  | _, _, n, .ins h r => nomatch n
  | _, _, n, .tupN h a b r => .tupN (wo_keep hx h fun _ _ _ z => nomatch z) a b (Dvs.without hx n r)
  | _, _, _, .ob h => .ob (wo_keep hx h fun _ _ _ z => nomatch z)
theorem Dvs.without (hx : G x = some (.ins C dx fs)) : ∀ {v : List V} {d : List Dt}, noInss d = true → Dvs K G v d → Dvs K (wo G x) v d
  | _, _, _, .nil => .nil
  | _, _, n, .cons h r => by
    have n2 := (Bool.and_eq_true _ _).mp n
    exact .cons (Dv.without hx n2.1 h) (Dvs.without hx n2.2 r)
theorem DvM.withoutT (hx : G x = some (.ins C dx fs)) : ∀ {v : List (List Key × V)} {d : List (List Key × Dt)}, noInsT d = true → DvM K G v d → DvM K (wo G x) v d
  | _, _, _, .nil => .nil
  | _, _, n, .cons h r => by
    have n2 := (Bool.and_eq_true _ _).mp n
    exact .cons (Dv.without hx n2.1 h) (DvM.withoutT hx n2.2 r)
theorem DvM.withoutK (hx : G x = some (.ins C dx fs)) : ∀ {v : List (Key × V)} {d : List (Key × Dt)}, noInsK d = true → DvM K G v d → DvM K (wo G x) v d
  | _, _, _, .nil => .nil
  | _, _, n, .cons h r => by
    have n2 := (Bool.and_eq_true _ _).mp n
    exact .cons (Dv.without hx n2.1 h) (DvM.withoutK hx n2.2 r)
end
end
theorem DvM.putF {K : PySem.W.Frag} {G : Hp} {f : Str} {v : V} {d : Dt} (h : Dv K G v d) : ∀ {fs : List (Str × V)} {ds : List (Str × Dt)}, DvM K G fs ds → DvM K G (L2.putF f v fs) (putFD f d ds)
  | _, _, .nil => .cons h .nil
  | _, _, .cons (k := k) q r => by
    unfold L2.putF putFD
    by_cases e : k = f
    · rw [if_pos e, if_pos e]; exact .cons h r
    · rw [if_neg e, if_neg e]; exact .cons q (DvM.putF h r)
section
variable {K : PySem.W.Frag} {G0 H0 G H : Hp} {σ : L2.St} {Γ : Ga} {x C dx : Addr} {ds : List (Str × Dt)} {D : Ends} {u : TS} {tv : TE} {P : Dt → Prop} {f : Str}
theorem AccI.grow {G' H' : Hp} {μ : Addr → Prop} (a : AccI K G H x C dx ds) (g : Grow μ G H G' H') (n : ¬ μ x) : AccI K G' H' x C dx ds := by
  obtain ⟨fs, e, r⟩ := a.at_
  exact ⟨g.new x a.out (by rw [e]; trivial), fs, g.h x _ n e, r.mono g.g⟩
/-- self.f = e, e read without self -/
theorem q_fldA (c : Cf K still G0 H0 σ Γ G H) (hi : Γ[0]? = some (some (.raw (.ref x)))) (a : AccI K G H x C dx ds) (hp : H0 x = none) (hc : Cls K C) (hn : NoAttr K C f) (hl : ds.length < 1000) (h : EvG K still tv Γ P)
    (k : ∀ d G' H', P d → Cf K still G0 H0 σ Γ G' H' → AccI K G' H' x C dx (putFD f d ds) → u D σ H') : tSeq (sFld K (tVar 0) tv f) u D σ H :=
  c.ev h fun v d G' H' pd c' g r => by
    obtain ⟨w, e1, e2⟩ := c'.sl.at_ 0 _ hi
    obtain rfl := e2.raw_inv
    have a' := a.grow g (fun z => z)
    obtain ⟨fs, ef, rf⟩ := a'.at_
    exact ⟨_, e1, x, C, dx, fs, rfl, ef, hc, hn, by rw [rf.length]; exact hl, k d G' _ pd (c'.set hp a'.out fun z => z) ⟨a'.out, _, upd_same, rf.putF r⟩⟩
/-- .. with self -/
theorem q_fldB (c : Cf K still G0 H0 σ Γ G H) (hi : Γ[0]? = some (some (.raw (.ref x)))) (a : AccI K G H x C dx ds) (hp : H0 x = none) (hc : Cls K C) (hn : NoAttr K C f) (hl : ds.length < 1000) (h : EvG K still tv (Γ.set 0 (some (.ins C ds))) P) (hP : ∀ d, P d → noIns d = true)
    (k : ∀ d G' H', P d → Cf K still G0 H0 σ Γ G' H' → AccI K G' H' x C dx (putFD f d ds) → u D σ H') : tSeq (sFld K (tVar 0) tv f) u D σ H := by
  obtain ⟨w, e1, e2⟩ := c.sl.at_ 0 _ hi
  obtain rfl := e2.raw_inv
  obtain ⟨fs, ef, rf⟩ := a.at_
  have c1 := c.know hp a.out (fun z => z) ef
  have s1 : Same G (upd G x (.ins C dx fs)) := fun b o q => by rw [upd_ne (ne_of_none q a.out)]; exact q
  have d1 : Dv K (upd G x (.ins C dx fs)) (.ref x) (.ins C ds) := .ins upd_same (rf.mono s1)
  have c2 := c1.reput e1 d1
  refine h σ _ H c2.sl c2.gh trivial _ fun v d G2 H2 pd g2 _ r2 => ?_
  have hx2 : G2 x = some (.ins C dx fs) := g2.g _ _ upd_same
  have s3 : Same G (wo G2 x) := fun b o q => by rw [wo_ne (ne_of_none q a.out)]; exact g2.g _ _ (s1 _ _ q)
  have hH2 : H2 x = some (.ins C dx fs) := g2.same _ _ ef
  have g3 : Grow Pure G H (wo G2 x) H2 := by
    refine ⟨s3, g2.h, g2.dom, fun b o q => ?_, fun b n z => ?_, g2.mv⟩
    · by_cases e : b = x
      · subst e; rw [wo_same] at q; cases q
      · rw [wo_ne e] at q; exact g2.sub _ _ q
    · by_cases e : b = x
      · subst e; exact wo_same _ _
      · rw [wo_ne e]; exact g2.new b (by rw [upd_ne e]; exact n) z
  have c3 : Cf K still G0 H0 σ Γ (wo G2 x) H2 := ⟨c.sl.mono s3, g3.sub, trivial, c.gr.trans g3⟩
  refine ⟨_, e1, x, C, dx, fs, rfl, hH2, hc, hn, by rw [rf.length]; exact hl, ?_⟩
  exact k d (wo G2 x) _ pd (c3.set hp (wo_same _ _) fun z => z) ⟨wo_same _ _, _, upd_same, (rf.mono s3).putF (r2.without hx2 (hP d pd))⟩
theorem c_fldB (c : Cf K still G0 H0 σ Γ G H) (hi : Γ[0]? = some (some (.raw (.ref x)))) (a : AccI K G H x C dx ds) (hp : H0 x = none) (hc : Cls K C) (hn : NoAttr K C f) (hl : ds.length < 1000) (h : EvG K still tv (Γ.set 0 (some (.ins C ds))) P) (hP : ∀ d, P d → noIns d = true)
    (k : ∀ d G' H', P d → Cf K still G0 H0 σ Γ G' H' → AccI K G' H' x C dx (putFD f d ds) → D.nx σ H') : sFld K (tVar 0) tv f D σ H := q_fldB (D := D) (u := fun D => D.nx) c hi a hp hc hn hl h hP k
theorem c_fldA (c : Cf K still G0 H0 σ Γ G H) (hi : Γ[0]? = some (some (.raw (.ref x)))) (a : AccI K G H x C dx ds) (hp : H0 x = none) (hc : Cls K C) (hn : NoAttr K C f) (hl : ds.length < 1000) (h : EvG K still tv Γ P)
    (k : ∀ d G' H', P d → Cf K still G0 H0 σ Γ G' H' → AccI K G' H' x C dx (putFD f d ds) → D.nx σ H') : sFld K (tVar 0) tv f D σ H := q_fldA (D := D) (u := fun D => D.nx) c hi a hp hc hn hl h k
/-- an instance is done: it becomes known -/
theorem Cf.doneI (c : Cf K still G0 H0 σ Γ G H) (hi : Γ[0]? = some (some (.raw (.ref x)))) (a : AccI K G H x C dx ds) (hp : H0 x = none) : ∃ G', Same G G' ∧ Cf K still G0 H0 σ (Γ.set 0 (some (.ins C ds))) G' H ∧ Dv K G' (.ref x) (.ins C ds) := by
  obtain ⟨w, e1, e2⟩ := c.sl.at_ 0 _ hi
  obtain rfl := e2.raw_inv
  obtain ⟨fs, ef, rf⟩ := a.at_
  have c1 := c.know hp a.out (fun z => z) ef
  have s1 : Same G (upd G x (.ins C dx fs)) := fun b o q => by rw [upd_ne (ne_of_none q a.out)]; exact q
  have d1 : Dv K (upd G x (.ins C dx fs)) (.ref x) (.ins C ds) := .ins upd_same (rf.mono s1)
  exact ⟨_, s1, c1.reput e1 d1, d1⟩
/-- an __init__'s body -/
theorem bodyI {N : List Str} {α : Type} {arg : α → List Dt} {pre : α → Prop} {ds : α → List (Str × Dt)} {t : TS} {vs : List V} {H : Hp} {Q : VK} {E : XK} (h : Ini K C arg pre ds vs H Q E)
    (hb : ∀ a x dx σ G H0 H, pre a → H0 x = none → Cf K still G H0 σ (startG N.length (.raw (.ref x) :: arg a)) G H → AccI K G H x C dx [] → ∀ D : Ends, (∀ σ' Γ G' H', Cf K still G H0 σ' Γ G' H' → Dv K G' (.ref x) (.ins C (ds a)) → D.nx σ' H') → t D σ H) :
    t { nx := fun _ H' => Q .non H', rt := Q } (L2.start N vs) H := by
  obtain ⟨a, x, dx, G, H1, ws, rfl, r, s, hx, hdx, ne, rfl, p, k⟩ := h
  have g1 : Grow Pure G H1 G (upd H1 dx (.own x)) := Grow.hide s hdx
  have hx1 : upd H1 dx (.own x) x = none := by rw [upd_ne (Ne.symm ne)]; exact hx
  have g2 : Grow Pure G (upd H1 dx (.own x)) G (upd (upd H1 dx (.own x)) x (.ins C dx [])) := Grow.hide g1.sub hx1
  have gg := g1.trans g2
  exact hb a x dx _ G H1 _ p hx ⟨Sl.start (ds := .raw (.ref x) :: arg a) (.cons (.raw _) r), gg.sub, trivial, gg⟩ ⟨s.free hx, [], upd_same, .nil⟩ _ fun σ' Γ G' H' c d => k G' H' c.gr d
/-- C(..) -/
theorem er_make {m : Mu} {α : Type} {arg : α → List Dt} {pre : α → Prop} {ds : α → List (Str × Dt)} {E : XK} {t : TA} (a : α) (h : Ea K m t Γ (arg a)) (hp : pre a) : Ev K m (tMake C (Ini K C arg pre ds) [] E t) Γ (.ins C (ds a)) := fun σ G H x s M Q k =>
  h σ G H x s M _ fun vs es G1 H1 p1 g1 M1 r1 p dp hpn hdn ne => by
    subst p1
    rw [List.append_nil]
    exact ⟨a, p, dp, G1, H1, vs, rfl, r1, g1.sub, hpn, hdn, ne, rfl, hp, fun G' H' g d => ⟨rfl, k _ _ G' H' rfl (g1.trans g.lift) (Mu.pure g M1) d⟩⟩
end
section
variable {K : PySem.W.Frag} {m : Mu} {G0 H0 G H : Hp} {σ : L2.St} {Γ : Ga} {D : Ends} {u : TS} {te : TE} {P : Dt → Prop}
/-- an expression as a statement -/
theorem c_drop (c : Cf K m G0 H0 σ Γ G H) (h : EvG K m te Γ P) (k : ∀ d G' H', P d → Cf K m G0 H0 σ Γ G' H' → Grow m.μ G H G' H' → D.nx σ H') : tDrop te D σ H := c.ev h fun v d G' H' p c' g r => k d G' H' p c' g
theorem q_drop (c : Cf K m G0 H0 σ Γ G H) (h : EvG K m te Γ P) (k : ∀ d G' H', P d → Cf K m G0 H0 σ Γ G' H' → Grow m.μ G H G' H' → u D σ H') : tSeq (tDrop te) u D σ H := c.ev h fun v d G' H' p c' g r => k d G' H' p c' g
end
/-! ### a dict that is written -/
theorem Tp.gOffs {K : PySem.W.Frag} {mg : Str → Option Value} (T : Tp K mg) : mg "OFFS" = some (.ref (He.ga K "OFFS")) := T.gl _ (by decide +kernel)
structure OffsOk (K : PySem.W.Frag) (w : World) : Prop where
  at_ : ∀ p ∈ places, ∃ q : Addr, KDct K w (He.ga K "OFFS") (tx p) (.ref q) ∧ ∀ G : Hp, SqT K G q [.int (offOf p).1, .int (offOf p).2]
theorem ix_kdictK {X : Cx} {K : PySem.W.Frag} {w : World} (hK : X.K = K := by rfl) (hw : X.w = w := by rfl) : IxR X (rIxD K w) := by subst hK hw; exact ix_kdict
theorem ev_offs {K : PySem.W.Frag} {w : World} {m : Mu} {Γ : Ga} {tb : TE} {p : Tx} (O : OffsOk K w) (hp : p ∈ places) (h : Ev K m tb Γ (.str p)) : Ev K m (tOp (rIxD K w) (tC (.ref (He.ga K "OFFS"))) tb) Γ (.tupW [.int (offOf p).1, .int (offOf p).2]) := fun σ G H x s M Q k =>
  h σ G H x s M _ fun v d G1 H1 p1 g1 M1 r1 => by
    subst p1
    obtain rfl := r1.str_inv
    obtain ⟨q, h1, h2⟩ := O.at_ p hp
    exact ⟨_, _, .ref q, rfl, rfl, h1, k _ _ G1 H1 rfl g1 M1 (.tupW (h2 G1) (.cons (.int _) (.cons (.int _) .nil)))⟩
end K70
namespace K70
open PySem PySem.Spec PyProof.Rows L2
theorem sv_zipL {K : PySem.W.Frag} {m : Mu} {Γ : Ga} {ta tb : TE} {as bs : List Dt} (h : Ev K m ta Γ (.lst as)) (h2 : Ev K m tb Γ (.lst bs)) : SrcG K m (iZip K (tCons ta (tCons tb tNil))) Γ (· = zipD as bs) := sr_zip (ea_cons h (ea_cons h2 ea_nil)) fun ds e => ⟨as, bs, e, rfl⟩
theorem SrcG.to' {K : PySem.W.Frag} {m : Mu} {wi : TI} {Γ : Ga} {as bs : List Dt} (h : SrcG K m wi Γ (· = as)) (e : as = bs) : SrcG K m wi Γ (· = bs) := e ▸ h
end K70
/-! xs.extend(ys), d.update(e), displays of dicts that are to change. -/
namespace K70
open PySem PySem.Spec PyProof.Rows L2
section
variable {X : Cx}
def rUpdK : V → List V → Hp → VK → Prop := fun x xs H Q => ∃ (d o : Addr) (kvs more : List (Key × V)), x = .ref d ∧ xs = [.ref o] ∧ d ≠ o ∧ H d = some (.dK kvs) ∧ H o = some (.dK more) ∧ kvs.length + more.length ≤ sizeLine ∧ Q .non (upd H d (.dK (mergeK kvs more)))
theorem mt_updK : MtR X "dict.update" rUpdK := by
  intro pins s σ H x xs v us Q I rx rxs h
  obtain ⟨d, o, kvs, more, rfl, rfl, hne, hd, ho, hz, q⟩ := h
  cases rx
  obtain ⟨u, rfl, ru⟩ := vals1 rxs
  cases ru
  obtain ⟨z1, l1, vs1, r1, d1⟩ := dk_of I.hok hd
  obtain ⟨z2, l2, vs2, r2, d2⟩ := dk_of I.hok ho
  have e1 : kvs.length = vs1.length := r1.length
  have e2 : more.length = vs2.length := r2.length
  refine call_meetsIn PySem.F.slot_dict_update d1.typeIs PySem.F.entry_dict_update (PySem.F.args_dict_update_2 _ _) (meets_dict_update (mixKind X.prog X.w) d o hne l2) ⟨vs1, vs2, d1, d2, by rw [← e1, ← e2]; exact hz, fun h' dd' _ hs => ?_⟩
  have hl : (mergeK kvs more).length ≤ sizeLine := Nat.le_trans (length_mergeK more kvs) hz
  have he : ∃ q, h'.get? d = some q := let ⟨q, _, _, hq, _⟩ := dd'; ⟨q, hq⟩
  exact ⟨.non, _, d_write (t' := s.toks) I (by rw [hd]; exact True.intro) hs he (dk_new hl l1 (r2.merge r1) dd'), rfl, q⟩
end
section
variable {K : PySem.W.Frag} {m : Mu} {G0 H0 G H : Hp} {σ : L2.St} {Γ : Ga} {D : Ends} {u : TS} {te : TE} {p : Addr} {i : Nat}
theorem mergeK_len (l more : List (Key × V)) : (mergeK l more).length ≤ l.length + more.length := length_mergeK more l
/-- d.update(e) of a dict that isn't known yet -/
theorem q_updK {ds ms : List (Key × Dt)} (c : Cf K m G0 H0 σ Γ G H) (hi : Γ[i]? = some (some (.raw (.ref p)))) (a : AccK K G H p ds) (hp : H0 p = none) (n : ¬ m.μ p) (hl : ds.length + ms.length ≤ 100000) (h : Ev K m te Γ (.dK ms))
    (k' : ∀ G' H', Cf K m G0 H0 σ Γ G' H' → AccK K G' H' p (mergeD ds ms) → u D σ H') : tSeq (tDrop (tBM K "dict" rUpdK (tVar i) (tCons te tNil))) u D σ H := by
  obtain ⟨v, e1, e2⟩ := c.sl.at_ i _ hi
  obtain rfl := e2.raw_inv
  obtain ⟨vs, hv, rv⟩ := a.at_
  refine ⟨_, e1, .inr (.inr (.inl ⟨rfl, .inl ⟨vs, hv⟩⟩)), c.ev h fun y d G' H' pd c' g r => ?_⟩
  subst pd
  have hv' := g.h p _ n hv
  have gp := g.new p a.out (by rw [hv]; trivial)
  obtain ⟨o, ws, rfl, ho, rw'⟩ := r.dK_inv
  have hne : p ≠ o := fun z => by rw [← z, gp] at ho; cases ho
  refine ⟨p, o, vs, ws, rfl, rfl, hne, hv', c'.gh _ _ ho, ?_, ?_⟩
  · rw [rv.length, rw'.length]; exact Nat.le_trans hl (by decide)
  · exact k' G' _ (c'.set hp gp n) ⟨gp, _, upd_same, rw'.merge (rv.mono g.g)⟩
theorem Cf.doneK {ds : List (Key × Dt)} (c : Cf K m G0 H0 σ Γ G H) (hi : Γ[i]? = some (some (.raw (.ref p)))) (a : AccK K G H p ds) (hp : H0 p = none) (n : ¬ m.μ p) : ∃ G', Same G G' ∧ Cf K m G0 H0 σ (Γ.set i (some (.dK ds))) G' H ∧ ∀ q, q ≠ p → G' q = G q := by
  obtain ⟨vs, e, r⟩ := a.known
  obtain ⟨v, e1, e2⟩ := c.sl.at_ i _ hi
  obtain rfl := e2.raw_inv
  have c' := c.know hp a.out n e
  exact ⟨_, fun b o q => by rw [upd_ne (ne_of_none q a.out)]; exact q, c'.reput e1 r, fun q hq => by rw [upd_ne hq]⟩
/-- d = {..} that is to change -/
theorem q_dispH {trs : List (TE × TE)} {ps : List (Key × Dt)} (c : Cf K m G0 H0 σ Γ G H) (h : Prs K m Γ trs ps) (hl : ps.length ≤ 15) (k : ∀ p σ' G' H', H0 p = none → ¬ m.μ p → AccK K G' H' p (mergeD [] ps) → Cf K m G0 H0 σ' (Γ.set i (some (.raw (.ref p)))) G' H' → Grow m.μ G H G' H' → u D σ' H') : tSeq (tAsg (tDisp trs) (gName i)) u D σ H := fun p hp => by
  have nD : ¬ m.μ p := Mu.notNew c.mm hp
  have s := c.gh
  refine h.run σ G (upd H p (.dK [])) c.sl (Grow.hide (μ := m.μ) s hp).sub (Mu.hide s hp c.mm) _ fun kvs G1 H1 g1 M1 rm => ?_
  have h1 : H1 p = some (.dK []) := g1.h p _ nD upd_same
  have gp : G1 p = none := g1.new p (s.free hp) (by rw [upd_same]; trivial)
  refine ⟨h1, kvs, rfl, by rw [rm.length]; exact hl, ?_⟩
  have gr : Grow m.μ G H G1 (upd H1 p (.dK (mergeK [] kvs))) := ((Grow.hide s hp).trans g1).set hp gp
  have c1 : Cf K m G0 H0 σ Γ G1 (upd H1 p (.dK (mergeK [] kvs))) := ⟨c.sl.mono gr.g, gr.sub, Mu.set g1.sub gp nD M1, c.gr.trans gr⟩
  exact k p _ _ _ (c.free hp) nD ⟨gp, _, upd_same, rm.merge .nil⟩ (c1.put i (.raw _)) gr
/-- xs.extend(ys) -/
theorem c_ext {ds es : List Dt} (c : Cf K m G0 H0 σ Γ G H) (hi : Γ[i]? = some (some (.raw (.ref p)))) (a : Acc K G H p ds) (hp : H0 p = none) (n : ¬ m.μ p) (hl : ds.length + es.length ≤ 100000) (h : Ev K m te Γ (.lst es))
    (k : ∀ G' H' H2, Grow m.μ G H G' H' → Cf K m G0 H0 σ Γ G' H2 → Acc K G' H2 p (ds ++ es) → (∃ o, H2 = upd H' p o) → D.nx σ H2) : tDrop (tBM K "list" rExtend (tVar i) (tCons te tNil)) D σ H := by
  obtain ⟨v, e1, e2⟩ := c.sl.at_ i _ hi
  obtain rfl := e2.raw_inv
  obtain ⟨vs, hv, rv⟩ := a.at_
  refine ⟨_, e1, .inl ⟨rfl, vs, .inl (.inl hv)⟩, c.ev h fun y d G' H' pd c' g r => ?_⟩
  subst pd
  have hv' := g.h p _ n hv
  have gp := g.new p a.out (by rw [hv]; trivial)
  obtain ⟨o, ws, rfl, ho, rw'⟩ := r.lst_inv
  refine ⟨p, o, vs, ws, rfl, rfl, hv', c'.gh _ _ ho, ?_, ?_⟩
  · rw [rv.length, rw'.length]; exact Nat.le_trans hl (by decide)
  · exact k G' H' _ g (c'.set hp gp n) ⟨gp, _, upd_same, (rv.mono g.g).append rw'⟩ ⟨_, rfl⟩
end
end K70
/-! dict(xs) of pairs whose keys are tuples; list.sort of tuples of two texts; sorted(d). -/
namespace K70
open PySem PySem.Spec PyProof.Rows L2
/-- a pair: its tuple, its key, the key's tuple, its value -/
abbrev Pr := Addr × List Key × Addr × V
section
variable {X : Cx} {pins : List (Addr × Obj)} {σ : L2.St} {H : Hp} {s : Shared}
theorem pr_raw (I : L2.Inv X pins σ H s) : ∀ {ps : List Pr}, (∀ q ∈ ps, H q.1 = some (.tup [.ref q.2.2.1, q.2.2.2]) ∧ H q.2.2.1 = some (.tup (q.2.1.map kV))) →
    ∃ xs : List (List Key × Addr × Value), Paired (fun (q : Pr) x => x.1 = q.2.1 ∧ x.2.1 = q.2.2.1 ∧ RelV q.2.2.2 x.2.2 ∧ s.heap.IsTuple q.1 #[.ref x.2.1, x.2.2]) ps xs
  | [], _ => ⟨[], .nil⟩
  | q :: ps, h => by
    obtain ⟨xs, r⟩ := pr_raw I (ps := ps) fun x hx => h x (List.mem_cons_of_mem _ hx)
    obtain ⟨h1, h2⟩ := h q List.mem_cons_self
    obtain ⟨_, its, rv, o, e1, e2, n, e3⟩ := (show ObjOk X.prog X.w H s.heap q.1 (.tup [.ref q.2.2.1, q.2.2.2]) from I.hok _ _ h1)
    obtain ⟨u, y, ei, ru, ry⟩ := vals2 rv
    subst ei
    cases ru
    exact ⟨(q.2.1, q.2.2.1, y) :: xs, .cons ⟨rfl, rfl, ry, o, e1, e2, n, e3⟩ r⟩
theorem storedAll_new {K : Type} [DecidableEq K] : ∀ (ps xs : List (K × Addr × Value)), (ps.map (·.1)).Nodup → (∀ x ∈ xs, x.1 ∉ ps.map (·.1)) → storedAllH xs ps = xs ++ ps
  | [], xs, _, _ => by simp [storedAllH]
  | p :: ps, xs, nd, hx => by
    rw [List.map_cons, List.nodup_cons] at nd
    have hn : atKey xs p.1 = none := by
      unfold atKey
      rw [List.find?_eq_none.mpr]
      · rfl
      · intro x hx' e
        exact hx x hx' (by rw [of_decide_eq_true e, List.map_cons]; exact List.mem_cons_self)
    show storedAllH (storedH xs p.1 p.2.1 p.2.2) ps = _
    have e : storedH xs p.1 p.2.1 p.2.2 = xs ++ [p] := storedH_new hn _ _
    rw [e, storedAll_new ps (xs ++ [p]) nd.2 (fun x hx' => ?_), List.append_assoc]
    · rfl
    · rcases List.mem_append.mp hx' with h | h
      · exact fun z => hx x h (by rw [List.map_cons]; exact List.mem_cons_of_mem _ z)
      · rw [List.mem_singleton.mp h]; exact nd.1
def rDictT : List V → Hp → VK → Prop := fun vs H Q => ∃ (a : Addr) (ps : List Pr), vs = [.ref a] ∧ H a = some (.lst (ps.map fun q => V.ref q.1)) ∧ (∀ q ∈ ps, H q.1 = some (.tup [.ref q.2.2.1, q.2.2.2]) ∧ H q.2.2.1 = some (.tup (q.2.1.map kV))) ∧ (ps.map (·.2.1)).Nodup ∧
  ∀ p, H p = none → Q (.ref p) (upd H p (.dT (ps.map fun q => (q.2.1, q.2.2.2))))
theorem kt_of {H' : Hp} {h : Heap} : ∀ {ps : List Pr} {xs : List (List Key × Addr × Value)}, Paired (fun (q : Pr) x => x.1 = q.2.1 ∧ x.2.1 = q.2.2.1 ∧ RelV q.2.2.2 x.2.2 ∧ h.IsTuple q.1 #[.ref x.2.1, x.2.2]) ps xs → (∀ q ∈ ps, H' q.2.2.1 = some (.tup (q.2.1.map kV))) → KT H' (ps.map fun q => (q.2.1, q.2.2.2)) xs
  | _, _, .nil, _ => .nil
  | _, _, .cons (a := q) h t, hk => .cons ⟨h.1.symm, by rw [h.2.1]; exact hk q List.mem_cons_self, h.2.2.1⟩ (kt_of t fun x hx => hk x (List.mem_cons_of_mem _ hx))
theorem pr_get {h : Heap} : ∀ {ps : List Pr} {xs : List (List Key × Addr × Value)} {j : Nat} {x : List Key × Addr × Value}, Paired (fun (q : Pr) x => x.1 = q.2.1 ∧ x.2.1 = q.2.2.1 ∧ RelV q.2.2.2 x.2.2 ∧ h.IsTuple q.1 #[.ref x.2.1, x.2.2]) ps xs → xs[j]? = some x → ∃ q, ps[j]? = some q ∧ h.IsTuple q.1 #[.ref x.2.1, x.2.2] := fun r e => by
  obtain ⟨q, h1, h2⟩ := pair_at r e
  exact ⟨q, h1, h2.2.2.2⟩
theorem cr_dictT (hc : X.calm = true) (hu : X.A.units + 2 < cLine) : CallR X (.type "dict") rDictT := by
  intro pins s σ H vs us Q I r h
  obtain ⟨a, ps, rfl, ha, hps, nd, q⟩ := h
  rw [Vals.ref1 r]
  obtain ⟨z, its, n, rv, hl, e⟩ := I.lstM ha
  obtain rfl := refs_at (ps := ps.map (·.1)) (by rw [List.map_map]; exact rv)
  obtain ⟨xs, rx⟩ := pr_raw I hps
  have xl : ps.length = xs.length := Paired.length rx
  let Ts : Nat → Addr := fun j => (ps[j]?.map (·.1)).getD 0
  let psv : List (Value × Value) := xs.map fun x => (.ref x.2.1, x.2.2)
  have pl : psv.length = ps.length := by show (xs.map _).length = _; rw [List.length_map, xl]
  have seq : PlainSeq "list" s.heap a ((ps.map (·.1)).map Value.ref).toArray := ⟨_, n, e, rfl, rfl, rfl⟩
  have items : PairItems s.heap ((ps.map (·.1)).map Value.ref).toArray Ts psv := by
    refine ⟨by simp [pl], fun j k v hj => ?_⟩
    rw [List.getElem?_map] at hj
    cases hx : xs[j]? with
    | none => rw [hx] at hj; cases hj
    | some x =>
      rw [hx] at hj
      cases hj
      obtain ⟨y, hy, ht⟩ := pr_get rx hx
      have hT : Ts j = y.1 := by show (ps[j]?.map (·.1)).getD 0 = _; rw [hy]; rfl
      refine ⟨by simp [hy, hT], .inl (by rw [hT]; exact ht)⟩
  have keys : ∀ x ∈ xs, (tupleKind (mixKind X.prog X.w)).is s.heap x.1 x.2.1 := by
    intro x hx
    obtain ⟨j, hj⟩ := List.mem_iff_getElem?.mp hx
    obtain ⟨y, hy, r1, r2, _⟩ := pair_at rx hj
    rw [r1, r2]
    exact key_of I.hok (hps y (List.mem_of_getElem? hy)).2
  refine call_dict_pairsH (knd := tupleKind (mixKind X.prog X.w)) (ps := xs) (PairArg.list a _ Ts psv) (I.ok.hd hc) hu ⟨seq, items⟩ ⟨by rw [pl, xl], fun i key v hr => ?_⟩ (fun h' hk x hx => tupleKind_stays.stays (fun b o vs n e1 _ => hk b o (Nat.ne_of_lt (Heap.lt_size e1)) (by simp) e1) (keys x hx)) (by rw [pl]; rw [List.length_map] at z; exact z) fun h' tk dd' hk => ?_
  · have hr : psv[i]? = some (key, v) := hr
    rw [List.getElem?_map] at hr
    cases hx : xs[i]? with
    | none => rw [hx] at hr; cases hr
    | some x =>
      rw [hx] at hr
      cases hr
      exact ⟨x.1, x.2.1, rfl, rfl⟩
  · have nx : (xs.map (·.1)).Nodup := by
      have : xs.map (·.1) = ps.map (·.2.1) := by
        apply List.ext_getElem?
        intro j
        rw [List.getElem?_map, List.getElem?_map]
        cases hx : xs[j]? with
        | none =>
          have : ps[j]? = none := List.getElem?_eq_none (by rw [xl]; exact List.getElem?_eq_none_iff.mp hx)
          rw [this]; rfl
        | some x =>
          obtain ⟨y, hy, r1, _⟩ := pair_at rx hx
          rw [hy]; exact congrArg some r1
      rw [this]; exact nd
    rw [storedAll_new xs [] nx (fun x hx => nomatch hx), List.nil_append] at dd'
    have hm : (s.heap.objs.size == sysModules) = false := beq_eq_false_iff_ne.mpr (Nat.ne_of_gt I.big)
    have hk' : ∀ b o, s.heap.get? b = some o → h'.get? b = some o := fun b o e => hk b o (by simp) e
    obtain ⟨od, es, ep, g1, g2, g3, g4, _, g5⟩ := dd'
    have hf : H s.heap.objs.size = none := I.hok.fresh (Nat.le_refl _)
    refine ⟨.ref s.heap.objs.size, upd H s.heap.objs.size (.dT (ps.map fun q => (q.2.1, q.2.2.2))), I.laid (t' := tk) hk' (Nat.le_refl _) (show ObjOk X.prog X.w _ _ _ (.dT _) from ⟨by rw [List.length_map]; rw [List.length_map] at z; exact z, hm, xs, kt_of rx (fun q hq => ?_), od, es, ep, g1, g2, g3, g4, g5⟩), rfl, q _ hf⟩
    rw [upd_ne (ne_of_none (hps q hq).2 hf)]
    exact (hps q hq).2
end
end K70
/-! By data: comprehensions over a dict, dict of pairs; tuples of two texts sorted. -/
namespace K70
open PySem PySem.Spec PyProof.Rows L2
section
variable {K : PySem.W.Frag} {Γ : Ga} {te : TE} {g : TG}
/-- [f s for s in d] of a dict whose keys are pairs of texts -/
theorem ev_lcKeys {i : Nat} {vs : List Nat} {l : List (Tx × Tx)} {d : Tx × Tx → Dt} (f : Tx × Tx → Dt) (hi : Γ[i]? = some (some (.dT (l.map fun s => (kT s, d s))))) (hl : l.length ≤ 100000)
    (hb : ∀ s ∈ l, ∃ Γ' js, (∀ j ∈ js, j ∈ vs) ∧ TgG K g (stD s) (wipeG Γ vs) Γ' js ∧ Ev K still te Γ' (f s)) : Ev K still (tLockRE (tLc (iKeys (tVar i)) g tYes te vs)) Γ (.lst (l.map f)) := fun σ G H x s M Q k => by
  obtain ⟨v, e, r⟩ := x.at_ i _ hi
  obtain ⟨a, kvs, rfl, ga, rm⟩ := r.dT_inv
  have main : ∀ {od : Obj} {G1 H1 : Hp} {U : Hp → Hp}, Lkd a od kvs G H G1 H1 U → ∀ Q' : VK, (∀ v H2, H2 a = some (.frz od (.dT kvs)) → Q v (U H2) → Q' v H2) → tLc (iKeys (tVar i)) g tYes te vs σ H1 Q' := by
    intro od G1 H1 U L Q' hQ'
    have rm1 := rm.lock L.s1
    have ek : keysD (l.map fun s => (kT s, d s)) = l.map stD := by
      unfold keysD
      rw [List.map_map]
      apply List.map_congr_left
      intro s _
      exact kT_D s
    have src : Src K G1 (Itkt a od kvs) (l.map stD) := by rw [← ek]; exact src_keys L.at_ rm1
    refine lc_at (m := still) (S := (· = l.map stD)) (P := (· = .lst (l.map f))) (x.lock L.s1) L.sub trivial (fun R hR => ⟨_, e, a, od, rfl, .inr ⟨kvs, L.sub _ _ L.at_, hR _ _ G1 H1 rfl (Grow.refl L.sub) trivial src⟩⟩) (fun ds' q => ?_) _ fun v d' G2 H2 pd g2 _ r2 => ?_
    · subst q
      refine ⟨by rw [List.length_map]; exact hl, fun j acc => acc = (l.take j).map f, rfl, fun acc q => by rw [q, List.length_map, List.take_length], fun j dd acc hd q => ?_⟩
      rw [List.getElem?_map] at hd
      cases hs : l[j]? with
      | none => rw [hs] at hd; cases hd
      | some st =>
        rw [hs] at hd
        obtain rfl : stD st = dd := Option.some.inj hd
        obtain ⟨Γ', js, h1, h2, h3⟩ := hb st (List.mem_of_getElem? hs)
        exact ⟨Γ', js, h1, h2, _, et_yes, fun _ => h3.imp fun y hy => by
          show acc ++ [y] = (l.take (j + 1)).map f
          rw [hy, q, map_take_succ hs], fun z => nomatch z⟩
    · exact hQ' _ _ (g2.sub _ _ (g2.g _ _ L.at_)) (k v d' (U G2) (U H2) pd (L.gr _ _ g2) trivial (r2.lock (L.un _ g2.g)))
  rcases ga with ga | ⟨od, ga⟩
  · exact .inl ⟨a, .dT kvs, s _ _ ga, trivial, fun od => main (lkd_of s ga) _ fun v H2 h1 h2 => ⟨h1, h2⟩⟩
  · exact .inr (main (lkd_id s ga) _ fun v H2 h1 h2 => h2)
theorem pr_of {G : Hp} {d : Tx × Tx → Dt} : ∀ {l : List (Tx × Tx)} {xs : List V}, Dvs K G xs (l.map fun s => .tup [stD s, d s]) → ∃ ps : List Pr, xs = (ps.map fun q => V.ref q.1) ∧ (∀ q ∈ ps, G q.1 = some (.tup [.ref q.2.2.1, q.2.2.2]) ∧ G q.2.2.1 = some (.tup (q.2.1.map kV))) ∧ ps.map (·.2.1) = l.map kT ∧ DvM K G (ps.map fun q => (q.2.1, q.2.2.2)) (l.map fun s => (kT s, d s))
  | [], _, .nil => ⟨[], rfl, (fun _ h => nomatch h), rfl, .nil⟩
  | s :: l, _, .cons h r => by
    obtain ⟨ps, rfl, h2, h3, h4⟩ := pr_of r
    obtain ⟨a, ys, rfl, ga, ra⟩ := h.tup_inv
    cases ra with
    | cons r1 ra =>
      cases ra with
      | cons r2 ra =>
        cases ra
        rename_i v1 v2
        have r1' : Dv K G v1 (.tup ((kT s).map kD)) := by rw [kT_D]; exact r1
        obtain ⟨b, zs, rfl, gb, rb⟩ := r1'.tup_inv
        obtain rfl := rb.kV_inv
        refine ⟨(a, kT s, b, v2) :: ps, rfl, fun q hq => ?_, ?_, .cons r2 h4⟩
        · rcases List.mem_cons.mp hq with e | hq
          · rw [e]; exact ⟨ga, gb⟩
          · exact h2 q hq
        · rw [List.map_cons, List.map_cons, h3]
theorem cg_dictT {l : List (Tx × Tx)} {d : Tx × Tx → Dt} (nd : l.Nodup) : CG K rDictT [.lst (l.map fun s => .tup [stD s, d s])] (· = .dT (l.map fun s => (kT s, d s))) := fun G H xs s rs Q k => by
  obtain ⟨x, rfl, r⟩ := dvs1 rs
  obtain ⟨a, ys, rfl, ga, ra⟩ := r.lst_inv
  obtain ⟨ps, rfl, h2, h3, h4⟩ := pr_of ra
  refine ⟨a, ps, rfl, s _ _ ga, fun q hq => ⟨s _ _ (h2 q hq).1, s _ _ (h2 q hq).2⟩, ?_, fun p hp => ?_⟩
  · rw [h3]
    unfold List.Nodup
    rw [List.pairwise_map]
    exact nd.imp fun {a b} hab e => hab (kT_inj e)
  · have g : Grow Pure G H (upd G p (.dT (ps.map fun q => (q.2.1, q.2.2.2)))) (upd H p (.dT (ps.map fun q => (q.2.1, q.2.2.2)))) := Grow.grow s hp
    exact k _ _ _ _ rfl g (.dT (.inl upd_same) (h4.mono g.g))
end
end K70
/-! Tuples of two texts sorted: sorted(d) of a dict. -/
namespace K70
open PySem PySem.Spec PyProof.Rows L2
/-- the order of pairs of texts -/
def keyS (s : Tx × Tx) : List (Int ⊕ List Nat) := [.inr s.1, .inr s.2]
def ltS (a b : Tx × Tx) : Bool := (listOrd itemOrd).blt (keyS a) (keyS b)
theorem ltS_irrefl (a : Tx × Tx) : ltS a a = false := (listOrd itemOrd).irrefl _
theorem ltS_trans {a b c : Tx × Tx} (h : ltS a b = true) (h2 : ltS b c = true) : ltS a c = true := (listOrd itemOrd).trans _ _ _ h h2
theorem ltS_total {a b : Tx × Tx} (h : ltS a b = false) (h2 : ltS b a = false) : a = b := by
  have e := (listOrd itemOrd).total (keyS a) (keyS b) h h2
  unfold keyS at e
  injection e with e1 e2
  injection e2 with e2 _
  injection e1 with e1
  injection e2 with e2
  exact Prod.ext e1 e2
/-- two that are sorted without repetition and hold the same -/
theorem sorted_unique : ∀ {l k : List (Tx × Tx)}, l.Pairwise (fun a b => ltS a b = true) → k.Pairwise (fun a b => ltS a b = true) → (∀ x, x ∈ l ↔ x ∈ k) → l = k
  | [], [], _, _, _ => rfl
  | [], b :: k, _, _, h => nomatch (h b).mpr List.mem_cons_self
  | a :: l, [], _, _, h => nomatch (h a).mp List.mem_cons_self
  | a :: l, b :: k, h1, h2, h => by
    obtain ⟨a1, a2⟩ := List.pairwise_cons.mp h1
    obtain ⟨b1, b2⟩ := List.pairwise_cons.mp h2
    have e : a = b := by
      rcases List.mem_cons.mp ((h a).mp List.mem_cons_self) with q | q
      · exact q
      · rcases List.mem_cons.mp ((h b).mpr List.mem_cons_self) with w | w
        · exact w.symm
        · have z := ltS_trans (b1 a q) (a1 b w)
          rw [ltS_irrefl] at z; cases z
    subst e
    congr 1
    refine sorted_unique a2 b2 fun x => ⟨fun hx => ?_, fun hx => ?_⟩
    · rcases List.mem_cons.mp ((h x).mp (List.mem_cons_of_mem _ hx)) with q | q
      · have z := a1 x hx
        rw [q, ltS_irrefl] at z; cases z
      · exact q
    · rcases List.mem_cons.mp ((h x).mpr (List.mem_cons_of_mem _ hx)) with q | q
      · have z := b1 x hx
        rw [q, ltS_irrefl] at z; cases z
      · exact q
/-- a tuple and the two texts that it holds -/
abbrev Ps := Addr × (Tx × Tx)
abbrev stV (s : Tx × Tx) : List V := [.str (tx s.1), .str (tx s.2)]
section
variable {X : Cx} {pins : List (Addr × Obj)} {σ : L2.St} {H : Hp} {s : Shared} {A : Around} {E : Value → Shared → Prop}
theorem st_raw (I : L2.Inv X pins σ H s) {p : Ps} (h : H p.1 = some (.tup (stV p.2))) : ∃ o n t u, s.heap.get? p.1 = some o ∧ o.cls = .type "tuple" ∧ o.data = .seq #[.str (tx p.2.1) t, .str (tx p.2.2) u] n := by
  obtain ⟨_, its, rv, o, e1, e2, n, e3⟩ := (show ObjOk X.prog X.w H s.heap p.1 (.tup (stV p.2)) from I.hok _ _ h)
  obtain ⟨u, y, ei, ru, ry⟩ := vals2 rv
  subst ei
  obtain ⟨t, rfl⟩ := ru
  obtain ⟨t2, rfl⟩ := ry
  exact ⟨o, n, t, t2, e1, e2, e3⟩
theorem st_key (I : L2.Inv X pins σ H s) {p : Ps} (h : H p.1 = some (.tup (stV p.2))) : G.tupKeyC s.heap (fun _ => true) (.ref p.1) = some (keyS p.2) := by
  obtain ⟨o, n, t, u, e1, e2, e3⟩ := st_raw I h
  unfold G.tupKeyC
  have hi : G.isTupObj s.heap (.ref p.1) = true := by
    unfold G.isTupObj
    simp only [e1, e2]
    decide
  rw [if_pos hi]
  unfold tupKey
  simp only [e1, e3, tupItems, tx_list, if_true, Option.map_some]
  rfl
theorem st_tups (I : L2.Inv X pins σ H s) : ∀ {ps : List Ps}, (∀ p ∈ ps, H p.1 = some (.tup (stV p.2))) → ∃ fs, TupsOf s.heap (fun _ => true) (ps.map fun p => Value.ref p.1) fs
  | [], _ => ⟨[], .nil⟩
  | p :: ps, h => by
    obtain ⟨fs, r⟩ := st_tups I (ps := ps) fun x hx => h x (List.mem_cons_of_mem _ hx)
    obtain ⟨o, n, t, u, e1, e2, e3⟩ := st_raw I (h p List.mem_cons_self)
    exact ⟨_, .cons ⟨p.1, o, _, n, rfl, e1, e2, e3, rfl, (fun z => nomatch z), (fun _ => ⟨_, _, rfl⟩)⟩ r⟩
theorem zip_self' {α β : Type} (f : α → β) : ∀ l : List α, l.map (fun p => (f p, f p)) = (l.map f).zip (l.map f)
  | [] => rfl
  | a :: l => by
    rw [List.map_cons, List.map_cons, List.zip_cons_cons, zip_self' f l]
theorem perm_pairs {ps : List Ps} {m : List (Value × Value)} (h : m.Perm (pairsOf (ps.map fun p => Value.ref p.1)).toList) : ∃ ps' : List Ps, ps'.Perm ps ∧ ps'.map (fun p => (Value.ref p.1, Value.ref p.1)) = m := by
  refine perm_lift (fun p : Ps => (Value.ref p.1, Value.ref p.1)) h ps ?_
  rw [pairsOf_toList]
  exact zip_self' (fun p : Ps => Value.ref p.1) ps
theorem vals_refs : ∀ ps : List Ps, Vals (ps.map fun p => V.ref p.1) (ps.map fun p => Value.ref p.1)
  | [] => .nil
  | _ :: ps => .cons rfl (vals_refs ps)
/-- xs.sort() of a new list of such tuples -/
theorem sort_states (I : L2.Inv X pins σ H s) {D : Addr} {ps : List Ps} {Q : Value → Shared → Prop} (hob : s.heap.get? D = some (seqObj "list" (ps.map fun p => Value.ref p.1).toArray 0)) (f : FpOk X pins H D) (hps : ∀ p ∈ ps, H p.1 = some (.tup (stV p.2))) (hl : ps.length ≤ sizeLine)
    (hq : ∀ (ps' : List Ps) s', ps'.Perm ps → ps'.Pairwise (fun p q => ltS q.2 p.2 = false) → L2.Inv X pins σ (upd H D (.lst (ps'.map fun p => V.ref p.1))) s' → Q .none s') :
    wpAny (model X.prog X.w) A (call (.builtin "list.sort") [.ref D]) Q E s := by
  obtain ⟨fs, ht⟩ := st_tups I hps
  refine wpAny_call_entry PyProof.Rows.slot_list_sort ⟨_, hob, rfl⟩ PyProof.Rows.entry_list_sort (G.list_sort_tups (shape := fun _ => true) hob ht (fun v hv => ?_) (by rw [List.length_map]; exact hl) fun st' o1 o2 o3 => ⟨.none, rfl, ?_⟩) (PyProof.Rows.args_list_sort _)
  · obtain ⟨p, hp, rfl⟩ := List.mem_map.mp hv
    exact ⟨_, st_key I (hps p hp)⟩
  · obtain ⟨ps', hp, he⟩ := perm_pairs (ps := ps) (m := (arrOf st').toList) (Array.perm_iff_toList_perm.mp o1)
    have hout : ((arrOf st').map (·.2)).toList = ps'.map fun p => Value.ref p.1 := by
      rw [Array.toList_map, ← he, List.map_map]; rfl
    obtain ⟨eF, heF⟩ := PyProof.Rows.sortedHeap_at (vs := ps.map fun p => Value.ref p.1) (out := (arrOf st').map (·.2)) hob
    have hsz : (arrOf st').size = ps'.length := by
      rw [← Array.length_toList, ← he, List.length_map]
    refine hq ps' _ hp ?_ (I.take (t' := s.toks) (h' := sortedHeap s.heap D (ps.map fun p => Value.ref p.1) ((arrOf st').map (·.2))) (fun b ob hb e => (PyProof.Rows.sortedHeap_old hb (Heap.lt_size e)).trans e) f (show ObjOk X.prog X.w _ _ D (.lst (ps'.map fun p => V.ref p.1)) from ⟨by rw [List.length_map, hp.length_eq]; exact hl, ps'.map (fun p => Value.ref p.1), eF, vals_refs ps', by rw [← hout]; exact heF⟩))
    rw [List.pairwise_iff_getElem]
    intro i j hi hj hij
    have hn : (pairsOf (ps.map fun p => Value.ref p.1)).size = ps'.length := by rw [pairsOf_size, List.length_map, hp.length_eq]
    have key : ∀ (k : Nat) (hk : k < ps'.length), KK (G.tupKindC s.heap (fun _ => true)) (arrOf st') k = keyS ps'[k].2 := by
      intro k hk
      have e1 : (arrOf st')[k]? = some (Value.ref ps'[k].1, Value.ref ps'[k].1) := by
        rw [← Array.getElem?_toList, ← he, List.getElem?_map, List.getElem?_eq_getElem hk]; rfl
      unfold KK
      rw [e1]
      have e2 : G.tupKeyC s.heap (fun _ => true) (.ref ps'[k].1) = some (keyS ps'[k].2) := st_key I (hps _ (hp.mem_iff.mp (List.getElem_mem hk)))
      show (G.tupKeyC s.heap (fun _ => true) (.ref ps'[k].1)).getD [] = _
      rw [e2]; rfl
    have z := o2 i j (Nat.le_of_lt hij) (by rw [hn]; exact hj)
    rw [key i hi, key j hj] at z
    exact z
end
/-- sorted(d) of a dict whose keys are such tuples -/
def rSortedD : List V → Hp → VK → Prop := fun vs H Q => ∃ (a : Addr) (kvs : List (List Key × V)) (l : List (Tx × Tx)), vs = [.ref a] ∧ Rd H a (.dT kvs) ∧ kvs.map (·.1) = l.map kT ∧
  ∀ (ps : List Ps) (p : Addr), (ps.map (·.2)).Perm l → ps.Pairwise (fun p q => ltS q.2 p.2 = false) → (∀ q ∈ ps, H q.1 = some (.tup (stV q.2))) → H p = none → Q (.ref p) (upd H p (.lst (ps.map fun q => V.ref q.1)))
section
variable {X : Cx} {pins : List (Addr × Obj)} {σ : L2.St} {H : Hp} {s : Shared}
theorem kT_V (s : Tx × Tx) : (kT s).map kV = stV s := rfl
theorem keys_ps {es : Array DictEntry} {l : List (Tx × Tx)} {kvs : List (List Key × V)} (hl : kvs.map (·.1) = l.map kT) (hsz : es.size = kvs.length) (hk : ∀ (j : Nat) (hj : j < es.size), ∃ k q, (kvs.map (·.1))[j]? = some k ∧ es[j].key = .ref q ∧ H q = some (.tup (k.map kV))) : ∀ (acc : Array Value), acc.size = es.size → (∀ (j : Nat) (v : Value), acc[j]? = some v → ∃ hi : j < es.size, v = es[j].key) →
    ∃ ps : List Ps, acc.toList = ps.map (fun p => Value.ref p.1) ∧ ps.map (·.2) = l ∧ ∀ p ∈ ps, H p.1 = some (.tup (stV p.2)) := by
  intro acc ha hv
  have ll : l.length = es.size := by
    have := congrArg List.length hl
    rw [List.length_map, List.length_map] at this
    rw [hsz, this]
  have each : ∀ j, j < es.size → ∃ q s, l[j]? = some s ∧ acc[j]? = some (.ref q) ∧ H q = some (.tup (stV s)) := by
    intro j hj
    obtain ⟨k, q, h1, h2, h3⟩ := hk j hj
    rw [hl, List.getElem?_map] at h1
    cases hs : l[j]? with
    | none => rw [hs] at h1; cases h1
    | some st =>
      rw [hs] at h1
      cases h1
      have ha' : acc[j]? = some acc[j] := Array.getElem?_eq_getElem (by rw [ha]; exact hj)
      obtain ⟨_, e⟩ := hv j _ ha'
      exact ⟨q, st, rfl, by rw [ha', e, h2], h3⟩
  have gen : ∀ (us : List Value) (l : List (Tx × Tx)), us.length = l.length → (∀ j, j < l.length → ∃ q s, l[j]? = some s ∧ us[j]? = some (.ref q) ∧ H q = some (.tup (stV s))) → ∃ ps : List Ps, us = ps.map (fun p => Value.ref p.1) ∧ ps.map (·.2) = l ∧ ∀ p ∈ ps, H p.1 = some (.tup (stV p.2)) := by
    intro us
    induction us with
    | nil =>
      intro l hlen _
      cases l with
      | nil => exact ⟨[], rfl, rfl, fun _ h => nomatch h⟩
      | cons a l => simp at hlen
    | cons u us ih =>
      intro l hlen hj
      cases l with
      | nil => simp at hlen
      | cons a l =>
        obtain ⟨ps, h1, h2, h3⟩ := ih l (by simpa using hlen) fun j hj' => by
          obtain ⟨q, st, e1, e2, e3⟩ := hj (j + 1) (by simpa using hj')
          exact ⟨q, st, by simpa using e1, by simpa using e2, e3⟩
        obtain ⟨q, st, e1, e2, e3⟩ := hj 0 (by simp)
        simp only [List.getElem?_cons_zero, Option.some.injEq] at e1 e2
        refine ⟨(q, st) :: ps, by rw [List.map_cons, h1, e2], by rw [List.map_cons, h2, e1], fun p hp => ?_⟩
        rcases List.mem_cons.mp hp with e | hp
        · rw [e]; exact e3
        · exact h3 p hp
  refine gen acc.toList l (by rw [Array.length_toList, ha, ll]) fun j hj => ?_
  obtain ⟨q, st, e1, e2, e3⟩ := each j (by rw [← ll]; exact hj)
  exact ⟨q, st, e1, by rw [Array.getElem?_toList]; exact e2, e3⟩
theorem cr_sortedD (hc : X.calm = true) : CallR X (.builtin "sorted") rSortedD := by
  intro pins s σ H vs us Q I r h
  obtain ⟨a, kvs, l, rfl, ha, hl, q⟩ := h
  rw [Vals.ref1 r]
  obtain ⟨z, lo, es, ep, raw, hsz, _, hkey⟩ := raw_of I ha
  refine Calls.call_function_entry kind_sorted plain_sorted entry_sorted (args_sorted1 _) ?_
  unfold Builtin.«sorted»
  refine wpAny_bind (m := checkCount "sorted" 1 1 _) (wpAny_pure ?_)
  refine wpAny_bind (PySem.W.kdu_collect (A := X.A.in1) (KdlSrc.rawDict (prog := X.prog) (w := X.w) (d := a) (es := es) (ep := ep) lo) (I.ok.hd hc) raw (by rw [hsz]; exact z) fun h' tk acc hk hacc => ?_)
  obtain ⟨ps, hp1, hp2, hp3⟩ := keys_ps (H := H) hl hsz hkey acc hacc.1 hacc.2
  have pl : ps.length ≤ sizeLine := by
    have e1 : acc.toList.length = ps.length := by rw [hp1, List.length_map]
    rw [Array.length_toList, hacc.1, hsz] at e1
    rw [← e1]; exact z
  refine wpAny_bind (wpAny_newList ?_ (by rw [Array.length_toList, hacc.1, hsz]; exact z))
  have I1 : L2.Inv X pins σ H { s with heap := h', toks := tk } := I.kept (t' := tk) hk
  have hn0 : H h'.objs.size = none := I1.hok.fresh (Nat.le_refl _)
  have I2 : L2.Inv X pins σ H { s with heap := h'.push (seqObj "list" acc.toList.toArray 0), toks := tk } := I1.kept (t' := tk) fun b o e => Heap.get?_push_of_some _ e
  have hob : (h'.push (seqObj "list" acc.toList.toArray 0)).get? h'.objs.size = some (seqObj "list" (ps.map fun p => Value.ref p.1).toArray 0) := by
    rw [← hp1]; exact Heap.get?_push_size _ rfl
  have hg := sort_states (A := X.A.in1) (E := X.xe) I2 (D := h'.objs.size) (ps := ps) (Q := fun _ s' => EP X pins σ Q (.ref h'.objs.size) s') hob (I1.fpOk (Nat.le_refl _) hn0) hp3 pl fun ps' s' hperm hpw I3 => ⟨.ref h'.objs.size, _, I3, rfl, q ps' h'.objs.size (by rw [← hp2]; exact hperm.map _) hpw (fun x hx => hp3 x (hperm.mem_iff.mp hx)) hn0⟩
  refine wpAny_bind (wpAny_holding (wpAny_mono hg (fun _ s' x => ?_) fun _ _ e => e))
  exact wpAny_pure ⟨_, rfl, x⟩
end
end K70
/-! By data: sorted(d). -/
namespace K70
open PySem PySem.Spec PyProof.Rows L2
theorem know_tups {G H : Hp} {S : List Addr} (s : Same G H) (h : ∀ a ∈ S, ∃ xs, H a = some (.tup xs)) : Grow Pure G H (knownBy G H S) H := by
  refine ⟨fun a o e => ?_, fun a o _ e => e, fun a e => e, fun a o e => ?_, fun a n z => ?_, fun a z => z⟩
  · by_cases q : a ∈ S
    · rw [knownBy_in q]; exact s _ _ e
    · rw [knownBy_out q]; exact e
  · by_cases q : a ∈ S
    · rw [knownBy_in q] at e; exact e
    · rw [knownBy_out q] at e; exact s _ _ e
  · by_cases q : a ∈ S
    · obtain ⟨xs, e⟩ := h a q
      rw [e] at z; exact z.elim
    · rw [knownBy_out q]; exact n
theorem dvs_ps {K : PySem.W.Frag} {G : Hp} : ∀ {ps : List Ps}, (∀ q ∈ ps, G q.1 = some (.tup (stV q.2))) → Dvs K G (ps.map fun q => V.ref q.1) ((ps.map (·.2)).map stD)
  | [], _ => .nil
  | p :: ps, h => .cons (.tup (h p List.mem_cons_self) (.cons (.str _) (.cons (.str _) .nil))) (dvs_ps fun q hq => h q (List.mem_cons_of_mem _ hq))
theorem strict_of {l : List (Tx × Tx)} (nd : l.Nodup) (h : l.Pairwise (fun p q => ltS q p = false)) : l.Pairwise (fun p q => ltS p q = true) := by
  have both := List.Pairwise.and h nd
  refine both.imp fun {a b} z => ?_
  cases e : ltS a b with
  | true => rfl
  | false => exact absurd (ltS_total e z.1) z.2
theorem ev_sortedD {K : PySem.W.Frag} {m : Mu} {Γ : Ga} {te : TE} {ds : List (List Key × Dt)} {l : List (Tx × Tx)} (h : Ev K m te Γ (.dT ds)) (hk : ds.map (·.1) = l.map kT) (nd : l.Nodup) : EvG K m (tCB rSortedD (tCons te tNil)) Γ fun d => ∃ S : List (Tx × Tx), d = .lst (S.map stD) ∧ S.Perm l ∧ S.Pairwise (fun p q => ltS p q = true) := fun σ G H x s M Q k =>
  show te σ H fun v H1 => rSortedD [v] H1 Q from h σ G H x s M _ fun v d G1 H1 p1 g1 M1 r1 => by
    subst p1
    obtain ⟨a, kvs, rfl, ga, rm⟩ := r1.dT_inv
    refine ⟨a, kvs, l, rfl, same_rd g1.sub ga, by rw [rm.keys]; exact hk, fun ps p hperm hpw hps hp => ?_⟩
    have g2 : Grow Pure G1 H1 (knownBy G1 H1 (ps.map (·.1))) H1 := know_tups g1.sub fun b hb => by
      obtain ⟨q, hq, rfl⟩ := List.mem_map.mp hb
      exact ⟨_, hps q hq⟩
    have g3 : Grow Pure (knownBy G1 H1 (ps.map (·.1))) H1 (upd (knownBy G1 H1 (ps.map (·.1))) p (.lst (ps.map fun q => V.ref q.1))) (upd H1 p (.lst (ps.map fun q => V.ref q.1))) := Grow.grow g2.sub hp
    have g23 := g2.trans g3
    refine k _ (.lst ((ps.map (·.2)).map stD)) _ _ ⟨ps.map (·.2), rfl, hperm, strict_of (hperm.nodup_iff.mpr nd) ?_⟩ (g1.trans g23.lift) (Mu.pure g23 M1) (.lst upd_same ((dvs_ps fun q hq => ?_).mono g3.g))
    · rw [List.pairwise_map]; exact hpw
    · rw [knownBy_in (List.mem_map.mpr ⟨q, hq, rfl⟩)]
      exact hps q hq
end K70
/-! Data that == may be asked of; more reading of a list that isn't known yet. -/
namespace K70
open PySem PySem.Spec PyProof.Rows L2
theorem pyDs_map (ds : List Dt) : pyDs ds = ds.map pyD := by
  induction ds with
  | nil => rfl
  | cons d ds ih => show pyD d :: pyDs ds = _; rw [ih]; rfl
theorem lay_all : ∀ {ds : List Dt}, (∀ d ∈ ds, (pyD d).canLay0 = true) → PyData.canLayAll0 (pyDs ds) = true
  | [], _ => by simp [pyDs, PyData.canLayAll0]
  | d :: ds, h => by
    show PyData.canLayAll0 (pyD d :: pyDs ds) = true
    rw [PyData.canLayAll0, h d List.mem_cons_self, lay_all fun x hx => h x (List.mem_cons_of_mem _ hx)]; rfl
theorem depth_all {k : Nat} : ∀ {ds : List Dt}, (∀ d ∈ ds, (pyD d).depth ≤ k) → PyData.depthAll (pyDs ds) ≤ k
  | [], _ => by simp [pyDs, PyData.depthAll]
  | d :: ds, h => by
    show PyData.depthAll (pyD d :: pyDs ds) ≤ k
    have h1 := h d List.mem_cons_self
    have h2 := depth_all fun x hx => h x (List.mem_cons_of_mem _ hx)
    simp only [PyData.depthAll]
    omega
/-- fit for ==, of a depth -/
structure Fit (d : Dt) (k : Nat) : Prop where
  pl : plainD d = true
  lay : (pyD d).canLay0 = true
  dep : (pyD d).depth ≤ k
theorem Fit.shaped {d : Dt} {k : Nat} (f : Fit d k) (hk : k ≤ 64) : SeqAt.shaped (pyD d) = true := by
  show ((pyD d).canLay0 && decide ((pyD d).depth ≤ 64)) = true
  rw [f.lay, Bool.true_and]
  exact decide_eq_true (Nat.le_trans f.dep hk)
theorem plain_all : ∀ {ds : List Dt}, (∀ d ∈ ds, plainD d = true) → plainDs ds = true
  | [], _ => rfl
  | d :: ds, h => by
    show (plainD d && plainDs ds) = true
    rw [h d List.mem_cons_self, plain_all fun x hx => h x (List.mem_cons_of_mem _ hx)]; rfl
theorem Fit.lst {ds : List Dt} {k : Nat} (h : ∀ d ∈ ds, Fit d k) : Fit (.lst ds) (k + 1) :=
  ⟨plain_all fun d hd => (h d hd).pl, by show PyData.canLay0 (.list (pyDs ds)) = true; rw [PyData.canLay0]; exact lay_all fun d hd => (h d hd).lay, by
    show PyData.depth (.list (pyDs ds)) ≤ _
    have := depth_all fun d hd => (h d hd).dep
    simp only [PyData.depth]
    omega⟩
theorem Fit.tup {ds : List Dt} {k : Nat} (h : ∀ d ∈ ds, Fit d k) : Fit (.tup ds) (k + 1) :=
  ⟨plain_all fun d hd => (h d hd).pl, by show PyData.canLay0 (.tuple (pyDs ds)) = true; rw [PyData.canLay0]; exact lay_all fun d hd => (h d hd).lay, by
    show PyData.depth (.tuple (pyDs ds)) ≤ _
    have := depth_all fun d hd => (h d hd).dep
    simp only [PyData.depth]
    omega⟩
theorem Fit.int (i : Int) : Fit (.int i) 0 := ⟨rfl, by show PyData.canLay0 (.int i) = true; simp [PyData.canLay0], by show PyData.depth (.int i) ≤ 0; simp [PyData.depth]⟩
theorem Fit.str {x : Tx} (h : ∀ c ∈ x, c < 128) : Fit (.str x) 0 := ⟨rfl, by
  show PyData.canLay0 (.str (tx x)) = true
  rw [PyData.canLay0]
  show ((tx x).cps.all fun c => decide (c < 0x110000)) = true
  simp only [tx, List.all_toArray, List.all_eq_true, decide_eq_true_eq]
  intro c hc
  have := h c hc
  omega, by show PyData.depth (.str (tx x)) ≤ 0; simp [PyData.depth]⟩
/-- signs of the alphabet -/
theorem sg_small : ∀ c ∈ sg, c < 128 := by decide +kernel
theorem fit_st {s : Tx × Tx} (h1 : ∀ c ∈ s.1, c < 128) (h2 : ∀ c ∈ s.2, c < 128) : Fit (stD s) 1 := Fit.tup fun d hd => by
  rcases List.mem_cons.mp hd with e | hd
  · rw [e]; exact .str h1
  · rw [List.mem_singleton.mp hd]; exact .str h2
theorem fit_sts {S : List (Tx × Tx)} (h : ∀ s ∈ S, (∀ c ∈ s.1, c < 128) ∧ ∀ c ∈ s.2, c < 128) : Fit (.lst (S.map stD)) 2 := Fit.lst fun d hd => by
  obtain ⟨s, hs, rfl⟩ := List.mem_map.mp hd
  exact fit_st (h s hs).1 (h s hs).2
theorem fit_nil : Fit (.lst []) 1 := Fit.lst (k := 0) fun d hd => nomatch hd
theorem fit_txs {l : List Tx} (h : ∀ x ∈ l, ∀ c ∈ x, c < 128) : Fit (.lst (txs l)) 1 := Fit.lst fun d hd => by
  obtain ⟨x, hx, rfl⟩ := List.mem_map.mp hd
  exact .str (h x hx)
theorem fit_ints {l : List Int} : Fit (.lst (intsD l)) 1 := Fit.lst fun d hd => by
  obtain ⟨x, hx, rfl⟩ := List.mem_map.mp hd
  exact .int x
theorem rg_eqF {K : PySem.W.Frag} {a b : Dt} {k j : Nat} {c : Bool} (fa : Fit a k) (fb : Fit b j) (hk : k ≤ 64) (hj : j ≤ 64) (hc : c = true ↔ a = b) : RG K (rEqD K) a b (· = .bl c) := rg_eqD fa.pl fb.pl (fa.shaped hk) (fb.shaped hj) hc
theorem rg_neF {K : PySem.W.Frag} {a b : Dt} {k j : Nat} {c : Bool} (fa : Fit a k) (fb : Fit b j) (hk : k ≤ 64) (hj : j ≤ 64) (hc : c = true ↔ ¬ a = b) : RG K (rNeD K) a b (· = .bl c) := rg_neD fa.pl fb.pl (fa.shaped hk) (fb.shaped hj) hc
section
variable {K : PySem.W.Frag} {G0 H0 G H : Hp} {σ : L2.St} {Γ : Ga} {D : Ends} {u : TS} {te : TE} {P : Dt → Prop} {p : Addr}
/-- xs.append(e), e read while xs isn't known -/
theorem c_appL {i : Nat} {ds : List Dt} (c : Cf K still G0 H0 σ Γ G H) (hi : Γ[i]? = some (some (.raw (.ref p)))) (a : Acc K G H p ds) (hp : H0 p = none) (hl : ds.length < 100000) (h : ∀ vs, vs.length = ds.length → EvG K (holdL K p vs ds) te Γ P)
    (k : ∀ d G' H2, P d → Same G G' → Cf K still G0 H0 σ Γ G' H2 → Acc K G' H2 p (ds ++ [d]) → D.nx σ H2) : tDrop (tBM K "list" rAppend (tVar i) (tCons te tNil)) D σ H := by
  obtain ⟨v, e1, e2⟩ := c.sl.at_ i _ hi
  obtain rfl := e2.raw_inv
  obtain ⟨vs, hv, rv⟩ := a.at_
  refine ⟨_, e1, .inl ⟨rfl, vs, .inl (.inl hv)⟩, c.evL a h fun y d G' H' pd c' g a' r => ?_⟩
  obtain ⟨vs', hv', rv'⟩ := a'.at_
  refine ⟨p, vs', y, rfl, rfl, hv', ?_, ?_⟩
  · rw [rv'.length]; exact Nat.lt_of_lt_of_le hl (by decide)
  · exact k d G' _ pd g.g (c'.set hp a'.out fun z => z) ⟨a'.out, _, upd_same, rv'.snoc r⟩
theorem q_appL {i : Nat} {ds : List Dt} (c : Cf K still G0 H0 σ Γ G H) (hi : Γ[i]? = some (some (.raw (.ref p)))) (a : Acc K G H p ds) (hp : H0 p = none) (hl : ds.length < 100000) (h : ∀ vs, vs.length = ds.length → EvG K (holdL K p vs ds) te Γ P)
    (k : ∀ d G' H2, P d → Same G G' → Cf K still G0 H0 σ Γ G' H2 → Acc K G' H2 p (ds ++ [d]) → u D σ H2) : tSeq (tDrop (tBM K "list" rAppend (tVar i) (tCons te tNil))) u D σ H := c_appL (D := { D with nx := u D }) c hi a hp hl h k
theorem q_lockB {d : Addr} {kvs : List (List Key × V)} {t : TS} (c : Cf K still G0 H0 σ Γ G H) (s0 : Same G0 H0) (hd : Rd G0 d (.dT kvs))
    (k : ∀ od G0' H0' G1 H1 U (D1 : Ends), Lkd d od kvs G0 H0 G0' H0' U → Lkd d od kvs G H G1 H1 U → Cf K still G0' H0' σ Γ G1 H1 → (∀ σ' Γ' G' H', Cf K still G0' H0' σ' Γ' G' H' → (Cf K still G0 H0 σ' Γ' (U G') (U H') → u D σ' (U H')) → D1.nx σ' H') → t D1 σ H1) : tSeq (tLockR t) u D σ H := c_lockB (D := { D with nx := u D }) c s0 hd k
/-- d[k] = e, e read while d isn't known -/
theorem c_putTT {i : Nat} {ty tv : TE} {ds : List (List Key × Dt)} {q : Tx × Tx} (c : Cf K still G0 H0 σ Γ G H) (hi : Γ[i]? = some (some (.raw (.ref p)))) (a : AccT K G H p ds) (hp : H0 p = none) (hl : ds.length < 100000)
    (hv : ∀ vs, EvG K (holdT K p vs ds) tv Γ P) (hk : Ev K still ty Γ (stD q))
    (k : ∀ d G' H2, P d → Same G G' → Cf K still G0 H0 σ Γ G' H2 → AccT K G' H2 p (putD ds (kT q) d) → D.nx σ H2) : sDPut (tVar i) ty tv D σ H := by
  refine c.evT a hv fun v d G' H' pd c' g a' r => ?_
  obtain ⟨v1, e1, e2⟩ := c'.sl.at_ i _ hi
  obtain rfl := e2.raw_inv
  refine ⟨_, e1, c'.ev hk fun v2 d2 G2 H2 p2 c2 g2 r2 => ?_⟩
  subst p2
  have r2' : Dv K G2 v2 (.tup ((kT q).map kD)) := by rw [kT_D]; exact r2
  obtain ⟨b, rfl, hb⟩ := r2'.key_at g2.sub
  have a2 := a'.grow g2 (fun z => z)
  obtain ⟨kvs, hkv, rm⟩ := a2.at_
  refine ⟨p, _, rfl, DPut.t hkv hb ?_, ?_⟩
  · rw [rm.length]; exact Nat.lt_of_lt_of_le hl (by decide)
  · exact k d G2 _ pd (g.g.trans g2.g) (c2.set hp a2.out fun z => z) ⟨a2.out, _, upd_same, rm.put (r.mono g2.g)⟩
/-- an if whose test reads a list that isn't known -/
theorem c_ifL {tt : TT} {B : Bool → Prop} {t w : TS} {ds : List Dt} (c : Cf K still G0 H0 σ Γ G H) (a : Acc K G H p ds) (h : ∀ vs, vs.length = ds.length → EtG K (holdL K p vs ds) tt Γ B) (h1 : B true → ∀ G' H', Same G G' → Cf K still G0 H0 σ Γ G' H' → Acc K G' H' p ds → t D σ H') (h2 : B false → ∀ G' H', Same G G' → Cf K still G0 H0 σ Γ G' H' → Acc K G' H' p ds → w D σ H') : tIfS tt t w D σ H :=
  c.etL a h fun b G' H' pb c' g a' => by
    cases b with
    | true => exact h1 pb G' H' g.g c' a'
    | false => exact h2 pb G' H' g.g c' a'
end
theorem Fit.mono {d : Dt} {k j : Nat} (f : Fit d k) (h : k ≤ j) : Fit d j := ⟨f.pl, f.lay, Nat.le_trans f.dep h⟩
end K70
set_option maxHeartbeats 2000000
/-! Ko17: the bag, a list that changes behind calls and isn't known. -/
namespace K70
open PySem PySem.Spec PyProof.Rows L2
theorem ix_at {n j : Nat} (hj : j < n) : ixN n ((j : Nat) : Int) = some j := by
  unfold ixN
  rw [if_pos (by omega), if_pos (by omega)]
  rfl
/-- what the bag holds -/
structure Bag where
  a : Int
  b : Int
  c : Int
  cells : List Int
structure Bag.ok (x : Bag) : Prop where
  a0 : 0 ≤ x.a
  b0 : 0 ≤ x.b
  b1 : x.b < 2147483647
  c0 : 0 ≤ x.c
  cl : ∀ i ∈ x.cells, 0 ≤ i
def Bag.d (x : Bag) : List Dt := [.int x.a, .int x.b, .int x.c, .lst (intsD x.cells)]
def bagM (K : PySem.W.Frag) (p : Addr) : Mu where
  μ := (· = p)
  M := fun G H => G p = none ∧ ∃ (x : Bag) (vs : List V), x.ok ∧ H p = some (.lst vs) ∧ Dvs K G vs x.d
  there := fun h e => by
    obtain ⟨_, x, vs, _, h, _⟩ := h
    subst e; rw [h]; trivial
  out := fun h e => by subst e; exact h.1
  st := fun s1 s2 h1 h2 h => by
    obtain ⟨_, x, vs, o, h, r⟩ := h
    exact ⟨h2 p rfl, x, vs, o, by rw [h1 p rfl]; exact h, r.mono s1⟩
section
variable {K : PySem.W.Frag} {m : Mu} {Γ : Ga} {te ta tb tc : TE} {tt : TT} {t u w : TS} {P Pa Pb : Dt → Prop} {B : Bool → Prop} {G0 H0 G H : Hp} {σ : L2.St} {D : Ends} {p : Addr} {vs : List V} {ds : List Dt}
theorem Cf.openB (c : Cf K (bagM K p) G0 H0 σ Γ G H) : ∃ (x : Bag) (vs : List V), x.ok ∧ Cf K (holdL K p vs x.d) G0 H0 σ Γ G H := by
  obtain ⟨g, x, vs, o, h, r⟩ := c.mm
  exact ⟨x, vs, o, ⟨c.sl, c.gh, ⟨g, h, r⟩, c.gr⟩⟩
theorem Cf.closeB {x : Bag} (o : x.ok) (c : Cf K (holdL K p vs x.d) G0 H0 σ Γ G H) : Cf K (bagM K p) G0 H0 σ Γ G H :=
  ⟨c.sl, c.gh, ⟨c.mm.1, x, vs, o, c.mm.2.1, c.mm.2.2⟩, c.gr⟩
/-- xs[j] of a held list -/
theorem ev_ixAcc {i j : Nat} {d : Dt} (hi : Γ[i]? = some (some (.raw (.ref p)))) (e : ds[j]? = some d) (hj : Ev K (holdL K p vs ds) tb Γ (.int (j : Nat))) : Ev K (holdL K p vs ds) (tOp (rIxL K) (tVar i) tb) Γ d := fun σ G H x s M Q k => by
  obtain ⟨w, e1, e2⟩ := x.at_ i _ hi
  obtain rfl := e2.raw_inv
  refine ⟨_, e1, hj σ G H x s M _ fun y d' G1 H1 p1 g1 M1 r1 => ?_⟩
  subst p1
  obtain rfl := r1.int_inv
  obtain ⟨v, hv, rv⟩ := M1.2.2.get e
  exact ⟨p, vs, j, v, rfl, rfl, SqL.of M1.2.1, atI_of hv, k v d G1 H1 rfl g1 M1 rv⟩
theorem Dvs.setAt {G : Hp} {v : V} {d : Dt} (h : Dv K G v d) : ∀ {vs : List V} {ds : List Dt} (j : Nat), Dvs K G vs ds → Dvs K G (vs.set j v) (ds.set j d)
  | _, _, _, .nil => .nil
  | _, _, 0, .cons _ r => .cons h r
  | _, _, j + 1, .cons q r => .cons q (Dvs.setAt h j r)
/-- the held list changes at a place -/
theorem Cf.setB {j : Nat} {v : V} {d : Dt} (c : Cf K (holdL K p vs ds) G0 H0 σ Γ G H) (r : Dv K G v d) : Cf K (holdL K p (vs.set j v) (ds.set j d)) G0 H0 σ Γ G (upd H p (.lst (vs.set j v))) := by
  have gp := c.mm.1
  have hp := c.mm.2.1
  refine ⟨c.sl, fun a o e => ?_, ⟨gp, upd_same, Dvs.setAt r j c.mm.2.2⟩, ⟨c.gr.g, fun a o n e => ?_, fun a e => ?_, fun a o e => ?_, c.gr.new, fun a e => ?_⟩⟩
  · rw [upd_ne (ne_of_none e gp)]; exact c.gh a o e
  · rw [upd_ne n]; exact c.gr.h a o n e
  · by_cases q : a = p
    · subst q; rw [upd_same] at e; cases e
    · rw [upd_ne q] at e; exact c.gr.dom a e
  · rw [upd_ne (ne_of_none e gp)]; exact c.gr.sub a o e
  · by_cases q : a = p
    · subst q; rw [upd_same]; trivial
    · rw [upd_ne q]; exact c.gr.mv a e
/-- xs[j] = e of a held list -/
theorem c_setB {i j : Nat} {z : Int} (c : Cf K (holdL K p vs ds) G0 H0 σ Γ G H) (hi : Γ[i]? = some (some (.raw (.ref p)))) (hz : z = (j : Nat)) (hj : j < ds.length) (h : EvG K (holdL K p vs ds) te Γ P)
    (k : ∀ d vs' G' H', P d → Cf K (holdL K p vs' (ds.set j d)) G0 H0 σ Γ G' H' → D.nx σ H') : tAsg te (gSub (tVar i) (tC (.int z)) rSetL) D σ H :=
  c.ev h fun v d G' H' pd c' g r => by
    obtain ⟨w, e1, e2⟩ := c.sl.at_ i _ hi
    obtain rfl := e2.raw_inv
    refine ⟨_, e1, p, vs, z, j, rfl, rfl, c'.mm.2.1, ?_, k d _ G' _ pd (c'.setB r)⟩
    rw [hz]
    exact ix_at (by rw [c'.mm.2.2.length]; exact hj)
theorem q_setB {i j : Nat} {z : Int} (c : Cf K (holdL K p vs ds) G0 H0 σ Γ G H) (hi : Γ[i]? = some (some (.raw (.ref p)))) (hz : z = (j : Nat)) (hj : j < ds.length) (h : EvG K (holdL K p vs ds) te Γ P)
    (k : ∀ d vs' G' H', P d → Cf K (holdL K p vs' (ds.set j d)) G0 H0 σ Γ G' H' → u D σ H') : tSeq (tAsg te (gSub (tVar i) (tC (.int z)) rSetL)) u D σ H := c_setB (D := { D with nx := u D }) c hi hz hj h k
/-- xs[j] op= e of a held list -/
theorem q_augB {i j : Nat} {z : Int} {d0 : Dt} {tip : TIp} (c : Cf K (holdL K p vs ds) G0 H0 σ Γ G H) (hi : Γ[i]? = some (some (.raw (.ref p)))) (hz : z = (j : Nat)) (e : ds[j]? = some d0) (h : EvG K (holdL K p vs ds) te Γ Pb) (hr : ∀ b, Pb b → RG K tip d0 b P)
    (k : ∀ d vs' G' H', P d → Cf K (holdL K p vs' (ds.set j d)) G0 H0 σ Γ G' H' → u D σ H') : tSeq (tAugS (tVar i) (tC (.int z)) te (rIxL K) tip rSetL) u D σ H := by
  obtain ⟨w, e1, e2⟩ := c.sl.at_ i _ hi
  obtain rfl := e2.raw_inv
  obtain ⟨v0, hv0, r0⟩ := c.mm.2.2.get e
  refine ⟨_, e1, p, vs, z, v0, rfl, rfl, SqL.of c.mm.2.1, by rw [hz]; exact atI_of hv0, c.ev h fun y b G' H' pb c' g rb => hr b pb G' H' v0 y c'.gh (r0.mono g.g) rb _ fun x d G2 H2 pd g2 rd => ?_⟩
  have c2 := c'.step g2
  refine ⟨p, vs, z, j, rfl, rfl, c2.mm.2.1, ?_, k d _ G2 _ pd (c2.setB rd)⟩
  rw [hz]
  exact ix_at (by rw [c2.mm.2.2.length]; exact (List.getElem?_eq_some_iff.mp e).1)
/-- an if without else, its ways told together -/
theorem q_whenM {R : L2.St → Hp → Prop} (c : Cf K m G0 H0 σ Γ G H) (h : EtG K m tt Γ B)
    (h1 : B true → ∀ G' H' (D' : Ends), Cf K m G0 H0 σ Γ G' H' → Grow m.μ G H G' H' → D'.rt = D.rt → (∀ σ2 H2, R σ2 H2 → D'.nx σ2 H2) → t D' σ H')
    (h2 : B false → ∀ G' H', Cf K m G0 H0 σ Γ G' H' → Grow m.μ G H G' H' → R σ H') (hw : ∀ σ2 H2, R σ2 H2 → w D σ2 H2) : tSeq (tIfS tt t tNext) w D σ H :=
  q_when c h (fun b G' H' c' g => h1 b G' H' { D with nx := w D } c' g rfl hw) fun b G' H' c' g => hw _ _ (h2 b G' H' c' g)
/-- x or y of texts -/
theorem er_orT (ha : EvG K m ta Γ Pa) (hp : ∀ d, Pa d → ∃ x : Tx, d = .str x ∧ x.length ≤ 1000000 ∧ (x ≠ [] → P (.str x))) (hb : EvG K m tb Γ P) : EvG K m (tOrT K ta tb) Γ P := fun σ G H x s M Q k =>
  ha σ G H x s M _ fun v d G1 H1 p1 g1 M1 r1 => by
    obtain ⟨z, rfl, hl, hz⟩ := hp d p1
    obtain rfl := r1.str_inv
    have ln : (tx z).length = z.length := tx_len z
    refine ⟨((tx z).length : Int) != 0, ⟨by rw [ln]; exact Nat.le_trans hl (by decide), rfl⟩, ?_⟩
    by_cases e : z = []
    · subst e
      have e2 : (((tx []).length : Int) != 0) = false := rfl
      rw [e2]
      exact hb σ G1 H1 (x.mono g1.g) g1.sub M1 Q fun v d G2 H2 p2 g2 M2 r2 => k v d G2 H2 p2 (g1.trans g2) M2 r2
    · have e2 : (((tx z).length : Int) != 0) = true := by
        rw [ln]
        have : z.length ≠ 0 := fun q => e (List.length_eq_zero_iff.mp q)
        simpa using this
      rw [e2]
      exact k _ _ G1 H1 (hz e) g1 M1 (.str _)
/-- a relational comprehension over a told list -/
theorem er_lcA {g : TG} {wi : TI} {vs : List Nat} {α : Type} {l : List α} {enc : α → Dt} (R : Nat → List Dt → Prop) (hs : SrcG K m wi Γ (· = l.map enc)) (hl : l.length ≤ 100000) (h0 : R 0 []) (hn : ∀ acc, R l.length acc → P (.lst acc))
    (hb : ∀ i a acc, l[i]? = some a → R i acc → ∃ Γ' js, (∀ j ∈ js, j ∈ vs) ∧ TgG K g (enc a) (wipeG Γ vs) Γ' js ∧ ∃ B : Bool → Prop, EtG K m tt Γ' B ∧ (B true → EvG K m te Γ' fun e => R (i + 1) (acc ++ [e])) ∧ (B false → R (i + 1) acc)) : EvG K m (tLc wi g tt te vs) Γ P :=
  er_lc hs fun ds' e => by
    subst e
    refine ⟨by rw [List.length_map]; exact hl, R, h0, fun acc h => hn acc (by rw [List.length_map] at h; exact h), fun i d acc hd hR => ?_⟩
    rw [List.getElem?_map] at hd
    cases ha : l[i]? with
    | none => rw [ha] at hd; cases hd
    | some a =>
      rw [ha] at hd
      obtain rfl : enc a = d := Option.some.inj hd
      exact hb i a acc ha hR
/-- one whose items are each as told, whatever is walked -/
theorem er_mapN {g : TG} {wi : TI} {vs : List Nat} {S : List Dt → Prop} {β : Type} {f : β → Dt} {R : β → Prop} (hs : SrcG K m wi Γ S) (hl : ∀ ds, S ds → ds.length ≤ 100000) (hn : ∀ ds (bs : List β), S ds → bs.length = ds.length → (∀ b ∈ bs, R b) → P (.lst (bs.map f)))
    (hb : ∀ ds d, S ds → d ∈ ds → ∃ Γ' js, (∀ j ∈ js, j ∈ vs) ∧ TgG K g d (wipeG Γ vs) Γ' js ∧ EvG K m te Γ' fun e => ∃ b, e = f b ∧ R b) : EvG K m (tLc wi g tYes te vs) Γ P :=
  er_lc (tt := tYes) hs fun ds e => by
    refine ⟨hl ds e, fun i acc => ∃ bs : List β, acc = bs.map f ∧ bs.length = i ∧ ∀ b ∈ bs, R b, ⟨[], rfl, rfl, fun b h => (nomatch h)⟩, fun acc h => ?_, fun i d acc hd hR => ?_⟩
    · obtain ⟨bs, rfl, h1, h2⟩ := h
      exact hn ds bs e h1 h2
    · obtain ⟨bs, rfl, h1, h2⟩ := hR
      obtain ⟨Γ', js, q1, q2, q3⟩ := hb ds d e (List.mem_of_getElem? hd)
      refine ⟨Γ', js, q1, q2, (· = true), et_yes, fun _ => q3.imp fun e he => ?_, fun e => nomatch e⟩
      obtain ⟨b, rfl, hb⟩ := he
      refine ⟨bs ++ [b], by rw [List.map_append]; rfl, by rw [List.length_append, h1]; rfl, fun b' hb' => ?_⟩
      rcases List.mem_append.mp hb' with q | q
      · exact h2 b' q
      · rw [List.mem_singleton.mp q]; exact hb
theorem RG.imp {r : R2} {a b : Dt} {P' : Dt → Prop} (h : RG K r a b P) (f : ∀ d, P d → P' d) : RG K r a b P' := fun G H x y s ra rb Q k => h G H x y s ra rb Q fun v d G' H' p => k v d G' H' (f d p)
theorem CG.imp {r : List V → Hp → VK → Prop} {as : List Dt} {P' : Dt → Prop} (h : CG K r as P) (f : ∀ d, P d → P' d) : CG K r as P' := fun G H xs s rs Q k => h G H xs s rs Q fun v d G' H' p => k v d G' H' (f d p)
theorem MG.imp {r : V → List V → Hp → VK → Prop} {a : Dt} {as : List Dt} {P' : Dt → Prop} (h : MG K r a as P) (f : ∀ d, P d → P' d) : MG K r a as P' := fun G H x xs s ra rs Q k => h G H x xs s ra rs Q fun v d G' H' p => k v d G' H' (f d p)
theorem LG.imp {r : V → Option Int → Option Int → Hp → VK → Prop} {a : Dt} {lo hi : Option Int} {P' : Dt → Prop} (h : LG K r a lo hi P) (f : ∀ d, P d → P' d) : LG K r a lo hi P' := fun G H x s ra Q k => h G H x s ra Q fun v d G' H' p => k v d G' H' (f d p)
theorem dvs_ints {G : Hp} : ∀ {l : List Int}, Dvs K G (l.map V.int) (intsD l)
  | [] => .nil
  | _ :: _ => .cons (.int _) dvs_ints
end
theorem flat_one : ∀ s : Tx, (s.map fun c => [c]).flatten = s
  | [] => rfl
  | a :: s => by rw [List.map_cons, List.flatten_cons, flat_one s]; rfl
theorem sgn_txs (s : Tx) : sgn s = txs (s.map fun c => [c]) := by
  unfold sgn txs
  rw [List.map_map]; rfl
theorem cutD_le {α : Type} (l : List α) (lo hi : Option Int) : (cutD l lo hi).length ≤ l.length := by
  unfold cutD
  rw [List.length_take, List.length_drop]
  omega
end K70
set_option maxHeartbeats 4000000
/-! Ku8: set(t) of a tuple of unlike texts, its length; a star in a target. -/
namespace K70
open PySem PySem.Spec PyProof.Rows L2
section
variable {X : Cx}
def rSetTx (K : PySem.W.Frag) (P : Program) (w : World) : List V → Hp → VK → Prop := fun xs H Q => ∃ (l : Addr) (ys : List Str), xs = [V.ref l] ∧ SqT K H l (ys.map V.str) ∧ ys.Nodup ∧ ys.length ≤ 1000 ∧ ∀ p S, H p = none → Q (.ref p) (upd H p (SetK P w p S ys.length))
def rLenSet (P : Program) (w : World) : List V → Hp → VK → Prop := fun xs H Q => ∃ (a : Addr) (S : Key → Bool) (n : Nat), xs = [V.ref a] ∧ H a = some (SetK P w a S n) ∧ n ≤ 1000000 ∧ Q (.int (n : Nat)) H
theorem val_str : ∀ {ys : List Str} {us : List Value} {i : Nat} {v : Value}, Vals (ys.map V.str) us → us[i]? = some v → ∃ y t, ys[i]? = some y ∧ v = .str y t
  | [], _, i, v, .nil, h => by simp at h
  | y :: ys, _, 0, v, .cons r _, h => by
    obtain ⟨t, rfl⟩ := r
    cases h
    exact ⟨y, t, rfl, rfl⟩
  | y :: ys, _, i + 1, v, .cons _ r, h => val_str (ys := ys) (i := i) r (by simpa using h)
theorem cr_setTx (hc : X.calm = true) : CallR X (.type "set") (rSetTx X.K X.prog X.w) := by
  intro pins s σ H xs us Q I r h
  obtain ⟨l, ys, rfl, hl, nd, hn, q⟩ := h
  rw [Vals.ref1 r]
  obtain ⟨its, rv, pl, hz⟩ := I.tuple hl
  have hnn : H s.heap.objs.size = none := I.hok.fresh (Nat.le_refl _)
  have hlen : its.length = ys.length := by rw [← rv.length, List.length_map]
  have none_at : s.heap.get? s.heap.objs.size = none := by
    cases q : s.heap.get? s.heap.objs.size with
    | none => rfl
    | some o => exact absurd (Heap.lt_size q) (Nat.lt_irrefl _)
  refine call_setZ_tuple (I.ok.hd hc) pl (fun i h' => (∀ b o, s.heap.get? b = some o → h'.get? b = some o) ∧ ∃ S, h'.SetOf (mixKind X.prog X.w) s.heap.objs.size S i ∧ ∀ z : Str, S (.inr z) = true → z ∈ ys.take i) ?_ ?_ ?_ ?_
  · intro i h1 h2 k ⟨kp, S, R, hS⟩
    exact ⟨fun b o e => k b o (Nat.le_of_lt (Heap.lt_size e)) (kp b o e), S, setOf_at R (fun o e => k _ o (Nat.le_refl _) e), hS⟩
  · intro h' e kp
    exact ⟨kp, fun _ => false, ⟨_, #[], 0, _, e, ⟨rfl, rfl, rfl⟩, rfl, (fun e he => by simp at he), (fun k => by simp), (by decide), (by rfl), rfl⟩, fun z hz => nomatch hz⟩
  · intro i v s' E' Q' hi hv ⟨kp, S, R, hS⟩ q
    have hv' : its[i]? = some v := by simpa using hv
    obtain ⟨y, t, hy, rfl⟩ := val_str rv hv'
    have nS : S (.inr y) = false := by
      cases e : S (.inr y) with
      | false => rfl
      | true => exact absurd (hS y e) (take_not_mem' nd hy)
    have hk : (mixKind X.prog X.w).is (.inr y) (.str y t) = true := kV_is (k := .inr y) ⟨t, rfl⟩
    have hsc : (Value.str y t).scannable = true := key_scan (k := .inr y) ⟨t, rfl⟩
    have hil : i < ys.length := (List.getElem?_eq_some_iff.mp hy).1
    unfold setAdd
    refine wpAny_holding (wpAny_bind ((mixKind X.prog X.w).pyHash hk ?_))
    refine wpAny_setAddHashed_of (s := { s' with toks := s'.toks + 1 }) hk hsc R (by show i + 1 < 4096; omega) fun h' hsb hS' => ?_
    rw [nS] at hS'
    refine q _ h' _ hsb (Nat.le_add_right _ _) ⟨fun b o e => (hsb.2 b (fun z => by rw [z, none_at] at e; cases e)).trans (kp b o e), _, hS', fun z hz => ?_⟩
    rw [List.take_add_one, hy, List.mem_append]
    rw [Bool.or_eq_true, decide_eq_true_eq] at hz
    rcases hz with hz | hz
    · exact .inl (hS z hz)
    · cases hz; exact .inr List.mem_cons_self
  · intro h' tk ⟨kp, S, R, hS⟩ k
    have hsz : its.toArray.size = ys.length := by rw [List.size_toArray, hlen]
    rw [hsz] at R
    exact ⟨.ref s.heap.objs.size, upd H s.heap.objs.size (SetK X.prog X.w s.heap.objs.size S ys.length), I.laid (t' := tk) k (Nat.le_refl _) (setK_new R), rfl, q _ S hnn⟩
theorem cr_lenSet : CallR X (.builtin "len") (rLenSet X.prog X.w) := by
  intro pins s σ H xs us Q I r h
  obtain ⟨a, S, n, rfl, ha, hn, q⟩ := h
  rw [Vals.ref1 r]
  obtain ⟨o, es, ep, t, ho, hex, hd, _, _, _, hf, hz⟩ := setK_get I ha
  exact call_len_set ho hex hd hf (by rw [hz]; omega) ⟨.int (n : Nat), H, I.tok _, ⟨_, by rw [hz]⟩, q⟩
theorem cr_setTxK {K : PySem.W.Frag} {P : Program} {w : World} (hc : X.calm = true) (hK : X.K = K := by rfl) (hP : X.prog = P := by rfl) (hw : X.w = w := by rfl) : CallR X (.type "set") (rSetTx K P w) := by subst hK hP hw; exact cr_setTx hc
theorem cr_lenSetK {P : Program} {w : World} (hP : X.prog = P := by rfl) (hw : X.w = w := by rfl) : CallR X (.builtin "len") (rLenSet P w) := by subst hP hw; exact cr_lenSet
end
theorem ev_lenSet {K : PySem.W.Frag} {P : Program} {w : World} {m : Mu} {Γ : Ga} {te : TE} {l : List Tx} (h : Ev K m te Γ (.tupW (txs l))) (nd : l.Nodup) (hl : l.length ≤ 1000) : Ev K m (tCB (rLenSet P w) (tCons (tCB (rSetTx K P w) (tCons te tNil)) tNil)) Γ (.int l.length) := fun σ G H x s M Q k =>
  h σ G H x s M _ fun v d G1 H1 p1 g1 M1 r1 => by
    subst p1
    obtain ⟨a, xs, rfl, ga, rs⟩ := r1.tupW_inv
    obtain rfl := rs.txs_inv
    refine ⟨a, l.map tx, rfl, by rw [List.map_map]; exact same_seqT g1.sub ga, ?_, by rw [List.length_map]; exact hl, fun p S hp => ?_⟩
    · exact List.Pairwise.map tx (fun a b hab e => hab (tx_inj e)) nd
    · have g2 : Grow m.μ G1 H1 G1 (upd H1 p (SetK P w p S (l.map tx).length)) := Grow.hide g1.sub hp
      refine ⟨p, S, _, rfl, upd_same, by rw [List.length_map]; omega, k _ _ G1 _ rfl (g1.trans g2) (Mu.hide g1.sub hp M1) ?_⟩
      rw [List.length_map]; exact .int _
/-! ### a star in a target -/
section
variable {X : Cx} {P : Program} {w : World} {A : Around} {E : Value → Shared → Prop} {s : Shared}
open PySem.W PySem.Calls in
theorem un_starT {l : Addr} {items : Array Value} {n i : Nat} {Q : List Value → Shared → Prop} (hl : IsTup s.heap l items) (hh : A.handled = none) (hi : i < n) (hn : n ≤ items.size + 1) (hz : items.size ≤ 16384)
    (h : ∀ (h' : Heap) tk, (∀ b o, s.heap.get? b = some o → h'.get? b = some o) → Q (items.toList.take i ++ [.ref h'.objs.size] ++ (items.toList.drop i).drop (items.size + 1 - n)) { s with heap := h'.push { cls := .type "list", data := .seq ((items.toList.drop i).take (items.size + 1 - n)).toArray }, toks := tk }) : wpAny (model P w) A (unpackItems (.ref l) n (some i)) Q E s := by
  have hlt : l ≠ s.heap.objs.size := by obtain ⟨o, ho, _⟩ := hl; exact Nat.ne_of_lt (Heap.lt_size ho)
  unfold unpackItems
  refine wpAny_bind ?_
  unfold notIterableAtAll
  refine wpAny_bind (wpAny_specialOf hl.typeIs F.slot_tuple_iter.lookup ?_)
  refine wpAny_pure ?_
  simp only [Bool.false_eq_true, if_false]
  refine wpAny_bind (wpAny_holding (iter_tuple hl ?_))
  refine wpAny_bind (wpAny_holding (draw_tuple hlt i 0 _ _ ⟨_, Heap.get?_push_size _ rfl, rfl, rfl⟩ (hl.push _) (by omega) fun h₁ hit₁ hs₁ => ?_))
  have hl₁ : IsTup h₁ l items := (hl.push _).extBut hs₁.extBut hlt
  rw [Nat.zero_add] at hit₁
  obtain ⟨oi, hoi, _⟩ := id hit₁
  obtain ⟨ol, hol, _⟩ := id hl₁
  rw [List.drop_zero]
  have hfl : (items.toList.take i).length = i := by rw [List.length_take, Array.length_toList]; omega
  rw [if_neg (show ¬ ((items.toList.take i).length < i) by rw [hfl]; omega)]
  refine wpAny_bind (wpAny_holding (kun_collect (s := { s with heap := h₁ }) (T := "tuple_iterator") (.inr (.inr (.inr rfl))) (Walks.tuple (A := A.in1) hh s.heap.objs.size l hlt items) (fun j u st => st.1.typeIs) (k := i) (by omega) ⟨hit₁, hl₁⟩ (Heap.lt_size hoi) (Heap.lt_size hol) (fun h₂ tk hk => ?_) (by rw [sizeLine_eq]; omega)))
  have hrl : (items.toList.drop i).length = items.size - i := by rw [List.length_drop, Array.length_toList]
  have hmid : (items.toList.drop i).length - (n - 1 - i) = items.size + 1 - n := by rw [hrl]; omega
  show wpAny _ _ (if (items.toList.drop i).length < n - 1 - i then _ else _) _ _ _
  rw [if_neg (by rw [hrl]; omega)]
  show wpAny _ _ (newList ((items.toList.drop i).take ((items.toList.drop i).length - (n - 1 - i))) >>= fun d => pure (items.toList.take i ++ [d] ++ (items.toList.drop i).drop ((items.toList.drop i).length - (n - 1 - i)))) _ _ _
  rw [hmid]
  refine wpAny_bind (wpAny_newList (wpAny_pure (h h₂ tk fun b o e => ?_)) (by rw [List.length_take, hrl, sizeLine_eq]; omega))
  have hb : b ≠ s.heap.objs.size := Nat.ne_of_lt (Heap.lt_size e)
  exact hk b o hb (hs₁.extBut b o hb (Heap.get?_push_of_some _ e))
open PySem.W PySem.Calls in
theorem un_starL {l : Addr} {items : Array Value} {n i : Nat} {Q : List Value → Shared → Prop} (hl : s.heap.IsList l items) (hh : A.handled = none) (hi : i < n) (hn : n ≤ items.size + 1) (hz : items.size ≤ 16384)
    (h : ∀ (h' : Heap) tk, (∀ b o, s.heap.get? b = some o → h'.get? b = some o) → Q (items.toList.take i ++ [.ref h'.objs.size] ++ (items.toList.drop i).drop (items.size + 1 - n)) { s with heap := h'.push { cls := .type "list", data := .seq ((items.toList.drop i).take (items.size + 1 - n)).toArray }, toks := tk }) : wpAny (model P w) A (unpackItems (.ref l) n (some i)) Q E s := by
  have hlt : l ≠ s.heap.objs.size := by obtain ⟨o, ho, _⟩ := hl; exact Nat.ne_of_lt (Heap.lt_size ho)
  unfold unpackItems
  refine wpAny_bind ?_
  unfold notIterableAtAll
  refine wpAny_bind (wpAny_specialOf hl.typeIs F.slot_list_iter.lookup ?_)
  refine wpAny_pure ?_
  simp only [Bool.false_eq_true, if_false]
  refine wpAny_bind (wpAny_holding (wpAny_pyIter_list hl ?_))
  refine wpAny_bind (wpAny_holding (kun_draw hlt i 0 _ _ ⟨_, Heap.get?_push_size _ rfl, rfl, rfl⟩ (hl.push _) (by omega) fun h₁ hit₁ hs₁ => ?_))
  have hl₁ : h₁.IsList l items := (hl.push _).extBut hs₁.extBut hlt
  rw [Nat.zero_add] at hit₁
  obtain ⟨oi, hoi, _⟩ := id hit₁
  obtain ⟨ol, hol, _⟩ := id hl₁
  rw [List.drop_zero]
  have hfl : (items.toList.take i).length = i := by rw [List.length_take, Array.length_toList]; omega
  rw [if_neg (show ¬ ((items.toList.take i).length < i) by rw [hfl]; omega)]
  refine wpAny_bind (wpAny_holding (kun_collect (s := { s with heap := h₁ }) (T := "list_iterator") (.inr (.inr (.inl rfl))) (Walks.list (A := A.in1) hh s.heap.objs.size l hlt items) (fun j u st => st.1.typeIs) (k := i) (by omega) ⟨hit₁, hl₁⟩ (Heap.lt_size hoi) (Heap.lt_size hol) (fun h₂ tk hk => ?_) (by rw [sizeLine_eq]; omega)))
  have hrl : (items.toList.drop i).length = items.size - i := by rw [List.length_drop, Array.length_toList]
  have hmid : (items.toList.drop i).length - (n - 1 - i) = items.size + 1 - n := by rw [hrl]; omega
  show wpAny _ _ (if (items.toList.drop i).length < n - 1 - i then _ else _) _ _ _
  rw [if_neg (by rw [hrl]; omega)]
  show wpAny _ _ (newList ((items.toList.drop i).take ((items.toList.drop i).length - (n - 1 - i))) >>= fun d => pure (items.toList.take i ++ [d] ++ (items.toList.drop i).drop ((items.toList.drop i).length - (n - 1 - i)))) _ _ _
  rw [hmid]
  refine wpAny_bind (wpAny_newList (wpAny_pure (h h₂ tk fun b o e => ?_)) (by rw [List.length_take, hrl, sizeLine_eq]; omega))
  have hb : b ≠ s.heap.objs.size := Nat.ne_of_lt (Heap.lt_size e)
  exact hk b o hb (hs₁.extBut b o hb (Heap.get?_push_of_some _ e))
/-- x, *rest = .. and *full, y = ..: what is walked is a tuple (T) or a list -/
def gStar (K : PySem.W.Frag) (tup : Bool) (n i : Nat) (t : TGs) : TG := fun v σ H Q => ∃ a xs, v = .ref a ∧ (if tup then SqT K H a xs else SqL K H a xs) ∧ n ≤ xs.length + 1 ∧ xs.length ≤ 16384 ∧
  ∀ l, H l = none → t (xs.take i ++ [.ref l] ++ (xs.drop i).drop (xs.length + 1 - n)) σ (upd H l (.lst ((xs.drop i).take (xs.length + 1 - n)))) Q
theorem Vals.takeV : ∀ {xs : List V} {us : List Value} (n : Nat), Vals xs us → Vals (xs.take n) (us.take n)
  | _, _, 0, _ => .nil
  | _, _, _ + 1, .nil => .nil
  | _, _, n + 1, .cons r t => .cons r (Vals.takeV n t)
theorem Vals.dropV : ∀ {xs : List V} {us : List Value} (n : Nat), Vals xs us → Vals (xs.drop n) (us.drop n)
  | _, _, 0, t => t
  | _, _, _ + 1, .nil => .nil
  | _, _, n + 1, .cons _ t => Vals.dropV n t
theorem pgs_consS {e : Expr} {es : List Expr} {t : TG} {u : TGs} {p : Pos} (h1 : PG X e t) (h2 : PGs X es u)
    (hs : (assignEach (.Starred e p :: es) X.env).map (·.2) = assign e X.env :: (assignEach es X.env).map (·.2) := by rfl) : PGs X (.Starred e p :: es) (gCons t u) := by
  refine ⟨fun pins s σ H vs us Q I r h => ?_⟩
  obtain ⟨v, vr, e1, h⟩ := h
  subst e1
  cases r with
  | cons r rr =>
    rw [hs]
    refine assignInOrder_cons (thn (h1.run pins s σ H _ _ _ I r h) fun _ s1 ⟨σ1, H1, I1, q1⟩ => ?_)
    exact h2.run pins s1 σ1 H1 _ _ Q I1 rr q1
theorem pg_star {K : PySem.W.Frag} {es : List Expr} {k : Nat} {t : TGs} {n i : Nat} {tup : Bool} {pos : Pos} (hc : X.calm = true) (h : PGs X es t) (hi : i < n) (hK : X.K = K := by rfl)
    (hn : (assignEach es X.env).length = n := by rfl) (hst : (assignEach es X.env).findIdx? (·.1) = some i := by rfl) : PG X (.Tuple es k pos) (gStar K tup n i t) := by
  subst hK
  refine ⟨fun pins s σ H v u Q I r hw => ?_⟩
  obtain ⟨a, xs, e1, hq, hl1, hl2, hw⟩ := hw
  subst e1
  cases r
  rw [assign_Tuple]
  refine wpAny_bind (wpAny_standAt ?_)
  unfold unpack
  rw [hn, hst]
  have fin : ∀ (its : List Value), Vals xs its → ∀ (h' : Heap) (tk : Nat), (∀ b o, s.heap.get? b = some o → h'.get? b = some o) →
      wpAny (model X.prog X.w) X.A (assignInOrder ((assignEach es X.env).map (·.2)) (its.toArray.toList.take i ++ [.ref h'.objs.size] ++ (its.toArray.toList.drop i).drop (its.toArray.size + 1 - n))) (fun _ s' => ∃ σ' H', Inv X pins σ' H' s' ∧ Q σ' H') X.xe { s with heap := h'.push { cls := .type "list", data := .seq ((its.toArray.toList.drop i).take (its.toArray.size + 1 - n)).toArray }, toks := tk } := fun its rv h' tk kp => by
    have I1 : Inv X pins σ H { s with heap := h', toks := tk } := I.kept (t' := tk) kp
    have hn0 : H h'.objs.size = none := I1.hok.fresh (Nat.le_refl _)
    have el : its.toArray.size = xs.length := by rw [List.size_toArray, rv.length]
    have et : its.toArray.toList = its := by simp
    rw [et, el]
    have rmid : Vals ((xs.drop i).take (xs.length + 1 - n)) ((its.drop i).take (xs.length + 1 - n)) := Vals.takeV _ (Vals.dropV _ rv)
    have I2 : Inv X pins σ (upd H h'.objs.size (.lst ((xs.drop i).take (xs.length + 1 - n)))) { s with heap := h'.push { cls := .type "list", data := .seq ((its.drop i).take (xs.length + 1 - n)).toArray }, toks := tk } :=
      I1.laid (t' := tk) (fun b o e => Heap.get?_push_of_some _ e) (Nat.le_refl _) ⟨by rw [List.length_take, List.length_drop]; exact Nat.le_trans (Nat.min_le_right _ _) (Nat.le_trans (Nat.sub_le _ _) (Nat.le_trans hl2 (by decide))), _, 0, rmid, Heap.get?_push_size _ rfl⟩
    have vals : Vals (xs.take i ++ [.ref h'.objs.size] ++ (xs.drop i).drop (xs.length + 1 - n)) (its.take i ++ [.ref h'.objs.size] ++ (its.drop i).drop (xs.length + 1 - n)) :=
      ((Vals.takeV i rv).append (.cons (show RelV (V.ref h'.objs.size) (Value.ref h'.objs.size) from rfl) .nil)).append (Vals.dropV _ (Vals.dropV _ rv))
    exact h.run pins _ σ _ _ _ Q I2 vals (hw _ hn0)
  cases tup with
  | true =>
    obtain ⟨its, rv, ht, hz⟩ := I.tuple hq
    exact wpAny_bind (wpAny_holding (un_starT ht (I.ok.hd hc) hi (by rw [List.size_toArray, ← rv.length]; exact hl1) (by rw [List.size_toArray, ← rv.length]; exact hl2) (fin its rv)))
  | false =>
    obtain ⟨its, rv, ht, hz⟩ := I.list hq
    exact wpAny_bind (wpAny_holding (un_starL ht.isList (I.ok.hd hc) hi (by rw [List.size_toArray, ← rv.length]; exact hl1) (by rw [List.size_toArray, ← rv.length]; exact hl2) (fin its rv)))
end
section
variable {K : PySem.W.Frag} {m : Mu} {G0 H0 G H : Hp} {σ : L2.St} {Γ : Ga} {te : TE} {D : Ends} {u : TS}
theorem Dvs.takeD : ∀ {vs : List V} {ds : List Dt} (n : Nat), Dvs K G vs ds → Dvs K G (vs.take n) (ds.take n)
  | _, _, 0, _ => .nil
  | _, _, _ + 1, .nil => .nil
  | _, _, n + 1, .cons r t => .cons r (Dvs.takeD n t)
/-- x, *rest = a tuple -/
theorem q_starT {i j : Nat} {d0 : Dt} {ds : List Dt} (c : Cf K m G0 H0 σ Γ G H) (h : Ev K m te Γ (.tup (d0 :: ds))) (hl : ds.length ≤ 1000) (k : ∀ σ' G' H', Cf K m G0 H0 σ' ((Γ.set i (some d0)).set j (some (.lst ds))) G' H' → u D σ' H') :
    tSeq (tAsg te (gStar K true 2 1 (gCons (gName i) (gCons (gName j) gNil)))) u D σ H :=
  c.ev h fun v d G1 H1 e c1 g1 r1 => by
    subst e
    obtain ⟨a, xs, rfl, ga, rs⟩ := r1.tup_inv
    cases rs with
    | cons r0 rs =>
      rename_i x0 xs
      have hlen := rs.length
      refine ⟨a, x0 :: xs, rfl, SqT.of (c1.gh _ _ ga), by rw [List.length_cons]; omega, by rw [List.length_cons]; omega, fun l hn => ?_⟩
      have e1 : (x0 :: xs).length + 1 - 2 = xs.length := by rw [List.length_cons]; omega
      have e2 : ((x0 :: xs).drop 1).take xs.length = xs := List.take_length ..
      have e3 : ((x0 :: xs).drop 1).drop xs.length = [] := List.drop_length ..
      rw [e1, e2, e3]
      have c2 := c1.new (o := .lst xs) hn
      have s12 : Same G1 (upd G1 l (.lst xs)) := fun b o e => by rw [upd_ne (ne_of_none e (c1.gh.free hn))]; exact e
      exact ⟨x0, [.ref l], rfl, .ref l, [], rfl, rfl, k _ _ _ ((c2.put i (r0.mono s12)).put j (.lst upd_same (rs.mono s12)))⟩
/-- *full, y = a list -/
theorem q_starL {i j : Nat} {dl : Dt} {ds : List Dt} (c : Cf K m G0 H0 σ Γ G H) (h : Ev K m te Γ (.lst (ds ++ [dl]))) (hl : ds.length ≤ 1000) (k : ∀ σ' G' H', Cf K m G0 H0 σ' ((Γ.set i (some (.lst ds))).set j (some dl)) G' H' → u D σ' H') :
    tSeq (tAsg te (gStar K false 2 0 (gCons (gName i) (gCons (gName j) gNil)))) u D σ H :=
  c.ev h fun v d G1 H1 e c1 g1 r1 => by
    subst e
    obtain ⟨a, xs, rfl, ga, rs⟩ := r1.lst_inv
    have hlen := rs.length
    rw [List.length_append] at hlen
    have hlen : xs.length = ds.length + 1 := hlen
    obtain ⟨x0, hx0, r0⟩ := rs.get (i := ds.length) (d := dl) (by rw [List.getElem?_append_right (Nat.le_refl _), Nat.sub_self]; rfl)
    have r1' : Dvs K G1 (xs.take ds.length) ds := by
      have := Dvs.takeD ds.length rs
      rw [List.take_left] at this
      exact this
    refine ⟨a, xs, rfl, SqL.of (c1.gh _ _ ga), by omega, by omega, fun l hn => ?_⟩
    have e1 : xs.length + 1 - 2 = ds.length := by omega
    have e3 : (xs.drop 0).drop ds.length = [x0] := by
      rw [List.drop_zero, List.drop_eq_getElem_cons (by omega), List.drop_of_length_le (by omega)]
      have := List.getElem?_eq_getElem (show ds.length < xs.length by omega)
      rw [hx0] at this
      rw [← Option.some.inj this]
    rw [e1, e3, List.drop_zero, List.take_zero]
    have c2 := c1.new (o := .lst (xs.take ds.length)) hn
    have s12 : Same G1 (upd G1 l (.lst (xs.take ds.length))) := fun b o e => by rw [upd_ne (ne_of_none e (c1.gh.free hn))]; exact e
    exact ⟨.ref l, [x0], rfl, x0, [], rfl, rfl, k _ _ _ ((c2.put i (.lst upd_same (r1'.mono s12))).put j (r0.mono s12))⟩
end
end K70
set_option maxHeartbeats 2000000
/-! Ku9: a target of several names over a list; enumerate over told items. -/
namespace K70
open PySem PySem.Spec PyProof.Rows L2
theorem pg_lstK {X : Cx} {K : PySem.W.Frag} {es : List Expr} {k : Nat} {t : TGs} {n : Nat} {pos : Pos} (hc : X.calm = true) (h : PGs X es t) (hK : X.K = K := by rfl)
    (hn : (assignEach es X.env).length = n := by rfl) (hst : (assignEach es X.env).findIdx? (·.1) = none := by rfl) : PG X (.Tuple es k pos) (gLst K n t) := by subst hK; exact pg_lst hc h hn hst
section
variable {K : PySem.W.Frag} {m : Mu} {Γ : Ga}
theorem tg_threeL {i j l : Nat} {d e f : Dt} : TgG K (gLst K 3 (gCons (gName i) (gCons (gName j) (gCons (gName l) gNil)))) (.lst [d, e, f]) Γ (((Γ.set i (some d)).set j (some e)).set l (some f)) [i, j, l] := fun σ G H x sl s r Q k => by
  obtain ⟨a, xs, rfl, hs, rs⟩ := r.lst_inv
  cases rs with
  | cons r1 rs =>
    cases rs with
    | cons r2 rs =>
      cases rs with
      | cons r3 rs =>
        cases rs
        rename_i v1 v2 v3
        refine ⟨a, [v1, v2, v3], rfl, SqL.of (s _ _ hs), rfl, v1, [v2, v3], rfl, v2, [v3], rfl, v3, [], rfl, rfl, ?_⟩
        refine k _ (((sl.set i r1).set j r2).set l r3) fun vs h => ?_
        rw [wipe_set (h l (by simp)), wipe_set (h j (by simp)), wipe_set (h i (by simp))]
theorem enum_B {α : Type} (l : List α) (f : α → Dt) : enumD (l.map f) = ((List.range l.length).zip l).map fun p => .tup [.int (p.1 : Nat), f p.2] := by
  unfold enumD
  rw [List.length_map, List.zip_map_right, List.map_map]; rfl
theorem op_notIn_seqK {X : Cx} {K : PySem.W.Frag} (hK : X.K = K := by rfl) : OpR X (compareOp .NotIn) (rIn K true) := by subst hK; exact op_notIn_seq
theorem rg_notInW {z : Tx} {l : List Tx} : RG K (rIn K true) (.str z) (.tupW (txs l)) (· = .bl (!decide (z ∈ l))) := rg_val fun G H x y s ra rb => by
  obtain rfl := ra.str_inv
  obtain ⟨a, xs, rfl, ga, rs⟩ := rb.tupW_inv
  obtain rfl := rs.txs_inv
  refine ⟨.bl (!decide (z ∈ l)), fun _ => .bl _, fun Q q => ⟨a, _, rfl, .inr (same_seqT s ga), rfl, by rw [List.all_map]; exact List.all_eq_true.mpr fun _ _ => rfl, ?_⟩⟩
  rw [if_pos rfl, inV_txs]; exact q
theorem sv_enumL {te : TE} {ds : List Dt} (h : Ev K m te Γ (.lst ds)) : SrcG K m (iEnum K (tCons te tNil)) Γ (· = enumD ds) := sr_enum (ea_cons h ea_nil) fun es e => ⟨ds, e, rfl⟩
theorem Cf.rebase {m : Mu} {G0 H0 G H : Hp} {σ : L2.St} (c : Cf K m G0 H0 σ Γ G H) : Cf K m G H σ Γ G H := ⟨c.sl, c.gh, c.mm, Grow.refl c.gh⟩
end
end K70
set_option maxHeartbeats 4000000
/-! Ku10: a set comprehension of tuples of texts with two fors (the proof of the list's, turned by mkku10.py). -/
namespace K70
open PySem PySem.Spec PyProof.Rows L2
/-- found.add(t) -/
theorem tsAdd_ok {X : Cx} {pins : List (Addr × Obj)} {σ : L2.St} {H : Hp} {s : Shared} {E : Value → Shared → Prop} {D b : Addr} {k : List Str} {L : List (Addr × List Str)} {Q : Value → Shared → Prop} (hu : X.A.units + 64 < cLine) (I : L2.Inv X pins σ H s) (hD : H D = some (TsO (PySem.strKind X.prog X.w) D L))
    (hL : ∀ p ∈ L, SqT X.K H p.1 (p.2.map V.str)) (hb : SqT X.K H b (k.map V.str)) (hfew : L.length < 76)
    (h : ∀ (s' : Shared) (L' : List (Addr × List Str)), (k ∈ L.map (·.2) → L' = L) → (k ∉ L.map (·.2) → L'.Perm ((b, k) :: L)) → L2.Inv X pins σ (upd H D (TsO (PySem.strKind X.prog X.w) D L')) s' → Q .none s') : wpAny (model X.prog X.w) X.A (call (.builtin "set.add") [.ref D, .ref b]) Q E s := by
  have R0 : Ts0 (PySem.strKind X.prog X.w) s.heap D L := (I.hok D _ hD).1
  obtain ⟨es, ep, t, R⟩ := R0.full fun p hp => Inv.isS I (hL p hp)
  have hx := Inv.isS I hb
  have hT : s.TypeIs (.ref D) "set" := by
    obtain ⟨o, ho, hex, _⟩ := R.ob
    exact ⟨o, ho, hex.1⟩
  refine wpAny_call_entry F.slot_set_add hT F.entry_set_add ?_ (F.args_set_add_2 _ _)
  unfold Builtin.«set.add» Builtin.Frozenset.oneOther
  simp only [List.isEmpty_nil, bind_assoc]
  unfold Builtin.Frozenset.addrOf setAdd
  refine wpAny_bind (wpAny_pure ?_)
  try dsimp only
  refine wpAny_bind (wpAny_pure ?_)
  try dsimp only
  refine wpAny_bind ?_
  refine wpAny_holding ?_
  have hu' : X.A.in1.units < cLine := Nat.lt_of_le_of_lt (Nat.add_le_add_left (by decide : 1 ≤ 64) X.A.units) hu
  refine wpAny_bind (wpAny_pyHash_tuple hu' hx ?_)
  have e0 : upd H D (TsO (PySem.strKind X.prog X.w) D L) = H := by
    funext c
    by_cases e : c = D
    · subst e; rw [upd_same, hD]
    · rw [upd_ne e]
  refine ts_add (s := { s with toks := s.toks + (k.length + 1) }) calm_str R hx hu' hfew (fun hm => ?_) fun hm h2 L' es' ep' t' sb R2 pm => ?_
  · show wpAny _ _ (ret Value.none) _ _ _
    exact wpAny_pure ⟨_, rfl, h _ L (fun _ => rfl) (fun z => absurd hm z) (by rw [e0]; exact I.tok _)⟩
  · show wpAny _ _ (ret Value.none) _ _ _
    refine wpAny_pure ⟨_, rfl, h _ L' (fun z => absurd z hm) (fun _ => pm) ?_⟩
    have he : ∃ u, h2.get? D = some u := by
      obtain ⟨o, ho, _⟩ := R2.ob
      exact ⟨o, ho⟩
    exact I.write (e := D) (t' := s.toks + (k.length + 1)) (by rw [hD]; trivial) (.inl rfl) (fun c u hc hu => (sb.2 c hc).trans hu) he (tsO_new R2.t0)
theorem compTurn2_outS (elt t0 i0 t1 i1 : Expr) (ifs0 ifs1 : List Expr) (scope : Scope) (pos : Pos) (it acc : Value) (env : Env) :
    compTurn (.SetComp elt [⟨t0, i0, ifs0, 0⟩, ⟨t1, i1, ifs1, 0⟩] scope pos) 0 it acc env = (do
      standAt i0.pos
      match ← pyNext it with
      | none => pure (.done .next)
      | some v =>
        letOwnedTupleGo t0 it v
        assign t0 env v
        let mut ok := true
        for c in ifs0 do
          if ok then ok ← isTrue c env (eval c env)
        if ok then
          let x ← eval i1 env
          standAt i1.pos
          let x ← foldedSetIterable i1 env x
          let _ ← runOwn (.compStart (.SetComp elt [⟨t0, i0, ifs0, 0⟩, ⟨t1, i1, ifs1, 0⟩] scope pos) 1 (← holding [x] (pyIter x)) acc env) env
        again (.compLoop (.SetComp elt [⟨t0, i0, ifs0, 0⟩, ⟨t1, i1, ifs1, 0⟩] scope pos) 0 it acc env)) := by rfl
theorem compTurn2_inS (elt t0 i0 t1 i1 : Expr) (ifs0 ifs1 : List Expr) (scope : Scope) (pos : Pos) (it acc : Value) (env : Env) :
    compTurn (.SetComp elt [⟨t0, i0, ifs0, 0⟩, ⟨t1, i1, ifs1, 0⟩] scope pos) 1 it acc env = (do
      standAt i1.pos
      match ← pyNext it with
      | none => pure (.done .next)
      | some v =>
        letOwnedTupleGo t1 it v
        assign t1 env v
        let mut ok := true
        for c in ifs1 do
          if ok then ok ← isTrue c env (eval c env)
        if ok then
          (do let v ← eval elt env; standAt elt.pos; let _ ← call (.builtin "set.add") [acc, v])
        again (.compLoop (.SetComp elt [⟨t0, i0, ifs0, 0⟩, ⟨t1, i1, ifs1, 0⟩] scope pos) 1 it acc env)) := by rfl

section
variable {prog : Program} {w : World} {A : Around} {R : Result → Shared → Prop} {s : Shared} {elt t0 i0 t1 i1 : Expr} {ifs0 ifs1 : List Expr} {scope : Scope} {pos : Pos} {it acc : Value} {env : Env}
theorem compLoop2_outS (hs : ∀ x, foldedSetIterable i1 env x = pure x) (I : Nat → Shared → Prop)
    (turn : ∀ n s, I n s → wpAny (model prog w) A (pyNext it) (fun r s₁ => match r with
      | none => R (.ok .next) s₁
      | some v => wpAny (model prog w) A (letOwnedTupleGo t0 it v) (fun _ s₁' => wpAny (model prog w) A (assign t0 env v) (fun _ s₂ =>
          wpAny (model prog w) A (forIn ifs0 true fun c r => if r = true then do let ok ← isTrue c env (eval c env); pure (ForInStep.yield ok) else pure (ForInStep.yield r)) (fun ok s₃ =>
            if ok = true then wpAny (model prog w) A (eval i1 env) (fun x s₄ => wpAny (model prog w) A (pyIter x) (fun it1 s₅ =>
              codeAny (model prog w) A (.compStart (.SetComp elt [⟨t0, i0, ifs0, 0⟩, ⟨t1, i1, ifs1, 0⟩] scope pos) 1 it1 acc env) (fun r s' => match r with
                | .ok _ => ∃ m, m < n ∧ I m s'
                | .error _ => False) s₅) (notedBy (model prog w) A env fun e s' => R (.error e) s') s₄) (notedBy (model prog w) A env fun e s' => R (.error e) s') s₃
            else ∃ m, m < n ∧ I m s₃) (notedBy (model prog w) A env fun e s' => R (.error e) s') s₂) (notedBy (model prog w) A env fun e s' => R (.error e) s') s₁') (notedBy (model prog w) A env fun e s' => R (.error e) s') s₁) (notedBy (model prog w) A env fun e s' => R (.error e) s') s)
    (n : Nat) (h : I n s) :
    codeAny (model prog w) A (.compLoop (.SetComp elt [⟨t0, i0, ifs0, 0⟩, ⟨t1, i1, ifs1, 0⟩] scope pos) 0 it acc env) R s := by
  refine codeAny_loop rfl I (fun n s hI => ?_) n h
  show wpAny _ A ((compTurn (.SetComp elt [⟨t0, i0, ifs0, 0⟩, ⟨t1, i1, ifs1, 0⟩] scope pos) 0 it acc env).onRaise (fun x => do noteFrame x env; theTreesLotGoes x)) _ _ s
  refine wpAny_noted ?_
  rw [compTurn2_outS]
  refine wpAny_bind (wpAny_standAt (wpAny_bind (wpAny_mono (turn n s hI) (fun r s₁ h₁ => ?_) fun _ _ h' => h')))
  cases r with
  | none => exact wpAny_pure h₁
  | some v =>
    refine wpAny_bind (wpAny_mono h₁ (fun _ s₁' h₁' => ?_) fun _ _ h' => h')
    refine wpAny_bind (wpAny_mono h₁' (fun _ s₂ h₂ => wpAny_bind (wpAny_mono h₂ (fun ok s₃ h₃ => ?_) fun _ _ h' => h')) fun _ _ h' => h')
    cases ok with
    | false => exact wpAny_pure ⟨rfl, h₃⟩
    | true =>
      refine wpAny_bind (wpAny_mono h₃ (fun x s₄ h₄ => ?_) fun _ _ h' => h')
      refine wpAny_bind (wpAny_standAt (wpAny_bind (wpAny_of_eq (hs x) (wpAny_bind (wpAny_holding (wpAny_mono h₄ (fun it1 s₅ h₅ => ?_) fun _ _ h' => h'))))))
      refine wpAny_bind (wpAny_runOwn ?_)
      rw [Around.mark_none]
      refine codeAny_mono h₅ fun r s' hr => ?_
      cases r with
      | ok f =>
        first
          | exact wpAny_pure ⟨rfl, hr⟩
          | exact wpAny_bind (wpAny_pure (wpAny_pure ⟨rfl, hr⟩))
      | error e => exact hr.elim
theorem compLoop2_inS (I : Nat → Shared → Prop)
    (turn : ∀ n s, I n s → wpAny (model prog w) A (pyNext it) (fun r s₁ => match r with
      | none => R (.ok .next) s₁
      | some v => wpAny (model prog w) A (letOwnedTupleGo t1 it v) (fun _ s₁' => wpAny (model prog w) A (assign t1 env v) (fun _ s₂ =>
          wpAny (model prog w) A (forIn ifs1 true fun c r => if r = true then do let ok ← isTrue c env (eval c env); pure (ForInStep.yield ok) else pure (ForInStep.yield r)) (fun ok s₃ =>
            if ok = true then wpAny (model prog w) A (eval elt env) (fun x s₄ =>
              wpAny (model prog w) A (call (.builtin "set.add") [acc, x]) (fun _ s₅ => ∃ m, m < n ∧ I m s₅) (notedBy (model prog w) A env fun e s' => R (.error e) s') s₄) (notedBy (model prog w) A env fun e s' => R (.error e) s') s₃
            else ∃ m, m < n ∧ I m s₃) (notedBy (model prog w) A env fun e s' => R (.error e) s') s₂) (notedBy (model prog w) A env fun e s' => R (.error e) s') s₁') (notedBy (model prog w) A env fun e s' => R (.error e) s') s₁) (notedBy (model prog w) A env fun e s' => R (.error e) s') s)
    (n : Nat) (h : I n s) :
    codeAny (model prog w) A (.compLoop (.SetComp elt [⟨t0, i0, ifs0, 0⟩, ⟨t1, i1, ifs1, 0⟩] scope pos) 1 it acc env) R s := by
  refine codeAny_loop rfl I (fun n s hI => ?_) n h
  show wpAny _ A ((compTurn (.SetComp elt [⟨t0, i0, ifs0, 0⟩, ⟨t1, i1, ifs1, 0⟩] scope pos) 1 it acc env).onRaise (fun x => do noteFrame x env; theTreesLotGoes x)) _ _ s
  refine wpAny_noted ?_
  rw [compTurn2_inS]
  refine wpAny_bind (wpAny_standAt (wpAny_bind (wpAny_mono (turn n s hI) (fun r s₁ h₁ => ?_) fun _ _ h' => h')))
  cases r with
  | none => exact wpAny_pure h₁
  | some v =>
    refine wpAny_bind (wpAny_mono h₁ (fun _ s₁' h₁' => ?_) fun _ _ h' => h')
    refine wpAny_bind (wpAny_mono h₁' (fun _ s₂ h₂ => wpAny_bind (wpAny_mono h₂ (fun ok s₃ h₃ => ?_) fun _ _ h' => h')) fun _ _ h' => h')
    cases ok with
    | false => exact wpAny_pure ⟨rfl, h₃⟩
    | true =>
      exact wpAny_bind (wpAny_bind (wpAny_mono h₃ (fun x s₄ h₄ => wpAny_bind (wpAny_standAt (wpAny_bind (wpAny_mono h₄ (fun _ s₅ h₅ => wpAny_pure (wpAny_pure ⟨rfl, h₅⟩)) fun _ _ h' => h')))) fun _ _ h' => h'))
theorem compStart1_okS (h0 : codeAny (model prog w) A (.compLoop (.SetComp elt [⟨t0, i0, ifs0, 0⟩, ⟨t1, i1, ifs1, 0⟩] scope pos) 1 it acc env) R s)
    (h : wpAny (model prog w) A (pyIter it) (fun it' s' => codeAny (model prog w) A (.compLoop (.SetComp elt [⟨t0, i0, ifs0, 0⟩, ⟨t1, i1, ifs1, 0⟩] scope pos) 1 it' acc env) R s')
      (notedBy (model prog w) A env fun x s' => R (.error x) s') s) :
    codeAny (model prog w) A (.compStart (.SetComp elt [⟨t0, i0, ifs0, 0⟩, ⟨t1, i1, ifs1, 0⟩] scope pos) 1 it acc env) R s := by
  refine codeAny_of_tree ?_
  show wpAny _ _ ((compStart (.SetComp elt [⟨t0, i0, ifs0, 0⟩, ⟨t1, i1, ifs1, 0⟩] scope pos) 1 it acc env).onRaise (fun x => do noteFrame x env; standAt theWindowsPlace)) _ _ s
  refine wpAny_notedAt ?_
  unfold compStart
  show wpAny _ _ (ask >>= _) _ _ s
  refine wpAny_bind (wpAny_askSetting (wpAny_ite ?_))
  split
  · first
      | exact wpAny_bind (wpAny_pure (wpAny_pure (And.intro rfl h0)))
      | exact wpAny_pure (And.intro rfl h0)
  · first
      | exact wpAny_bind (wpAny_rule (wpAny_bind (wpAny_standAt (wpAny_bind (wpAny_mono h (fun it' s' h' => wpAny_pure (And.intro rfl h')) fun _ _ x => x)))))
      | (refine wpAny_bind (wpAny_rule ?_); show wpAny _ _ (standAt i1.pos >>= _) _ _ s; exact wpAny_bind (wpAny_standAt (wpAny_bind (wpAny_mono h (fun it' s' h' => wpAny_pure (And.intro rfl h')) fun _ _ x => x))))
end
section
variable {X : Cx}
def tSc2 (K : PySem.W.Frag) (P : Program) (w : World) (wi : TI) (g : TG) (tt : TT) (wi1 : TI) (g1 : TG) (tt1 : TT) (te : TE) (vs vs1 : List Nat) : TE := fun σ H Q => wi σ H fun J H1 => ∀ D, H1 D = none → ∃ W : Nat → Nat → Hp → Prop, (∃ m, W 0 m (upd H1 D (TsO (PySem.strKind P w) D []))) ∧ ∀ i m H, W i m H →
  (J.stop i H ∧ Q (.ref D) H) ∨ (J.go i H ∧ ∃ Nx : Hp → Prop, (∀ H', Nx H' → ∃ m', m' < m ∧ W (i + 1) m' H') ∧ ∀ x H', J.yld i H x H' → g x (wipe σ vs) H' fun σ2 H2 => wipe σ2 vs = wipe σ vs ∧ tt σ2 H2 fun b H3 =>
    if b = true then wi1 σ2 H3 fun J1 H4 => ∃ W1 : Nat → Nat → Hp → Prop, (∃ m, W1 0 m H4) ∧ ∀ j k H, W1 j k H →
      (J1.stop j H ∧ Nx H) ∨ (J1.go j H ∧ ∃ Nx1 : Hp → Prop, (∀ H', Nx1 H' → ∃ k', k' < k ∧ W1 (j + 1) k' H') ∧ ∀ x H', J1.yld j H x H' → g1 x (wipe σ2 vs1) H' fun σ3 H5 => wipe σ3 vs1 = wipe σ2 vs1 ∧ tt1 σ3 H5 fun b H6 =>
        if b = true then te σ3 H6 fun y H7 => ∃ (b : Addr) (k : List Str) (L : List (Addr × List Str)), y = .ref b ∧ SqT K H7 b (k.map V.str) ∧ H7 D = some (TsO (PySem.strKind P w) D L) ∧ (∀ p ∈ L, SqT K H7 p.1 (p.2.map V.str)) ∧ L.length < 76 ∧ ∀ L' : List (Addr × List Str), (k ∈ L.map (·.2) → L' = L) → (k ∉ L.map (·.2) → L'.Perm ((b, k) :: L)) → Nx1 (upd H7 D (TsO (PySem.strKind P w) D L')) else Nx1 H6)
    else Nx H3)
theorem sc2_core {pins : List (Addr × Obj)} {s : Shared} {σ : L2.St} {H : Hp} {Q : VK} {elt tg iter tg1 iter1 : Expr} {ifs ifs1 : List Expr} {scope : Scope} {own : List (Str × Nat)} {vs1 : List Nat} {pos pos' : Pos} {wi wi1 : TI} {g g1 : TG} {tt tt1 : TT} {te : TE} {use : Option (Value → Sem Unit)} {Qf : Value → Shared → Prop}
    (hu : X.A.units + 64 < cLine) (hc : X.calm = true) (hN : X.N.Nodup) (I : L2.Inv X pins σ H s) (hi : PI X tg iter wi) (ok : BlkOk X.N X.env.scope scope own) (hv : ∀ i ∈ vs1, i ∈ own.map (·.2))
    (hg : ∀ (s : Shared) (H : Hp) (C : Addr) (cl : List (Str × Addr)) (fp : List Addr), PG (X.blk s H scope (compEnvC scope cl C X.env) fp) tg g) (ht : ∀ (s : Shared) (H : Hp) (C : Addr) (cl : List (Str × Addr)) (fp : List Addr), PTs (X.blk s H scope (compEnvC scope cl C X.env) fp) ifs tt)
    (he : ∀ (s : Shared) (H : Hp) (C : Addr) (cl : List (Str × Addr)) (fp : List Addr), PE (X.blk s H scope (compEnvC scope cl C X.env) fp) elt te) (hs : ∀ x, foldedSetIterable iter X.env x = pure x)
    (hi1 : ∀ (s : Shared) (H : Hp) (C : Addr) (cl : List (Str × Addr)) (fp : List Addr), PI (X.blk s H scope (compEnvC scope cl C X.env) fp) tg1 iter1 wi1)
    (hg1 : ∀ (s : Shared) (H : Hp) (C : Addr) (cl : List (Str × Addr)) (fp : List Addr), PG (X.blk s H scope (compEnvC scope cl C X.env) fp) tg1 g1)
    (ht1 : ∀ (s : Shared) (H : Hp) (C : Addr) (cl : List (Str × Addr)) (fp : List Addr), PTs (X.blk s H scope (compEnvC scope cl C X.env) fp) ifs1 tt1)
    (hs1 : ∀ env x, foldedSetIterable iter1 env x = pure x)
    (h : tSc2 X.K X.prog X.w wi g tt wi1 g1 tt1 te (own.map (·.2)) vs1 σ H Q)
    (hRR : ∀ D C s' m H', L2.Inv X pins σ H' s' → Q (.ref D) H' → s'.heap.Ns C m → FpOk X pins H' C → compPost (model X.prog X.w) X.A X.xe use Qf (.ref D) C (.ok .next) s') :
    wpAny (model X.prog X.w) X.A (comprehension (.SetComp elt [⟨tg, iter, ifs, 0⟩, ⟨tg1, iter1, ifs1, 0⟩] scope pos) scope X.env pos' (newSet (.type "set")) false (eval iter X.env) use) Qf X.xe s := by
  have hfree : ∀ y ∈ scope.names, y.2 = .free → ∃ c, X.env.cells.lookup y.1 = some c := fun y hy e => by
    rcases ok.free y hy e with k | k
    · exact I.ok.has _ (.inl k)
    · exact I.ok.has _ (.inr k)
  refine wpAny_comprehension_free (use := use) rfl hs (closure_ok hfree) ok.kind (fun y hy e => by rw [ok.uniq y hy, e])
    (thn (hi.run pins s σ H _ I h) fun xv s1 hx => thn hx fun itv s2 h2 => ?_)
  obtain ⟨it, fp, tn, J, H2, e, I2, T, st2, f2, q⟩ := h2
  subst e
  refine wpAny_newSet_raw fun led hled => newEnv_comp ?_
  subst hled
  generalize hD : s2.heap.objs.size = D
  have hDn : H2 D = none := I2.hok.fresh (Nat.le_of_eq hD)
  obtain ⟨W, ⟨m0, w0⟩, turn⟩ := q D hDn
  -- the new list
  generalize hs3 : ({ s2 with heap := s2.heap.push (newSetO X.w) } : Shared) = s3
  have I3 : L2.Inv X pins σ (upd H2 D (TsO (PySem.strKind X.prog X.w) D [])) s3 := by
    rw [← hs3]
    refine I2.laid (t' := s2.toks) (fun b o e => Heap.get?_push_of_some _ e) (Nat.le_of_eq hD) (tsO_new (ts_new ?_).t0)
    rw [← hD]
    exact Heap.get?_push_size _ rfl
  have h3 : s3.heap = s2.heap.push (newSetO X.w) := by rw [← hs3]
  have sz : ∀ b ∈ fp, b < s2.heap.objs.size := fun b hb => by
    obtain ⟨o, e, _⟩ := T.obj _ _ st2 b hb
    exact Heap.lt_size e
  have f3 : ∀ b ∈ fp, FpOk X pins (upd H2 D (TsO (PySem.strKind X.prog X.w) D [])) b ∧ b < s3.heap.objs.size := fun b hb => by
    have hlt := sz b hb
    refine ⟨⟨?_, (f2 b hb).2⟩, by rw [h3, Heap.size_push]; exact Nat.lt_succ_of_lt hlt⟩
    rw [upd_ne (by rw [← hD]; exact Nat.ne_of_lt hlt)]
    exact (f2 b hb).1
  have st3 : tn 0 s3.heap := T.keep _ _ _ st2 fun b _ o e => by rw [h3]; exact Heap.get?_push_of_some _ e
  have I4 := block_start I3 ok hN f3
  have pg := hg s3 (upd H2 D (TsO (PySem.strKind X.prog X.w) D [])) s3.heap.objs.size (cellsFrom (s3.heap.objs.size + 1) scope.names (cloFrom X.env.cells scope.names [])) fp
  have pt := ht s3 (upd H2 D (TsO (PySem.strKind X.prog X.w) D [])) s3.heap.objs.size (cellsFrom (s3.heap.objs.size + 1) scope.names (cloFrom X.env.cells scope.names [])) fp
  have pe := he s3 (upd H2 D (TsO (PySem.strKind X.prog X.w) D [])) s3.heap.objs.size (cellsFrom (s3.heap.objs.size + 1) scope.names (cloFrom X.env.cells scope.names [])) fp
  have pi1 := hi1 s3 (upd H2 D (TsO (PySem.strKind X.prog X.w) D [])) s3.heap.objs.size (cellsFrom (s3.heap.objs.size + 1) scope.names (cloFrom X.env.cells scope.names [])) fp
  have pg1 := hg1 s3 (upd H2 D (TsO (PySem.strKind X.prog X.w) D [])) s3.heap.objs.size (cellsFrom (s3.heap.objs.size + 1) scope.names (cloFrom X.env.cells scope.names [])) fp
  have pt1 := ht1 s3 (upd H2 D (TsO (PySem.strKind X.prog X.w) D [])) s3.heap.objs.size (cellsFrom (s3.heap.objs.size + 1) scope.names (cloFrom X.env.cells scope.names [])) fp
  show codeAny _ _ (.compStart (.SetComp elt [⟨tg, iter, ifs, 0⟩, ⟨tg1, iter1, ifs1, 0⟩] scope pos) 0 (.ref it) (.ref D) (compEnvC scope (cellsFrom (s3.heap.objs.size + 1) scope.names (cloFrom X.env.cells scope.names [])) s3.heap.objs.size X.env)) (compPost (model X.prog X.w) X.A X.xe use Qf (.ref D) s3.heap.objs.size) { s3 with heap := pushCells (s3.heap.push { cls := .type "dict", data := .dict #[] }) scope.names }
  have nfp : ∀ b ∈ fp, (upd H2 D (TsO (PySem.strKind X.prog X.w) D [])) b = none := fun b hb => (f3 b hb).1.1
  generalize hce : compEnvC scope (cellsFrom (s3.heap.objs.size + 1) scope.names (cloFrom X.env.cells scope.names [])) s3.heap.objs.size X.env = ce at I4 pg pt pe pi1 pg1 pt1 ⊢
  have cL : ce.locals = s3.heap.objs.size := by subst hce; rfl
  generalize hH3 : upd H2 D (TsO (PySem.strKind X.prog X.w) D []) = H3 at I3 I4 pg pt pe pi1 pg1 pt1 w0 nfp f3
  generalize hs4 : ({ s3 with heap := pushCells (s3.heap.push { cls := .type "dict", data := .dict #[] }) scope.names } : Shared) = s4 at I4 ⊢
  have st4 : tn 0 s4.heap := T.keep _ _ _ st3 fun b _ o e => by rw [← hs4]; exact pushCells_keeps _ _ _ _ (Heap.get?_push_of_some _ e)
  have stat : ∀ {σ' : L2.St} {H' : Hp} {s' : Shared}, L2.Inv (X.blk s3 H3 scope ce fp) [] σ' H' s' → (∀ b ∈ fp, H' b = none) → ∀ b ∈ fp, FpOk (X.blk s3 H3 scope ce fp) [] H' b := fun {σ' H' s'} I' hn b hb =>
    ⟨hn b hb, (I'.ok.exf b hb).1, I'.ok.exfs b hb, .inl hb, fun x c e => (I'.ok.exf b hb).2 x c e, fun p hp => absurd (show p ∈ ([] : List (Addr × Obj)) ++ [] from hp) (by simp)⟩
  have loop : codeAny (model X.prog X.w) X.A (.compLoop (.SetComp elt [⟨tg, iter, ifs, 0⟩, ⟨tg1, iter1, ifs1, 0⟩] scope pos) 0 (.ref it) (.ref D) ce) (compPost (model X.prog X.w) X.A X.xe use Qf (.ref D) s3.heap.objs.size) s4 := by
    refine compLoop2_outS (hs1 ce) (fun n s' => ∃ i H', L2.Inv (X.blk s3 H3 scope ce fp) [] (wipe σ (own.map (·.2))) H' s' ∧ tn i s'.heap ∧ (∀ b ∈ fp, H' b = none) ∧ W i n H') ?_ m0 ⟨0, H3, I4, st4, nfp, w0⟩
    rintro n s5 ⟨i, H5, I5, st5, n5, w5⟩
    rcases turn i n H5 w5 with ⟨stop, qq⟩ | ⟨go, Nx, hNx, step⟩
    · have td := T.done (X.blk s3 H3 scope ce fp) rfl rfl rfl hc i [] s5 _ H5 (fun _ _ => False) I5 (stat I5 n5) st5 stop
      refine thnF td fun r s6 ⟨hr, I6⟩ => ?_
      subst hr
      -- back in the def's context
      have I7 : L2.Inv X pins σ H5 s6 := I3.call' (ch := fp) I6.os I6.base I6.hok I6.bare fun b hb => ⟨(f3 b hb).1.2.2.2.1, (f3 b hb).1.2.1, (f3 b hb).1.2.2.2.2.1, (f3 b hb).1.2.2.2.2.2⟩
      have nC : H5 s3.heap.objs.size = none := by
        have z : H5 ce.locals = none := I6.free
        rw [cL] at z
        exact z
      obtain ⟨m, hn, _⟩ := I6.loc
      have hn : s6.heap.Ns ce.locals m := hn
      rw [cL] at hn
      exact hRR D s3.heap.objs.size s6 m H5 I7 qq hn (I3.fpOk (Nat.le_refl _) nC)
    · have ti := T.item (X.blk s3 H3 scope ce fp) rfl rfl rfl hc i [] s5 _ H5 (fun _ _ => False) I5 (stat I5 n5) st5 go
      refine thnF ti fun r s6 ⟨u, hr, h6⟩ => ?_
      subst hr
      refine thnF h6 fun _ s7 ⟨x, H7, I7, r7, y7, st7, n7⟩ => ?_
      have I7' := I7.pinned (stat I7 n7) (T.obj _ _ st7)
      refine thnF (pg.run _ s7 _ H7 x u _ I7' r7 (step x H7 y7)) fun _ s8 ⟨σ8, H8, I8, hw8, q8⟩ => ?_
      refine thnF (pt.run _ s8 σ8 H8 _ I8 q8) fun b s9 ⟨H9, I9, q9⟩ => ?_
      -- the turn's end, from any slots that know what the block knew at its start
      have fin : ∀ {σ9 : L2.St} {s' : Shared} {H' : Hp}, L2.Inv (X.blk s3 H3 scope ce fp) ([] ++ pinsAt fp s7.heap) σ9 H' s' → (wipe σ (own.map (·.2))).length = σ9.length → (∀ (j : Nat) v, (wipe σ (own.map (·.2)))[j]? = some (some v) → σ9[j]? = some (some v)) → Nx H' →
          ∃ m, m < n ∧ ∃ i H', L2.Inv (X.blk s3 H3 scope ce fp) [] (wipe σ (own.map (·.2))) H' s' ∧ tn i s'.heap ∧ (∀ b ∈ fp, H' b = none) ∧ W i m H' := fun {σ9 s' H'} I' hl hk nx => by
        obtain ⟨m', hm, w'⟩ := hNx H' nx
        have pin' : ∀ b ∈ fp, ∀ o, s7.heap.get? b = some o → s'.heap.get? b = some o ∧ H' b = none := fun b hb o e =>
          let z := I'.pin (b, o) (List.mem_append_right _ (List.mem_append_right _ (mem_pinsAt hb e)))
          ⟨z.1, z.2.1⟩
        refine ⟨m', hm, i + 1, H', (I'.unpinned (pins := [])).weak hl hk, T.keep _ _ _ st7 fun b hb o e => (pin' b hb o e).1, fun b hb => ?_, w'⟩
        obtain ⟨o, e, _⟩ := T.obj _ _ st7 b hb
        exact (pin' b hb o e).2
      have hl8 : (wipe σ (own.map (·.2))).length = σ8.length := by rw [← hw8, wipe_length]
      have hk8 : ∀ (j : Nat) v, (wipe σ (own.map (·.2)))[j]? = some (some v) → σ8[j]? = some (some v) := fun j v e => by
        rw [← hw8] at e
        exact (wipe_some e).1
      have hk9 : ∀ (j : Nat) v, (wipe σ (own.map (·.2)))[j]? = some (some v) → (wipe σ8 vs1)[j]? = some (some v) := fun j v e => by
        rw [← hw8] at e
        obtain ⟨e1, e2⟩ := wipe_some e
        rw [wipe_out fun z => e2 (hv j z)]
        exact e1
      cases b with
      | false =>
        simp only [Bool.false_eq_true, if_false] at q9 ⊢
        exact fin I9 hl8 hk8 q9
      | true =>
        simp only [if_true] at q9 ⊢
        refine thnF (pi1.run _ s9 σ8 H9 _ I9 q9) fun xv s10 hx => thnF hx fun itv s11 h11 => ?_
        obtain ⟨it1, fp1, tn1, J1, H11, e1, I11, T1, st11, f11, W1, ⟨m1, w1⟩, turn1⟩ := h11
        subst e1
        -- the inner loop
        have stat1 : ∀ {H' : Hp}, (∀ b ∈ fp1, H' b = none) → ∀ b ∈ fp1, FpOk (X.blk s3 H3 scope ce fp) ([] ++ pinsAt fp s7.heap) H' b := fun hn b hb => ⟨hn b hb, (f11 b hb).2⟩
        have loop1 : codeAny (model X.prog X.w) X.A (.compLoop (.SetComp elt [⟨tg, iter, ifs, 0⟩, ⟨tg1, iter1, ifs1, 0⟩] scope pos) 1 (.ref it1) (.ref D) ce)
            (fun r s' => match r with
              | .ok _ => ∃ m, m < n ∧ ∃ i H', L2.Inv (X.blk s3 H3 scope ce fp) [] (wipe σ (own.map (·.2))) H' s' ∧ tn i s'.heap ∧ (∀ b ∈ fp, H' b = none) ∧ W i m H'
              | .error _ => False) s11 := by
          refine compLoop2_inS (fun k s' => ∃ j H', L2.Inv (X.blk s3 H3 scope ce fp) ([] ++ pinsAt fp s7.heap) (wipe σ8 vs1) H' s' ∧ tn1 j s'.heap ∧ (∀ b ∈ fp1, H' b = none) ∧ W1 j k H') ?_ m1 ⟨0, H11, I11.weak (wipe_length _ _) (fun j v e => (wipe_some e).1), st11, fun b hb => (f11 b hb).1, w1⟩
          rintro k s12 ⟨j, H12, I12, st12, n12, w12⟩
          rcases turn1 j k H12 w12 with ⟨stop1, nx1⟩ | ⟨go1, Nx1, hNx1, step1⟩
          · refine thnF (T1.done (X.blk s3 H3 scope ce fp) rfl rfl rfl hc j _ s12 (wipe σ8 vs1) H12 (fun _ _ => False) I12 (stat1 n12) st12 stop1) fun r s13 ⟨hr, I13⟩ => ?_
            subst hr
            exact fin I13 (hl8.trans (wipe_length σ8 vs1).symm) hk9 nx1
          · refine thnF (T1.item (X.blk s3 H3 scope ce fp) rfl rfl rfl hc j _ s12 (wipe σ8 vs1) H12 (fun _ _ => False) I12 (stat1 n12) st12 go1) fun r s13 ⟨u1, hr, h13⟩ => ?_
            subst hr
            refine thnF h13 fun _ s14 ⟨x1, H14, I14, r14, y14, st14, n14⟩ => ?_
            have I14' := I14.pinned (stat1 n14) (T1.obj _ _ st14)
            refine thnF (pg1.run _ s14 (wipe σ8 vs1) H14 x1 u1 _ I14' r14 (step1 x1 H14 y14)) fun _ s15 ⟨σ15, H15, I15, hw15, q15⟩ => ?_
            refine thnF (pt1.run _ s15 σ15 H15 _ I15 q15) fun b1 s16 ⟨H16, I16, q16⟩ => ?_
            have fin1 : ∀ {s' : Shared} {H' : Hp}, L2.Inv (X.blk s3 H3 scope ce fp) (([] ++ pinsAt fp s7.heap) ++ pinsAt fp1 s14.heap) σ15 H' s' → Nx1 H' → ∃ m, m < k ∧ ∃ j H', L2.Inv (X.blk s3 H3 scope ce fp) ([] ++ pinsAt fp s7.heap) (wipe σ8 vs1) H' s' ∧ tn1 j s'.heap ∧ (∀ b ∈ fp1, H' b = none) ∧ W1 j m H' := fun {s' H'} I' nx => by
              obtain ⟨m', hm, w'⟩ := hNx1 H' nx
              have pin' : ∀ b ∈ fp1, ∀ o, s14.heap.get? b = some o → s'.heap.get? b = some o ∧ H' b = none := fun b hb o e =>
                let z := I'.pin (b, o) (List.mem_append_right _ (List.mem_append_right _ (mem_pinsAt hb e)))
                ⟨z.1, z.2.1⟩
              refine ⟨m', hm, j + 1, H', I'.unpinned.weak (by rw [← hw15, wipe_length]) (fun j v e => by rw [← hw15] at e; exact (wipe_some e).1), T1.keep _ _ _ st14 fun b hb o e => (pin' b hb o e).1, fun b hb => ?_, w'⟩
              obtain ⟨o, e, _⟩ := T1.obj _ _ st14 b hb
              exact (pin' b hb o e).2
            cases b1 with
            | false =>
              simp only [Bool.false_eq_true, if_false] at q16 ⊢
              exact fin1 I16 q16
            | true =>
              simp only [if_true] at q16 ⊢
              refine thnF (pe.run _ s16 σ15 H16 _ I16 q16) fun z s17 ⟨yv, H17, I17, r17, bb, kk, LL, ey, hb17, hD17, hL17, hz17, nx⟩ => ?_
              subst ey
              cases r17
              exact tsAdd_ok (X := X.blk s3 H3 scope ce fp) hu I17 hD17 hL17 hb17 hz17 fun s18 L18 e1 e2 I18 => fin1 I18 (nx L18 e1 e2)
        exact compStart1_okS loop1 (T1.self X.A 0 _ _ _ st11 loop1)
  exact codeAny_compStart_set loop (T.self X.A 0 _ _ _ st4 loop)
theorem pe_sc2 {elt tg iter tg1 iter1 : Expr} {ifs ifs1 : List Expr} {scope : Scope} {own : List (Str × Nat)} {vs1 : List Nat} {pos : Pos} {wi wi1 : TI} {g g1 : TG} {tt tt1 : TT} {te : TE} (hu : X.A.units + 64 < cLine) (hc : X.calm = true) (hN : X.N.Nodup) (hi : PI X tg iter wi) (ok : BlkOk X.N X.env.scope scope own) (hv : ∀ i ∈ vs1, i ∈ own.map (·.2))
    (hg : ∀ (s : Shared) (H : Hp) (C : Addr) (cl : List (Str × Addr)) (fp : List Addr), PG (X.blk s H scope (compEnvC scope cl C X.env) fp) tg g) (ht : ∀ (s : Shared) (H : Hp) (C : Addr) (cl : List (Str × Addr)) (fp : List Addr), PTs (X.blk s H scope (compEnvC scope cl C X.env) fp) ifs tt)
    (hi1 : ∀ (s : Shared) (H : Hp) (C : Addr) (cl : List (Str × Addr)) (fp : List Addr), PI (X.blk s H scope (compEnvC scope cl C X.env) fp) tg1 iter1 wi1)
    (hg1 : ∀ (s : Shared) (H : Hp) (C : Addr) (cl : List (Str × Addr)) (fp : List Addr), PG (X.blk s H scope (compEnvC scope cl C X.env) fp) tg1 g1) (ht1 : ∀ (s : Shared) (H : Hp) (C : Addr) (cl : List (Str × Addr)) (fp : List Addr), PTs (X.blk s H scope (compEnvC scope cl C X.env) fp) ifs1 tt1)
    (he : ∀ (s : Shared) (H : Hp) (C : Addr) (cl : List (Str × Addr)) (fp : List Addr), PE (X.blk s H scope (compEnvC scope cl C X.env) fp) elt te) (hs : ∀ x, foldedSetIterable iter X.env x = pure x := by intro _; rfl) (hs1 : ∀ env x, foldedSetIterable iter1 env x = pure x := by intro _ _; rfl) :
    PE X (.SetComp elt [⟨tg, iter, ifs, 0⟩, ⟨tg1, iter1, ifs1, 0⟩] scope pos) (tSc2 X.K X.prog X.w wi g tt wi1 g1 tt1 te (own.map (·.2)) vs1) := by
  refine ⟨fun pins s σ H Q I h => ?_⟩
  rw [arm_eval_SetComp]
  refine sc2_core hu hc hN I hi ok hv hg ht he hs hi1 hg1 ht1 hs1 h fun D C s' m H' I' q hn f => ⟨m, hn, fun h'' sb => ?_⟩
  obtain ⟨f0, f1, f2, f3, f4, f5⟩ := f
  exact ⟨.ref D, H', I'.turned (t' := s'.toks) (fun b o hb e => (sb.2 b hb).trans e) f0 f1 f3 f4 f5, rfl, q⟩
end
end K70
/-! Ku11: sets of states: sorted(the comprehension), set(xs), in. -/
namespace K70
open PySem PySem.Spec PyProof.Rows L2
abbrev tsE (p : Ps) : Addr × List Str := (p.1, [tx p.2.1, tx p.2.2])
abbrev tsL (ps : List Ps) : List (Addr × List Str) := ps.map tsE
theorem tsE_key {s : Tx × Tx} {p : Ps} : (tsE p).2 = [tx s.1, tx s.2] ↔ p.2 = s := by
  constructor
  · intro h
    have h1 : tx p.2.1 = tx s.1 := by injection h
    have h2 : tx p.2.2 = tx s.2 := by injection h with _ h; injection h
    exact Prod.ext (tx_inj h1) (tx_inj h2)
  · intro h; subst h; rfl
theorem tsL_mem {s : Tx × Tx} {ps : List Ps} : [tx s.1, tx s.2] ∈ (tsL ps).map (·.2) ↔ s ∈ ps.map (·.2) := by
  rw [List.mem_map, List.mem_map]
  constructor
  · rintro ⟨q, hq, e⟩
    obtain ⟨p, hp, rfl⟩ := List.mem_map.mp hq
    exact ⟨p, hp, tsE_key.mp e⟩
  · rintro ⟨p, hp, rfl⟩
    exact ⟨_, List.mem_map.mpr ⟨p, hp, rfl⟩, rfl⟩
/-- sorted(a set of states) -/
def rSortedTs (P : Program) (w : World) : List V → Hp → VK → Prop := fun vs H Q => ∃ (a : Addr) (ps : List Ps), vs = [V.ref a] ∧ H a = some (TsO (PySem.strKind P w) a (tsL ps)) ∧ (∀ p ∈ ps, H p.1 = some (.tup (stV p.2))) ∧ ps.length ≤ 76 ∧
  ∀ (qs : List Ps) (p : Addr), qs.Perm ps → qs.Pairwise (fun p q => ltS q.2 p.2 = false) → H p = none → Q (.ref p) (upd H p (.lst (qs.map fun q => V.ref q.1)))
section
variable {X : Cx}
theorem cr_sortedTs (hc : X.calm = true) : CallR X (.builtin "sorted") (rSortedTs X.prog X.w) := by
  intro pins s σ H vs us Q I r h
  obtain ⟨a, ps, rfl, ha, hps, hl, q⟩ := h
  rw [Vals.ref1 r]
  have R0 : Ts0 (PySem.strKind X.prog X.w) s.heap a (tsL ps) := (I.hok a _ ha).1
  obtain ⟨es, ep, t, R⟩ := R0.full fun p hp => by
    obtain ⟨z, hz, rfl⟩ := List.mem_map.mp hp
    exact Inv.isS I (SqT.of (hps z hz))
  obtain ⟨o, ho, hex, hd⟩ := id R.ob
  have hsz : es.size = ps.length := by rw [R.size, List.length_map]
  refine Calls.call_function_entry kind_sorted plain_sorted entry_sorted (args_sorted1 _) ?_
  unfold Builtin.«sorted»
  refine wpAny_bind (m := checkCount "sorted" 1 1 _) (wpAny_pure ?_)
  refine wpAny_bind (collect_set (A := X.A.in1) (I.ok.hd hc) ⟨o, ho, hex.1, hd⟩ R.fits (by rw [hsz]; show ps.length < 4096; omega) R.tab.ris R.led fun s1 vs1 k1 hz g1 o1 pm => ?_)
  have ev : es.toList.map (·.2) = ps.map fun p => Value.ref p.1 := by
    rw [R.rows]
    unfold rowsT
    rw [List.map_map, List.map_map]; rfl
  rw [ev] at pm
  obtain ⟨qs, hq1, hq2⟩ := perm_lift (fun p : Ps => Value.ref p.1) pm ps rfl
  subst hq2
  have hlq : (qs.map fun p => Value.ref p.1).length ≤ sizeLine := by rw [List.length_map, hq1.length_eq]; exact Nat.le_trans hl (by decide)
  refine wpAny_bind (wpAny_newList ?_ hlq)
  have I1 : L2.Inv X pins σ H s1 := I.call' (ch := []) o1 (Un.kept k1) (I.hok.kept k1) (by rw [g1]; exact I.bare) (fun _ z => nomatch z)
  have hn0 : H s1.heap.objs.size = none := I1.hok.fresh (Nat.le_refl _)
  have I2 : L2.Inv X pins σ H { s1 with heap := s1.heap.push (seqObj "list" (qs.map fun p => Value.ref p.1).toArray 0) } := I1.kept (t' := s1.toks) fun b o e => Heap.get?_push_of_some _ e
  have hob : (s1.heap.push (seqObj "list" (qs.map fun p => Value.ref p.1).toArray 0)).get? s1.heap.objs.size = some (seqObj "list" (qs.map fun p => Value.ref p.1).toArray 0) := Heap.get?_push_size _ rfl
  have hqs : ∀ p ∈ qs, H p.1 = some (.tup (stV p.2)) := fun p hp => hps p (hq1.mem_iff.mp hp)
  have hg := sort_states (A := X.A.in1) (E := X.xe) I2 (D := s1.heap.objs.size) (ps := qs) (Q := fun _ s' => EP X pins σ Q (.ref s1.heap.objs.size) s') hob (I1.fpOk (Nat.le_refl _) hn0) hqs (by rw [List.length_map] at hlq; exact hlq) fun ps' s' hperm hpw I3 => ⟨.ref s1.heap.objs.size, _, I3, rfl, q ps' s1.heap.objs.size (hperm.trans hq1) hpw hn0⟩
  refine wpAny_bind (wpAny_holding (wpAny_mono hg (fun _ s' x => ?_) fun _ _ e => e))
  exact wpAny_pure ⟨_, rfl, x⟩
theorem cr_sortedTsK {P : Program} {w : World} (hc : X.calm = true) (hP : X.prog = P := by rfl) (hw : X.w = w := by rfl) : CallR X (.builtin "sorted") (rSortedTs P w) := by subst hP hw; exact cr_sortedTs hc
theorem cr_setSK {K : PySem.W.Frag} {P : Program} {w : World} (hc : X.calm = true) (hu : X.A.units + 64 < cLine) (hK : X.K = K := by rfl) (hP : X.prog = P := by rfl) (hw : X.w = w := by rfl) : CallR X (.type "set") (rSetS K P w) := by subst hK hP hw; exact cr_setS hc hu
theorem or_inSK {K : PySem.W.Frag} {P : Program} {w : World} (hu : X.A.units + 64 < cLine) (hK : X.K = K := by rfl) (hP : X.prog = P := by rfl) (hw : X.w = w := by rfl) : OpR X (compareOp .In) (rInS K P w) := by subst hK hP hw; exact or_inS hu
end
section
variable {K : PySem.W.Frag} {P : Program} {w : World} {m : Mu} {Γ : Ga} {te : TE} {wi wi1 : TI} {g g1 : TG} {Pp : Dt → Prop}
/-- the comprehension -/
theorem sc2_at {vs vs1 : List Nat} {α : Type} {l : List α} {enc : α → Dt} {f : α → List (Tx × Tx)} {U : List (Tx × Tx)} (hs : SrcG K m wi Γ (· = l.map enc)) (hU : ∀ a ∈ l, ∀ x ∈ f a, x ∈ U) (hU2 : U.length ≤ 70)
    (hb : ∀ a ∈ l, ∃ Γ' js, (∀ j ∈ js, j ∈ vs) ∧ TgG K g (enc a) (wipeG Γ vs) Γ' js ∧ SrcG K m wi1 Γ' (· = (f a).map stD) ∧ ∀ x ∈ f a, ∃ Γ'' js1, (∀ j ∈ js1, j ∈ vs1) ∧ TgG K g1 (stD x) (wipeG Γ' vs1) Γ'' js1 ∧ Ev K m te Γ'' (stD x)) :
    ∀ σ G H, Sl K G σ Γ → Same G H → m.M G H → ∀ Q : VK, (∀ D ps G' H', Grow m.μ G H G' H' → m.M G' H' → H' D = some (TsO (PySem.strKind P w) D (tsL ps)) → (∀ p ∈ ps, G' p.1 = some (.tup (stV p.2))) → (ps.map (·.2)).Nodup → (∀ x, x ∈ ps.map (·.2) ↔ ∃ a ∈ l, x ∈ f a) → ps.length ≤ 76 → Q (.ref D) H') → tSc2 K P w wi g tYes wi1 g1 tYes te vs vs1 σ H Q := by
  intro σ G H x s M Q k
  refine hs σ G H x s M _ fun J ds G1 H1 p1 gr1 M1 src D hD => ?_
  subst p1
  have x1 := x.mono gr1.g
  have nD : ¬ m.μ D := Mu.notNew M1 hD
  have few : ∀ {ps : List Ps}, (ps.map (·.2)).Nodup → (∀ x ∈ ps.map (·.2), x ∈ U) → ps.length ≤ 70 := fun {ps} nd h => by
    have := nodup_len nd h
    rw [List.length_map] at this; omega
  refine ⟨fun i k H => k = l.length - i ∧ i ≤ l.length ∧ ∃ (G' : Hp) (ps : List Ps), Grow m.μ G1 H1 G' H ∧ m.M G' H ∧ G' D = none ∧ H D = some (TsO (PySem.strKind P w) D (tsL ps)) ∧ (∀ p ∈ ps, G' p.1 = some (.tup (stV p.2))) ∧ (ps.map (·.2)).Nodup ∧ ∀ x, x ∈ ps.map (·.2) ↔ ∃ a ∈ l.take i, x ∈ f a,
    ⟨l.length, by simp, Nat.zero_le _, G1, [], Grow.hide gr1.sub hD, Mu.hide gr1.sub hD M1, gr1.sub.free hD, upd_same, fun p h => (nomatch h), List.nodup_nil, fun x => ⟨fun h => (nomatch h), fun ⟨a, h, _⟩ => by simp at h⟩⟩, ?_⟩
  rintro i k' H' ⟨rfl, hi, G', ps, gr, M', gD, hDl, hps, nd, hx⟩
  by_cases hlt : i < l.length
  · refine .inr ⟨src.goes i H' (by rw [List.length_map]; exact hlt) (gr.g.trans gr.sub), fun H2 => i + 1 ≤ l.length ∧ ∃ (G' : Hp) (ps : List Ps), Grow m.μ G1 H1 G' H2 ∧ m.M G' H2 ∧ G' D = none ∧ H2 D = some (TsO (PySem.strKind P w) D (tsL ps)) ∧ (∀ p ∈ ps, G' p.1 = some (.tup (stV p.2))) ∧ (ps.map (·.2)).Nodup ∧ ∀ x, x ∈ ps.map (·.2) ↔ ∃ a ∈ l.take (i + 1), x ∈ f a, fun H2 w => ⟨l.length - (i + 1), by omega, rfl, w⟩, fun z H2 y => ?_⟩
    obtain ⟨a, ha⟩ : ∃ a, l[i]? = some a := ⟨_, List.getElem?_eq_getElem hlt⟩
    have hal := List.mem_of_getElem? ha
    obtain ⟨G2, g2, r2⟩ := src.yields i (enc a) H' z H2 G' (by rw [List.getElem?_map, ha]; rfl) gr.g gr.sub y
    obtain ⟨Γ', js, hjs, htg, hs1, hin⟩ := hb a hal
    have M2 := Mu.pure g2 M'
    have gD2 : G2 D = none := g2.new D gD (by rw [hDl]; trivial)
    have hD2 : H2 D = some (TsO (PySem.strKind P w) D (tsL ps)) := g2.same _ _ hDl
    refine htg (wipe σ vs) G2 H2 z ((x1.mono (gr.g.trans g2.g)).wipe vs) g2.sub r2 _ fun σ' sl' hw => ⟨?_, ?_⟩
    · rw [hw vs hjs, wipe_wipe fun j hj => hj]
    · show wi1 σ' H2 _
      refine hs1 σ' G2 H2 sl' g2.sub M2 _ fun J1 es G3 H3 p3 g3 M3 src1 => ?_
      subst p3
      have hD3 : H3 D = some (TsO (PySem.strKind P w) D (tsL ps)) := g3.h D _ nD hD2
      have gD3 : G3 D = none := g3.new D gD2 (by rw [hD2]; trivial)
      refine ⟨fun j k H => k = (f a).length - j ∧ j ≤ (f a).length ∧ ∃ (G' : Hp) (ps : List Ps), Same G3 G' ∧ Grow m.μ G1 H1 G' H ∧ m.M G' H ∧ G' D = none ∧ H D = some (TsO (PySem.strKind P w) D (tsL ps)) ∧ (∀ p ∈ ps, G' p.1 = some (.tup (stV p.2))) ∧ (ps.map (·.2)).Nodup ∧ ∀ x, x ∈ ps.map (·.2) ↔ (∃ a ∈ l.take i, x ∈ f a) ∨ x ∈ (f a).take j,
        ⟨(f a).length, by simp, Nat.zero_le _, G3, ps, Same.refl _, (gr.trans g2.lift).trans g3, M3, gD3, hD3, fun p hp => g3.g _ _ (g2.g _ _ (hps p hp)), nd, fun x => by rw [hx]; simp⟩, ?_⟩
      rintro j k' H4 ⟨rfl, hj, G4, qs, s34, gr4, M4, gD4, hD4, hqs, nd4, hx4⟩
      by_cases hlt1 : j < (f a).length
      · refine .inr ⟨src1.goes j H4 (by rw [List.length_map]; exact hlt1) (s34.trans gr4.sub), fun H5 => j + 1 ≤ (f a).length ∧ ∃ (G' : Hp) (ps : List Ps), Same G3 G' ∧ Grow m.μ G1 H1 G' H5 ∧ m.M G' H5 ∧ G' D = none ∧ H5 D = some (TsO (PySem.strKind P w) D (tsL ps)) ∧ (∀ p ∈ ps, G' p.1 = some (.tup (stV p.2))) ∧ (ps.map (·.2)).Nodup ∧ ∀ x, x ∈ ps.map (·.2) ↔ (∃ a ∈ l.take i, x ∈ f a) ∨ x ∈ (f a).take (j + 1), fun H5 w => ⟨(f a).length - (j + 1), by omega, rfl, w⟩, fun u H5 y5 => ?_⟩
        obtain ⟨e, he⟩ : ∃ e, (f a)[j]? = some e := ⟨_, List.getElem?_eq_getElem hlt1⟩
        have hef := List.mem_of_getElem? he
        obtain ⟨G5, g5, r5⟩ := src1.yields j (stD e) H4 u H5 G4 (by rw [List.getElem?_map, he]; rfl) s34 gr4.sub y5
        obtain ⟨Γ'', js1, hjs1, htg1, hte⟩ := hin e hef
        have M5 := Mu.pure g5 M4
        have gD5 : G5 D = none := g5.new D gD4 (by rw [hD4]; trivial)
        have hD5 : H5 D = some (TsO (PySem.strKind P w) D (tsL qs)) := g5.same _ _ hD4
        refine htg1 (wipe σ' vs1) G5 H5 u ((sl'.mono (g3.g.trans (s34.trans g5.g))).wipe vs1) g5.sub r5 _ fun σ3 sl3 hw3 => ⟨?_, ?_⟩
        · rw [hw3 vs1 hjs1, wipe_wipe fun j hj => hj]
        · show te σ3 H5 _
          refine hte σ3 G5 H5 sl3 g5.sub M5 _ fun v x6 G6 H6 p6 g6 M6 r6 => ?_
          subst p6
          have hD6 : H6 D = some (TsO (PySem.strKind P w) D (tsL qs)) := g6.h D _ nD hD5
          have gD6 : G6 D = none := g6.new D gD5 (by rw [hD5]; trivial)
          obtain ⟨b, xs, rfl, gb, rx⟩ := r6.tup_inv
          have ex : xs = stV e := by
            cases rx with
            | cons q1 rx =>
              cases rx with
              | cons q2 rx =>
                cases rx
                obtain rfl := q1.str_inv
                obtain rfl := q2.str_inv
                rfl
          subst ex
          have hqs6 : ∀ p ∈ qs, G6 p.1 = some (.tup (stV p.2)) := fun p hp => g6.g _ _ (g5.g _ _ (hqs p hp))
          have sub4 : ∀ x ∈ qs.map (·.2), x ∈ U := fun x hx => by
            rcases (hx4 x).mp hx with ⟨a', h1, h2⟩ | h1
            · exact hU a' (List.mem_of_mem_take h1) x h2
            · exact hU a hal x (List.mem_of_mem_take h1)
          have hlq := few nd4 sub4
          refine ⟨b, [tx e.1, tx e.2], tsL qs, rfl, SqT.of (g6.sub _ _ gb), hD6, fun p hp => ?_, by rw [List.length_map]; omega, fun L' e1 e2 => ?_⟩
          · obtain ⟨z, hz, rfl⟩ := List.mem_map.mp hp
            exact SqT.of (g6.sub _ _ (hqs6 z hz))
          · have mem1 : ∀ x, x ∈ (f a).take (j + 1) ↔ x ∈ (f a).take j ∨ x = e := fun x => by
              rw [List.take_add_one, he, List.mem_append]; simp
            by_cases hin4 : e ∈ qs.map (·.2)
            · have eL := e1 (tsL_mem.mpr hin4)
              subst eL
              refine ⟨hlt1, G6, qs, s34.trans (g5.g.trans g6.g), ((gr4.trans g5.lift).trans g6).set hD gD6, Mu.set g6.sub gD6 nD M6, gD6, upd_same, hqs6, nd4, fun x => ?_⟩
              rw [mem1, hx4]
              constructor
              · rintro (h | h)
                · exact .inl h
                · exact .inr (.inl h)
              · rintro (h | h | h)
                · exact .inl h
                · exact .inr h
                · subst h; exact (hx4 x).mp hin4
            · have pm := e2 fun z => hin4 (tsL_mem.mp z)
              obtain ⟨qs', hp1, hp2⟩ := perm_lift tsE pm ((b, e) :: qs) rfl
              subst hp2
              have hkeys : (qs'.map (·.2)).Perm (e :: qs.map (·.2)) := hp1.map (·.2)
              refine ⟨hlt1, G6, qs', s34.trans (g5.g.trans g6.g), ((gr4.trans g5.lift).trans g6).set hD gD6, Mu.set g6.sub gD6 nD M6, gD6, upd_same, fun p hp => ?_, hkeys.nodup_iff.mpr (List.nodup_cons.mpr ⟨hin4, nd4⟩), fun x => ?_⟩
              · rcases List.mem_cons.mp (hp1.mem_iff.mp hp) with q | q
                · rw [q]; exact gb
                · exact hqs6 p q
              · rw [hkeys.mem_iff, List.mem_cons, mem1, hx4]
                constructor
                · rintro (h | h | h)
                  · exact .inr (.inr h)
                  · exact .inl h
                  · exact .inr (.inl h)
                · rintro (h | h | h)
                  · exact .inr (.inl h)
                  · exact .inr (.inr h)
                  · exact .inl h
      · have e : j = (f a).length := by omega
        subst e
        refine .inl ⟨?_, hlt, G4, qs, gr4, M4, gD4, hD4, hqs, nd4, fun x => ?_⟩
        · have := src1.stops H4 (s34.trans gr4.sub)
          rw [List.length_map] at this; exact this
        · rw [hx4, List.take_length]
          constructor
          · rintro (⟨a', h1, h2⟩ | h)
            · exact ⟨a', by rw [List.take_add_one, ha, List.mem_append]; exact .inl h1, h2⟩
            · exact ⟨a, by rw [List.take_add_one, ha, List.mem_append]; exact .inr List.mem_cons_self, h⟩
          · rintro ⟨a', h1, h2⟩
            rw [List.take_add_one, ha, List.mem_append] at h1
            rcases h1 with h1 | h1
            · exact .inl ⟨a', h1, h2⟩
            · have e : a' = a := by simpa using h1
              subst e; exact .inr h2
  · have e : i = l.length := by omega
    subst e
    refine .inl ⟨?_, k D ps G' H' (gr1.trans gr) M' hDl hps nd (fun x => by rw [hx, List.take_length]) ?_⟩
    · have := src.stops H' (gr.g.trans gr.sub)
      rw [List.length_map] at this; exact this
    · have := few nd fun x hx' => by
        obtain ⟨a, h1, h2⟩ := (hx x).mp hx'
        exact hU a (List.mem_of_mem_take h1) x h2
      omega
theorem ev_sortedSc2 {vs vs1 : List Nat} {α : Type} {l : List α} {enc : α → Dt} {f : α → List (Tx × Tx)} {U : List (Tx × Tx)} (hs : SrcG K m wi Γ (· = l.map enc)) (hU : ∀ a ∈ l, ∀ x ∈ f a, x ∈ U) (hU2 : U.length ≤ 70)
    (hb : ∀ a ∈ l, ∃ Γ' js, (∀ j ∈ js, j ∈ vs) ∧ TgG K g (enc a) (wipeG Γ vs) Γ' js ∧ SrcG K m wi1 Γ' (· = (f a).map stD) ∧ ∀ x ∈ f a, ∃ Γ'' js1, (∀ j ∈ js1, j ∈ vs1) ∧ TgG K g1 (stD x) (wipeG Γ' vs1) Γ'' js1 ∧ Ev K m te Γ'' (stD x)) :
    EvG K m (tCB (rSortedTs P w) (tCons (tSc2 K P w wi g tYes wi1 g1 tYes te vs vs1) tNil)) Γ fun d => ∃ S : List (Tx × Tx), d = .lst (S.map stD) ∧ S.Pairwise (fun p q => ltS p q = true) ∧ ∀ x, x ∈ S ↔ ∃ a ∈ l, x ∈ f a := fun σ G H x s M Q k =>
  show tSc2 K P w wi g tYes wi1 g1 tYes te vs vs1 σ H fun v H1 => rSortedTs P w [v] H1 Q from sc2_at hs hU hU2 hb σ G H x s M _ fun D ps G1 H1 gr M1 hD hps nd hx hl => by
    refine ⟨D, ps, rfl, hD, fun p hp => gr.sub _ _ (hps p hp), hl, fun qs p hperm hpw hp => ?_⟩
    have hk : (qs.map (·.2)).Perm (ps.map (·.2)) := hperm.map _
    have g3 : Grow Pure G1 H1 (upd G1 p (.lst (qs.map fun q => V.ref q.1))) (upd H1 p (.lst (qs.map fun q => V.ref q.1))) := Grow.grow gr.sub hp
    refine k _ (.lst ((qs.map (·.2)).map stD)) _ _ ⟨qs.map (·.2), rfl, strict_of (hk.nodup_iff.mpr nd) (by rw [List.pairwise_map]; exact hpw), fun x => by rw [hk.mem_iff, hx]⟩ (gr.trans g3.lift) (Mu.pure g3 M1) (.lst upd_same ((dvs_ps fun q hq => hps q (hperm.mem_iff.mp hq)).mono g3.g))
/-- a set of states that stays -/
def tsM (K : PySem.W.Frag) (P : Program) (w : World) (a : Addr) (L : List (Addr × List Str)) : Mu where
  μ := Pure
  M := fun G _ => G a = some (TsO (PySem.strKind P w) a L) ∧ ∀ p ∈ L, SqT K G p.1 (p.2.map V.str)
  there := fun _ z => z.elim
  out := fun _ z => z.elim
  st := fun s1 _ _ _ h => ⟨s1 _ _ h.1, fun p hp => same_seqT s1 (h.2 p hp)⟩
theorem Cf.still_of {m : Mu} {G0 H0 G H : Hp} {σ : L2.St} (hm : m.μ = Pure) (c : Cf K m G0 H0 σ Γ G H) : Cf K still G0 H0 σ Γ G H := ⟨c.sl, c.gh, trivial, by have := c.gr; rw [hm] at this; exact this⟩
theorem dvs_sts {G : Hp} : ∀ {S : List (Tx × Tx)} {xs : List V}, Dvs K G xs (S.map stD) → ∃ ps : List Ps, xs = ps.map (fun p => V.ref p.1) ∧ ps.map (·.2) = S ∧ ∀ p ∈ ps, G p.1 = some (.tup (stV p.2))
  | [], _, .nil => ⟨[], rfl, rfl, fun _ h => nomatch h⟩
  | s :: S, _, .cons r rs => by
    obtain ⟨ps, rfl, h2, h3⟩ := dvs_sts rs
    obtain ⟨b, ys, rfl, gb, ry⟩ := Dv.tup_inv (ds := [.str s.1, .str s.2]) r
    have ex : ys = stV s := by
      cases ry with
      | cons q1 rx =>
        cases rx with
        | cons q2 rx =>
          cases rx
          obtain rfl := q1.str_inv
          obtain rfl := q2.str_inv
          rfl
    subst ex
    refine ⟨(b, s) :: ps, rfl, by rw [List.map_cons, h2], fun p hp => ?_⟩
    rcases List.mem_cons.mp hp with e | e
    · rw [e]; exact gb
    · exact h3 p e
/-- x = set(a list of states) -/
theorem q_setS {G0 H0 G H : Hp} {σ : L2.St} {D : Ends} {u : TS} {i : Nat} {S : List (Tx × Tx)} (c : Cf K still G0 H0 σ Γ G H) (h : Ev K still te Γ (.lst (S.map stD))) (hl : S.length ≤ 76)
    (k : ∀ a L σ' G' H', Cf K (tsM K P w a L) G0 H0 σ' (Γ.set i (some (.raw (.ref a)))) G' H' → (∀ x : Tx × Tx, [tx x.1, tx x.2] ∈ L.map (·.2) ↔ x ∈ S) → u D σ' H') : tSeq (tAsg (tCB (rSetS K P w) (tCons te tNil)) (gName i)) u D σ H :=
  c.ev h fun v d G1 H1 e c1 g1 r1 => by
    subst e
    obtain ⟨b, xs, rfl, gb, rx⟩ := r1.lst_inv
    obtain ⟨ps, rfl, h2, h3⟩ := dvs_sts rx
    subst h2
    refine ⟨b, tsL ps, rfl, ?_, fun p hp => ?_, by rw [List.length_map] at hl ⊢; exact hl, fun a L ha h4 h5 => ?_⟩
    · rw [List.map_map]; exact SqL.of (c1.gh _ _ gb)
    · obtain ⟨z, hz, rfl⟩ := List.mem_map.mp hp
      exact SqT.of (c1.gh _ _ (h3 z hz))
    · have c2 := c1.new (o := TsO (PySem.strKind P w) a L) ha
      have s12 : Same G1 (upd G1 a (TsO (PySem.strKind P w) a L)) := fun b o e => by rw [upd_ne (ne_of_none e (c1.gh.free ha))]; exact e
      have c3 : Cf K (tsM K P w a L) G0 H0 σ Γ _ _ := ⟨c2.sl, c2.gh, ⟨upd_same, fun p hp => by
        obtain ⟨z, hz, rfl⟩ := List.mem_map.mp (h4 p hp)
        exact SqT.of (s12 _ _ (h3 z hz))⟩, c2.gr⟩
      refine k a L _ _ _ (c3.put i (.raw _)) fun x => ?_
      constructor
      · intro hx
        obtain ⟨q, hq, e⟩ := List.mem_map.mp hx
        have := tsL_mem.mp (List.mem_map.mpr ⟨q, h4 q hq, e⟩)
        exact this
      · intro hx
        obtain ⟨p, hp, rfl⟩ := List.mem_map.mp hx
        exact h5 (tsE p) (List.mem_map.mpr ⟨p, hp, rfl⟩)
theorem ev_inTs {a : Addr} {L : List (Addr × List Str)} {i : Nat} {x : Tx × Tx} {S : List (Tx × Tx)} (h : Ev K (tsM K P w a L) te Γ (stD x)) (hi : Γ[i]? = some (some (.raw (.ref a)))) (hS : ∀ x : Tx × Tx, [tx x.1, tx x.2] ∈ L.map (·.2) ↔ x ∈ S) : Ev K (tsM K P w a L) (tOp (rInS K P w) te (tVar i)) Γ (.bl (decide (x ∈ S))) := fun σ G H xx s M Q k =>
  h σ G H xx s M _ fun v d G1 H1 p1 g1 M1 r1 => by
    subst p1
    obtain ⟨w', e1, e2⟩ := xx.at_ i _ hi
    obtain rfl := e2.raw_inv
    obtain ⟨b, ys, rfl, gb, ry⟩ := Dv.tup_inv (ds := [.str x.1, .str x.2]) r1
    have ex : ys = stV x := by
      cases ry with
      | cons q1 rx =>
        cases rx with
        | cons q2 rx =>
          cases rx
          obtain rfl := q1.str_inv
          obtain rfl := q2.str_inv
          rfl
    subst ex
    refine ⟨_, e1, b, a, [tx x.1, tx x.2], L, rfl, rfl, SqT.of (g1.sub _ _ gb), g1.sub _ _ M1.1, fun p hp => same_seqT g1.sub (M1.2 p hp), ?_⟩
    have e : decide ([tx x.1, tx x.2] ∈ L.map (·.2)) = decide (x ∈ S) := decide_eq_decide.mpr (hS x)
    rw [e]
    exact k _ _ G1 H1 rfl g1 M1 (.bl _)
end
end K70
/-! Ku12: < of pairs of texts. -/
namespace K70
open PySem PySem.Spec PyProof.Rows L2
def rLtTx (K : PySem.W.Frag) : R2 := fun x y H Q => ∃ (a b : Addr) (p q : Tx × Tx), x = .ref a ∧ y = .ref b ∧ SqT K H a (stV p) ∧ SqT K H b (stV q) ∧ Q (.bl (ltS p q)) H
theorem two_vals {p : Tx × Tx} {us : List Value} (r : Vals (stV p) us) : ∃ t u, us = [.str (tx p.1) t, .str (tx p.2) u] := by
  cases r with
  | cons r1 r =>
    cases r with
    | cons r2 r =>
      cases r
      obtain ⟨t, rfl⟩ := r1
      obtain ⟨u, rfl⟩ := r2
      exact ⟨t, u, rfl⟩
theorem ltS_dec (p q : Tx × Tx) : ltS p q = (if p.1 = q.1 then decide (p.2 < q.2) else decide (p.1 < q.1)) := by
  show (decide (p.1 < q.1) || (!decide (q.1 < p.1) && (decide (p.2 < q.2) || (!decide (q.2 < p.2) && false)))) = _
  by_cases e : p.1 = q.1
  · rw [if_pos e, e]
    have : ¬ q.1 < q.1 := List.lt_irrefl _
    simp [this]
  · rw [if_neg e]
    by_cases h : p.1 < q.1
    · simp [h]
    · by_cases h2 : q.1 < p.1
      · simp [h, h2]
      · exact absurd (List.le_antisymm (List.not_lt.mp h2) (List.not_lt.mp h)) e
theorem op_ltTx {X : Cx} (hu : X.A.units + 64 < cLine) : OpR X (compareOp .Lt) (rLtTx X.K) := by
  intro pins s σ H x y v u Q I rx ry h
  obtain ⟨a, b, p, q, rfl, rfl, ha, hb, qq⟩ := h
  cases rx
  cases ry
  obtain ⟨its, r1, p1, _⟩ := I.tuple ha
  obtain ⟨its2, r2, p2, _⟩ := I.tuple hb
  obtain ⟨t1, t2, rfl⟩ := two_vals r1
  obtain ⟨u1, u2, rfl⟩ := two_vals r2
  have beqd : ∀ i j : Tx, (tx i == tx j) = decide (i = j) := fun i j => by
    by_cases e : i = j
    · subst e; rw [decide_eq_true rfl]; exact beq_self_eq_true _
    · rw [decide_eq_false e]; exact beq_eq_false_iff_ne.mpr fun z => e (tx_inj z)
  have R := Ob.RcOp.tuples_lt (A := X.A) (s := s) (e := fun j => if j = 0 then decide (p.1 = q.1) else decide (p.2 = q.2)) (r := fun j => if j = 0 then decide (p.1 < q.1) else decide (p.2 < q.2)) p1 p2 (by omega) (fun j h1 h2 => by
    have hj : j = 0 ∨ j = 1 := by
      have : j < 2 := h1
      omega
    rcases hj with rfl | rfl
    · show SeqAt.EqAt X.A.in1 s (.str (tx p.1) t1) (.str (tx q.1) u1) (decide (p.1 = q.1))
      rw [← beqd]; exact SeqAt.EqAt.str_str _ _ _ _
    · show SeqAt.EqAt X.A.in1 s (.str (tx p.2) t2) (.str (tx q.2) u2) (decide (p.2 = q.2))
      rw [← beqd]; exact SeqAt.EqAt.str_str _ _ _ _) (fun j h1 h2 _ => by
    have hj : j = 0 ∨ j = 1 := by
      have : j < 2 := h1
      omega
    rcases hj with rfl | rfl
    · show Ob.RcOp .Lt X.A.in1 s (.str (tx p.1) t1) (.str (tx q.1) u1) (decide (p.1 < q.1))
      intro prog w E Q h
      refine lt_str ?_
      have e : decide ((tx p.1).cps.toList < (tx q.1).cps.toList) = decide (p.1 < q.1) := by rw [tx_list, tx_list]
      rw [e]; exact h
    · show Ob.RcOp .Lt X.A.in1 s (.str (tx p.2) t2) (.str (tx q.2) u2) (decide (p.2 < q.2))
      intro prog w E Q h
      refine lt_str ?_
      have e : decide ((tx p.2).cps.toList < (tx q.2).cps.toList) = decide (p.2 < q.2) := by rw [tx_list, tx_list]
      rw [e]; exact h)
  have e : Ob.lexAt (fun j => if j = 0 then decide (p.1 = q.1) else decide (p.2 = q.2)) (fun j => if j = 0 then decide (p.1 < q.1) else decide (p.2 < q.2)) (decide ([Value.str (tx p.1) t1, Value.str (tx p.2) t2].toArray.size < [Value.str (tx q.1) u1, Value.str (tx q.2) u2].toArray.size)) 0 (min [Value.str (tx p.1) t1, Value.str (tx p.2) t2].toArray.size [Value.str (tx q.1) u1, Value.str (tx q.2) u2].toArray.size) = ltS p q := by
    rw [ltS_dec]
    show (if decide (p.1 = q.1) = true then (if decide (p.2 = q.2) = true then decide (2 < 2) else decide (p.2 < q.2)) else decide (p.1 < q.1)) = _
    by_cases e1 : p.1 = q.1
    · rw [if_pos (decide_eq_true e1), if_pos e1]
      by_cases e2 : p.2 = q.2
      · rw [if_pos (decide_eq_true e2), e2, decide_eq_false (List.lt_irrefl _)]; rfl
      · rw [if_neg (by rw [decide_eq_false e2]; decide)]
    · rw [if_neg (by rw [decide_eq_false e1]; decide), if_neg e1]
  rw [e] at R
  exact R X.prog X.w X.xe (EP X pins σ Q) ⟨.bl _, H, I, rfl, qq⟩
theorem op_ltTxK {X : Cx} {K : PySem.W.Frag} (hu : X.A.units + 64 < cLine) (hK : X.K = K := by rfl) : OpR X (compareOp .Lt) (rLtTx K) := by subst hK; exact op_ltTx hu
theorem rg_ltTx {K : PySem.W.Frag} {p q : Tx × Tx} : RG K (rLtTx K) (stD p) (stD q) (· = .bl (ltS p q)) := rg_val fun G H x y s ra rb => by
  have key : ∀ {v : V} {z : Tx × Tx}, Dv K G v (stD z) → ∃ a, v = .ref a ∧ G a = some (.tup (stV z)) := fun {v z} r => by
    obtain ⟨b, ys, rfl, gb, ry⟩ := Dv.tup_inv (ds := [.str z.1, .str z.2]) r
    cases ry with
    | cons q1 rx =>
      cases rx with
      | cons q2 rx =>
        cases rx
        obtain rfl := q1.str_inv
        obtain rfl := q2.str_inv
        exact ⟨b, rfl, gb⟩
  obtain ⟨a, rfl, ga⟩ := key ra
  obtain ⟨b, rfl, gb⟩ := key rb
  exact ⟨.bl (ltS p q), fun _ => .bl _, fun Q k => ⟨a, b, p, q, rfl, rfl, SqT.of (s _ _ ga), SqT.of (s _ _ gb), k⟩⟩
end K70
/-! Ku13: in a list of data; the comprehension's rule with the written part by letters. -/
namespace K70
open PySem PySem.Spec PyProof.Rows L2
theorem any_py {a : Dt} (pa : plainD a = true) : ∀ {bs : List Dt}, plainDs bs = true → (((pyDs bs).any fun z => PyData.eqv z (pyD a)) = true ↔ a ∈ bs)
  | [], _ => by
    constructor
    · intro h; cases h
    · intro h; cases h
  | b :: bs, p => by
    have p' : (plainD b && plainDs bs) = true := p
    rw [Bool.and_eq_true] at p'
    show ((PyData.eqv (pyD b) (pyD a)) || ((pyDs bs).any fun z => PyData.eqv z (pyD a))) = true ↔ _
    rw [Bool.or_eq_true, any_py pa p'.2, eqv_py p'.1 pa, List.mem_cons]
    constructor
    · rintro (h | h)
      · exact .inl h.symm
      · exact .inr h
    · rintro (h | h)
      · exact .inl h.symm
      · exact .inr h
theorem rg_inF {K : PySem.W.Frag} {a : Dt} {bs : List Dt} {k j : Nat} {c : Bool} (fa : Fit a k) (fb : Fit (.lst bs) j) (hk : k ≤ 64) (hj : j ≤ 64) (hc : c = true ↔ a ∈ bs) : RG K (rInD K) a (.lst bs) (· = .bl c) := rg_val fun G H x y s ra rb => by
  have pb : plainDs bs = true := fb.pl
  refine ⟨.bl c, fun _ => .bl _, fun Q q => ⟨pyD a, pyDs bs, ra.dp s fa.pl, rb.dp s fb.pl, fa.shaped hk, fb.shaped hj, ?_⟩⟩
  have e : ((pyDs bs).any fun z => PyData.eqv z (pyD a)) = c := by
    cases c with
    | true => exact (any_py fa.pl pb).mpr (hc.mp rfl)
    | false =>
      cases h : ((pyDs bs).any fun z => PyData.eqv z (pyD a)) with
      | false => rfl
      | true => exact absurd (hc.mpr ((any_py fa.pl pb).mp h)) (by decide)
  rw [e]; exact q
theorem pe_sc2K {X : Cx} {K : PySem.W.Frag} {P : Program} {w : World} {elt tg iter tg1 iter1 : Expr} {ifs ifs1 : List Expr} {scope : Scope} {own : List (Str × Nat)} {vs1 : List Nat} {pos : Pos} {wi wi1 : TI} {g g1 : TG} {tt tt1 : TT} {te : TE} (hu : X.A.units + 64 < cLine) (hc : X.calm = true) (hN : X.N.Nodup) (hi : PI X tg iter wi) (ok : BlkOk X.N X.env.scope scope own) (hv : ∀ i ∈ vs1, i ∈ own.map (·.2))
    (hg : ∀ (s : Shared) (H : Hp) (C : Addr) (cl : List (Str × Addr)) (fp : List Addr), PG (X.blk s H scope (compEnvC scope cl C X.env) fp) tg g) (ht : ∀ (s : Shared) (H : Hp) (C : Addr) (cl : List (Str × Addr)) (fp : List Addr), PTs (X.blk s H scope (compEnvC scope cl C X.env) fp) ifs tt)
    (hi1 : ∀ (s : Shared) (H : Hp) (C : Addr) (cl : List (Str × Addr)) (fp : List Addr), PI (X.blk s H scope (compEnvC scope cl C X.env) fp) tg1 iter1 wi1)
    (hg1 : ∀ (s : Shared) (H : Hp) (C : Addr) (cl : List (Str × Addr)) (fp : List Addr), PG (X.blk s H scope (compEnvC scope cl C X.env) fp) tg1 g1) (ht1 : ∀ (s : Shared) (H : Hp) (C : Addr) (cl : List (Str × Addr)) (fp : List Addr), PTs (X.blk s H scope (compEnvC scope cl C X.env) fp) ifs1 tt1)
    (he : ∀ (s : Shared) (H : Hp) (C : Addr) (cl : List (Str × Addr)) (fp : List Addr), PE (X.blk s H scope (compEnvC scope cl C X.env) fp) elt te) (hK : X.K = K := by rfl) (hP : X.prog = P := by rfl) (hw : X.w = w := by rfl) (hs : ∀ x, foldedSetIterable iter X.env x = pure x := by intro _; rfl) (hs1 : ∀ env x, foldedSetIterable iter1 env x = pure x := by intro _ _; rfl) :
    PE X (.SetComp elt [⟨tg, iter, ifs, 0⟩, ⟨tg1, iter1, ifs1, 0⟩] scope pos) (tSc2 K P w wi g tt wi1 g1 tt1 te (own.map (·.2)) vs1) := by
  subst hK hP hw
  exact pe_sc2 hu hc hN hi ok hv hg ht hi1 hg1 ht1 he hs hs1
end K70
namespace K70
open PySem PySem.Spec PyProof.Rows L2
/-! ### is_whole -/
/-- of whole numbers alone -/
def sp_is_whole (K : PySem.W.Frag) : Sp := Fs K (fun i : Int => [.int i]) (fun _ => True) (fun _ d => d = .bl true)
abbrev N_is_whole : List Str := ["thing"]
theorem sc_is_whole : FnScope N_is_whole ["thing"] (defScope s_is_whole) := ⟨rfl, rfl, rfl, by decide +kernel, rfl, by decide +kernel, by decide +kernel⟩
theorem ok_is_whole {P : Program} {w : World} {K : PySem.W.Frag} {mg : Str → Option Value} {base : Heap} (T : Tp K mg) : Okd P w K mg base 1 "is_whole" ["thing"] (sp_is_whole K) := by
  obtain ⟨fd, F⟩ := T.fn 1 d_is_whole rfl
  refine ⟨_, fd, ?_, T.gl "is_whole" (by decide +kernel), F.kp, FunD.bindsN F fun _ _ _ _ _ _ us hl => match us, hl with | [_], _ => rfl⟩
  refine FunD.ok F sc_is_whole (fun vs H Q E h => Fn.len (E := E) h) (fun cdv A outer s H vs Q E hr h => ?_)
  refine ⟨_, PSs.nox (pss_one (ps_ret (pe_and (pe_callB (call_isiK (K := K)) (by rfl) T.isinstance (by decide +kernel) (pa_cons (pv 0) (pa_cons (pe_bltn (v := .ty "int") (by rfl) T.int (by decide +kernel) rfl) pa_nil))) (pe_one (pe_not (pe_callB (call_isiK (K := K)) (by rfl) T.isinstance (by decide +kernel) (pa_cons (pv 0) (pa_cons (pe_bltn (v := .ty "bool") (by rfl) T.bool (by decide +kernel) rfl) pa_nil)))))))), ?_⟩
  refine bodyS (E := E) h fun i σ G hp c D kr kn => ?_
  refine c_ret c (ev_andV (a := true) (b := true) (ev_cb (ea_cons (ev_var rfl) (ea_cons ev_raw ea_nil)) (cg_isi (t := "int") rfl (by decide +kernel) (by decide))) fun _ => ev_notV (b := false) (ev_cb (ea_cons (ev_var rfl) (ea_cons ev_raw ea_nil)) (cg_isi (t := "int") rfl (by decide +kernel) (by decide)))) fun v d G' H' p c' g r => ?_
  exact kr _ _ _ _ _ _ r p c'
/-! ### is_from_to -/
def sp_is_from_to (K : PySem.W.Frag) : Sp := Fs K (fun a : Int × Int × Int => [.int a.1, .int a.2.1, .int a.2.2]) (fun a => a.2.1 ≤ a.1 ∧ a.1 ≤ a.2.2) (fun _ d => d = .bl true)
abbrev N_is_from_to : List Str := ["thing", "least", "most"]
theorem sc_is_from_to : FnScope N_is_from_to ["thing", "least", "most"] (defScope s_is_from_to) := ⟨rfl, rfl, rfl, by decide +kernel, rfl, by decide +kernel, by decide +kernel⟩
theorem ok_is_from_to {P : Program} {w : World} {K : PySem.W.Frag} {mg : Str → Option Value} {base : Heap} (T : Tp K mg)
    (o_is_whole : Okd P w K mg base 1 "is_whole" ["thing"] (sp_is_whole K)) : Okd P w K mg base 2 "is_from_to" ["thing", "least", "most"] (sp_is_from_to K) := by
  obtain ⟨f_is_whole, fd_is_whole, F_is_whole, g_is_whole, k_is_whole, b_is_whole⟩ := o_is_whole
  obtain ⟨fd, F⟩ := T.fn 2 d_is_from_to rfl
  refine ⟨_, fd, ?_, T.gl "is_from_to" (by decide +kernel), F.kp, FunD.bindsN F fun _ _ _ _ _ _ us hl => match us, hl with | [_, _, _], _ => rfl⟩
  refine FunD.ok F sc_is_from_to (fun vs H Q E h => Fn.len (E := E) h) (fun cdv A outer s H vs Q E hr h => ?_)
  refine ⟨_, PSs.nox (pss_one (ps_ret (pe_and (pe_call F_is_whole (hr.mono (by decide)) (by rfl) g_is_whole k_is_whole b_is_whole .nil pass0 (pa_cons (pv 0) pa_nil)) (pe_one (pe_chain op_le op_le (pv 1) (pv 0) (pv 2)))))), ?_⟩
  refine bodyS (E := E) h fun ⟨i, lo, hi⟩ σ G ⟨h1, h2⟩ c D kr kn => ?_
  refine c_ret c (ev_andV (a := true) (b := true) (ev_call i (ea_cons (ev_var rfl) ea_nil) trivial) fun _ => ev_chain (c := true) (c' := true) (ev_var rfl) (ev_var rfl) (by rw [← decide_eq_true h1]; exact rg_le) (fun _ => ev_var rfl) (fun _ => by rw [← decide_eq_true h2]; exact rg_le)) fun v d G' H' p c' g r => ?_
  exact kr _ _ _ _ _ _ r p c'
/-! ### words_of -/
/-- all texts of so many letters, in order -/
def wordsM (l : Tx) : Nat → List Tx
  | 0 => [[]]
  | n + 1 => (wordsM l n).flatMap fun w => l.map fun c => w ++ [c]
theorem wordsM_len (l : Tx) : ∀ n, (wordsM l n).length = l.length ^ n
  | 0 => rfl
  | n + 1 => by
    have h : ∀ k : List Tx, (k.flatMap fun w => l.map fun c => w ++ [c]).length = k.length * l.length := by
      intro k
      induction k with
      | nil => simp
      | cons a r ih => rw [List.flatMap_cons, List.length_append, ih, List.length_map, List.length_cons, Nat.succ_mul, Nat.add_comm]
    show (List.flatMap _ _).length = _
    rw [h, wordsM_len l n, Nat.pow_succ]
theorem wordsM_each (l : Tx) : ∀ n, ∀ w ∈ wordsM l n, w.length = n ∧ ∀ c ∈ w, c ∈ l
  | 0, w, h => by
    obtain rfl := List.mem_singleton.mp h
    exact ⟨rfl, fun _ h => nomatch h⟩
  | n + 1, w, h => by
    obtain ⟨v, hv, h2⟩ := List.mem_flatMap.mp h
    obtain ⟨c, hc, rfl⟩ := List.mem_map.mp h2
    obtain ⟨e, f⟩ := wordsM_each l n v hv
    refine ⟨by rw [List.length_append, e]; rfl, fun d hd => ?_⟩
    rcases List.mem_append.mp hd with hd | hd
    · exact f d hd
    · rw [List.mem_singleton.mp hd]; exact hc
def sp_words_of (K : PySem.W.Frag) : Sp := Fs K (fun a : Tx × Nat => [.str a.1, .int (a.2 : Nat)]) (fun a => a.1.length ≤ 27 ∧ a.2 ≤ 3) (fun a d => d = .lst (txs (wordsM a.1 a.2)))
def glue : Dt → Dt → Dt
  | .str x, .str y => .str (x ++ y)
  | _, _ => .non
theorem words_glue (l : Tx) : ∀ k : List Tx, ((txs k).flatMap fun d => (sgn l).map (glue d)) = txs (k.flatMap fun w => l.map fun c => w ++ [c])
  | [] => rfl
  | a :: k => by
    have h := words_glue l k
    unfold txs at h ⊢
    rw [List.map_cons, List.flatMap_cons, h, List.flatMap_cons, List.map_append]
    congr 1
    unfold sgn
    rw [List.map_map, List.map_map]
    rfl
abbrev N_words_of : List Str := ["letters", "size", "found", "k", "letter", "word"]
theorem sc_words_of : FnScope N_words_of ["letters", "size"] (defScope s_words_of) := ⟨rfl, rfl, rfl, by decide +kernel, rfl, by decide +kernel, by decide +kernel⟩
theorem ok_words_of {P : Program} {w : World} {K : PySem.W.Frag} {mg : Str → Option Value} {base : Heap} (T : Tp K mg) : Okd P w K mg base 1 "words_of" ["letters", "size"] (sp_words_of K) := by
  obtain ⟨fd, F⟩ := T.fn 7 d_words_of rfl
  refine ⟨_, fd, ?_, T.gl "words_of" (by decide +kernel), F.kp, FunD.bindsN F fun _ _ _ _ _ _ us hl => match us, hl with | [_, _], _ => rfl⟩
  refine FunD.ok F sc_words_of (fun vs H Q E h => Fn.len (E := E) h) (fun cdv A outer s H vs Q E hr h => ?_)
  refine ⟨_, PSs.nox (pss_cons (ps_set (i := 2) sc_words_of.nd rfl (Or.inl rfl) (pe_lst (pa_cons pe_str pa_nil)))
    (pss_cons (ps_for PassesOwn.never rfl (pi_range1 (by rfl) T.range (pa_cons (pv 1) pa_nil)) (pg_name (i := 3) sc_words_of.nd rfl (Or.inl rfl))
      (pss_one (ps_setLc2 (i := 2) (own := [("word", 5), ("letter", 4)]) (vs1 := [4]) rfl sc_words_of.nd rfl rfl (sw_true rfl rfl rfl (by decide +kernel)) (pi_listK (K := K) (pv 2)) (blkOk_by (N := N_words_of) (own := [("word", 5), ("letter", 4)]) (by kernel_rfl)) (by decide) (fun _ _ _ _ _ => (pg_name (i := 5) sc_words_of.nd rfl (Or.inl rfl))) (fun _ _ _ _ _ => pts_nil) (fun _ _ _ _ _ => (pi_str (pv 0))) (fun _ _ _ _ _ => (pg_name (i := 4) sc_words_of.nd rfl (Or.inl rfl))) (fun _ _ _ _ _ => pts_nil) (fun _ _ _ _ _ => (pe_op op_addS (pv 5) (pv 4))))))
    (pss_one (ps_ret (pv 2))))), ?_⟩
  refine bodyS (E := E) h fun ⟨l, n⟩ σ G ⟨hl, hn⟩ c D kr kn => ?_
  refine q_asg c (ev_lst (ea_cons ev_str ea_nil) (by decide)) fun d σ1 G1 H1 e c1 g1 => ?_
  subst e
  refine q_forN c1 (sv_range1 (ev_var rfl) ⟨by omega, by omega⟩) (fun i => [some (.str l), some (.int (n : Nat)), some (.lst (txs (wordsM l i))), none, none, none]) rfl ?_ ?_
  · intro G2 H2 g2 i d σ' G' H' D' hi c' hrt hnx
    obtain ⟨hi2, rfl⟩ := rngD_get hi
    have hi3 : i < n := by omega
    have hlen : (txs (wordsM l i)).length * (sgn l).length ≤ 100000 := by
      rw [txs, List.length_map, wordsM_len, sgn, List.length_map, ← Nat.pow_succ]
      exact Nat.le_trans (Nat.pow_le_pow_left hl _) (Nat.le_trans (Nat.pow_le_pow_right (by decide) (show i + 1 ≤ 3 by omega)) (by decide))
    refine c_asg c' (ev_lc2 (es := sgn l) glue (sv_list (ev_var rfl)) hlen ?_) fun d σ4 G4 H4 e c4 g4 => ?_
    · intro a ha
      obtain ⟨x, hx, rfl⟩ := List.mem_map.mp ha
      refine ⟨_, [5], by decide, tg_name, sv_str (ev_var rfl), fun b hb => ?_⟩
      obtain ⟨y, hy, rfl⟩ := List.mem_map.mp hb
      refine ⟨_, [4], by decide, tg_name, ev_op (ev_var rfl) (ev_var rfl) (rg_addS ?_)⟩
      rw [(wordsM_each l i x hx).1]
      show i + 1 ≤ _
      omega
    · subst e
      refine hnx _ _ _ ((c4.lose 3).to ?_)
      rw [words_glue]
      rfl
  · intro σ G H c2
    rw [rngD_len] at c2
    refine c_ret c2 (ev_var rfl) fun v d G' H' e c' g r => ?_
    exact kr _ _ _ _ _ _ r e c'
/-! ### columns_of -/
theorem flatten_one : ∀ l : Tx, (l.map fun c => [c]).flatten = l
  | [] => rfl
  | c :: l => by rw [List.map_cons, List.flatten_cons, flatten_one l]; rfl
/-- some texts, alike long -/
structure Pic (rows : List Tx) (n : Nat) : Prop where
  some : rows ≠ []
  few : rows.length ≤ 1000
  len : ∀ r ∈ rows, r.length = n
  wide : n ≤ 1000
theorem getD_mem {l : List Tx} (h : l ≠ []) : l.getD 0 [] ∈ l := by
  cases l with
  | nil => exact absurd rfl h
  | cons a r => exact List.mem_cons_self
def sp_columns_of (K : PySem.W.Frag) : Sp := Fs K (fun a : List Tx × Nat => [.lst (txs a.1)]) (fun a => Pic a.1 a.2) (fun a d => d = .lst (txs (colsM a.1)))
abbrev N_columns_of : List Str := ["rows", "at", "row"]
theorem sc_columns_of : FnScope N_columns_of ["rows"] (defScope s_columns_of) := ⟨rfl, rfl, rfl, by decide +kernel, rfl, by decide +kernel, by decide +kernel⟩
theorem ok_columns_of {P : Program} {w : World} {K : PySem.W.Frag} {mg : Str → Option Value} {base : Heap} (T : Tp K mg) : Okd P w K mg base 1 "columns_of" ["rows"] (sp_columns_of K) := by
  obtain ⟨fd, F⟩ := T.fn 15 d_columns_of rfl
  refine ⟨_, fd, ?_, T.gl "columns_of" (by decide +kernel), F.kp, FunD.bindsN F fun _ _ _ _ _ _ us hl => match us, hl with | [_], _ => rfl⟩
  refine FunD.ok F sc_columns_of (fun vs H Q E h => Fn.len (E := E) h) (fun cdv A outer s H vs Q E hr h => ?_)
  refine ⟨_, PSs.nox (pss_one (ps_ret (pe_lc (own := [("at", 1)]) rfl sc_columns_of.nd (pi_range1 (by rfl) T.range (pa_cons (pe_callB call_lenS (by rfl) T.len (by decide +kernel) (pa_cons (pe_ix (ix_listK (K := K)) (pv 0) pe_int (fun _ _ => rfl)) pa_nil)) pa_nil)) (blkOk_by (N := N_columns_of) (own := [("at", 1)]) (by kernel_rfl)) (fun _ _ _ _ _ => (pg_name (i := 1) sc_columns_of.nd rfl (Or.inr rfl))) (fun _ _ _ _ _ => pts_nil) (fun _ _ _ _ _ => (pe_joinK (K := K) pe_str (pe_lc (own := [("row", 2)]) rfl sc_columns_of.nd (pi_listK (K := K) (pv 0)) (blkOk_by (N := N_columns_of) (own := [("row", 2)]) (by kernel_rfl)) (fun _ _ _ _ _ => (pg_name (i := 2) sc_columns_of.nd rfl (Or.inl rfl))) (fun _ _ _ _ _ => pts_nil) (fun _ _ _ _ _ => (pe_ix ix_str (pv 2) (pv 1) (fun _ _ => rfl))))))))), ?_⟩
  refine bodyS (E := E) h fun ⟨rows, n⟩ σ G hp c D kr kn => ?_
  obtain ⟨h0, h1, h2, h3⟩ : Pic rows n := hp
  have e0 : (rows.getD 0 []).length = n := h2 _ (getD_mem h0)
  have f0 : (txs rows)[0]? = some (.str (rows.getD 0 [])) := by
    cases rows with
    | nil => exact absurd rfl h0
    | cons a r => rfl
  refine c_ret c (ev_mapA (fun j : Nat => .str (rows.map fun r => r.getD j 0)) (sv_rangeN (ev_cb1 (ev_op (ev_var rfl) ev_int (rg_ixL (j := 0) f0)) (cg_lenS (by rw [e0]; omega))) (by rw [e0]; omega)) (by rw [List.length_range, e0]; omega) fun j hj => ⟨_, [1], by decide, tg_name, ?_⟩) fun v d G' H' e c' g r => kr _ _ _ _ _ _ r ?_ c'
  · have hj2 : j < n := by rw [← e0]; exact List.mem_range.mp hj
    have key : (rows.map fun r => [r.getD j 0]).flatten = rows.map fun r => r.getD j 0 := by
      have := flatten_one (rows.map fun r => r.getD j 0)
      rw [List.map_map] at this
      exact this
    rw [← key]
    refine ev_m1 ev_str ((ev_mapA (l := rows) (enc := .str) (fun r => .str [r.getD j 0]) (sv_list (ev_var rfl)) (by omega) fun r hr => ⟨_, [2], by decide, tg_name, ev_op (ev_var rfl) (ev_var rfl) (rg_ixS ?_ ?_)⟩).to ?_) (mg_join ?_)
    · have hl : j < r.length := by rw [h2 r hr]; exact hj2
      exact at_getD hl 0
    · rw [h2 r hr]; omega
    · rw [txs, List.map_map]; rfl
    · rw [key, List.length_map]; omega
  · rw [e, colsM, txs, List.map_map]
    rfl
/-! ### rows_of -/
def sp_rows_of (K : PySem.W.Frag) : Sp := Fs K (fun a : List Tx × Nat => [.lst (txs a.1), .int (a.2 : Nat)]) (fun a => a.1.length ≤ 1000 ∧ a.2 ≤ 1000 ∧ ∀ c ∈ a.1, c.length = a.2) (fun a d => d = .lst (txs (rowsM a.1 a.2)))
abbrev N_rows_of : List Str := ["columns", "high", "y", "column"]
theorem sc_rows_of : FnScope N_rows_of ["columns", "high"] (defScope s_rows_of) := ⟨rfl, rfl, rfl, by decide +kernel, rfl, by decide +kernel, by decide +kernel⟩
theorem ok_rows_of {P : Program} {w : World} {K : PySem.W.Frag} {mg : Str → Option Value} {base : Heap} (T : Tp K mg) : Okd P w K mg base 1 "rows_of" ["columns", "high"] (sp_rows_of K) := by
  obtain ⟨fd, F⟩ := T.fn 16 d_rows_of rfl
  refine ⟨_, fd, ?_, T.gl "rows_of" (by decide +kernel), F.kp, FunD.bindsN F fun _ _ _ _ _ _ us hl => match us, hl with | [_, _], _ => rfl⟩
  refine FunD.ok F sc_rows_of (fun vs H Q E h => Fn.len (E := E) h) (fun cdv A outer s H vs Q E hr h => ?_)
  refine ⟨_, PSs.nox (pss_one (ps_ret (pe_lc (own := [("y", 2)]) rfl sc_rows_of.nd (pi_range1 (by rfl) T.range (pa_cons (pv 1) pa_nil)) (blkOk_by (N := N_rows_of) (own := [("y", 2)]) (by kernel_rfl)) (fun _ _ _ _ _ => (pg_name (i := 2) sc_rows_of.nd rfl (Or.inr rfl))) (fun _ _ _ _ _ => pts_nil) (fun _ _ _ _ _ => (pe_joinK (K := K) pe_str (pe_lc (own := [("column", 3)]) rfl sc_rows_of.nd (pi_listK (K := K) (pv 0)) (blkOk_by (N := N_rows_of) (own := [("column", 3)]) (by kernel_rfl)) (fun _ _ _ _ _ => (pg_name (i := 3) sc_rows_of.nd rfl (Or.inl rfl))) (fun _ _ _ _ _ => pts_nil) (fun _ _ _ _ _ => (pe_ix ix_str (pv 3) (pv 2) (fun _ _ => rfl))))))))), ?_⟩
  refine bodyS (E := E) h fun ⟨cols, n⟩ σ G hp c D kr kn => ?_
  obtain ⟨h1, h3, h2⟩ : cols.length ≤ 1000 ∧ n ≤ 1000 ∧ ∀ c ∈ cols, c.length = n := hp
  refine c_ret c (ev_mapA (fun j : Nat => .str (cols.map fun r => r.getD j 0)) (sv_rangeN (ev_var rfl) (by omega)) (by rw [List.length_range]; omega) fun j hj => ⟨_, [2], by decide, tg_name, ?_⟩) fun v d G' H' e c' g r => kr _ _ _ _ _ _ r ?_ c'
  · have hj2 : j < n := List.mem_range.mp hj
    have key : (cols.map fun r => [r.getD j 0]).flatten = cols.map fun r => r.getD j 0 := by
      have := flatten_one (cols.map fun r => r.getD j 0)
      rw [List.map_map] at this
      exact this
    rw [← key]
    refine ev_m1 ev_str ((ev_mapA (l := cols) (enc := .str) (fun r => .str [r.getD j 0]) (sv_list (ev_var rfl)) (by omega) fun r hr => ⟨_, [3], by decide, tg_name, ev_op (ev_var rfl) (ev_var rfl) (rg_ixS ?_ ?_)⟩).to ?_) (mg_join ?_)
    · have hl : j < r.length := by rw [h2 r hr]; exact hj2
      exact at_getD hl 0
    · rw [h2 r hr]; omega
    · rw [txs, List.map_map]; rfl
    · rw [key, List.length_map]; omega
  · rw [e, rowsM, txs, List.map_map]
    rfl
/-! ### Rule.kind -/
def sp_Rule_kind (K : PySem.W.Frag) : Sp := Fs K (fun r : Rl => [rlD (cR K) r]) (fun _ => True) (fun r d => d = .str tAround)
abbrev N_Rule_kind : List Str := ["self"]
theorem sc_Rule_kind : FnScope N_Rule_kind ["self"] (defScope s_Rule_kind) := ⟨rfl, rfl, rfl, by decide +kernel, rfl, by decide +kernel, by decide +kernel⟩
theorem ok_Rule_kind {P : Program} {w : World} {K : PySem.W.Frag} {mg : Str → Option Value} {base : Heap} (T : Tp K mg) : Okm P w K mg base 1 (cR K) "kind" ["self"] (sp_Rule_kind K) := by
  obtain ⟨fd, F⟩ := T.fn 30 d_Rule_kind rfl
  refine ⟨_, fd, ?_, T.mR "kind" (by decide +kernel), FunD.bindsN F fun _ _ _ _ _ _ us hl => match us, hl with | [_], _ => rfl⟩
  refine FunD.ok F sc_Rule_kind (fun vs H Q E h => Fn.len (E := E) h) (fun cdv A outer s H vs Q E hr h => ?_)
  refine ⟨_, PSs.nox (pss_one (ps_ret (pe_fldK (K := K) (pv 0) rfl))), ?_⟩
  refine bodyS (E := E) h fun r σ G hp c D kr kn => ?_
  refine c_ret c (ev_fld (ev_var rfl) T.clR (T.nR _ (by decide +kernel)) rfl) fun v d G' H' e c' g r => kr _ _ _ _ _ _ r e c'
/-! ### Rule.many -/
def sp_Rule_many (K : PySem.W.Frag) : Sp := Fs K (fun r : Rl => [rlD (cR K) r]) (fun _ => True) (fun r d => d = .int (r.many : Nat))
abbrev N_Rule_many : List Str := ["self"]
theorem sc_Rule_many : FnScope N_Rule_many ["self"] (defScope s_Rule_many) := ⟨rfl, rfl, rfl, by decide +kernel, rfl, by decide +kernel, by decide +kernel⟩
theorem ok_Rule_many {P : Program} {w : World} {K : PySem.W.Frag} {mg : Str → Option Value} {base : Heap} (T : Tp K mg) : Okm P w K mg base 1 (cR K) "many" ["self"] (sp_Rule_many K) := by
  obtain ⟨fd, F⟩ := T.fn 31 d_Rule_many rfl
  refine ⟨_, fd, ?_, T.mR "many" (by decide +kernel), FunD.bindsN F fun _ _ _ _ _ _ us hl => match us, hl with | [_], _ => rfl⟩
  refine FunD.ok F sc_Rule_many (fun vs H Q E h => Fn.len (E := E) h) (fun cdv A outer s H vs Q E hr h => ?_)
  refine ⟨_, PSs.nox (pss_one (ps_ret (pe_fldK (K := K) (pv 0) rfl))), ?_⟩
  refine bodyS (E := E) h fun r σ G hp c D kr kn => ?_
  refine c_ret c (ev_fld (ev_var rfl) T.clR (T.nR _ (by decide +kernel)) rfl) fun v d G' H' e c' g r => kr _ _ _ _ _ _ r e c'
/-! ### Rule.near -/
def sp_Rule_near (K : PySem.W.Frag) : Sp := Fs K (fun r : Rl => [rlD (cR K) r]) (fun _ => True) (fun r d => d = .tupN (txs r.near))
abbrev N_Rule_near : List Str := ["self"]
theorem sc_Rule_near : FnScope N_Rule_near ["self"] (defScope s_Rule_near) := ⟨rfl, rfl, rfl, by decide +kernel, rfl, by decide +kernel, by decide +kernel⟩
theorem ok_Rule_near {P : Program} {w : World} {K : PySem.W.Frag} {mg : Str → Option Value} {base : Heap} (T : Tp K mg) : Okm P w K mg base 1 (cR K) "near" ["self"] (sp_Rule_near K) := by
  obtain ⟨fd, F⟩ := T.fn 32 d_Rule_near rfl
  refine ⟨_, fd, ?_, T.mR "near" (by decide +kernel), FunD.bindsN F fun _ _ _ _ _ _ us hl => match us, hl with | [_], _ => rfl⟩
  refine FunD.ok F sc_Rule_near (fun vs H Q E h => Fn.len (E := E) h) (fun cdv A outer s H vs Q E hr h => ?_)
  refine ⟨_, PSs.nox (pss_one (ps_ret (pe_fldK (K := K) (pv 0) rfl))), ?_⟩
  refine bodyS (E := E) h fun r σ G hp c D kr kn => ?_
  refine c_ret c (ev_fld (ev_var rfl) T.clR (T.nR _ (by decide +kernel)) rfl) fun v d G' H' e c' g r => kr _ _ _ _ _ _ r e c'
/-! ### Rule.signs -/
theorem cut_take {α : Type} (l : List α) (n : Nat) : cutD l none (some (n : Int)) = l.take n := by
  unfold cutD
  rw [HT.sIx_none, HT.sIx_nat, List.drop_zero, Nat.sub_zero]
  by_cases h : n ≤ l.length
  · rw [Nat.min_eq_left h]
  · rw [Nat.min_eq_right (by omega), List.take_of_length_le (Nat.le_refl _), List.take_of_length_le (by omega)]
theorem cut_drop {α : Type} (l : List α) (n : Nat) : cutD l (some (n : Int)) none = l.drop n := by
  unfold cutD
  rw [HT.sIx_none, HT.sIx_nat]
  by_cases h : n ≤ l.length
  · rw [Nat.min_eq_left h, List.take_of_length_le (by rw [List.length_drop]; omega)]
  · rw [Nat.min_eq_right (by omega), List.drop_of_length_le (Nat.le_refl _), List.drop_of_length_le (by omega), List.take_nil]
def sp_Rule_signs (K : PySem.W.Frag) : Sp := Fs K (fun r : Rl => [rlD (cR K) r]) (fun _ => True) (fun r d => d = .str r.signs)
abbrev N_Rule_signs : List Str := ["self"]
theorem sc_Rule_signs : FnScope N_Rule_signs ["self"] (defScope s_Rule_signs) := ⟨rfl, rfl, rfl, by decide +kernel, rfl, by decide +kernel, by decide +kernel⟩
theorem ok_Rule_signs {P : Program} {w : World} {K : PySem.W.Frag} {mg : Str → Option Value} {base : Heap} (T : Tp K mg) : Okm P w K mg base 1 (cR K) "signs" ["self"] (sp_Rule_signs K) := by
  obtain ⟨_, hSIGNS⟩ := T.tSigns
  obtain ⟨fd, F⟩ := T.fn 33 d_Rule_signs rfl
  refine ⟨_, fd, ?_, T.mR "signs" (by decide +kernel), FunD.bindsN F fun _ _ _ _ _ _ us hl => match us, hl with | [_], _ => rfl⟩
  refine FunD.ok F sc_Rule_signs (fun vs H Q E h => Fn.len (E := E) h) (fun cdv A outer s H vs Q E hr h => ?_)
  refine ⟨_, PSs.nox (pss_one (ps_ret (pe_slice sl_str (pe_glob (v := .str ".abcdefghijklmnopqrstuvwxyz") (by rfl) hSIGNS ⟨_, rfl⟩) po_none (po_some (pe_fldK (K := K) (pv 0) rfl))))), ?_⟩
  refine bodyS (E := E) h fun r σ G hp c D kr kn => ?_
  refine c_ret c (ev_sl (a := .str sg) ev_SIGNS eo_none (eo_some (ev_fld (ev_var rfl) T.clR (T.nR _ (by decide +kernel)) rfl)) (lg_str (by decide))) fun v d G' H' e c' g r => kr _ _ _ _ _ _ r ?_ c'
  rw [e, cut_take]; rfl
end K70
namespace K70
open PySem PySem.Spec PyProof.Rows L2
/-! ### Strip.sign_in -/
/-- what is read of a strip that is still being made: some of its fields -/
def sp_Strip_sign_in (K : PySem.W.Frag) : Sp := Fs K (fun a : List (Str × Dt) × Nat × Tx × Int => [.ins (cS K) a.1, .str a.2.2.1, .int a.2.2.2]) (fun a => a.1.lookup ("brim" : Str) = some (.str [a.2.1]) ∧ a.2.2.1.length ≤ 1000) (fun a d => d = .str [signIn a.2.1 a.2.2.1 a.2.2.2])
abbrev N_Strip_sign_in : List Str := ["self", "column", "y"]
theorem sc_Strip_sign_in : FnScope N_Strip_sign_in ["self", "column", "y"] (defScope s_Strip_sign_in) := ⟨rfl, rfl, rfl, by decide +kernel, rfl, by decide +kernel, by decide +kernel⟩
theorem ok_Strip_sign_in {P : Program} {w : World} {K : PySem.W.Frag} {mg : Str → Option Value} {base : Heap} (T : Tp K mg) : Okm P w K mg base 1 (cS K) "sign_in" ["self", "column", "y"] (sp_Strip_sign_in K) := by
  obtain ⟨_, hFOLDED⟩ := T.tFolded
  obtain ⟨fd, F⟩ := T.fn 9 d_Strip_sign_in rfl
  refine ⟨_, fd, ?_, T.mS "sign_in" (by decide +kernel), FunD.bindsN F fun _ _ _ _ _ _ us hl => match us, hl with | [_, _, _], _ => rfl⟩
  refine FunD.ok F sc_Strip_sign_in (fun vs H Q E h => Fn.len (E := E) h) (fun cdv A outer s H vs Q E hr h => ?_)
  refine ⟨_, PSs.nox (pss_cons (ps_if (pt_chain op_le op_lt pe_int (pv 2) (pe_callB call_lenS (by rfl) T.len (by decide +kernel) (pa_cons (pv 1) pa_nil))) (pss_one (ps_ret (pe_ix ix_str (pv 1) (pv 2) (fun _ _ => rfl)))) pss_nil)
    (pss_one (ps_ret (pe_ifExp (pt_cmpR op_eq (pe_fldK (K := K) (pv 0) rfl) (pe_glob (v := .str "") (by rfl) hFOLDED ⟨_, rfl⟩) (nomark _)) (pe_ix ix_str (pv 1) pe_int (fun _ _ => rfl)) (pe_fldK (K := K) (pv 0) rfl))))), ?_⟩
  refine bodyS (E := E) h fun ⟨fs, edge, col, y⟩ σ G hp c D kr kn => ?_
  obtain ⟨hb, hl⟩ : fs.lookup ("brim" : Str) = some (.str [edge]) ∧ col.length ≤ 1000 := hp
  have hbr : ∀ {Γ : Ga}, Γ[0]? = some (some (.ins (cS K) fs)) → Ev K still (tFld K (tVar 0) "brim") Γ (.str [edge]) := fun e => ev_fld (ev_var e) T.clS (T.nS _ (by decide +kernel)) hb
  refine q_when c (et_test (ev_chain (c := decide (0 ≤ y)) (c' := decide (y < (col.length : Nat))) ev_int (ev_var rfl) rg_le (fun _ => ev_cb1 (ev_var rfl) (cg_lenS (Nat.le_trans hl (by decide)))) fun _ => rg_lt)) (fun b G' H' c' g => ?_) (fun b G' H' c' g => ?_)
  · have b2 : 0 ≤ y ∧ y < (col.length : Nat) := by
      have := b.symm
      rw [Bool.and_eq_true] at this
      exact ⟨of_decide_eq_true this.1, of_decide_eq_true this.2⟩
    obtain ⟨n, rfl⟩ : ∃ n : Nat, y = (n : Nat) := ⟨y.toNat, by omega⟩
    have hn : n < col.length := by omega
    exact c_ret c' (ev_op (ev_var rfl) (ev_var rfl) (rg_ixS (at_getD hn 0) (Nat.le_trans hl (by decide)))) fun v d G' H' e c' g r => kr _ _ _ _ _ _ r (by
      show d = .str [signIn edge col (n : Nat)]
      rw [e]; unfold signIn; rw [if_pos b2]; rfl) c'
  · have b2 : ¬ (0 ≤ y ∧ y < (col.length : Nat)) := fun z => by
      have q : decide (0 ≤ y) = true ∧ decide (y < (col.length : Nat)) = true := ⟨decide_eq_true z.1, decide_eq_true z.2⟩
      rw [q.1, q.2] at b; cases b
    refine c_ret c' (ev_if (et_test (ev_op (hbr rfl) (ev_str (x := "")) rg_eqS)) (fun q => ?_) fun _ => hbr rfl) fun v d G' H' e c' g r => kr _ _ _ _ _ _ r (by
      show d = .str [signIn edge col y]
      rw [e]; unfold signIn; rw [if_neg b2]) c'
    have e0 : ("" : Str).cps.toList = ([] : Tx) := by decide +kernel
    rw [e0] at q
    exact absurd (of_decide_eq_true q) (fun z => nomatch z)
/-! ### Rule.test_holds -/
def sp_Rule_test_holds (K : PySem.W.Frag) : Sp := Fs K (fun a : Rl × Tst × Tx => [rlD (cR K) a.1, tstD a.2.1, .str a.2.2]) (fun a => a.1.ok ∧ a.2.1.ok a.1.near a.1.signs ∧ a.2.2.length = a.1.near.length) (fun a d => d = .bl (a.2.1.holds a.1.near a.2.2))
theorem filt_len (ar s : Tx) : (((ar.filter fun c => decide (c ∈ s)).map fun c => Dt.str [c]).length : Int) = ((ar.filter fun c => decide (c ∈ s)).length : Nat) := by rw [List.length_map]
theorem chain_nat {a b c : Nat} : (decide ((a : Int) ≤ (b : Nat)) && decide ((b : Int) ≤ (c : Nat))) = (decide (a ≤ b) && decide (b ≤ c)) := by
  congr 1 <;> (apply decide_eq_decide.mpr; omega)
abbrev N_Rule_test_holds : List Str := ["self", "test", "around", "word", "low", "high", "counted", "sign"]
theorem sc_Rule_test_holds : FnScope N_Rule_test_holds ["self", "test", "around"] (defScope s_Rule_test_holds) := ⟨rfl, rfl, rfl, by decide +kernel, rfl, by decide +kernel, by decide +kernel⟩
theorem ok_Rule_test_holds {P : Program} {w : World} {K : PySem.W.Frag} {mg : Str → Option Value} {base : Heap} (T : Tp K mg) : Okm P w K mg base 1 (cR K) "test_holds" ["self", "test", "around"] (sp_Rule_test_holds K) := by
  obtain ⟨fd, F⟩ := T.fn 34 d_Rule_test_holds rfl
  refine ⟨_, fd, ?_, T.mR "test_holds" (by decide +kernel), FunD.bindsN F fun _ _ _ _ _ _ us hl => match us, hl with | [_, _, _], _ => rfl⟩
  refine FunD.ok F sc_Rule_test_holds (fun vs H Q E h => Fn.len (E := E) h) (fun cdv A outer s H vs Q E hr h => ?_)
  refine ⟨_, PSs.nox (pss_cons (ps_if (pt_cmpR op_eq (pe_ix (ix_tupK (K := K)) (pv 1) pe_int (fun _ _ => rfl)) pe_str (nomark _)) (pss_one (ps_ret (pe_cmpR op_inSg (pe_ix ix_str (pv 2) (pe_tindex (K := K) (pe_fldK (K := K) (pv 0) rfl) (pa_cons (pe_ix (ix_tupK (K := K)) (pv 1) pe_int (fun _ _ => rfl)) pa_nil)) (fun _ _ => rfl)) (pe_ix (ix_tupK (K := K)) (pv 1) pe_int (fun _ _ => rfl)) rfl))) pss_nil)
    (pss_cons (ps_asg (pv 1) (pg_tupK (K := K) (n := 4) rfl (pgs_cons (pg_name (i := 3) sc_Rule_test_holds.nd rfl (Or.inl rfl)) (pgs_cons (pg_name (i := 4) sc_Rule_test_holds.nd rfl (Or.inl rfl)) (pgs_cons (pg_name (i := 5) sc_Rule_test_holds.nd rfl (Or.inl rfl)) (pgs_cons (pg_name (i := 6) sc_Rule_test_holds.nd rfl (Or.inr rfl)) pgs_nil))))))
    (pss_one (ps_ret (pe_chain op_le op_le (pv 4) (pe_callB (call_lenK (K := K)) (by rfl) T.len (by decide +kernel) (pa_cons (pe_lc (own := [("sign", 7)]) rfl sc_Rule_test_holds.nd (pi_str (pv 2)) (blkOk_by (N := N_Rule_test_holds) (own := [("sign", 7)]) (by kernel_rfl)) (fun _ _ _ _ _ => (pg_name (i := 7) sc_Rule_test_holds.nd rfl (Or.inl rfl))) (fun _ _ _ _ _ => (pts_one (pt_cmpR op_inSg (pv 7) (pv 6) rfl))) (fun _ _ _ _ _ => (pv 7))) pa_nil)) (pv 5)))))), ?_⟩
  refine bodyS (E := E) h fun ⟨r, t, ar⟩ σ G hp c D kr kn => ?_
  obtain ⟨ok, tok, hl⟩ : r.ok ∧ t.ok r.near r.signs ∧ ar.length = r.near.length := hp
  have hn := ok.nearLen
  cases t with
  | «at» p s =>
    have ti : r.near.idxOf p < ar.length := by rw [hl]; exact List.idxOf_lt_length_of_mem tok.1
    refine q_when c (et_test (ev_op (ev_op (ev_var rfl) ev_int (rg_ixT (j := 0) rfl)) (ev_lit lit_at) rg_eqS)) (fun b G' H' c' g => ?_) (fun b G' H' c' g => ?_)
    · refine c_ret c' (ev_op (ev_op (ev_var rfl) (er_tindex (ev_fld (ev_var rfl) T.clR (T.nR _ (by decide +kernel)) rfl) (ev_op (ev_var rfl) ev_int (rg_ixT (j := 1) rfl)) tok.1) (rg_ixS (at_getD ti 0) (by show ar.length ≤ _; omega))) (ev_op (ev_var rfl) ev_int (rg_ixT (j := 2) rfl)) rg_inS) fun v d G' H' e c' g r => kr _ _ _ _ _ _ r e c'
    · exact absurd b (by decide)
  | cnt lo hi s =>
    refine q_when c (et_test (ev_op (ev_op (ev_var rfl) ev_int (rg_ixT (j := 0) rfl)) (ev_lit lit_at) rg_eqS)) (fun b G' H' c' g => ?_) (fun b G' H' c' g => ?_)
    · exact absurd b (by decide)
    · refine q_asgV c' (ev_var rfl) tg_four fun σ1 G1 H1 c1 g1 => ?_
      refine c_ret c1 ((ev_chain (ev_var rfl) (ev_cb1 (ev_lcA (l := ar) (enc := fun c => .str [c]) (fun c => decide (c ∈ s)) (fun c => .str [c]) (sv_str (ev_var rfl)) (by show ar.length ≤ _; omega) fun x hx => ⟨_, [7], by decide, tg_name, et_test (ev_op (ev_var rfl) (ev_var rfl) rg_inS), fun _ => ev_var rfl⟩) cg_lenL) rg_le (fun _ => ev_var rfl) fun _ => rg_le).to ?_) fun v d G' H' e c' g r => kr _ _ _ _ _ _ r e c'
      show Dt.bl _ = Dt.bl _
      rw [filt_len, chain_nat]; rfl
/-! ### Rule.fate -/
def sp_Rule_fate (K : PySem.W.Frag) : Sp := Fs K (fun a : Rl × Nat × Tx => [rlD (cR K) a.1, .str [a.2.1], .str a.2.2]) (fun a => a.1.ok ∧ a.2.2.length = a.1.near.length) (fun a d => d = .str [a.1.fate a.2.1 a.2.2])
theorem bls_map {α : Type} (l : List α) (f : α → Bool) : Dt.lst (l.map fun t => .bl (f t)) = .lst (blsD (l.map f)) := by
  unfold blsD
  rw [List.map_map]; rfl
theorem all_map {α : Type} (l : List α) (f : α → Bool) : (l.map f).all id = l.all f := by rw [List.all_map]; rfl
abbrev N_Rule_fate : List Str := ["self", "own", "around", "mine", "tests", "sign", "test"]
theorem sc_Rule_fate : FnScope N_Rule_fate ["self", "own", "around"] (defScope s_Rule_fate) := ⟨rfl, rfl, rfl, by decide +kernel, rfl, by decide +kernel, by decide +kernel⟩
theorem ok_Rule_fate {P : Program} {w : World} {K : PySem.W.Frag} {mg : Str → Option Value} {base : Heap} (T : Tp K mg)
    (o_Rule_test_holds : Okm P w K mg base 1 (cR K) "test_holds" ["self", "test", "around"] (sp_Rule_test_holds K)) : Okm P w K mg base 2 (cR K) "fate" ["self", "own", "around"] (sp_Rule_fate K) := by
  obtain ⟨f_Rule_test_holds, fd_Rule_test_holds, F_Rule_test_holds, M_Rule_test_holds, b_Rule_test_holds⟩ := o_Rule_test_holds
  obtain ⟨fd, F⟩ := T.fn 35 d_Rule_fate rfl
  refine ⟨_, fd, ?_, T.mR "fate" (by decide +kernel), FunD.bindsN F fun _ _ _ _ _ _ us hl => match us, hl with | [_, _, _], _ => rfl⟩
  refine FunD.ok F sc_Rule_fate (fun vs H Q E h => Fn.len (E := E) h) (fun cdv A outer s H vs Q E hr h => ?_)
  refine ⟨_, PSs.nox (pss_cons (ps_for PassesOwn.never rfl (pi_listK (K := K) (pe_fldK (K := K) (pv 0) rfl)) (pg_tupK (K := K) (n := 3) rfl (pgs_cons (pg_name (i := 3) sc_Rule_fate.nd rfl (Or.inl rfl)) (pgs_cons (pg_name (i := 4) sc_Rule_fate.nd rfl (Or.inl rfl)) (pgs_cons (pg_name (i := 5) sc_Rule_fate.nd rfl (Or.inl rfl)) pgs_nil))))
      (pss_one (ps_if (PW.pt (pw_and (pt_cmpR op_inSg (pv 1) (pv 3) rfl) (pw_and1 (pt_val (pe_callB (cr_allK (K := K) rfl) (by rfl) T.all (by decide +kernel) (pa_cons (pe_lc (own := [("test", 6)]) rfl sc_Rule_fate.nd (pi_tupK (K := K) (pv 4)) (blkOk_by (N := N_Rule_fate) (own := [("test", 6)]) (by kernel_rfl)) (fun _ _ _ _ _ => (pg_name (i := 6) sc_Rule_fate.nd rfl (Or.inl rfl))) (fun _ _ _ _ _ => pts_nil) (fun _ _ _ _ _ => (pe_meth (pv 0) T.clR M_Rule_test_holds F_Rule_test_holds (hr.mono (by decide)) b_Rule_test_holds .nil pass0 (pa_cons (pv 6) (pa_cons (pv 2) pa_nil))))) pa_nil)))))) (pss_one (ps_ret (pv 5))) pss_nil)))
    (pss_one (ps_ret (pv 1)))), ?_⟩
  refine bodyS (E := E) h fun ⟨r, own, ar⟩ σ G hp c D kr kn => ?_
  obtain ⟨ok, hl⟩ : r.ok ∧ ar.length = r.near.length := hp
  refine q_forA (l := r.rows) (enc := rwD) c (sv_list (ev_fld (ev_var rfl) T.clR (T.nR _ (by decide +kernel)) rfl)) (fun _ => startG 7 [rlD (cR K) r, .str [own], .str ar]) (fun i => ∀ j, j < i → ∀ q, r.rows[j]? = some q → (decide (own ∈ q.own) && q.tests.all (Tst.holds r.near ar)) = false) rfl (fun j hj => absurd hj (Nat.not_lt_zero _)) (fun i q hq => tg_three) (fun G1 H1 g1 i q σ' G' H' D' hq hF c1 hr kn' => ?_) fun hF σ' G' H' c1 => ?_
  · have qok := ok.rows q (List.mem_of_getElem? hq)
    refine c_if c1 (et_and (et_test (ev_op (ev_var rfl) (ev_var rfl) rg_inS)) fun _ => et_B (b := q.tests.all (Tst.holds r.near ar)) ((ev_cb1 ((ev_mapA (l := q.tests) (enc := tstD) (fun t => .bl (t.holds r.near ar)) (sv_tup (ev_var rfl)) (Nat.le_trans qok.few (by decide)) fun t ht => ⟨_, [6], by decide, tg_name, ev_meth (r, t, ar) (ev_var rfl) (ea_cons (ev_var rfl) (ea_cons (ev_var rfl) ea_nil)) (by rfl) rfl ⟨ok, qok.tests t ht, hl⟩⟩).to (bls_map _ _)) cg_all).to (by rw [all_map]))) (fun b G2 H2 c2 g2 => ?_) (fun b G2 H2 c2 g2 => ?_)
    · refine c_ret c2 (ev_var rfl) fun v d G3 H3 e c3 g3 r3 => ?_
      rw [hr]
      refine kr _ _ _ _ _ _ r3 ?_ (c3.base g1)
      show d = .str [r.fate own ar]
      rw [e]
      unfold Rl.fate
      rw [find_first hF hq b.symm]
    · exact kn' (upto_succ hF hq b.symm) _ _ _ ((((c2.lose 3).lose 4).lose 5).to rfl)
  · refine c_ret c1 (ev_var rfl) fun v d G3 H3 e c3 g3 r3 => kr _ _ _ _ _ _ r3 ?_ c3
    show d = .str [r.fate own ar]
    rw [e]
    unfold Rl.fate
    rw [find_no hF]
/-! ### _law_holds -/
def sp_l_holds (K : PySem.W.Frag) : Sp := Fs K (fun a : Rl × Tst × Tx => [.tupN (txs a.1.near), .str a.2.2, tstD a.2.1]) (fun a => a.1.ok ∧ a.2.1.ok a.1.near a.1.signs ∧ a.2.2.length = a.1.near.length) (fun a d => d = .bl (a.2.1.holds a.1.near a.2.2))
abbrev N_l_holds : List Str := ["_law_near_here", "_law_around", "_law_test_here", "_law_sign"]
theorem sc_l_holds : FnScope N_l_holds ["_law_near_here", "_law_around", "_law_test_here"] (defScope s_l_holds) := ⟨rfl, rfl, rfl, by decide +kernel, rfl, by decide +kernel, by decide +kernel⟩
theorem ok_l_holds {P : Program} {w : World} {K : PySem.W.Frag} {mg : Str → Option Value} {base : Heap} (T : Tp K mg) : Okd P w K mg base 1 "_law_holds" ["_law_near_here", "_law_around", "_law_test_here"] (sp_l_holds K) := by
  obtain ⟨fd, F⟩ := T.fn 44 d_l_holds rfl
  refine ⟨_, fd, ?_, T.gl "_law_holds" (by decide +kernel), F.kp, FunD.bindsN F fun _ _ _ _ _ _ us hl => match us, hl with | [_, _, _], _ => rfl⟩
  refine FunD.ok F sc_l_holds (fun vs H Q E h => Fn.len (E := E) h) (fun cdv A outer s H vs Q E hr h => ?_)
  refine ⟨_, PSs.nox (pss_cons (ps_if (pt_cmpR op_eq (pe_ix (ix_tupK (K := K)) (pv 2) pe_int (fun _ _ => rfl)) pe_str (nomark _)) (pss_one (ps_ret (pe_cmpR op_inSg (pe_ix ix_str (pv 1) (pe_tindex (K := K) (pv 0) (pa_cons (pe_ix (ix_tupK (K := K)) (pv 2) pe_int (fun _ _ => rfl)) pa_nil)) (fun _ _ => rfl)) (pe_ix (ix_tupK (K := K)) (pv 2) pe_int (fun _ _ => rfl)) rfl))) pss_nil)
    (pss_one (ps_ret (pe_chain op_le op_le (pe_ix (ix_tupK (K := K)) (pv 2) pe_int (fun _ _ => rfl)) (pe_callB (call_lenK (K := K)) (by rfl) T.len (by decide +kernel) (pa_cons (pe_lc (own := [("_law_sign", 3)]) rfl sc_l_holds.nd (pi_str (pv 1)) (blkOk_by (N := N_l_holds) (own := [("_law_sign", 3)]) (by kernel_rfl)) (fun _ _ _ _ _ => (pg_name (i := 3) sc_l_holds.nd rfl (Or.inl rfl))) (fun _ _ _ _ _ => (pts_one (pt_cmpR op_inSg (pv 3) (pe_ix (ix_tupK (K := K)) (pv 2) pe_int (fun _ _ => rfl)) rfl))) (fun _ _ _ _ _ => (pv 3))) pa_nil)) (pe_ix (ix_tupK (K := K)) (pv 2) pe_int (fun _ _ => rfl)))))), ?_⟩
  refine bodyS (E := E) h fun ⟨r, t, ar⟩ σ G hp c D kr kn => ?_
  obtain ⟨ok, tok, hl⟩ : r.ok ∧ t.ok r.near r.signs ∧ ar.length = r.near.length := hp
  have hn := ok.nearLen
  cases t with
  | «at» p s =>
    have ti : r.near.idxOf p < ar.length := by rw [hl]; exact List.idxOf_lt_length_of_mem tok.1
    refine q_when c (et_test (ev_op (ev_op (ev_var rfl) ev_int (rg_ixT (j := 0) rfl)) (ev_lit lit_at) rg_eqS)) (fun b G' H' c' g => ?_) (fun b G' H' c' g => ?_)
    · refine c_ret c' (ev_op (ev_op (ev_var rfl) (er_tindex (ev_var rfl) (ev_op (ev_var rfl) ev_int (rg_ixT (j := 1) rfl)) tok.1) (rg_ixS (at_getD ti 0) (by show ar.length ≤ _; omega))) (ev_op (ev_var rfl) ev_int (rg_ixT (j := 2) rfl)) rg_inS) fun v d G' H' e c' g r => kr _ _ _ _ _ _ r e c'
    · exact absurd b (by decide)
  | cnt lo hi s =>
    refine q_when c (et_test (ev_op (ev_op (ev_var rfl) ev_int (rg_ixT (j := 0) rfl)) (ev_lit lit_at) rg_eqS)) (fun b G' H' c' g => ?_) (fun b G' H' c' g => ?_)
    · exact absurd b (by decide)
    · refine c_ret c' ((ev_chain (ev_op (ev_var rfl) ev_int (rg_ixT (j := 1) rfl)) (ev_cb1 (ev_lcA (l := ar) (enc := fun c => .str [c]) (fun c => decide (c ∈ s)) (fun c => .str [c]) (sv_str (ev_var rfl)) (by show ar.length ≤ _; omega) fun x hx => ⟨_, [3], by decide, tg_name, et_test (ev_op (ev_var rfl) (ev_op (ev_var rfl) ev_int (rg_ixT (j := 3) rfl)) rg_inS), fun _ => ev_var rfl⟩) cg_lenL) rg_le (fun _ => ev_op (ev_var rfl) ev_int (rg_ixT (j := 2) rfl)) fun _ => rg_le).to ?_) fun v d G' H' e c' g r => kr _ _ _ _ _ _ r e c'
      show Dt.bl _ = Dt.bl _
      rw [filt_len, chain_nat]; rfl
/-! ### _law_becomes -/
/-- a rule as the law draws it -/
def ruD (r : Rl) : Dt := .tup [.str tAround, .int r.many, .tupN (txs r.near), .lst (r.rows.map rwD)]
def sp_l_becomes (K : PySem.W.Frag) : Sp := Fs K (fun a : Rl × Nat × Tx => [ruD a.1, .str [a.2.1], .str a.2.2]) (fun a => a.1.ok ∧ a.2.2.length = a.1.near.length) (fun a d => d = .str [a.1.fate a.2.1 a.2.2])
abbrev N_l_becomes : List Str := ["_law_rule_here", "_law_own", "_law_around", "_law_mine", "_law_tests", "_law_sign", "_law_test_here"]
theorem sc_l_becomes : FnScope N_l_becomes ["_law_rule_here", "_law_own", "_law_around"] (defScope s_l_becomes) := ⟨rfl, rfl, rfl, by decide +kernel, rfl, by decide +kernel, by decide +kernel⟩
theorem ok_l_becomes {P : Program} {w : World} {K : PySem.W.Frag} {mg : Str → Option Value} {base : Heap} (T : Tp K mg)
    (o_l_holds : Okd P w K mg base 1 "_law_holds" ["_law_near_here", "_law_around", "_law_test_here"] (sp_l_holds K)) : Okd P w K mg base 2 "_law_becomes" ["_law_rule_here", "_law_own", "_law_around"] (sp_l_becomes K) := by
  obtain ⟨f_l_holds, fd_l_holds, F_l_holds, g_l_holds, k_l_holds, b_l_holds⟩ := o_l_holds
  obtain ⟨fd, F⟩ := T.fn 45 d_l_becomes rfl
  refine ⟨_, fd, ?_, T.gl "_law_becomes" (by decide +kernel), F.kp, FunD.bindsN F fun _ _ _ _ _ _ us hl => match us, hl with | [_, _, _], _ => rfl⟩
  refine FunD.ok F sc_l_becomes (fun vs H Q E h => Fn.len (E := E) h) (fun cdv A outer s H vs Q E hr h => ?_)
  refine ⟨_, PSs.nox (pss_cons (ps_for PassesOwn.never rfl (pi_listK (K := K) (pe_ix (ix_tupK (K := K)) (pv 0) pe_int (fun _ _ => rfl))) (pg_tupK (K := K) (n := 3) rfl (pgs_cons (pg_name (i := 3) sc_l_becomes.nd rfl (Or.inl rfl)) (pgs_cons (pg_name (i := 4) sc_l_becomes.nd rfl (Or.inl rfl)) (pgs_cons (pg_name (i := 5) sc_l_becomes.nd rfl (Or.inl rfl)) pgs_nil))))
      (pss_one (ps_if (PW.pt (pw_and (pt_cmpR op_inSg (pv 1) (pv 3) rfl) (pw_and1 (pt_val (pe_callB (cr_allK (K := K) rfl) (by rfl) T.all (by decide +kernel) (pa_cons (pe_lc (own := [("_law_test_here", 6)]) rfl sc_l_becomes.nd (pi_tupK (K := K) (pv 4)) (blkOk_by (N := N_l_becomes) (own := [("_law_test_here", 6)]) (by kernel_rfl)) (fun _ _ _ _ _ => (pg_name (i := 6) sc_l_becomes.nd rfl (Or.inl rfl))) (fun _ _ _ _ _ => pts_nil) (fun _ _ _ _ _ => (pe_call F_l_holds (hr.mono (by decide)) (by rfl) g_l_holds k_l_holds b_l_holds .nil pass0 (pa_cons (pe_ix (ix_tupK (K := K)) (pv 0) pe_int (fun _ _ => rfl)) (pa_cons (pv 2) (pa_cons (pv 6) pa_nil)))))) pa_nil)))))) (pss_one (ps_ret (pv 5))) pss_nil)))
    (pss_one (ps_ret (pv 1)))), ?_⟩
  refine bodyS (E := E) h fun ⟨r, own, ar⟩ σ G hp c D kr kn => ?_
  obtain ⟨ok, hl⟩ : r.ok ∧ ar.length = r.near.length := hp
  refine q_forA (l := r.rows) (enc := rwD) c (sv_list (ev_op (ev_var rfl) ev_int (rg_ixT (j := 3) rfl))) (fun _ => startG 7 [ruD r, .str [own], .str ar]) (fun i => ∀ j, j < i → ∀ q, r.rows[j]? = some q → (decide (own ∈ q.own) && q.tests.all (Tst.holds r.near ar)) = false) rfl (fun j hj => absurd hj (Nat.not_lt_zero _)) (fun i q hq => tg_three) (fun G1 H1 g1 i q σ' G' H' D' hq hF c1 hr kn' => ?_) fun hF σ' G' H' c1 => ?_
  · have qok := ok.rows q (List.mem_of_getElem? hq)
    refine c_if c1 (et_and (et_test (ev_op (ev_var rfl) (ev_var rfl) rg_inS)) fun _ => et_B (b := q.tests.all (Tst.holds r.near ar)) ((ev_cb1 ((ev_mapA (l := q.tests) (enc := tstD) (fun t => .bl (t.holds r.near ar)) (sv_tup (ev_var rfl)) (Nat.le_trans qok.few (by decide)) fun t ht => ⟨_, [6], by decide, tg_name, ev_call (r, t, ar) (ea_cons (ev_op (ev_var rfl) ev_int (rg_ixT (j := 2) rfl)) (ea_cons (ev_var rfl) (ea_cons (ev_var rfl) ea_nil))) ⟨ok, qok.tests t ht, hl⟩⟩).to (bls_map _ _)) cg_all).to (by rw [all_map]))) (fun b G2 H2 c2 g2 => ?_) (fun b G2 H2 c2 g2 => ?_)
    · refine c_ret c2 (ev_var rfl) fun v d G3 H3 e c3 g3 r3 => ?_
      rw [hr]
      refine kr _ _ _ _ _ _ r3 ?_ (c3.base g1)
      show d = .str [r.fate own ar]
      rw [e]
      unfold Rl.fate
      rw [find_first hF hq b.symm]
    · exact kn' (upto_succ hF hq b.symm) _ _ _ ((((c2.lose 3).lose 4).lose 5).to rfl)
  · refine c_ret c1 (ev_var rfl) fun v d G3 H3 e c3 g3 r3 => kr _ _ _ _ _ _ r3 ?_ c3
    show d = .str [r.fate own ar]
    rw [e]
    unfold Rl.fate
    rw [find_no hF]
end K70
namespace K70
open PySem PySem.Spec PyProof.Rows L2
/-! ### Strip.made -/
def offD (p : Tx) : Dt := .tupW [.int (offOf p).1, .int (offOf p).2]
/-- what a strip that is being made has so far -/
structure Zp (K : PySem.W.Frag) (fs : List (Str × Dt)) (r : Rl) (edge : Nat) : Prop where
  ruled : fs.lookup ("ruled" : Str) = some (rlD (cR K) r)
  brim : fs.lookup ("brim" : Str) = some (.str [edge])
  offs : fs.lookup ("offs" : Str) = some (.lst (r.near.map offD))
  none_ : ∀ m ∈ methsS, fs.lookup m = none
def sp_Strip_made (K : PySem.W.Frag) : Sp := Fs K (fun a : List (Str × Dt) × Rl × Nat × Tx × Tx × Tx => [.ins (cS K) a.1, .str a.2.2.2.1, .str a.2.2.2.2.1, .str a.2.2.2.2.2]) (fun a => Zp K a.1 a.2.1 a.2.2.1 ∧ a.2.1.ok ∧ a.2.2.2.1.length ≤ 100 ∧ a.2.2.2.2.1.length ≤ 100 ∧ a.2.2.2.2.2.length ≤ 100) (fun a d => d = .str (a.2.1.mid a.2.2.1 a.2.2.2.1 a.2.2.2.2.1 a.2.2.2.2.2))
def besD (one two three : Tx) : Dt := .dK (mergeD [] [(.inl (-1), .str one), (.inl 0, .str two), (.inl 1, .str three)])
theorem off_dx (p : Tx) : (offOf p).1 = -1 ∨ (offOf p).1 = 0 ∨ (offOf p).1 = 1 := by
  unfold offOf
  repeat' split
  all_goals simp
theorem enum_A {α : Type} [Inhabited α] (l : List α) (f : α → Dt) : enumD (l.map f) = (List.range l.length).map fun i => .tup [.int (i : Nat), f (l.getD i default)] := by
  apply List.ext_getElem?
  intro i
  rw [List.getElem?_map]
  cases h : (enumD (l.map f))[i]? with
  | none =>
    have := List.getElem?_eq_none_iff.mp h
    rw [enumD_len, List.length_map] at this
    rw [List.getElem?_eq_none (by rw [List.length_range]; exact this)]; rfl
  | some d =>
    obtain ⟨a, e1, rfl⟩ := enumD_get h
    rw [List.getElem?_map] at e1
    cases q : l[i]? with
    | none => rw [q] at e1; cases e1
    | some x =>
      rw [q] at e1
      cases e1
      have hi := (List.getElem?_eq_some_iff.mp q).1
      rw [List.getElem?_range hi]
      have : l.getD i default = x := by rw [List.getD_eq_getElem?_getD, q]; rfl
      rw [Option.map_some, this]
abbrev N_Strip_made : List Str := ["self", "one", "two", "three", "beside", "signs", "y", "own", "around", "dx", "dy"]
theorem sc_Strip_made : FnScope N_Strip_made ["self", "one", "two", "three"] (defScope s_Strip_made) := ⟨rfl, rfl, rfl, by decide +kernel, rfl, by decide +kernel, by decide +kernel⟩
theorem ok_Strip_made {P : Program} {w : World} {K : PySem.W.Frag} {mg : Str → Option Value} {base : Heap} (T : Tp K mg)
    (o_Strip_sign_in : Okm P w K mg base 1 (cS K) "sign_in" ["self", "column", "y"] (sp_Strip_sign_in K))
    (o_Rule_fate : Okm P w K mg base 2 (cR K) "fate" ["self", "own", "around"] (sp_Rule_fate K)) : Okm P w K mg base 3 (cS K) "made" ["self", "one", "two", "three"] (sp_Strip_made K) := by
  obtain ⟨f_Strip_sign_in, fd_Strip_sign_in, F_Strip_sign_in, M_Strip_sign_in, b_Strip_sign_in⟩ := o_Strip_sign_in
  obtain ⟨f_Rule_fate, fd_Rule_fate, F_Rule_fate, M_Rule_fate, b_Rule_fate⟩ := o_Rule_fate
  obtain ⟨fd, F⟩ := T.fn 10 d_Strip_made rfl
  refine ⟨_, fd, ?_, T.mS "made" (by decide +kernel), FunD.bindsN F fun _ _ _ _ _ _ us hl => match us, hl with | [_, _, _, _], _ => rfl⟩
  refine FunD.ok F sc_Strip_made (fun vs H Q E h => Fn.len (E := E) h) (fun cdv A outer s H vs Q E hr h => ?_)
  refine ⟨_, PSs.nox (pss_cons (ps_set (i := 4) sc_Strip_made.nd rfl (Or.inr rfl) (pe_disp (pps_cons (pe_un un_neg pe_int) (pv 1) (pps_cons pe_int (pv 2) (pps_cons pe_int (pv 3) pps_nil))) (by rfl) (by rfl) (fun z => by cases z) (by decide)))
    (pss_cons (ps_set (i := 5) sc_Strip_made.nd rfl (Or.inl rfl) (pe_lst pa_nil))
    (pss_cons (ps_for PassesOwn.never rfl (pi_enumS (by rfl) T.enumerate (pa_cons (pv 2) pa_nil)) (pg_tupK (K := K) (n := 2) rfl (pgs_cons (pg_name (i := 6) sc_Strip_made.nd rfl (Or.inr rfl)) (pgs_cons (pg_name (i := 7) sc_Strip_made.nd rfl (Or.inl rfl)) pgs_nil)))
      (pss_cons (ps_set (i := 8) sc_Strip_made.nd rfl (Or.inl rfl) (pe_joinK (K := K) pe_str (pe_lc (own := [("dx", 9), ("dy", 10)]) rfl sc_Strip_made.nd (pi_listK (K := K) (pe_fldK (K := K) (pv 0) rfl)) (blkOk_by (N := N_Strip_made) (own := [("dx", 9), ("dy", 10)]) (by kernel_rfl)) (fun _ _ _ _ _ => (pg_tupK (K := K) (n := 2) rfl (pgs_cons (pg_name (i := 9) sc_Strip_made.nd rfl (Or.inl rfl)) (pgs_cons (pg_name (i := 10) sc_Strip_made.nd rfl (Or.inl rfl)) pgs_nil)))) (fun _ _ _ _ _ => pts_nil) (fun _ _ _ _ _ => (pe_meth (pv 0) T.clS M_Strip_sign_in F_Strip_sign_in (hr.mono (by decide)) b_Strip_sign_in .nil pass0 (pa_cons (pe_dget (hu_of hr) (pv 4) (pv 9) (fun _ _ => rfl)) (pa_cons (pe_op op_add (pv 6) (pv 10)) pa_nil)))))))
      (pss_one (ps_expr (pe_bmK (K := K) PySem.F.plainAttrs_list PySem.F.slot_list_append PySem.F.type_list_append mt_append (pv 5) (pa_cons (pe_meth (pe_fldK (K := K) (pv 0) rfl) T.clR M_Rule_fate F_Rule_fate (hr.mono (by decide)) b_Rule_fate .nil pass0 (pa_cons (pv 7) (pa_cons (pv 8) pa_nil))) pa_nil))))))
    (pss_one (ps_ret (pe_joinK (K := K) pe_str (pv 5))))))), ?_⟩
  refine bodyS (E := E) h fun ⟨fs, r, edge, one, two, three⟩ σ G hp c D kr kn => ?_
  obtain ⟨zp, ok, l1, l2, l3⟩ : Zp K fs r edge ∧ r.ok ∧ one.length ≤ 100 ∧ two.length ≤ 100 ∧ three.length ≤ 100 := hp
  refine q_setV c (ev_disp (ps := [(.inl (-1), .str one), (.inl 0, .str two), (.inl 1, .str three)]) (.cons (ev_un ev_int ug_neg) (ev_var rfl) (.cons ev_int (ev_var rfl) (.cons ev_int (ev_var rfl) .nil))) (show 3 ≤ 15 by decide)) fun σ1 G1 H1 c1 g1 => ?_
  refine q_nil c1 fun p σ2 H2 hp0 hp n a2 c2 e2 => ?_
  have sv : ∀ {Γ : Ga}, Γ[2]? = some (some (.str two)) → SrcG K still (iEnumS (tCons (tVar 2) tNil)) Γ (· = (List.range two.length).map fun i => .tup [.int (i : Nat), .str [two.getD i 0]]) := fun e => by
    have := enum_A two fun c => Dt.str [c]
    have z := sv_enumS (K := K) (m := still) (ev_var e)
    unfold sgn at z
    rw [this] at z
    exact z
  refine q_forL (l := List.range two.length) c2 a2 n (sv rfl) (fun _ => [some (.ins (cS K) fs), some (.str one), some (.str two), some (.str three), some (besD one two three), some (.raw (.ref p)), none, none, none, none, none]) (fun i b => b = (List.range i).map fun y => .str [r.fate (two.getD y 0) (r.around edge one two three y)]) rfl rfl (fun i a ha => tg_two) (fun i a b σ' G' H' D' ha hb s c3 a3 hrt kn' => ?_) fun b σ' G' H' hb s c3 a3 => ?_
  · have hi : i < two.length := by
      have := (List.getElem?_eq_some_iff.mp ha).1
      rwa [List.length_range] at this
    obtain rfl : a = i := by
      rw [List.getElem?_range hi] at ha
      exact (Option.some.inj ha).symm
    have key : (r.near.map fun q => [signIn edge (if (offOf q).1 = -1 then one else if (offOf q).1 = 0 then two else three) (a + (offOf q).2)]).flatten = r.around edge one two three a := by
      have := flatten_one (r.around edge one two three a)
      unfold Rl.around at this ⊢
      rw [List.map_map] at this
      exact this
    refine q_setV (d := .str (r.around edge one two three a)) c3 ?_ fun σ4 G4 H4 c4 g4 => ?_
    · rw [← key]
      refine ev_m1 ev_str ((ev_mapA (l := r.near) (enc := offD) (fun q => .str [signIn edge (if (offOf q).1 = -1 then one else if (offOf q).1 = 0 then two else three) (a + (offOf q).2)]) (sv_list (ev_fld (ev_var rfl) T.clS (T.nS _ (by decide +kernel)) zp.offs)) (by have := ok.nearLen; omega) fun q hq => ⟨_, [9, 10], by decide, tg_twoW, ?_⟩).to ?_) (mg_join ?_)
      · refine (ev_meth (fs, edge, if (offOf q).1 = -1 then one else if (offOf q).1 = 0 then two else three, (a : Int) + (offOf q).2) (ev_var rfl) (ea_cons (er_dgetK (k := .inl (offOf q).1) (ev_var rfl) (ev_var rfl) ?_) (ea_cons (ev_op (ev_var rfl) (ev_var rfl) rg_add) ea_nil)) (zp.none_ _ (by decide +kernel)) rfl ⟨zp.brim, ?_⟩)
        · rcases off_dx q with e | e | e <;> rw [e] <;> rfl
        · show (if _ then _ else _ : Tx).length ≤ _
          split
          · omega
          · split <;> omega
      · rw [txs, List.map_map]; rfl
      · rw [key]
        unfold Rl.around
        rw [List.length_map]
        have := ok.nearLen
        omega
    · have a4 := a3.grow g4 (fun z => z)
      refine c_app c4 rfl a4 hp n (by rw [hb, List.length_map, List.length_range]; omega) (ev_meth (r, two.getD a 0, r.around edge one two three a) (ev_fld (ev_var rfl) T.clS (T.nS _ (by decide +kernel)) zp.ruled) (ea_cons (ev_var rfl) (ea_cons (ev_var rfl) ea_nil)) (by rfl) rfl ⟨ok, by unfold Rl.around; exact List.length_map ..⟩) fun d G5 H5 H6 e g5 c6 a6 _ => ?_
      refine kn' _ _ _ _ ?_ (g4.g.trans g5.g) ((((c6.lose 6).lose 7).lose 8).to rfl) a6
      show b ++ [d] = _
      rw [List.range_succ, List.map_append, hb, e]
      rfl
  · obtain ⟨G7, s7, c7, _⟩ := c3.done (i := 5) rfl a3 hp n
    have key : (b.map fun d => d) = txs ((r.mid edge one two three).map fun c => [c]) := by
      rw [hb, txs, Rl.mid, List.map_map, List.map_map, List.length_range, List.map_map]
      rfl
    rw [List.map_id'] at key
    refine c_ret c7 (ev_m1 ev_str ((ev_var rfl).to (by rw [key])) (mg_join ?_)) fun v d G8 H8 e c8 g8 r8 => kr _ _ _ _ _ _ r8 ?_ c8
    · rw [flatten_one, Rl.mid, List.length_map, List.length_range]; omega
    · show d = _
      rw [e, flatten_one]
end K70
namespace K70
open PySem PySem.Spec PyProof.Rows L2
/-! ### Strip.ways_of -/
/-- the letters that give c behind two of them -/
def waysD (r : Rl) (edge : Nat) (L : List Tx) (s : Tx × Tx) : Dt := grpD (waysM (r.mid edge s.1 s.2) L)
def sp_Strip_ways_of (K : PySem.W.Frag) : Sp := Fs K (fun a : List (Str × Dt) × Rl × Nat × List Tx × (Tx × Tx) => [.ins (cS K) a.1, stD a.2.2.2.2]) (fun a => Zp K a.1 a.2.1 a.2.2.1 ∧ a.1.lookup ("letters" : Str) = some (.lst (txs a.2.2.2.1)) ∧ a.2.1.ok ∧ a.2.2.2.1.length ≤ 8 ∧ (∀ t ∈ a.2.2.2.1, t.length ≤ 100) ∧ a.2.2.2.2.1.length ≤ 100 ∧ a.2.2.2.2.2.length ≤ 100) (fun a d => d = waysD a.2.1 a.2.2.1 a.2.2.2.1 a.2.2.2.2)
abbrev N_Strip_ways_of : List Str := ["self", "state", "one", "two", "found", "three"]
theorem sc_Strip_ways_of : FnScope N_Strip_ways_of ["self", "state"] (defScope s_Strip_ways_of) := ⟨rfl, rfl, rfl, by decide +kernel, rfl, by decide +kernel, by decide +kernel⟩
theorem ok_Strip_ways_of {P : Program} {w : World} {K : PySem.W.Frag} {mg : Str → Option Value} {base : Heap} (T : Tp K mg)
    (o_Strip_made : Okm P w K mg base 3 (cS K) "made" ["self", "one", "two", "three"] (sp_Strip_made K)) : Okm P w K mg base 4 (cS K) "ways_of" ["self", "state"] (sp_Strip_ways_of K) := by
  obtain ⟨f_Strip_made, fd_Strip_made, F_Strip_made, M_Strip_made, b_Strip_made⟩ := o_Strip_made
  obtain ⟨fd, F⟩ := T.fn 11 d_Strip_ways_of rfl
  refine ⟨_, fd, ?_, T.mS "ways_of" (by decide +kernel), FunD.bindsN F fun _ _ _ _ _ _ us hl => match us, hl with | [_, _], _ => rfl⟩
  refine FunD.ok F sc_Strip_ways_of (fun vs H Q E h => Fn.len (E := E) h) (fun cdv A outer s H vs Q E hr h => ?_)
  refine ⟨_, PSs.nox (pss_cons (ps_asg (pv 1) (pg_tupK (K := K) (n := 2) rfl (pgs_cons (pg_name (i := 2) sc_Strip_ways_of.nd rfl (Or.inl rfl)) (pgs_cons (pg_name (i := 3) sc_Strip_ways_of.nd rfl (Or.inl rfl)) pgs_nil))))
    (pss_cons (ps_set (i := 4) sc_Strip_ways_of.nd rfl (Or.inl rfl) pe_dnewK)
    (pss_cons (ps_for PassesOwn.never rfl (pi_listK (K := K) (pe_fldK (K := K) (pv 0) rfl)) (pg_name (i := 5) sc_Strip_ways_of.nd rfl (Or.inl rfl))
      (pss_one (ps_expr (pe_bmK (K := K) PySem.F.plainAttrs_list PySem.F.slot_list_append PySem.F.type_list_append mt_append (pe_dsetd (pv 4) (pe_meth (pv 0) T.clS M_Strip_made F_Strip_made (hr.mono (by decide)) b_Strip_made .nil pass0 (pa_cons (pv 2) (pa_cons (pv 3) (pa_cons (pv 5) pa_nil)))) (pe_lst pa_nil) ⟨by rfl, by rfl, by rfl, by rfl⟩) (pa_cons (pv 5) pa_nil)))))
    (pss_one (ps_ret (pv 4)))))), ?_⟩
  refine bodyS (E := E) h fun ⟨fs, r, edge, L, x, y⟩ σ G hp c D kr kn => ?_
  obtain ⟨zp, hL, ok, l8, le, lx, ly⟩ : Zp K fs r edge ∧ fs.lookup ("letters" : Str) = some (.lst (txs L)) ∧ r.ok ∧ L.length ≤ 8 ∧ (∀ t ∈ L, t.length ≤ 100) ∧ x.length ≤ 100 ∧ y.length ≤ 100 := hp
  refine q_asgV c (ev_var rfl) tg_two fun σ1 G1 H1 c1 g1 => ?_
  refine q_newK c1 fun p σ2 H2 hp0 hp n a2 c2 e2 => ?_
  have ag : AccG G1 H2 p [] := ⟨a2.out, (by rw [e2]; exact upd_same), List.nodup_nil, List.nodup_nil, (fun _ h => nomatch h), (fun _ h => nomatch h)⟩
  refine q_forX (l := L) (enc := .str) (fun G H gs => AccG G H p gs) (fun a g => a.grow g) c2 (sv_list (ev_fld (ev_var rfl) T.clS (T.nS _ (by decide +kernel)) hL)) (x0 := []) (fun G1 H1 g => ag.grow g) (fun _ => [some (.ins (cS K) fs), some (stD (x, y)), some (.str x), some (.str y), some (.raw (.ref p)), none]) (fun i gs => stripG gs = waysM (r.mid edge x y) (L.take i) ∧ ∀ g ∈ gs, H g.2.1 = none) rfl ⟨rfl, (fun _ h => nomatch h)⟩ (fun i a ha => tg_name) (fun i t gs σ' G' H' D' ha hb s c3 a3 hrt kn' => ?_) fun gs σ' G' H' hb s c3 a3 => ?_
  · have few := waysM_few (r.mid edge x y) (L.take i)
    rw [← hb.1] at few
    have li : (L.take i).length ≤ 8 := by rw [List.length_take]; omega
    refine c_grp (k := .inr (tx (r.mid edge x y t))) (t := t) c3 rfl a3 hp hb.2 ?_ ?_ ?_ (ev_var rfl) fun gs' G4 H4 a4 q4 e4 c4 s4 => ?_
    · have := few.1
      unfold stripG at this
      rw [List.length_map] at this
      omega
    · intro g hg
      have := few.2 (g.1, g.2.2) (List.mem_map.mpr ⟨g, hg, rfl⟩)
      have z : g.2.2.length ≤ (L.take i).length := this
      omega
    · refine ((ev_meth (fs, r, edge, x, y, t) (ev_var rfl) (ea_cons (ev_var rfl) (ea_cons (ev_var rfl) (ea_cons (ev_var rfl) ea_nil))) (zp.none_ _ (by decide +kernel)) rfl ⟨zp, ok, lx, ly, le t (List.mem_of_getElem? ha)⟩).imp fun d e => e).to ?_
      show _ = Dt.str (tx (r.mid edge x y t)).cps.toList
      rw [tx_list]
    · refine kn' gs' _ _ _ ⟨?_, q4⟩ s4 ((c4.lose 5).to rfl) a4
      rw [e4, hb.1, waysM_take ha]
  · obtain ⟨G7, c7⟩ := c3.doneG (i := 4) rfl a3 hp hb.2
    refine c_ret c7 (ev_var rfl) fun v d G8 H8 e c8 g8 r8 => kr _ _ _ _ _ _ r8 ?_ c8
    show d = grpD (waysM (r.mid edge x y) L)
    rw [e, hb.1, List.take_length]
/-! ### Strip.behind -/
/-- all pairs of letters; those that may stand behind s where c is made -/
def statesM (L : List Tx) : List (Tx × Tx) := L.flatMap fun a => L.map fun b => (a, b)
def behindM (r : Rl) (edge : Nat) (L : List Tx) (s : Tx × Tx) (c : Tx) : List (Tx × Tx) := (L.filter fun t => decide (r.mid edge s.1 s.2 t = c)).map fun t => (s.2, t)
def lettersM (r : Rl) (n : Nat) : List Tx := wordsM r.signs n
/-- a strip -/
def zfD (K : PySem.W.Frag) (r : Rl) (edge n : Nat) : List (Str × Dt) := [("ruled", rlD (cR K) r), ("brim", .str [edge]), ("offs", .lst (r.near.map offD)), ("letters", .lst (txs (lettersM r n))), ("states", .lst ((statesM (lettersM r n)).map stD)), ("ways_on", .dT ((statesM (lettersM r n)).map fun s => (kT s, waysD r edge (lettersM r n) s)))]
def zD (K : PySem.W.Frag) (r : Rl) (edge n : Nat) : Dt := .ins (cS K) (zfD K r edge n)
structure Zok (r : Rl) (edge n : Nat) : Prop where
  ok : r.ok
  lo : 1 ≤ n
  hi : n ≤ 3
  few : r.many ^ n ≤ 8
theorem Rl.signs_len {r : Rl} (ok : r.ok) : r.signs.length = r.many := by
  unfold Rl.signs
  rw [List.length_take]
  have : sg.length = 27 := by decide +kernel
  have := ok.hi
  omega
theorem Zok.len {r : Rl} {edge n : Nat} (z : Zok r edge n) : (lettersM r n).length = r.many ^ n := by
  rw [lettersM, wordsM_len, Rl.signs_len z.ok]
theorem Zok.each {r : Rl} {edge n : Nat} (z : Zok r edge n) : ∀ t ∈ lettersM r n, t.length = n := fun t ht => (wordsM_each _ _ t ht).1
theorem statesM_mem {L : List Tx} {s : Tx × Tx} : s ∈ statesM L ↔ s.1 ∈ L ∧ s.2 ∈ L := by
  unfold statesM
  rw [List.mem_flatMap]
  constructor
  · rintro ⟨a, ha, h⟩
    obtain ⟨b, hb, rfl⟩ := List.mem_map.mp h
    exact ⟨ha, hb⟩
  · rintro ⟨ha, hb⟩
    exact ⟨s.1, ha, List.mem_map.mpr ⟨s.2, hb, rfl⟩⟩
theorem statesM_len (L : List Tx) : (statesM L).length = L.length * L.length := by
  have h : ∀ k : List Tx, (k.flatMap fun a => L.map fun b => (a, b)).length = k.length * L.length := by
    intro k
    induction k with
    | nil => simp
    | cons a r ih => rw [List.flatMap_cons, List.length_append, ih, List.length_map, List.length_cons, Nat.succ_mul, Nat.add_comm]
  exact h L
theorem Zok.states {r : Rl} {edge n : Nat} (z : Zok r edge n) : (statesM (lettersM r n)).length ≤ 64 := by
  rw [statesM_len, z.len]
  exact Nat.mul_le_mul z.few z.few
theorem lk_mapT {β : Type} {f : Tx × Tx → β} {s : Tx × Tx} : ∀ {l : List (Tx × Tx)}, s ∈ l → lk (l.map fun s => (kT s, f s)) (kT s) = some (f s)
  | [], h => nomatch h
  | a :: l, h => by
    rw [List.map_cons]
    by_cases e : kT a = kT s
    · have e2 := kT_inj e
      subst e2
      exact lk_pos
    · rw [lk_neg e]
      refine lk_mapT ?_
      rcases List.mem_cons.mp h with z | z
      · exact absurd (by rw [z]) e
      · exact z
theorem lk_mapT_none {β : Type} {f : Tx × Tx → β} {s : Tx × Tx} : ∀ {l : List (Tx × Tx)}, s ∉ l → lk (l.map fun s => (kT s, f s)) (kT s) = none
  | [], h => rfl
  | a :: l, h => by
    rw [List.map_cons]
    have e : kT a ≠ kT s := fun z => h (by rw [kT_inj z]; exact List.mem_cons_self)
    rw [lk_neg e]
    exact lk_mapT_none fun z => h (List.mem_cons_of_mem _ z)
theorem lk_mapv {κ β γ : Type} [DecidableEq κ] {f : β → γ} {k : κ} : ∀ {l : List (κ × β)}, lk (l.map fun g => (g.1, f g.2)) k = (lk l k).map f
  | [] => rfl
  | (a, b) :: l => by
    rw [List.map_cons]
    by_cases e : a = k
    · subst e; rw [lk_pos, lk_pos]; rfl
    · rw [lk_neg e, lk_neg e, lk_mapv]
theorem ways_get (r : Rl) (edge : Nat) (L : List Tx) (s : Tx × Tx) (c : Tx) : (lk ((waysM (r.mid edge s.1 s.2) L).map fun g => (g.1, Dt.lst (txs g.2))) (.inr (tx c))).getD (.lst []) = .lst (txs (L.filter fun t => decide (r.mid edge s.1 s.2 t = c))) := by
  have q := lk_mapv (f := fun x : List Tx => Dt.lst (txs x)) (k := (.inr (tx c) : Key)) (l := waysM (r.mid edge s.1 s.2) L)
  refine (congrArg (·.getD (Dt.lst [])) q).trans ?_
  rw [waysM_lk]
  show (Option.map _ (if _ then _ else _)).getD _ = _
  split
  · rename_i h; rw [h]; rfl
  · rfl
def sp_Strip_behind (K : PySem.W.Frag) : Sp := Fs K (fun a : Rl × Nat × Nat × (Tx × Tx) × Tx => [zD K a.1 a.2.1 a.2.2.1, stD a.2.2.2.1, .str a.2.2.2.2]) (fun a => Zok a.1 a.2.1 a.2.2.1 ∧ a.2.2.2.1 ∈ statesM (lettersM a.1 a.2.2.1)) (fun a d => d = .lst ((behindM a.1 a.2.1 (lettersM a.1 a.2.2.1) a.2.2.2.1 a.2.2.2.2).map stD))
abbrev N_Strip_behind : List Str := ["self", "state", "column", "three"]
theorem sc_Strip_behind : FnScope N_Strip_behind ["self", "state", "column"] (defScope s_Strip_behind) := ⟨rfl, rfl, rfl, by decide +kernel, rfl, by decide +kernel, by decide +kernel⟩
theorem ok_Strip_behind {P : Program} {w : World} {K : PySem.W.Frag} {mg : Str → Option Value} {base : Heap} (T : Tp K mg) : Okm P w K mg base 1 (cS K) "behind" ["self", "state", "column"] (sp_Strip_behind K) := by
  obtain ⟨fd, F⟩ := T.fn 12 d_Strip_behind rfl
  refine ⟨_, fd, ?_, T.mS "behind" (by decide +kernel), FunD.bindsN F fun _ _ _ _ _ _ us hl => match us, hl with | [_, _, _], _ => rfl⟩
  refine FunD.ok F sc_Strip_behind (fun vs H Q E h => Fn.len (E := E) h) (fun cdv A outer s H vs Q E hr h => ?_)
  refine ⟨_, PSs.nox (pss_one (ps_ret (pe_lc (own := [("three", 3)]) rfl sc_Strip_behind.nd (pi_listK (K := K) (pe_dget2 (hu_of hr) (pe_dget (hu_of hr) (pe_fldK (K := K) (pv 0) rfl) (pv 1) (fun _ _ => rfl)) (pv 2) (pe_lst pa_nil) ⟨by rfl, by rfl, by rfl, by rfl⟩)) (blkOk_by (N := N_Strip_behind) (own := [("three", 3)]) (by kernel_rfl)) (fun _ _ _ _ _ => (pg_name (i := 3) sc_Strip_behind.nd rfl (Or.inl rfl))) (fun _ _ _ _ _ => pts_nil) (fun _ _ _ _ _ => (pe_tup (pa_cons (pe_ix (ix_tupK (K := K)) (pv 1) pe_int (fun _ _ => rfl)) (pa_cons (pv 3) pa_nil))))))), ?_⟩
  refine bodyS (E := E) h fun ⟨r, edge, n, s, co⟩ σ G hp c D kr kn => ?_
  obtain ⟨z, hs⟩ : Zok r edge n ∧ s ∈ statesM (lettersM r n) := hp
  have hf : ((lettersM r n).filter fun t => decide (r.mid edge s.1 s.2 t = co)).length ≤ 8 := by
    have := List.length_filter_le (fun t => decide (r.mid edge s.1 s.2 t = co)) (lettersM r n)
    have := z.len
    have := z.few
    omega
  refine c_ret c (ev_mapA (l := (lettersM r n).filter fun t => decide (r.mid edge s.1 s.2 t = co)) (enc := .str) (fun t => stD (s.2, t)) (sv_list ((ev_dget2K (k := .inr (tx co)) (ev_dgetT (q := s) (ev_fld (ev_var rfl) T.clS (T.nS _ (by decide +kernel)) rfl) (ev_var rfl) (lk_mapT hs)) ((ev_var rfl).to (by show Dt.str co = .str (tx co).cps.toList; rw [tx_list])) (ev_lst ea_nil (by decide))).to (ways_get r edge (lettersM r n) s co))) (by omega) fun t ht => ⟨_, [3], by decide, tg_name, ev_tup (ea_cons (ev_op (ev_var rfl) ev_int (rg_ixT (j := 1) rfl)) (ea_cons (ev_var rfl) ea_nil)) (show 2 ≤ 100000 by decide)⟩) fun v d G' H' e c' g r' => kr _ _ _ _ _ _ r' ?_ c'
  show d = .lst ((behindM r edge (lettersM r n) s co).map stD)
  rw [e, behindM, List.map_map]
  rfl
end K70
namespace K70
open PySem PySem.Spec PyProof.Rows L2
/-! ### picked -/
/-- a table of states and counts -/
abbrev Tab := List ((Tx × Tx) × Nat)
def tabD (t : Tab) : Dt := .dT (t.map fun q => (kT q.1, .int (q.2 : Nat)))
def getT (t : Tab) (s : Tx × Tx) : Nat := (lk t s).getD 0
theorem lk_mapK {β γ : Type} {f : β → γ} {s : Tx × Tx} : ∀ {l : List ((Tx × Tx) × β)}, lk (l.map fun q => (kT q.1, f q.2)) (kT s) = (lk l s).map f
  | [] => rfl
  | (a, b) :: l => by
    rw [List.map_cons]
    by_cases e : a = s
    · subst e; rw [lk_pos, lk_pos]; rfl
    · rw [lk_neg (fun z => e (kT_inj z)), lk_neg e, lk_mapK]
theorem getT_D (t : Tab) (s : Tx × Tx) : (lk (t.map fun q => (kT q.1, Dt.int (q.2 : Nat))) (kT s)).getD (.int 0) = .int (getT t s : Nat) := by
  have q := lk_mapK (f := fun x : Nat => Dt.int (x : Nat)) (s := s) (l := t)
  refine (congrArg (·.getD (Dt.int 0)) q).trans ?_
  unfold getT
  cases lk t s with
  | none => rfl
  | some x => rfl
/-- the state of that number, and what is left -/
def pickM (g : Tx × Tx → Nat) : List (Tx × Tx) → Nat → (Tx × Tx) × Nat
  | [], n => (([], []), n)
  | s :: l, n => if n < g s then (s, n) else pickM g l (n - g s)
theorem pick_step {g : Tx × Tx → Nat} {l : List (Tx × Tx)} {i n : Nat} {s : Tx × Tx} (h : l[i]? = some s) : pickM g (l.drop i) n = if n < g s then (s, n) else pickM g (l.drop (i + 1)) (n - g s) := by
  have hi := (List.getElem?_eq_some_iff.mp h).1
  rw [List.drop_eq_getElem_cons hi]
  have e : l[i] = s := by
    have := List.getElem?_eq_getElem hi
    rw [h] at this
    exact (Option.some.inj this).symm
  rw [e]
  rfl
theorem sum_take_succ {g : Tx × Tx → Nat} {l : List (Tx × Tx)} {i : Nat} {s : Tx × Tx} (h : l[i]? = some s) : ((l.take (i + 1)).map g).sum = ((l.take i).map g).sum + g s := by
  rw [map_take_succ h, List.sum_append]
  simp
def sp_picked (K : PySem.W.Frag) : Sp := Fs K (fun a : List (Tx × Tx) × Tab × Nat => [.lst (a.1.map stD), tabD a.2.1, .int (a.2.2 : Nat)]) (fun a => a.2.2 < (a.1.map (getT a.2.1)).sum) (fun a d => d = .tup [stD (pickM (getT a.2.1) a.1 a.2.2).1, .int ((pickM (getT a.2.1) a.1 a.2.2).2 : Nat)])
abbrev N_picked : List Str := ["some", "table", "number", "state", "many"]
theorem sc_picked : FnScope N_picked ["some", "table", "number"] (defScope s_picked) := ⟨rfl, rfl, rfl, by decide +kernel, rfl, by decide +kernel, by decide +kernel⟩
theorem ok_picked {P : Program} {w : World} {K : PySem.W.Frag} {mg : Str → Option Value} {base : Heap} (T : Tp K mg) : Okd P w K mg base 1 "picked" ["some", "table", "number"] (sp_picked K) := by
  obtain ⟨fd, F⟩ := T.fn 20 d_picked rfl
  refine ⟨_, fd, ?_, T.gl "picked" (by decide +kernel), F.kp, FunD.bindsN F fun _ _ _ _ _ _ us hl => match us, hl with | [_, _, _], _ => rfl⟩
  refine FunD.ok F sc_picked (fun vs H Q E h => Fn.len (E := E) h) (fun cdv A outer s H vs Q E hr h => ?_)
  refine ⟨_, PSs.nox (pss_cons (ps_for PassesOwn.never rfl (pi_listK (K := K) (pv 0)) (pg_name (i := 3) sc_picked.nd rfl (Or.inl rfl))
      (pss_cons (ps_set (i := 4) sc_picked.nd rfl (Or.inl rfl) (pe_dget2 (hu_of hr) (pv 1) (pv 3) pe_int ⟨by rfl, by rfl, by rfl, by rfl⟩))
      (pss_cons (ps_if (pt_cmpR op_lt (pv 2) (pv 4) (nomark _)) (pss_one (ps_ret (pe_tup (pa_cons (pv 3) (pa_cons (pv 2) pa_nil))))) pss_nil)
      (pss_one (ps_aug (i := 2) sc_picked.nd rfl (Or.inl rfl) (pv 4) ip_sub)))))
    (pss_one (ps_ret (pe_tup (pa_cons (pe_ix (ix_listK (K := K)) (pv 0) (pe_un un_neg pe_int) (fun _ _ => rfl)) (pa_cons (pv 2) pa_nil)))))), ?_⟩
  refine bodyS (E := E) h fun ⟨l, t, n⟩ σ G hp c D kr kn => ?_
  have hn : n < (l.map (getT t)).sum := hp
  refine q_forA (l := l) (enc := stD) c (sv_list (ev_var rfl)) (fun i => [some (.lst (l.map stD)), some (tabD t), some (.int ((n - ((l.take i).map (getT t)).sum : Nat) : Nat)), none, none]) (fun i => ((l.take i).map (getT t)).sum ≤ n ∧ pickM (getT t) l n = pickM (getT t) (l.drop i) (n - ((l.take i).map (getT t)).sum)) rfl ⟨Nat.zero_le _, rfl⟩ (fun i s hs => tg_name) (fun G1 H1 g1 i s σ' G' H' D' hs hF c1 hrt kn' => ?_) fun hF σ' G' H' c1 => ?_
  · obtain ⟨f1, f2⟩ := hF
    rw [pick_step hs] at f2
    refine q_setV c1 ((ev_dget2T (q := s) (ev_var rfl) (ev_var rfl) ev_int).to (getT_D t s)) fun σ2 G2 H2 c2 g2 => ?_
    refine q_when c2 (et_test (ev_op (ev_var rfl) (ev_var rfl) rg_lt)) (fun b G3 H3 c3 g3 => ?_) (fun b G3 H3 c3 g3 => ?_)
    · have b2 : n - ((l.take i).map (getT t)).sum < getT t s := by
        have := of_decide_eq_true b.symm
        omega
      rw [if_pos b2] at f2
      refine c_ret c3 (ev_tup (ea_cons (ev_var rfl) (ea_cons (ev_var rfl) ea_nil)) (show 2 ≤ 100000 by decide)) fun v d G4 H4 e c4 g4 r4 => ?_
      rw [hrt]
      refine kr _ _ _ _ _ _ r4 ?_ (c4.base g1)
      show d = .tup [stD (pickM (getT t) l n).1, .int ((pickM (getT t) l n).2 : Nat)]
      rw [f2]; exact e
    · have b2 : ¬ n - ((l.take i).map (getT t)).sum < getT t s := by
        have := of_decide_eq_false b.symm
        omega
      rw [if_neg b2] at f2
      refine c_aug c3 rfl (ev_var rfl) (fun b e => by rw [e]; exact rg_sub) fun d σ4 G4 H4 e c4 g4 => ?_
      refine kn' ?_ _ _ _ ((((c4.lose 3).lose 4)).to ?_)
      · rw [sum_take_succ hs]
        refine ⟨by omega, ?_⟩
        rw [f2, Nat.sub_sub]
      · rw [e, sum_take_succ hs]
        have e3 : (((n - ((l.take i).map (getT t)).sum : Nat) : Nat) : Int) - (getT t s : Nat) = ((n - (((l.take i).map (getT t)).sum + getT t s) : Nat) : Nat) := by omega
        rw [e3]; rfl
  · have := hF.1
    rw [List.take_length] at this
    omega
/-! ### counts_on -/
theorem wordsM_nodup {l : Tx} (h : l.Nodup) : ∀ n, (wordsM l n).Nodup
  | 0 => List.pairwise_singleton _ _
  | n + 1 => by
    show (List.flatMap _ _).Nodup
    have ih := wordsM_nodup h n
    generalize wordsM l n = ws at ih
    have gen : ∀ ws : List Tx, ws.Nodup → (ws.flatMap fun w => l.map fun c => w ++ [c]).Nodup := by
      intro ws
      induction ws with
      | nil => intro _; exact List.nodup_nil
      | cons w r ih =>
        intro hw
        obtain ⟨h1, h2⟩ := List.nodup_cons.mp hw
        rw [List.flatMap_cons, List.nodup_append]
        refine ⟨?_, ih h2, fun x hx y hy e => ?_⟩
        · unfold List.Nodup
          rw [List.pairwise_map]
          exact h.imp fun {a b} hab e => hab (by
            have := List.append_inj_right e rfl
            simpa using this)
        · subst e
          obtain ⟨c, _, rfl⟩ := List.mem_map.mp hx
          obtain ⟨v, hv, h3⟩ := List.mem_flatMap.mp hy
          obtain ⟨d, _, e⟩ := List.mem_map.mp h3
          have := (List.append_inj' e rfl).1
          exact h1 (this ▸ hv)
    exact gen ws ih
theorem statesM_nodup {L : List Tx} (h : L.Nodup) : (statesM L).Nodup := by
  unfold statesM
  have gen : ∀ ws : List Tx, ws.Nodup → (ws.flatMap fun a => L.map fun b => (a, b)).Nodup := by
    intro ws
    induction ws with
    | nil => intro _; exact List.nodup_nil
    | cons w r ih =>
      intro hw
      obtain ⟨h1, h2⟩ := List.nodup_cons.mp hw
      rw [List.flatMap_cons, List.nodup_append]
      refine ⟨?_, ih h2, fun x hx y hy e => ?_⟩
      · unfold List.Nodup
        rw [List.pairwise_map]
        exact h.imp fun {a b} hab e => hab (congrArg Prod.snd e)
      · subst e
        obtain ⟨c, _, rfl⟩ := List.mem_map.mp hx
        obtain ⟨v, hv, h3⟩ := List.mem_flatMap.mp hy
        obtain ⟨d, _, e⟩ := List.mem_map.mp h3
        have q : v = w := congrArg Prod.fst e
        rw [q] at hv
        exact h1 hv
  exact gen L h
theorem sg_nodup : sg.Nodup := by decide +kernel
theorem signs_nodup (r : Rl) : r.signs.Nodup := List.Nodup.sublist (List.take_sublist _ _) sg_nodup
theorem states_nodup (r : Rl) (n : Nat) : (statesM (lettersM r n)).Nodup := statesM_nodup (wordsM_nodup (signs_nodup r) n)
/-- the table one column before -/
def nextOne (r : Rl) (edge : Nat) (L : List Tx) (t : Tab) (c : Tx) (s : Tx × Tx) : Nat := ((behindM r edge L s c).map (getT t)).sum
def nextT (r : Rl) (edge : Nat) (L : List Tx) (t : Tab) (c : Tx) (l : List (Tx × Tx)) : Tab := l.filterMap fun s => if 0 < nextOne r edge L t c s then some (s, nextOne r edge L t c s) else none
def headTab (l : List Tab) : Tab := l.headD []
def countsM (r : Rl) (edge : Nat) (L : List Tx) (last : Tab) : List Tx → List Tab
  | [] => [last]
  | c :: cs => nextT r edge L (headTab (countsM r edge L last cs)) c (statesM L) :: countsM r edge L last cs
theorem countsM_len (r : Rl) (edge : Nat) (L : List Tx) (last : Tab) : ∀ cs, (countsM r edge L last cs).length = cs.length + 1
  | [] => rfl
  | c :: cs => by
    show (countsM r edge L last cs).length + 1 = _
    rw [countsM_len r edge L last cs]; rfl
theorem nextT_succ {r : Rl} {edge : Nat} {L : List Tx} {t : Tab} {c : Tx} {l : List (Tx × Tx)} {i : Nat} {s : Tx × Tx} (h : l[i]? = some s) : nextT r edge L t c (l.take (i + 1)) = nextT r edge L t c (l.take i) ++ (if 0 < nextOne r edge L t c s then [(s, nextOne r edge L t c s)] else []) := by
  unfold nextT
  rw [List.take_add_one, h, List.filterMap_append]
  congr 1
  show List.filterMap _ [s] = _
  by_cases q : 0 < nextOne r edge L t c s
  · rw [if_pos q, List.filterMap_cons, if_pos q]; rfl
  · rw [if_neg q, List.filterMap_cons, if_neg q]; rfl
theorem nextT_mem {r : Rl} {edge : Nat} {L : List Tx} {t : Tab} {c : Tx} {l : List (Tx × Tx)} {q : (Tx × Tx) × Nat} (h : q ∈ nextT r edge L t c l) : q.1 ∈ l := by
  obtain ⟨s, hs, e⟩ := List.mem_filterMap.mp h
  split at e
  · cases e; exact hs
  · cases e
theorem nextT_len (r : Rl) (edge : Nat) (L : List Tx) (t : Tab) (c : Tx) (l : List (Tx × Tx)) : (nextT r edge L t c l).length ≤ l.length := List.length_filterMap_le _ _
theorem take_not_mem {α : Type} {l : List α} (h : l.Nodup) {i : Nat} {s : α} (hs : l[i]? = some s) : s ∉ l.take i := fun z => by
  obtain ⟨j, hj⟩ := List.mem_iff_getElem?.mp z
  have hj2 : j < i := by
    have := (List.getElem?_eq_some_iff.mp hj).1
    rw [List.length_take] at this; omega
  rw [List.getElem?_take, if_pos hj2] at hj
  have := (List.getElem?_inj (List.getElem?_eq_some_iff.mp hj).1 h).mp (hj.trans hs.symm)
  omega
theorem nat_sum (l : List Nat) : (l.map fun (n : Nat) => (n : Int)).sum = (l.sum : Nat) := by
  induction l with
  | nil => rfl
  | cons a l ih => rw [List.map_cons, List.sum_cons, ih, List.sum_cons]; omega
abbrev tabL (t : Tab) : List (List Key × Dt) := t.map fun q => (kT q.1, .int (q.2 : Nat))
def sp_counts_on (K : PySem.W.Frag) : Sp := Fs K (fun a : Rl × Nat × Nat × List Tx × Tab => [zD K a.1 a.2.1 a.2.2.1, .lst (txs a.2.2.2.1), tabD a.2.2.2.2]) (fun a => Zok a.1 a.2.1 a.2.2.1 ∧ a.2.2.2.1.length ≤ 1000) (fun a d => d = .lst ((countsM a.1 a.2.1 (lettersM a.1 a.2.2.1) a.2.2.2.2 a.2.2.2.1).map tabD))
abbrev N_counts_on : List Str := ["strip", "columns", "last", "tables", "column", "later", "now", "state", "many", "other"]
theorem sc_counts_on : FnScope N_counts_on ["strip", "columns", "last"] (defScope s_counts_on) := ⟨rfl, rfl, rfl, by decide +kernel, rfl, by decide +kernel, by decide +kernel⟩
theorem ok_counts_on {P : Program} {w : World} {K : PySem.W.Frag} {mg : Str → Option Value} {base : Heap} (T : Tp K mg)
    (o_Strip_behind : Okm P w K mg base 1 (cS K) "behind" ["self", "state", "column"] (sp_Strip_behind K)) : Okd P w K mg base 2 "counts_on" ["strip", "columns", "last"] (sp_counts_on K) := by
  obtain ⟨f_Strip_behind, fd_Strip_behind, F_Strip_behind, M_Strip_behind, b_Strip_behind⟩ := o_Strip_behind
  obtain ⟨fd, F⟩ := T.fn 18 d_counts_on rfl
  refine ⟨_, fd, ?_, T.gl "counts_on" (by decide +kernel), F.kp, FunD.bindsN F fun _ _ _ _ _ _ us hl => match us, hl with | [_, _, _], _ => rfl⟩
  refine FunD.ok F sc_counts_on (fun vs H Q E h => Fn.len (E := E) h) (fun cdv A outer s H vs Q E hr h => ?_)
  refine ⟨_, PSs.nox (pss_cons (ps_set (i := 3) sc_counts_on.nd rfl (Or.inl rfl) (pe_lst (pa_cons (pv 2) pa_nil)))
    (pss_cons (ps_for PassesOwn.never rfl (pi_listK (K := K) (pe_revLK (K := K) (pv 1))) (pg_name (i := 4) sc_counts_on.nd rfl (Or.inl rfl))
      (pss_cons (ps_set (i := 5) sc_counts_on.nd rfl (Or.inr rfl) (pe_ix (ix_listK (K := K)) (pv 3) (pe_un un_neg pe_int) (fun _ _ => rfl)))
      (pss_cons (ps_set (i := 6) sc_counts_on.nd rfl (Or.inl rfl) pe_dnewT)
      (pss_cons (ps_for PassesOwn.never rfl (pi_listK (K := K) (pe_fldK (K := K) (pv 0) rfl)) (pg_name (i := 7) sc_counts_on.nd rfl (Or.inl rfl))
        (pss_cons (ps_set (i := 8) sc_counts_on.nd rfl (Or.inl rfl) (pe_callB (cr_sumK (K := K) rfl) (by rfl) T.sum (by decide +kernel) (pa_cons (pe_lc (own := [("other", 9)]) rfl sc_counts_on.nd (pi_listK (K := K) (pe_meth (pv 0) T.clS M_Strip_behind F_Strip_behind (hr.mono (by decide)) b_Strip_behind .nil pass0 (pa_cons (pv 7) (pa_cons (pv 4) pa_nil)))) (blkOk_by (N := N_counts_on) (own := [("other", 9)]) (by kernel_rfl)) (fun _ _ _ _ _ => (pg_name (i := 9) sc_counts_on.nd rfl (Or.inl rfl))) (fun _ _ _ _ _ => pts_nil) (fun _ _ _ _ _ => (pe_dget2 (hu_of hr) (pv 5) (pv 9) pe_int ⟨by rfl, by rfl, by rfl, by rfl⟩))) pa_nil)))
        (pss_one (ps_if (pt_cmpR op_gt (pv 8) pe_int (nomark _)) (pss_one (ps_dput (hu_of hr) (pv 6) (pv 7) (pv 8) rfl)) pss_nil))))
      (pss_one (ps_expr (pe_bmK (K := K) PySem.F.plainAttrs_list PySem.F.slot_list_append PySem.F.type_list_append mt_append (pv 3) (pa_cons (pv 6) pa_nil))))))))
    (pss_one (ps_ret (pe_revLK (K := K) (pv 3)))))), ?_⟩
  refine bodyS (E := E) h fun ⟨r, edge, n, cols, last⟩ σ G hp c D kr kn => ?_
  obtain ⟨z, hc⟩ : Zok r edge n ∧ cols.length ≤ 1000 := hp
  have hst := z.states
  refine q_lstH c (ea_cons (ev_var rfl) ea_nil) (show 1 ≤ 100000 by decide) fun p σ1 G1 H1 hp n1 a1 c1 g1 => ?_
  refine q_forL (l := cols.reverse) (enc := .str) c1 a1 n1 (sv_list ((ev_revL (ev_var rfl)).to (by rw [txs, List.map_reverse]))) (fun _ => [some (zD K r edge n), some (.lst (txs cols)), some (tabD last), some (.raw (.ref p)), none, none, none, none, none, none]) (fun i b => b = ((countsM r edge (lettersM r n) last (cols.drop (cols.length - i))).reverse).map tabD) rfl (by
    show [tabD last] = _
    rw [Nat.sub_zero, List.drop_length]; rfl) (fun i co ha => tg_name) (fun i co b σ' G' H' D' ha hb s c3 a3 hrt kn' => ?_) fun b σ' G' H' hb s c3 a3 => ?_
  · have hi : i < cols.length := by
      have := (List.getElem?_eq_some_iff.mp ha).1
      rwa [List.length_reverse] at this
    have hco : cols[cols.length - 1 - i]? = some co := by rw [← List.getElem?_reverse hi]; exact ha
    have hdrop : cols.drop (cols.length - (i + 1)) = co :: cols.drop (cols.length - i) := by
      have hlt := (List.getElem?_eq_some_iff.mp hco).1
      have e1 : cols.length - (i + 1) = cols.length - 1 - i := by omega
      rw [e1, List.drop_eq_getElem_cons hlt]
      have e2 : cols[cols.length - 1 - i] = co := by
        have := List.getElem?_eq_getElem hlt
        rw [hco] at this
        exact (Option.some.inj this).symm
      rw [e2]
      congr 2
      omega
    generalize hT : countsM r edge (lettersM r n) last (cols.drop (cols.length - i)) = Ts at hb
    have hTl : Ts.length = i + 1 := by
      rw [← hT, countsM_len, List.length_drop]; omega
    have hbl : b[b.length - 1]? = some (tabD (headTab Ts)) := by
      rw [hb]
      cases Ts with
      | nil => simp at hTl
      | cons t0 Ts => simp [headTab]
    refine q_asgL c3 a3 (fun vs _ => ev_lastAcc rfl hbl (ev_un ev_int ug_neg)) fun d σ4 G4 H4 e c4 s4 a4 => ?_
    subst e
    refine q_newT c4 fun p2 σ5 H5 hf5 hp5 n5 a5 c5 e5 => ?_
    have npp : p ≠ p2 := fun w => by
      obtain ⟨vs, hv, _⟩ := a4.at_
      rw [w, hf5] at hv; cases hv
    have a4' : Acc K G4 H5 p b := by rw [e5]; exact a4.other npp
    refine q_forX (l := statesM (lettersM r n)) (enc := stD) (fun G H t => Acc K G H p b ∧ AccT K G H p2 t) (fun a g => ⟨a.1.grow g (fun z => z), a.2.grow g (fun z => z)⟩) c5 (sv_list (ev_fld (ev_var rfl) T.clS (T.nS _ (by decide +kernel)) rfl)) (x0 := []) (fun G1 H1 g => ⟨a4'.grow g (fun z => z), a5.grow g (fun z => z)⟩) (fun _ => [some (zD K r edge n), some (.lst (txs cols)), some (tabD last), some (.raw (.ref p)), some (.str co), some (tabD (headTab Ts)), some (.raw (.ref p2)), none, none, none]) (fun j t => t = tabL (nextT r edge (lettersM r n) (headTab Ts) co ((statesM (lettersM r n)).take j))) rfl rfl (fun j st hj => tg_name) (fun j st t σ6 G6 H6 D6 hj ht s6 c6 a6 hrt6 kn6 => ?_) fun t σ6 G6 H6 ht s6 c6 a6 => ?_
    · have hbe : (behindM r edge (lettersM r n) st co).length ≤ 100000 := by
        unfold behindM
        rw [List.length_map]
        have := List.length_filter_le (fun t => decide (r.mid edge st.1 st.2 t = co)) (lettersM r n)
        have := z.len
        have := z.few
        omega
      refine q_setV (d := .int (nextOne r edge (lettersM r n) (headTab Ts) co st : Nat)) c6 ((ev_cb1 ((ev_mapA (l := behindM r edge (lettersM r n) st co) (enc := stD) (fun o => .int (getT (headTab Ts) o : Nat)) (sv_list (ev_meth (r, edge, n, st, co) (ev_var rfl) (ea_cons (ev_var rfl) (ea_cons (ev_var rfl) ea_nil)) (by rfl) rfl ⟨z, List.mem_of_getElem? hj⟩)) hbe fun o ho => ⟨_, [9], by decide, tg_name, (ev_dget2T (q := o) (ev_var rfl) (ev_var rfl) ev_int).to (getT_D _ _)⟩).to (e := .lst (intsD (((behindM r edge (lettersM r n) st co).map (getT (headTab Ts))).map fun (n : Nat) => (n : Int)))) ?_) cg_sum).to ?_) fun σ7 G7 H7 c7 g7 => ?_
      · unfold intsD
        rw [List.map_map, List.map_map]; rfl
      · rw [nat_sum]; rfl
      · have a7 : Acc K G7 H7 p b ∧ AccT K G7 H7 p2 t := ⟨a6.1.grow g7 (fun z => z), a6.2.grow g7 (fun z => z)⟩
        have hsucc := nextT_succ (r := r) (edge := edge) (L := lettersM r n) (t := headTab Ts) (c := co) hj
        refine c_if c7 (et_test (ev_op (ev_var rfl) ev_int rg_gt)) (fun bb G8 H8 c8 g8 => ?_) (fun bb G8 H8 c8 g8 => ?_)
        · have a8 : Acc K G8 H8 p b ∧ AccT K G8 H8 p2 t := ⟨a7.1.grow g8 (fun z => z), a7.2.grow g8 (fun z => z)⟩
          have pos : 0 < nextOne r edge (lettersM r n) (headTab Ts) co st := by
            have := of_decide_eq_true bb.symm
            omega
          have tl : t.length < 100000 := by
            rw [ht, List.length_map]
            have := nextT_len r edge (lettersM r n) (headTab Ts) co ((statesM (lettersM r n)).take j)
            rw [List.length_take] at this
            omega
          refine c_putT (q := st) c8 rfl a8.2 hp5 n5 tl (ev_var rfl) (ev_var rfl) fun d G9 H9 H10 e9 g9 c9 a9 o9 => ?_
          obtain ⟨o, rfl⟩ := o9
          refine kn6 _ _ _ _ ?_ ((g7.g.trans g8.g).trans g9.g) ((((c9.lose 7).lose 8)).to rfl) ⟨(a8.1.grow g9 (fun z => z)).other npp, a9⟩
          rw [hsucc, if_pos pos, ht, e9, putD_new]
          · unfold tabL
            rw [List.map_append]; rfl
          · intro q hq
            obtain ⟨q0, hq0, rfl⟩ := List.mem_map.mp hq
            intro w
            exact take_not_mem (states_nodup r n) hj (kT_inj w ▸ nextT_mem hq0)
        · have npos : ¬ 0 < nextOne r edge (lettersM r n) (headTab Ts) co st := by
            have := of_decide_eq_false bb.symm
            omega
          refine kn6 _ _ _ _ ?_ (g7.g.trans g8.g) ((((c8.lose 7).lose 8)).to rfl) ⟨a7.1.grow g8 (fun z => z), a7.2.grow g8 (fun z => z)⟩
          rw [hsucc, if_neg npos, List.append_nil]; exact ht
    · rw [List.take_length] at ht
      obtain ⟨G8, s8, c8, o8⟩ := c6.doneT (i := 6) rfl a6.2 hp5 n5
      have a8 : Acc K G8 H6 p b := by
        obtain ⟨vs, hv, rv⟩ := a6.1.at_
        exact ⟨by rw [o8 p npp]; exact a6.1.out, vs, hv, rv.mono s8⟩
      have bl : b.length < 100000 := by rw [hb, List.length_map, List.length_reverse, hTl]; omega
      refine c_app c8 rfl a8 hp n1 bl (ev_var rfl) fun d G9 H9 H10 e9 g9 c9 a9 o9 => ?_
      refine kn' _ _ _ _ ?_ (((s4.trans s6).trans s8).trans g9.g) ((((c9.lose 4).lose 5).lose 6).to rfl) a9
      rw [hdrop]
      show b ++ [d] = ((nextT r edge (lettersM r n) (headTab (countsM r edge (lettersM r n) last (cols.drop (cols.length - i)))) co (statesM (lettersM r n)) :: countsM r edge (lettersM r n) last (cols.drop (cols.length - i))).reverse).map tabD
      rw [hT, List.reverse_cons, List.map_append, ← hb, e9, ht]
      rfl
  · rw [List.length_reverse, Nat.sub_self, List.drop_zero] at hb
    obtain ⟨G7, s7, c7, _⟩ := c3.done (i := 3) rfl a3 hp n1
    refine c_ret c7 (ev_revL (ev_var rfl)) fun v d G8 H8 e c8 g8 r8 => kr _ _ _ _ _ _ r8 ?_ c8
    show d = _
    rw [e, hb, ← List.map_reverse, List.reverse_reverse]
end K70
namespace K70
open PySem PySem.Spec PyProof.Rows L2
/-! ### Strip.__init__ -/
theorem noIns_txs : ∀ l : List Tx, noInss (txs l) = true
  | [] => rfl
  | _ :: l => noIns_txs l
theorem noIns_sts : ∀ l : List (Tx × Tx), noInss (l.map stD) = true
  | [] => rfl
  | _ :: l => noIns_sts l
theorem noIns_grp : ∀ l : List (Key × List Tx), noInsK (l.map fun g => (g.1, Dt.lst (txs g.2))) = true
  | [] => rfl
  | g :: l => by
    show (noInss (txs g.2) && noInsK (l.map fun g => (g.1, Dt.lst (txs g.2)))) = true
    rw [noIns_txs, noIns_grp]; rfl
theorem noIns_ways (r : Rl) (edge : Nat) (L : List Tx) : ∀ l : List (Tx × Tx), noInsT (l.map fun s => (kT s, waysD r edge L s)) = true
  | [] => rfl
  | s :: l => by
    show (noInsK ((waysM (r.mid edge s.1 s.2) L).map fun g => (g.1, Dt.lst (txs g.2))) && noInsT (l.map fun s => (kT s, waysD r edge L s))) = true
    rw [noIns_grp, noIns_ways]; rfl
def pairD : Dt → Dt → Dt := fun a b => .tup [a, b]
theorem states_pairs (L : List Tx) : ∀ k : List Tx, ((txs k).flatMap fun d => (txs L).map (pairD d)) = (k.flatMap fun a => L.map fun b => (a, b)).map stD
  | [] => rfl
  | a :: k => by
    have h := states_pairs L k
    unfold txs at h ⊢
    rw [List.map_cons, List.flatMap_cons, h, List.flatMap_cons, List.map_append, List.map_map, List.map_map]
    rfl
abbrev zf4 (K : PySem.W.Frag) (r : Rl) (edge n : Nat) : List (Str × Dt) := [("ruled", rlD (cR K) r), ("brim", .str [edge]), ("offs", .lst (r.near.map offD)), ("letters", .lst (txs (lettersM r n)))]
abbrev zf5 (K : PySem.W.Frag) (r : Rl) (edge n : Nat) : List (Str × Dt) := [("ruled", rlD (cR K) r), ("brim", .str [edge]), ("offs", .lst (r.near.map offD)), ("letters", .lst (txs (lettersM r n))), ("states", .lst ((statesM (lettersM r n)).map stD))]
theorem zf5_p (K : PySem.W.Frag) (r : Rl) (edge n : Nat) : Zp K (zf5 K r edge n) r edge := ⟨rfl, rfl, rfl, fun m hm => by
  simp only [methsS, List.mem_cons, List.not_mem_nil, or_false] at hm
  rcases hm with e | e | e | e | e | e <;> rw [e] <;> rfl⟩
def sp_Strip_init (K : PySem.W.Frag) : Sp := Ini K (cS K) (fun a : Rl × Nat × Nat => [rlD (cR K) a.1, .str [a.2.1], .int (a.2.2 : Nat)]) (fun a => Zok a.1 a.2.1 a.2.2) (fun a => zfD K a.1 a.2.1 a.2.2)
abbrev N_Strip_init : List Str := ["self", "rule", "edge", "high", "place", "one", "two", "state"]
theorem sc_Strip_init : FnScope N_Strip_init ["self", "rule", "edge", "high"] (defScope s_Strip_init) := ⟨rfl, rfl, rfl, by decide +kernel, rfl, by decide +kernel, by decide +kernel⟩
theorem ok_Strip_init {P : Program} {w : World} {K : PySem.W.Frag} {mg : Str → Option Value} {base : Heap} (T : Tp K mg)
    (o_Rule_near : Okm P w K mg base 1 (cR K) "near" ["self"] (sp_Rule_near K))
    (o_words_of : Okd P w K mg base 1 "words_of" ["letters", "size"] (sp_words_of K))
    (o_Rule_signs : Okm P w K mg base 1 (cR K) "signs" ["self"] (sp_Rule_signs K))
    (o_Strip_ways_of : Okm P w K mg base 4 (cS K) "ways_of" ["self", "state"] (sp_Strip_ways_of K)) (O : OffsOk K w) : Okc P w K mg base 5 (cS K) "Strip" ["self", "rule", "edge", "high"] (sp_Strip_init K) := by
  obtain ⟨f_Rule_near, fd_Rule_near, F_Rule_near, M_Rule_near, b_Rule_near⟩ := o_Rule_near
  obtain ⟨f_words_of, fd_words_of, F_words_of, g_words_of, k_words_of, b_words_of⟩ := o_words_of
  obtain ⟨f_Rule_signs, fd_Rule_signs, F_Rule_signs, M_Rule_signs, b_Rule_signs⟩ := o_Rule_signs
  obtain ⟨f_Strip_ways_of, fd_Strip_ways_of, F_Strip_ways_of, M_Strip_ways_of, b_Strip_ways_of⟩ := o_Strip_ways_of
  obtain ⟨fd, F⟩ := T.fn 8 d_Strip_init rfl
  refine ⟨_, fd, ?_, T.kS, T.gl "Strip" (by decide +kernel), FunD.bindsN F fun _ _ _ _ _ _ us hl => match us, hl with | [_, _, _, _], _ => rfl⟩
  refine FunD.ok F sc_Strip_init (fun vs H Q E h => Ini.len (E := E) h) (fun cdv A outer s H vs Q E hr h => ?_)
  refine ⟨_, PSs.nox (pss_cons (ps_fld (pv 0) (pv 1) rfl)
    (pss_cons (ps_fld (pv 0) (pv 2) rfl)
    (pss_cons (ps_fld (pv 0) (pe_lc (own := [("place", 4)]) rfl sc_Strip_init.nd (pi_tupK (K := K) (pe_meth0 (pv 1) T.clR M_Rule_near F_Rule_near (hr.mono (by decide)) b_Rule_near .nil pass0)) (blkOk_by (N := N_Strip_init) (own := [("place", 4)]) (by kernel_rfl)) (fun _ _ _ _ _ => (pg_name (i := 4) sc_Strip_init.nd rfl (Or.inl rfl))) (fun _ _ _ _ _ => pts_nil) (fun _ _ _ _ _ => (pe_ix (ix_kdictK (K := K) (w := w)) (pe_glob (v := .ref _) (by rfl) T.gOffs rfl) (pv 4) (fun _ _ => rfl)))) rfl)
    (pss_cons (ps_fld (pv 0) (pe_call F_words_of (hr.mono (by decide)) (by rfl) g_words_of k_words_of b_words_of .nil pass0 (pa_cons (pe_meth0 (pv 1) T.clR M_Rule_signs F_Rule_signs (hr.mono (by decide)) b_Rule_signs .nil pass0) (pa_cons (pv 3) pa_nil))) rfl)
    (pss_cons (ps_fld (pv 0) (pe_lc2 (own := [("one", 5), ("two", 6)]) (vs1 := [6]) rfl sc_Strip_init.nd (pi_listK (K := K) (pe_fldK (K := K) (pv 0) rfl)) (blkOk_by (N := N_Strip_init) (own := [("one", 5), ("two", 6)]) (by kernel_rfl)) (by decide) (fun _ _ _ _ _ => (pg_name (i := 5) sc_Strip_init.nd rfl (Or.inl rfl))) (fun _ _ _ _ _ => pts_nil) (fun _ _ _ _ _ => (pi_listK (K := K) (pe_fldK (K := K) (pv 0) rfl))) (fun _ _ _ _ _ => (pg_name (i := 6) sc_Strip_init.nd rfl (Or.inl rfl))) (fun _ _ _ _ _ => pts_nil) (fun _ _ _ _ _ => (pe_tup (pa_cons (pv 5) (pa_cons (pv 6) pa_nil))))) rfl)
    (pss_one (ps_fld (pv 0) (pe_dcT (own := [("state", 7)]) (Nat.lt_of_succ_lt (hu_of hr)) rfl sc_Strip_init.nd (pi_listK (K := K) (pe_fldK (K := K) (pv 0) rfl)) (blkOk_by (N := N_Strip_init) (own := [("state", 7)]) (by kernel_rfl)) (fun _ _ _ _ _ => (pg_name (i := 7) sc_Strip_init.nd rfl (Or.inl rfl))) (fun _ _ _ _ _ => pts_nil) (fun _ _ _ _ _ => (pv 7)) (fun _ _ _ _ _ => (pe_meth (pv 0) T.clS M_Strip_ways_of F_Strip_ways_of (hr.mono (by decide)) b_Strip_ways_of .nil pass0 (pa_cons (pv 7) pa_nil)))) rfl))))))), ?_⟩
  refine bodyI (E := E) h fun ⟨r, edge, n⟩ x dx σ G H0 H z hx c a0 D kn => ?_
  have z : Zok r edge n := z
  have z8 : (lettersM r n).length ≤ 8 := by rw [z.len]; exact z.few
  refine q_fldA c rfl a0 hx T.clS (T.nS _ (by decide +kernel)) (show 0 < 1000 by decide) (ev_var rfl) fun d G1 H1 e c1 a1 => ?_
  subst e
  refine q_fldA c1 rfl a1 hx T.clS (T.nS _ (by decide +kernel)) (show 1 < 1000 by decide) (ev_var rfl) fun d G2 H2 e c2 a2 => ?_
  subst e
  refine q_fldA c2 rfl a2 hx T.clS (T.nS _ (by decide +kernel)) (show 2 < 1000 by decide) (ev_mapA (l := r.near) (enc := .str) offD (sv_tupW (ev_tupN (ev_meth r (ev_var rfl) ea_nil (by rfl) rfl trivial))) (by have := z.ok.nearLen; omega) fun p hp => ⟨_, [4], by decide, tg_name, ev_offs O (z.ok.nearIn p hp) (ev_var rfl)⟩) fun d G3 H3 e c3 a3 => ?_
  subst e
  refine q_fldA c3 rfl a3 hx T.clS (T.nS _ (by decide +kernel)) (show 3 < 1000 by decide) (ev_call (r.signs, n) (ea_cons (ev_meth r (ev_var rfl) ea_nil (by rfl) rfl trivial) (ea_cons (ev_var rfl) ea_nil)) ⟨by rw [Rl.signs_len z.ok]; exact z.ok.hi, z.hi⟩) fun d G4 H4 e c4 a4 => ?_
  have e : d = .lst (txs (lettersM r n)) := e
  subst e
  have a4 : AccI K G4 H4 x (cS K) dx (zf4 K r edge n) := a4
  have hl64 : (txs (lettersM r n)).length * (txs (lettersM r n)).length ≤ 100000 := by
    rw [txs, List.length_map]
    exact Nat.le_trans (Nat.mul_le_mul z8 z8) (by decide)
  refine q_fldB c4 rfl a4 hx T.clS (T.nS _ (by decide +kernel)) (show 4 < 1000 by decide) ((ev_lc2 (ds := txs (lettersM r n)) (es := txs (lettersM r n)) pairD (sv_list (ev_fld (ev_var rfl) T.clS (T.nS _ (by decide +kernel)) rfl)) hl64 fun d hd => ⟨_, [5], by decide, tg_name, sv_list (ev_fld (ev_var rfl) T.clS (T.nS _ (by decide +kernel)) rfl), fun d2 hd2 => ⟨_, [6], by decide, tg_name, ev_tup (ea_cons (ev_var rfl) (ea_cons (ev_var rfl) ea_nil)) (show 2 ≤ 100000 by decide)⟩⟩).to (congrArg Dt.lst (states_pairs _ _))) (fun d e => by rw [e]; exact noIns_sts _) fun d G5 H5 e c5 a5 => ?_
  subst e
  have a5 : AccI K G5 H5 x (cS K) dx (zf5 K r edge n) := a5
  refine c_fldB c5 rfl a5 hx T.clS (T.nS _ (by decide +kernel)) (show 5 < 1000 by decide) (ev_dcT (l := statesM (lettersM r n)) (fun s => waysD r edge (lettersM r n) s) (sv_list (ev_fld (ev_var rfl) T.clS (T.nS _ (by decide +kernel)) rfl)) (Nat.le_trans z.states (by decide)) (states_nodup r n) fun s hs => ⟨_, [7], by decide, tg_name, ev_var rfl, ?_⟩) (fun d e => by rw [e]; exact noIns_ways _ _ _ _) fun d G6 H6 e c6 a6 => ?_
  · obtain ⟨h1, h2⟩ := statesM_mem.mp hs
    exact ev_meth (zf5 K r edge n, r, edge, lettersM r n, s) (ev_var rfl) (ea_cons (ev_var rfl) ea_nil) ((zf5_p K r edge n).none_ _ (by decide +kernel)) rfl ⟨zf5_p K r edge n, rfl, z.ok, z8, fun t ht => by rw [z.each t ht]; have := z.hi; omega, by rw [z.each _ h1]; have := z.hi; omega, by rw [z.each _ h2]; have := z.hi; omega⟩
  · subst e
    have a6 : AccI K G6 H6 x (cS K) dx (zfD K r edge n) := a6
    obtain ⟨G7, s7, c7, d7⟩ := c6.doneI rfl a6 hx
    exact kn _ _ _ _ c7 d7
end K70
namespace K70
open PySem PySem.Spec PyProof.Rows L2
/-! ### need_strip -/
theorem cg_sortedS0 {K : PySem.W.Frag} : CG K (rSortedS K) [.lst []] (· = .lst []) := fun G H xs s rs Q k => by
  obtain ⟨x, rfl, r⟩ := dvs1 rs
  obtain ⟨a, ys, rfl, ga, rd⟩ := r.lst_inv
  cases rd
  refine ⟨a, [], rfl, SqL.of (s _ _ ga), by decide, fun ys p hp _ hn => ?_⟩
  obtain rfl : ys = [] := hp.eq_nil
  have g : Grow Pure G H (upd G p (.lst [])) (upd H p (.lst [])) := Grow.grow s hn
  exact k _ _ _ _ rfl g (.lst upd_same .nil)
def sp_need_strip (K : PySem.W.Frag) : Sp := Fs K (fun a : Rl × Tx × Nat => [rlD (cR K) a.1, .str a.2.1, .int (a.2.2 : Nat)]) (fun a => a.1.ok ∧ (∀ c ∈ a.2.1, c ∈ a.1.signs) ∧ a.2.1.length ≤ 10000 ∧ a.2.2 ≤ 3 ∧ a.1.many ^ a.2.2 ≤ 8) (fun a d => d = .non)
abbrev N_need_strip : List Str := ["rule", "signs", "high", "strange", "columns", "y", "sign"]
theorem sc_need_strip : FnScope N_need_strip ["rule", "signs", "high"] (defScope s_need_strip) := ⟨rfl, rfl, rfl, by decide +kernel, rfl, by decide +kernel, by decide +kernel⟩
theorem ok_need_strip {P : Program} {w : World} {K : PySem.W.Frag} {mg : Str → Option Value} {base : Heap} (T : Tp K mg)
    (o_Rule_kind : Okm P w K mg base 1 (cR K) "kind" ["self"] (sp_Rule_kind K))
    (o_Rule_signs : Okm P w K mg base 1 (cR K) "signs" ["self"] (sp_Rule_signs K))
    (o_Rule_many : Okm P w K mg base 1 (cR K) "many" ["self"] (sp_Rule_many K)) : Okd P w K mg base 2 "need_strip" ["rule", "signs", "high"] (sp_need_strip K) := by
  obtain ⟨f_Rule_kind, fd_Rule_kind, F_Rule_kind, M_Rule_kind, b_Rule_kind⟩ := o_Rule_kind
  obtain ⟨f_Rule_signs, fd_Rule_signs, F_Rule_signs, M_Rule_signs, b_Rule_signs⟩ := o_Rule_signs
  obtain ⟨f_Rule_many, fd_Rule_many, F_Rule_many, M_Rule_many, b_Rule_many⟩ := o_Rule_many
  obtain ⟨_, hSTATES⟩ := T.iStates
  obtain ⟨fd, F⟩ := T.fn 6 d_need_strip rfl
  refine ⟨_, fd, ?_, T.gl "need_strip" (by decide +kernel), F.kp, FunD.bindsN F fun _ _ _ _ _ _ us hl => match us, hl with | [_, _, _], _ => rfl⟩
  refine FunD.ok F sc_need_strip (fun vs H Q E h => Fn.len (E := E) h) (fun cdv A outer s H vs Q E hr h => ?_)
  refine ⟨_, PSs.nox (pss_cons (ps_if (pt_cmpR op_ne (pe_meth0 (pv 0) T.clR M_Rule_kind F_Rule_kind (hr.mono (by decide)) b_Rule_kind .nil pass0) pe_str (nomark _)) pss_never pss_nil)
    (pss_cons (ps_set (i := 3) sc_need_strip.nd rfl (Or.inl rfl) (pe_callB (cr_sortedSK (K := K)) (by rfl) T.sorted (by decide +kernel) (pa_cons (pe_lc (own := [("sign", 6)]) rfl sc_need_strip.nd (pi_str (pv 1)) (blkOk_by (N := N_need_strip) (own := [("sign", 6)]) (by kernel_rfl)) (fun _ _ _ _ _ => (pg_name (i := 6) sc_need_strip.nd rfl (Or.inl rfl))) (fun _ _ _ _ _ => (pts_one (pt_cmpR op_notInSg (pv 6) (pe_meth0 (pv 0) T.clR M_Rule_signs F_Rule_signs (hr.mono (by decide)) b_Rule_signs .nil pass0) rfl))) (fun _ _ _ _ _ => (pv 6))) pa_nil)))
    (pss_cons (ps_if (pt_cmpR (op_neDK (K := K) hr.units) (pv 3) (pe_lst pa_nil) (nomark _)) pss_never pss_nil)
    (pss_cons (ps_set (i := 4) sc_need_strip.nd rfl (Or.inl rfl) pe_int)
    (pss_cons (ps_for PassesOwn.never rfl (pi_range1 (by rfl) T.range (pa_cons (pv 2) pa_nil)) (pg_name (i := 5) sc_need_strip.nd rfl (Or.inl rfl))
      (pss_one (ps_aug (i := 4) sc_need_strip.nd rfl (Or.inl rfl) (pe_meth0 (pv 0) T.clR M_Rule_many F_Rule_many (hr.mono (by decide)) b_Rule_many .nil pass0) iop_mul)))
    (pss_one (ps_if (pt_cmpR op_gt (pe_op op_mul (pv 4) (pv 4)) (pe_glob (v := .int 64) (by rfl) hSTATES ⟨_, rfl⟩) (nomark _)) pss_never pss_nil))))))), ?_⟩
  refine bodyS (E := E) h fun ⟨r, ss, n⟩ σ G hp c D kr kn => ?_
  obtain ⟨ok, hin, hl, hn, h8⟩ : r.ok ∧ (∀ c ∈ ss, c ∈ r.signs) ∧ ss.length ≤ 10000 ∧ n ≤ 3 ∧ r.many ^ n ≤ 8 := hp
  refine q_skip c ((et_test (ev_op (ev_meth r (ev_var rfl) ea_nil (by rfl) rfl trivial) (ev_lit lit_around) rg_neS)).to (by simp)) fun G1 H1 c1 g1 => ?_
  refine q_setV (d := .lst []) c1 (ev_cb1 ((ev_lcA (l := ss) (enc := fun c => .str [c]) (fun c => !decide (c ∈ r.signs)) (fun c => .str [c]) (sv_str (ev_var rfl)) (Nat.le_trans hl (by decide)) fun x hx => ⟨_, [6], by decide, tg_name, et_test (ev_op (ev_var rfl) (ev_meth r (ev_var rfl) ea_nil (by rfl) rfl trivial) rg_notInS), fun _ => ev_var rfl⟩).to (by
    rw [List.filter_eq_nil_iff.mpr (fun x hx => by simp [hin x hx])]; rfl)) cg_sortedS0) fun σ2 G2 H2 c2 g2 => ?_
  refine q_skip c2 (et_test (ev_op (ev_var rfl) (ev_lst ea_nil (by decide)) (rg_neD (c := false) rfl rfl rfl rfl (by simp)))) fun G3 H3 c3 g3 => ?_
  refine q_setV c3 ev_int fun σ4 G4 H4 c4 g4 => ?_
  refine q_forA (l := List.range n) (enc := fun i => .int (i : Nat)) c4 (sv_rangeN (ev_var rfl) (by omega)) (fun i => [some (rlD (cR K) r), some (.str ss), some (.int (n : Nat)), some (.lst []), some (.int ((r.many ^ i : Nat) : Nat)), none, none]) (fun _ => True) rfl trivial (fun i a ha => tg_name) (fun G5 H5 g5 i a σ' G' H' D' ha _ c5 hrt kn' => ?_) fun _ σ' G' H' c5 => ?_
  · have hi : i < n := by
      have := (List.getElem?_eq_some_iff.mp ha).1
      rwa [List.length_range] at this
    have hm : CMul ((r.many ^ i : Nat) : Nat) (r.many : Nat) := .inr ⟨by have := ok.hi; omega, by have := ok.hi; omega⟩
    refine c_aug c5 rfl (ev_meth r (ev_var rfl) ea_nil (by rfl) rfl trivial) (fun b e => by
      have e : b = .int (r.many : Nat) := e
      rw [e]; exact rg_mul hm) fun d σ6 G6 H6 e c6 g6 => ?_
    refine kn' trivial _ _ _ ((c6.lose 5).to ?_)
    rw [e]
    have e3 : (((r.many ^ i : Nat) : Nat) : Int) * (r.many : Nat) = ((r.many ^ (i + 1) : Nat) : Nat) := by
      rw [Nat.pow_succ]; exact (Int.natCast_mul _ _).symm
    rw [e3]; rfl
  · rw [List.length_range] at c5
    have c5 : Cf K still G _ σ' [some (rlD (cR K) r), some (.str ss), some (.int (n : Nat)), some (.lst []), some (.int ((r.many ^ n : Nat) : Nat)), none, none] G' H' := c5
    have hm : CMul ((r.many ^ n : Nat) : Nat) ((r.many ^ n : Nat) : Nat) := .inr ⟨by omega, by omega⟩
    have h64 : r.many ^ n * r.many ^ n ≤ 64 := Nat.mul_le_mul h8 h8
    refine c_if (B := (· = false)) c5 ((et_test (ev_op (ev_op (ev_var rfl) (ev_var rfl) (rg_mul hm)) ev_int rg_gt)).to (decide_eq_false (by
      have e4 : (((r.many ^ n : Nat) : Nat) : Int) * ((r.many ^ n : Nat) : Nat) = ((r.many ^ n * r.many ^ n : Nat) : Nat) := (Int.natCast_mul _ _).symm
      rw [e4]; omega))) (fun e => nomatch e) fun _ G6 H6 c6 g6 => ?_
    exact kn _ _ _ _ rfl c6
/-! ### strip_for -/
/-- a picture of the rule's signs -/
structure PicS (r : Rl) (rows : List Tx) (n : Nat) : Prop where
  pic : Pic rows n
  low : rows.length ≤ 3
  signs : ∀ row ∈ rows, ∀ c ∈ row, c ∈ r.signs
theorem flatten_le {n : Nat} : ∀ {l : List Tx}, (∀ x ∈ l, x.length ≤ n) → l.flatten.length ≤ l.length * n
  | [], _ => Nat.zero_le _
  | a :: l, h => by
    rw [List.flatten_cons, List.length_append, List.length_cons, Nat.succ_mul]
    have := h a List.mem_cons_self
    have := flatten_le (l := l) fun x hx => h x (List.mem_cons_of_mem _ hx)
    omega
def sp_strip_for (K : PySem.W.Frag) : Sp := Fs K (fun a : Rl × Nat × List Tx × Nat => [rlD (cR K) a.1, .str [a.2.1], .lst (txs a.2.2.1)]) (fun a => Zok a.1 a.2.1 a.2.2.1.length ∧ a.2.1 ∈ a.1.signs ∧ PicS a.1 a.2.2.1 a.2.2.2) (fun a d => d = zD K a.1 a.2.1 a.2.2.1.length)
abbrev N_strip_for : List Str := ["rule", "edge", "rows"]
theorem sc_strip_for : FnScope N_strip_for ["rule", "edge", "rows"] (defScope s_strip_for) := ⟨rfl, rfl, rfl, by decide +kernel, rfl, by decide +kernel, by decide +kernel⟩
theorem ok_strip_for {P : Program} {w : World} {K : PySem.W.Frag} {mg : Str → Option Value} {base : Heap} (T : Tp K mg)
    (o_need_strip : Okd P w K mg base 2 "need_strip" ["rule", "signs", "high"] (sp_need_strip K))
    (o_Strip : Okc P w K mg base 5 (cS K) "Strip" ["self", "rule", "edge", "high"] (sp_Strip_init K)) : Okd P w K mg base 7 "strip_for" ["rule", "edge", "rows"] (sp_strip_for K) := by
  obtain ⟨f_need_strip, fd_need_strip, F_need_strip, g_need_strip, k_need_strip, b_need_strip⟩ := o_need_strip
  obtain ⟨f_Strip, fd_Strip, F_Strip, M_Strip, g_Strip, b_Strip⟩ := o_Strip
  obtain ⟨fd, F⟩ := T.fn 17 d_strip_for rfl
  refine ⟨_, fd, ?_, T.gl "strip_for" (by decide +kernel), F.kp, FunD.bindsN F fun _ _ _ _ _ _ us hl => match us, hl with | [_, _, _], _ => rfl⟩
  refine FunD.ok F sc_strip_for (fun vs H Q E h => Fn.len (E := E) h) (fun cdv A outer s H vs Q E hr h => ?_)
  refine ⟨_, PSs.nox (pss_cons (ps_expr (pe_call F_need_strip (hr.mono (by decide)) (by rfl) g_need_strip k_need_strip b_need_strip .nil pass0 (pa_cons (pv 0) (pa_cons (pe_op op_addS (pv 1) (pe_joinK (K := K) pe_str (pv 2))) (pa_cons (pe_callB (call_lenK (K := K)) (by rfl) T.len (by decide +kernel) (pa_cons (pv 2) pa_nil)) pa_nil)))))
    (pss_one (ps_ret (pe_make M_Strip F_Strip (hr.mono (by decide)) (by rfl) g_Strip b_Strip .nil pass0 (pa_cons (pv 0) (pa_cons (pv 1) (pa_cons (pe_callB (call_lenK (K := K)) (by rfl) T.len (by decide +kernel) (pa_cons (pv 2) pa_nil)) pa_nil))))))), ?_⟩
  refine bodyS (E := E) h fun ⟨r, edge, rows, n⟩ σ G hp c D kr kn => ?_
  obtain ⟨z, he, p⟩ : Zok r edge rows.length ∧ edge ∈ r.signs ∧ PicS r rows n := hp
  have fl : rows.flatten.length ≤ 3000 := by
    have := flatten_le (l := rows) (n := 1000) fun x hx => by rw [p.pic.len x hx]; exact p.pic.wide
    have := p.low
    omega
  refine q_drop c (ev_call (r, edge :: rows.flatten, rows.length) (ea_cons (ev_var rfl) (ea_cons (ev_op (a := .str [edge]) (b := .str rows.flatten) (ev_var rfl) (ev_m1 (ev_lit lit_nil) (ev_var rfl) (mg_join (Nat.le_trans fl (by decide)))) (rg_addS (by show 1 + rows.flatten.length ≤ 1000000; omega))) (ea_cons (ev_cb1 (ev_var rfl) (by
    have := cg_lenL (K := K) (ds := txs rows)
    rw [txs, List.length_map] at this; exact this)) ea_nil))) ⟨z.ok, fun x hx => ?_, ?_, z.hi, z.few⟩) fun d G1 H1 e c1 g1 => ?_
  · rcases List.mem_cons.mp hx with e | hx
    · rw [e]; exact he
    · obtain ⟨row, h1, h2⟩ := List.mem_flatten.mp hx
      exact p.signs row h1 x h2
  · show (edge :: rows.flatten).length ≤ 10000
    rw [List.length_cons]; omega
  · refine c_ret c1 (er_make (r, edge, rows.length) (ea_cons (ev_var rfl) (ea_cons (ev_var rfl) (ea_cons (ev_cb1 (ev_var rfl) (by
      have := cg_lenL (K := K) (ds := txs rows)
      rw [txs, List.length_map] at this; exact this)) ea_nil))) z) fun v d G2 H2 e c2 g2 r2 => kr _ _ _ _ _ _ r2 e c2
/-! ### how_many -/
/-- one way each, at the right end -/
def onesT (L : List Tx) : Tab := (statesM L).map fun s => (s, 1)
theorem ones_D (L : List Tx) : Dt.dT ((statesM L).map fun s => (kT s, Dt.int 1)) = tabD (onesT L) := by
  unfold tabD onesT
  rw [List.map_map]; rfl
def totM (t : Tab) : Nat := (t.map (·.2)).sum
/-- the tables of a picture -/
def tabsM (r : Rl) (edge : Nat) (L : List Tx) (cols : List Tx) : List Tab := countsM r edge L (onesT L) cols
def manyM (r : Rl) (edge : Nat) (L : List Tx) (cols : List Tx) : Nat := totM (headTab (tabsM r edge L cols))
theorem countsM_head (r : Rl) (edge : Nat) (L : List Tx) (last : Tab) (cols : List Tx) : (countsM r edge L last cols)[0]? = some (headTab (countsM r edge L last cols)) := by
  cases cols <;> rfl
theorem ev_total {K : PySem.W.Frag} {m : Mu} {Γ : Ga} {td : TE} {t : Tab} (h : Ev K m td Γ (tabD t)) : Ev K m (tCB rSumV (tCons (tVals td) tNil)) Γ (.int (totM t : Nat)) := by
  have q := ev_sumV (ns := (t.map (·.2)).map fun (n : Nat) => (n : Int)) h (by
    unfold intsD
    rw [List.map_map, List.map_map, List.map_map]; rfl)
  rw [nat_sum] at q
  exact q
theorem colsM_len {rows : List Tx} {n : Nat} (p : Pic rows n) : (colsM rows).length = n := by
  rw [colsM, List.length_map, List.length_range, p.len _ (getD_mem p.some)]
def sp_how_many (K : PySem.W.Frag) : Sp := Fs K (fun a : Rl × Nat × List Tx × Nat => [rlD (cR K) a.1, .str [a.2.1], .lst (txs a.2.2.1)]) (fun a => Zok a.1 a.2.1 a.2.2.1.length ∧ a.2.1 ∈ a.1.signs ∧ PicS a.1 a.2.2.1 a.2.2.2) (fun a d => d = .int (manyM a.1 a.2.1 (lettersM a.1 a.2.2.1.length) (colsM a.2.2.1) : Nat))
abbrev N_how_many : List Str := ["rule", "edge", "rows", "strip", "state"]
theorem sc_how_many : FnScope N_how_many ["rule", "edge", "rows"] (defScope s_how_many) := ⟨rfl, rfl, rfl, by decide +kernel, rfl, by decide +kernel, by decide +kernel⟩
theorem ok_how_many {P : Program} {w : World} {K : PySem.W.Frag} {mg : Str → Option Value} {base : Heap} (T : Tp K mg)
    (o_strip_for : Okd P w K mg base 7 "strip_for" ["rule", "edge", "rows"] (sp_strip_for K))
    (o_counts_on : Okd P w K mg base 2 "counts_on" ["strip", "columns", "last"] (sp_counts_on K))
    (o_columns_of : Okd P w K mg base 1 "columns_of" ["rows"] (sp_columns_of K)) : Okd P w K mg base 8 "how_many" ["rule", "edge", "rows"] (sp_how_many K) := by
  obtain ⟨f_strip_for, fd_strip_for, F_strip_for, g_strip_for, k_strip_for, b_strip_for⟩ := o_strip_for
  obtain ⟨f_counts_on, fd_counts_on, F_counts_on, g_counts_on, k_counts_on, b_counts_on⟩ := o_counts_on
  obtain ⟨f_columns_of, fd_columns_of, F_columns_of, g_columns_of, k_columns_of, b_columns_of⟩ := o_columns_of
  obtain ⟨fd, F⟩ := T.fn 19 d_how_many rfl
  refine ⟨_, fd, ?_, T.gl "how_many" (by decide +kernel), F.kp, FunD.bindsN F fun _ _ _ _ _ _ us hl => match us, hl with | [_, _, _], _ => rfl⟩
  refine FunD.ok F sc_how_many (fun vs H Q E h => Fn.len (E := E) h) (fun cdv A outer s H vs Q E hr h => ?_)
  refine ⟨_, PSs.nox (pss_cons (ps_set (i := 3) sc_how_many.nd rfl (Or.inl rfl) (pe_call F_strip_for (hr.mono (by decide)) (by rfl) g_strip_for k_strip_for b_strip_for .nil pass0 (pa_cons (pv 0) (pa_cons (pv 1) (pa_cons (pv 2) pa_nil)))))
    (pss_one (ps_ret (pe_callB (cr_sumV rfl) (by rfl) T.sum (by decide +kernel) (pa_cons (pe_vals (pe_ix (ix_listK (K := K)) (pe_call F_counts_on (hr.mono (by decide)) (by rfl) g_counts_on k_counts_on b_counts_on .nil pass0 (pa_cons (pv 3) (pa_cons (pe_call F_columns_of (hr.mono (by decide)) (by rfl) g_columns_of k_columns_of b_columns_of .nil pass0 (pa_cons (pv 2) pa_nil)) (pa_cons (pe_dcT (own := [("state", 4)]) (Nat.lt_of_succ_lt (hu_of hr)) rfl sc_how_many.nd (pi_listK (K := K) (pe_fldK (K := K) (pv 3) rfl)) (blkOk_by (N := N_how_many) (own := [("state", 4)]) (by kernel_rfl)) (fun _ _ _ _ _ => (pg_name (i := 4) sc_how_many.nd rfl (Or.inl rfl))) (fun _ _ _ _ _ => pts_nil) (fun _ _ _ _ _ => (pv 4)) (fun _ _ _ _ _ => pe_int)) pa_nil)))) pe_int (fun _ _ => rfl))) pa_nil))))), ?_⟩
  refine bodyS (E := E) h fun ⟨r, edge, rows, n⟩ σ G hp c D kr kn => ?_
  obtain ⟨z, he, p⟩ : Zok r edge rows.length ∧ edge ∈ r.signs ∧ PicS r rows n := hp
  refine q_setV c (ev_call (r, edge, rows, n) (ea_cons (ev_var rfl) (ea_cons (ev_var rfl) (ea_cons (ev_var rfl) ea_nil))) ⟨z, he, p⟩) fun σ1 G1 H1 c1 g1 => ?_
  have hc : (colsM rows).length ≤ 1000 := by rw [colsM_len p.pic]; exact p.pic.wide
  refine c_ret c1 (ev_total (t := headTab (tabsM r edge (lettersM r rows.length) (colsM rows))) (ev_op (ev_call (r, edge, rows.length, colsM rows, onesT (lettersM r rows.length)) (ea_cons (ev_var rfl) (ea_cons (ev_call (rows, n) (ea_cons (ev_var rfl) ea_nil) p.pic) (ea_cons ((ev_dcT (l := statesM (lettersM r rows.length)) (fun s => .int 1) (sv_list (ev_fld (ev_var rfl) T.clS (T.nS _ (by decide +kernel)) rfl)) (Nat.le_trans z.states (by decide)) (states_nodup r _) fun s hs => ⟨_, [4], by decide, tg_name, ev_var rfl, ev_int⟩).to (ones_D _)) ea_nil))) ⟨z, hc⟩) ev_int (rg_ixL (j := 0) ?_))) fun v d G2 H2 e c2 g2 r2 => kr _ _ _ _ _ _ r2 e c2
  rw [List.getElem?_map]
  exact congrArg (Option.map tabD) (countsM_head r edge (lettersM r rows.length) (onesT (lettersM r rows.length)) (colsM rows))
end K70
namespace K70
open PySem PySem.Spec PyProof.Rows L2
/-! ### forebear -/
theorem pick_ok {g : Tx × Tx → Nat} : ∀ {l : List (Tx × Tx)} {n : Nat}, n < (l.map g).sum → (pickM g l n).1 ∈ l ∧ (pickM g l n).2 < g (pickM g l n).1
  | [], n, h => absurd h (Nat.not_lt_zero _)
  | s :: l, n, h => by
    rw [List.map_cons, List.sum_cons] at h
    unfold pickM
    by_cases q : n < g s
    · rw [if_pos q]; exact ⟨List.mem_cons_self, q⟩
    · rw [if_neg q]
      have := pick_ok (g := g) (l := l) (n := n - g s) (by omega)
      exact ⟨List.mem_cons_of_mem _ this.1, this.2⟩
theorem behind_mem {r : Rl} {edge : Nat} {L : List Tx} {s t : Tx × Tx} {c : Tx} (hs : s ∈ statesM L) (h : t ∈ behindM r edge L s c) : t ∈ statesM L := by
  obtain ⟨x, hx, rfl⟩ := List.mem_map.mp h
  exact statesM_mem.mpr ⟨(statesM_mem.mp hs).2, (List.mem_filter.mp hx).1⟩
theorem getT_next {r : Rl} {edge : Nat} {L : List Tx} {t : Tab} {c : Tx} {s : Tx × Tx} : ∀ {l : List (Tx × Tx)}, l.Nodup → s ∈ l → getT (nextT r edge L t c l) s = nextOne r edge L t c s
  | [], _, h => nomatch h
  | a :: l, nd, h => by
    obtain ⟨n1, n2⟩ := List.nodup_cons.mp nd
    have hcons : nextT r edge L t c (a :: l) = (if 0 < nextOne r edge L t c a then (a, nextOne r edge L t c a) :: nextT r edge L t c l else nextT r edge L t c l) := by
      unfold nextT
      rw [List.filterMap_cons]
      by_cases q : 0 < nextOne r edge L t c a
      · rw [if_pos q, if_pos q]
      · rw [if_neg q, if_neg q]
    rw [hcons]
    by_cases e : a = s
    · subst e
      by_cases q : 0 < nextOne r edge L t c a
      · rw [if_pos q]; unfold getT; rw [lk_pos]; rfl
      · rw [if_neg q]
        have z : nextOne r edge L t c a = 0 := by omega
        rw [z]
        unfold getT
        have : lk (nextT r edge L t c l) a = none := by
          unfold lk
          rw [List.find?_eq_none.mpr]
          · rfl
          · intro x hx w
            exact n1 (of_decide_eq_true w ▸ nextT_mem hx)
        rw [this]; rfl
    · have hs : s ∈ l := by
        rcases List.mem_cons.mp h with z | z
        · exact absurd z.symm e
        · exact z
      have ih := getT_next (r := r) (edge := edge) (L := L) (t := t) (c := c) n2 hs
      split
      · unfold getT at ih ⊢
        rw [lk_neg e]; exact ih
      · exact ih
theorem getT_ones {L : List Tx} {s : Tx × Tx} (h : s ∈ statesM L) : getT (onesT L) s = 1 := by
  have gen : ∀ l : List (Tx × Tx), s ∈ l → lk (l.map fun s => (s, 1)) s = some 1 := by
    intro l
    induction l with
    | nil => intro h; cases h
    | cons a l ih =>
      intro h
      rw [List.map_cons]
      by_cases e : a = s
      · subst e; exact lk_pos
      · rw [lk_neg e]
        rcases List.mem_cons.mp h with z | z
        · exact absurd z.symm e
        · exact ih z
  unfold getT onesT
  rw [gen _ h]; rfl
theorem tot_next (r : Rl) (edge : Nat) (L : List Tx) (t : Tab) (c : Tx) : ∀ l : List (Tx × Tx), totM (nextT r edge L t c l) = (l.map (nextOne r edge L t c)).sum
  | [] => rfl
  | a :: l => by
    have ih := tot_next r edge L t c l
    have hcons : nextT r edge L t c (a :: l) = (if 0 < nextOne r edge L t c a then (a, nextOne r edge L t c a) :: nextT r edge L t c l else nextT r edge L t c l) := by
      unfold nextT
      rw [List.filterMap_cons]
      by_cases q : 0 < nextOne r edge L t c a
      · rw [if_pos q, if_pos q]
      · rw [if_neg q, if_neg q]
    rw [hcons, List.map_cons, List.sum_cons, ← ih]
    split
    · unfold totM; rw [List.map_cons, List.sum_cons]
    · omega
theorem tot_ones (L : List Tx) : totM (onesT L) = ((statesM L).map fun _ => 1).sum := by
  unfold totM onesT
  rw [List.map_map]; rfl
/-- the table from column i on -/
def tabAt (r : Rl) (edge : Nat) (L : List Tx) (cols : List Tx) (i : Nat) : Tab := headTab (tabsM r edge L (cols.drop i))
theorem tabs_get (r : Rl) (edge : Nat) (L : List Tx) : ∀ (cols : List Tx) (i : Nat), i ≤ cols.length → (tabsM r edge L cols)[i]? = some (tabAt r edge L cols i)
  | cols, 0, _ => countsM_head r edge L (onesT L) cols
  | [], i + 1, h => absurd h (Nat.not_succ_le_zero _)
  | c :: cols, i + 1, h => by
    have := tabs_get r edge L cols i (Nat.le_of_succ_le_succ h)
    exact this
theorem tabAt_step {r : Rl} {edge : Nat} {L : List Tx} {cols : List Tx} {i : Nat} {c : Tx} (h : cols[i]? = some c) : tabAt r edge L cols i = nextT r edge L (tabAt r edge L cols (i + 1)) c (statesM L) := by
  have hi := (List.getElem?_eq_some_iff.mp h).1
  unfold tabAt
  rw [List.drop_eq_getElem_cons hi]
  have e : cols[i] = c := by
    have := List.getElem?_eq_getElem hi
    rw [h] at this
    exact (Option.some.inj this).symm
  rw [e]
  rfl
theorem tabAt_end (r : Rl) (edge : Nat) (L : List Tx) (cols : List Tx) : tabAt r edge L cols cols.length = onesT L := by
  unfold tabAt
  rw [List.drop_length]; rfl
theorem tot_at (r : Rl) (edge n : Nat) (cols : List Tx) {i : Nat} (hi : i ≤ cols.length) : totM (tabAt r edge (lettersM r n) cols i) = ((statesM (lettersM r n)).map (getT (tabAt r edge (lettersM r n) cols i))).sum := by
  by_cases e : i = cols.length
  · subst e
    rw [tabAt_end, tot_ones]
    congr 1
    apply List.map_congr_left
    intro s hs
    exact (getT_ones hs).symm
  · have hlt : i < cols.length := by omega
    obtain ⟨c, hc⟩ : ∃ c, cols[i]? = some c := ⟨_, List.getElem?_eq_getElem hlt⟩
    rw [tabAt_step hc, tot_next]
    congr 1
    apply List.map_congr_left
    intro s hs
    exact (getT_next (states_nodup r n) hs).symm
/-- the i-th state on the way, and what is left of the number -/
def seqM (r : Rl) (edge : Nat) (L : List Tx) (cols : List Tx) (k : Nat) : Nat → (Tx × Tx) × Nat
  | 0 => pickM (getT (tabAt r edge L cols 0)) (statesM L) k
  | i + 1 => pickM (getT (tabAt r edge L cols (i + 1))) (behindM r edge L (seqM r edge L cols k i).1 (cols.getD i [])) (seqM r edge L cols k i).2
theorem seq_ok {r : Rl} {edge n : Nat} {cols : List Tx} {k : Nat} (hk : k < manyM r edge (lettersM r n) cols) : ∀ i, i ≤ cols.length → (seqM r edge (lettersM r n) cols k i).1 ∈ statesM (lettersM r n) ∧ (seqM r edge (lettersM r n) cols k i).2 < getT (tabAt r edge (lettersM r n) cols i) (seqM r edge (lettersM r n) cols k i).1
  | 0, h => by
    have h0 : manyM r edge (lettersM r n) cols = totM (tabAt r edge (lettersM r n) cols 0) := rfl
    rw [h0, tot_at r edge n cols h] at hk
    exact pick_ok hk
  | i + 1, h => by
    obtain ⟨h1, h2⟩ := seq_ok hk i (by omega)
    have hc : cols[i]? = some (cols.getD i []) := at_getD (by omega) []
    rw [tabAt_step hc, getT_next (states_nodup r n) h1] at h2
    have := pick_ok (l := behindM r edge (lettersM r n) (seqM r edge (lettersM r n) cols k i).1 (cols.getD i [])) (g := getT (tabAt r edge (lettersM r n) cols (i + 1))) h2
    exact ⟨behind_mem h1 this.1, this.2⟩
/-- the columns of the forebear of that number -/
def foundM (r : Rl) (edge : Nat) (L : List Tx) (cols : List Tx) (k : Nat) : List Tx := (seqM r edge L cols k 0).1.1 :: (List.range (cols.length + 1)).map fun i => (seqM r edge L cols k i).1.2
theorem zip_A {α β : Type} (l : List α) (k : List β) (f : α → Dt) (g : β → Dt) : zipD (l.map f) (k.map g) = (l.zip k).map fun p => .tup [f p.1, g p.2] := by
  unfold zipD
  rw [List.zip_map, List.map_map]; rfl
structure Fok (r : Rl) (edge : Nat) (rows : List Tx) (n : Nat) : Prop where
  z : Zok r edge rows.length
  e : edge ∈ r.signs
  p : PicS r rows n
  w : n ≤ 900
theorem found_each {r : Rl} {edge n : Nat} {cols : List Tx} {k : Nat} (hk : k < manyM r edge (lettersM r n) cols) : ∀ c ∈ foundM r edge (lettersM r n) cols k, c ∈ lettersM r n := by
  intro c hc
  rcases List.mem_cons.mp hc with e | hc
  · rw [e]; exact (statesM_mem.mp (seq_ok hk 0 (Nat.zero_le _)).1).1
  · obtain ⟨i, hi, rfl⟩ := List.mem_map.mp hc
    exact (statesM_mem.mp (seq_ok hk i (by have := List.mem_range.mp hi; omega)).1).2
def sp_forebear (K : PySem.W.Frag) : Sp := Fs K (fun a : Rl × Nat × List Tx × Nat × Nat => [rlD (cR K) a.1, .str [a.2.1], .lst (txs a.2.2.1), .int (a.2.2.2.2 : Nat)]) (fun a => Fok a.1 a.2.1 a.2.2.1 a.2.2.2.1 ∧ a.2.2.2.2 < manyM a.1 a.2.1 (lettersM a.1 a.2.2.1.length) (colsM a.2.2.1)) (fun a d => d = .lst (txs (rowsM (foundM a.1 a.2.1 (lettersM a.1 a.2.2.1.length) (colsM a.2.2.1) a.2.2.2.2) a.2.2.1.length)))
abbrev N_forebear : List Str := ["rule", "edge", "rows", "number", "strip", "columns", "tables", "total", "state", "left", "found", "column", "table"]
theorem sc_forebear : FnScope N_forebear ["rule", "edge", "rows", "number"] (defScope s_forebear) := ⟨rfl, rfl, rfl, by decide +kernel, rfl, by decide +kernel, by decide +kernel⟩
theorem ok_forebear {P : Program} {w : World} {K : PySem.W.Frag} {mg : Str → Option Value} {base : Heap} (T : Tp K mg)
    (o_strip_for : Okd P w K mg base 7 "strip_for" ["rule", "edge", "rows"] (sp_strip_for K))
    (o_columns_of : Okd P w K mg base 1 "columns_of" ["rows"] (sp_columns_of K))
    (o_counts_on : Okd P w K mg base 2 "counts_on" ["strip", "columns", "last"] (sp_counts_on K))
    (o_picked : Okd P w K mg base 1 "picked" ["some", "table", "number"] (sp_picked K))
    (o_Strip_behind : Okm P w K mg base 1 (cS K) "behind" ["self", "state", "column"] (sp_Strip_behind K))
    (o_rows_of : Okd P w K mg base 1 "rows_of" ["columns", "high"] (sp_rows_of K)) : Okd P w K mg base 8 "forebear" ["rule", "edge", "rows", "number"] (sp_forebear K) := by
  obtain ⟨f_strip_for, fd_strip_for, F_strip_for, g_strip_for, k_strip_for, b_strip_for⟩ := o_strip_for
  obtain ⟨f_columns_of, fd_columns_of, F_columns_of, g_columns_of, k_columns_of, b_columns_of⟩ := o_columns_of
  obtain ⟨f_counts_on, fd_counts_on, F_counts_on, g_counts_on, k_counts_on, b_counts_on⟩ := o_counts_on
  obtain ⟨f_picked, fd_picked, F_picked, g_picked, k_picked, b_picked⟩ := o_picked
  obtain ⟨f_Strip_behind, fd_Strip_behind, F_Strip_behind, M_Strip_behind, b_Strip_behind⟩ := o_Strip_behind
  obtain ⟨f_rows_of, fd_rows_of, F_rows_of, g_rows_of, k_rows_of, b_rows_of⟩ := o_rows_of
  obtain ⟨fd, F⟩ := T.fn 21 d_forebear rfl
  refine ⟨_, fd, ?_, T.gl "forebear" (by decide +kernel), F.kp, FunD.bindsN F fun _ _ _ _ _ _ us hl => match us, hl with | [_, _, _, _], _ => rfl⟩
  refine FunD.ok F sc_forebear (fun vs H Q E h => Fn.len (E := E) h) (fun cdv A outer s H vs Q E hr h => ?_)
  refine ⟨_, PSs.nox (pss_cons (ps_set (i := 4) sc_forebear.nd rfl (Or.inl rfl) (pe_call F_strip_for (hr.mono (by decide)) (by rfl) g_strip_for k_strip_for b_strip_for .nil pass0 (pa_cons (pv 0) (pa_cons (pv 1) (pa_cons (pv 2) pa_nil)))))
    (pss_cons (ps_set (i := 5) sc_forebear.nd rfl (Or.inl rfl) (pe_call F_columns_of (hr.mono (by decide)) (by rfl) g_columns_of k_columns_of b_columns_of .nil pass0 (pa_cons (pv 2) pa_nil)))
    (pss_cons (ps_set (i := 6) sc_forebear.nd rfl (Or.inl rfl) (pe_call F_counts_on (hr.mono (by decide)) (by rfl) g_counts_on k_counts_on b_counts_on .nil pass0 (pa_cons (pv 4) (pa_cons (pv 5) (pa_cons (pe_dcT (own := [("state", 8)]) (Nat.lt_of_succ_lt (hu_of hr)) rfl sc_forebear.nd (pi_listK (K := K) (pe_fldK (K := K) (pv 4) rfl)) (blkOk_by (N := N_forebear) (own := [("state", 8)]) (by kernel_rfl)) (fun _ _ _ _ _ => (pg_name (i := 8) sc_forebear.nd rfl (Or.inl rfl))) (fun _ _ _ _ _ => pts_nil) (fun _ _ _ _ _ => (pv 8)) (fun _ _ _ _ _ => pe_int)) pa_nil)))))
    (pss_cons (ps_set (i := 7) sc_forebear.nd rfl (Or.inl rfl) (pe_callB (cr_sumV rfl) (by rfl) T.sum (by decide +kernel) (pa_cons (pe_vals (pe_ix (ix_listK (K := K)) (pv 6) pe_int (fun _ _ => rfl))) pa_nil)))
    (pss_cons (ps_if (pt_cmpR op_ge (pv 3) (pv 7) (nomark _)) pss_never pss_nil)
    (pss_cons (ps_asg (pe_call F_picked (hr.mono (by decide)) (by rfl) g_picked k_picked b_picked .nil pass0 (pa_cons (pe_fldK (K := K) (pv 4) rfl) (pa_cons (pe_ix (ix_listK (K := K)) (pv 6) pe_int (fun _ _ => rfl)) (pa_cons (pv 3) pa_nil)))) (pg_tupK (K := K) (n := 2) rfl (pgs_cons (pg_name (i := 8) sc_forebear.nd rfl (Or.inl rfl)) (pgs_cons (pg_name (i := 9) sc_forebear.nd rfl (Or.inl rfl)) pgs_nil))))
    (pss_cons (ps_set (i := 10) sc_forebear.nd rfl (Or.inl rfl) (pe_callTy (call_listK (K := K)) (by rfl) T.list (by decide +kernel) (pa_cons (pv 8) pa_nil)))
    (pss_cons (ps_for PassesOwn.never rfl (pi_zipK (K := K) (by rfl) T.zip (pa_cons (pv 5) (pa_cons (pe_slice (sl_listK (K := K)) (pv 6) (po_some pe_int) po_none) pa_nil))) (pg_tupK (K := K) (n := 2) rfl (pgs_cons (pg_name (i := 11) sc_forebear.nd rfl (Or.inl rfl)) (pgs_cons (pg_name (i := 12) sc_forebear.nd rfl (Or.inl rfl)) pgs_nil)))
      (pss_cons (ps_asg (pe_call F_picked (hr.mono (by decide)) (by rfl) g_picked k_picked b_picked .nil pass0 (pa_cons (pe_meth (pv 4) T.clS M_Strip_behind F_Strip_behind (hr.mono (by decide)) b_Strip_behind .nil pass0 (pa_cons (pv 8) (pa_cons (pv 11) pa_nil))) (pa_cons (pv 12) (pa_cons (pv 9) pa_nil)))) (pg_tupK (K := K) (n := 2) rfl (pgs_cons (pg_name (i := 8) sc_forebear.nd rfl (Or.inl rfl)) (pgs_cons (pg_name (i := 9) sc_forebear.nd rfl (Or.inl rfl)) pgs_nil))))
      (pss_one (ps_expr (pe_bmK (K := K) PySem.F.plainAttrs_list PySem.F.slot_list_append PySem.F.type_list_append mt_append (pv 10) (pa_cons (pe_ix (ix_tupK (K := K)) (pv 8) pe_int (fun _ _ => rfl)) pa_nil))))))
    (pss_one (ps_ret (pe_call F_rows_of (hr.mono (by decide)) (by rfl) g_rows_of k_rows_of b_rows_of .nil pass0 (pa_cons (pv 10) (pa_cons (pe_callB (call_lenK (K := K)) (by rfl) T.len (by decide +kernel) (pa_cons (pv 2) pa_nil)) pa_nil))))))))))))), ?_⟩
  refine bodyS (E := E) h fun ⟨r, edge, rows, n, k⟩ σ G hp c D kr kn => ?_
  obtain ⟨⟨z, he, p, hw⟩, hk⟩ : Fok r edge rows n ∧ k < manyM r edge (lettersM r rows.length) (colsM rows) := hp
  refine q_setV c (ev_call (r, edge, rows, n) (ea_cons (ev_var rfl) (ea_cons (ev_var rfl) (ea_cons (ev_var rfl) ea_nil))) ⟨z, he, p⟩) fun σ1 G1 H1 c1 g1 => ?_
  have hcl : (colsM rows).length = n := colsM_len p.pic
  have hc : (colsM rows).length ≤ 1000 := by omega
  generalize hco : colsM rows = cols at hk hcl hc
  generalize hL : lettersM r rows.length = L at hk
  refine q_setV c1 (ev_call (rows, n) (ea_cons (ev_var rfl) ea_nil) p.pic) fun σ2 G2 H2 c2 g2 => ?_
  refine q_setV (d := .lst ((tabsM r edge L cols).map tabD)) c2 ((ev_call (r, edge, rows.length, cols, onesT (lettersM r rows.length)) (ea_cons (ev_var rfl) (ea_cons ((ev_var rfl).to (by rw [hco])) (ea_cons ((ev_dcT (l := statesM (lettersM r rows.length)) (fun s => .int 1) (sv_list (ev_fld (ev_var rfl) T.clS (T.nS _ (by decide +kernel)) rfl)) (Nat.le_trans z.states (by decide)) (states_nodup r _) fun s hs => ⟨_, [8], by decide, tg_name, ev_var rfl, ev_int⟩).to (ones_D _)) ea_nil))) ⟨z, hc⟩).imp fun d e => by rw [e, hL]; rfl) fun σ3 G3 H3 c3 g3 => ?_
  have t0 : ((tabsM r edge L cols).map tabD)[0]? = some (tabD (tabAt r edge L cols 0)) := by
    rw [List.getElem?_map, tabs_get r edge L cols 0 (Nat.zero_le _)]; rfl
  refine q_setV c3 (ev_total (t := tabAt r edge L cols 0) (ev_op (ev_var rfl) ev_int (rg_ixL (j := 0) t0))) fun σ4 G4 H4 c4 g4 => ?_
  refine q_skip c4 ((et_test (ev_op (ev_var rfl) (ev_var rfl) rg_ge)).to (decide_eq_false (by
    have : k < totM (tabAt r edge L cols 0) := hk
    show ¬ ((totM (tabAt r edge L cols 0) : Nat) : Int) ≤ (k : Nat)
    omega))) fun G5 H5 c5 g5 => ?_
  have sq := fun i hi => hL ▸ seq_ok (r := r) (edge := edge) (n := rows.length) (cols := cols) (k := k) (by rw [hL]; exact hk) i hi
  have q0 : k < ((statesM L).map (getT (tabAt r edge L cols 0))).sum := by
    have := tot_at r edge rows.length cols (Nat.zero_le _)
    rw [hL] at this
    rw [← this]; exact hk
  refine q_asgV c5 (ev_call (statesM L, tabAt r edge L cols 0, k) (ea_cons ((ev_fld (ev_var rfl) T.clS (T.nS _ (by decide +kernel)) rfl).to (by rw [hL])) (ea_cons (ev_op (ev_var rfl) ev_int (rg_ixL (j := 0) t0)) (ea_cons (ev_var rfl) ea_nil))) q0) tg_two fun σ6 G6 H6 c6 g6 => ?_
  have c6 : Cf K still G _ σ6 [some (rlD (cR K) r), some (.str [edge]), some (.lst (txs rows)), some (.int (k : Nat)), some (zD K r edge rows.length), some (.lst (txs (colsM rows))), some (.lst ((tabsM r edge L cols).map tabD)), some (.int (totM (tabAt r edge L cols 0) : Nat)), some (stD (seqM r edge L cols k 0).1), some (.int ((seqM r edge L cols k 0).2 : Nat)), none, none, none] G6 H6 := c6
  refine q_listH (ds := [.str (seqM r edge L cols k 0).1.1, .str (seqM r edge L cols k 0).1.2]) c6 ((ev_var (d := stD (seqM r edge L cols k 0).1) rfl).imp fun d e => .inr e) fun pp σ7 G7 H7 hp n7 a7 c7 g7 => ?_
  have tl : (tabsM r edge L cols).length = n + 1 := by unfold tabsM; rw [countsM_len, hcl]
  refine q_forL (l := cols.zip ((tabsM r edge L cols).drop 1)) (enc := fun q => .tup [.str q.1, tabD q.2]) c7 a7 n7 ((sv_zipL (as := txs (colsM rows)) (bs := ((tabsM r edge L cols).map tabD).drop 1) (ev_var rfl) ((ev_sl (ev_var rfl) (eo_some (i := ((1 : Nat) : Int)) ev_int) eo_none lg_list).to (by rw [cut_drop]))).to' (by rw [hco, txs, ← List.map_drop, zip_A])) (fun i => [some (rlD (cR K) r), some (.str [edge]), some (.lst (txs rows)), some (.int (k : Nat)), some (zD K r edge rows.length), some (.lst (txs (colsM rows))), some (.lst ((tabsM r edge L cols).map tabD)), some (.int (totM (tabAt r edge L cols 0) : Nat)), some (stD (seqM r edge L cols k i).1), some (.int ((seqM r edge L cols k i).2 : Nat)), some (.raw (.ref pp)), none, none]) (fun i b => b = txs ((seqM r edge L cols k 0).1.1 :: (List.range (i + 1)).map fun i => (seqM r edge L cols k i).1.2)) rfl rfl (fun i a ha => tg_two) (fun i a b σ' G' H' D' ha hb s c8 a8 hrt kn' => ?_) fun b σ' G' H' hb s c8 a8 => ?_
  · obtain ⟨ac, at_⟩ := a
    obtain ⟨h1, h2⟩ := List.getElem?_zip_eq_some.mp ha
    have hi : i < cols.length := (List.getElem?_eq_some_iff.mp h1).1
    have hac : cols.getD i [] = ac := by rw [List.getD_eq_getElem?_getD, h1]; rfl
    have hat : tabAt r edge L cols (i + 1) = at_ := by
      rw [List.getElem?_drop, Nat.add_comm, tabs_get r edge L cols (i + 1) hi] at h2
      exact Option.some.inj h2
    obtain ⟨s1, s2⟩ := sq i (by omega)
    have hstep : pickM (getT at_) (behindM r edge L (seqM r edge L cols k i).1 ac) (seqM r edge L cols k i).2 = seqM r edge L cols k (i + 1) := by
      rw [← hac, ← hat]; rfl
    have hlt : (seqM r edge L cols k i).2 < ((behindM r edge L (seqM r edge L cols k i).1 ac).map (getT at_)).sum := by
      have h3 := s2
      rw [tabAt_step h1, hat, ← hL] at h3
      rw [← hL] at s1
      rw [getT_next (states_nodup r _) s1] at h3
      rw [← hL]; exact h3
    refine q_asgV c8 (ev_call (behindM r edge L (seqM r edge L cols k i).1 ac, at_, (seqM r edge L cols k i).2) (ea_cons ((ev_meth (r, edge, rows.length, (seqM r edge L cols k i).1, ac) (ev_var rfl) (ea_cons (ev_var rfl) (ea_cons (ev_var rfl) ea_nil)) (by rfl) rfl ⟨z, by rw [hL]; exact s1⟩).imp fun d e => by rw [e, hL]) (ea_cons (ev_var rfl) (ea_cons (ev_var rfl) ea_nil))) hlt) tg_two fun σ9 G9 H9 c9 g9 => ?_
    have a9 := a8.grow g9 (fun z => z)
    refine c_app c9 rfl a9 hp n7 (by rw [hb, txs, List.length_map, List.length_cons, List.length_map, List.length_range]; omega) (P := fun d => d = .str (seqM r edge L cols k (i + 1)).1.2) (ev_op (ev_var rfl) ev_int (rg_ixT (j := 1) (by rw [← hstep]; rfl))) fun d G10 H10 H11 e g10 c11 a11 _ => ?_
    refine kn' _ _ _ _ ?_ (g9.g.trans g10.g) (((c11.lose 11).lose 12).to ?_) a11
    · rw [hb, e, List.range_succ (n := i + 1), List.map_append, txs, txs, ← List.cons_append, List.map_append]; rfl
    · have e1 : (pickM (getT at_) (behindM r edge L (seqM r edge L cols k i).1 ac) (seqM r edge L cols k i).2) = seqM r edge L cols k (i + 1) := hstep
      show [some (rlD (cR K) r), some (.str [edge]), some (.lst (txs rows)), some (.int (k : Nat)), some (zD K r edge rows.length), some (.lst (txs (colsM rows))), some (.lst ((tabsM r edge L cols).map tabD)), some (.int (totM (tabAt r edge L cols 0) : Nat)), some (stD (pickM (getT at_) (behindM r edge L (seqM r edge L cols k i).1 ac) (seqM r edge L cols k i).2).1), some (.int ((pickM (getT at_) (behindM r edge L (seqM r edge L cols k i).1 ac) (seqM r edge L cols k i).2).2 : Nat)), some (.raw (.ref pp)), none, none] = _
      rw [e1]
  · have hlen : (cols.zip ((tabsM r edge L cols).drop 1)).length = cols.length := by
      rw [List.length_zip, List.length_drop, tl]; omega
    rw [hlen] at hb c8
    obtain ⟨G9, s9, c9, _⟩ := c8.done (i := 10) rfl a8 hp n7
    have hf : (seqM r edge L cols k 0).1.1 :: (List.range (cols.length + 1)).map (fun i => (seqM r edge L cols k i).1.2) = foundM r edge L cols k := rfl
    rw [hf] at hb
    have hfl : (foundM r edge L cols k).length ≤ 1000 := by
      unfold foundM
      rw [List.length_cons, List.length_map, List.length_range]; omega
    refine c_ret c9 (ev_call (foundM r edge L cols k, rows.length) (ea_cons ((ev_var rfl).to (by rw [hb])) (ea_cons (ev_cb1 (ev_var rfl) (by
      have := cg_lenL (K := K) (ds := txs rows)
      rw [txs, List.length_map] at this; exact this)) ea_nil)) ⟨hfl, by have := p.low; omega, fun c hc => ?_⟩) fun v d G10 H10 e c10 g10 r10 => kr _ _ _ _ _ _ r10 ?_ c10
    · have := found_each (r := r) (edge := edge) (n := rows.length) (cols := cols) (k := k) (by rw [hL]; exact hk) c (by rw [hL]; exact hc)
      exact z.each c this
    · show d = .lst (txs (rowsM (foundM r edge (lettersM r rows.length) (colsM rows) k) rows.length))
      rw [hL, hco]; exact e
end K70
namespace K70
open PySem PySem.Spec PyProof.Rows L2
/-! ### _law_signs -/
def sp_l_signs (K : PySem.W.Frag) : Sp := Fs K (fun n : Nat => [.int (n : Nat)]) (fun _ => True) (fun n d => d = .str (sg.take n))
abbrev N_l_signs : List Str := ["_law_many"]
theorem sc_l_signs : FnScope N_l_signs ["_law_many"] (defScope s_l_signs) := ⟨rfl, rfl, rfl, by decide +kernel, rfl, by decide +kernel, by decide +kernel⟩
theorem ok_l_signs {P : Program} {w : World} {K : PySem.W.Frag} {mg : Str → Option Value} {base : Heap} (T : Tp K mg) : Okd P w K mg base 1 "_law_signs" ["_law_many"] (sp_l_signs K) := by
  obtain ⟨fd, F⟩ := T.fn 38 d_l_signs rfl
  refine ⟨_, fd, ?_, T.gl "_law_signs" (by decide +kernel), F.kp, FunD.bindsN F fun _ _ _ _ _ _ us hl => match us, hl with | [_], _ => rfl⟩
  refine FunD.ok F sc_l_signs (fun vs H Q E h => Fn.len (E := E) h) (fun cdv A outer s H vs Q E hr h => ?_)
  refine ⟨_, PSs.nox (pss_one (ps_ret (pe_slice sl_str pe_str po_none (po_some (pv 0))))), ?_⟩
  refine bodyS (E := E) h fun n σ G hp c D kr kn => ?_
  refine c_ret c (ev_sl (a := .str sg) (ev_lit lit_signs) eo_none (eo_some (ev_var rfl)) (lg_str (by decide))) fun v d G' H' e c' g r => kr _ _ _ _ _ _ r ?_ c'
  rw [e, cut_take]
/-! ### _law_columns -/
def sp_l_columns (K : PySem.W.Frag) : Sp := Fs K (fun a : List Tx × Nat => [.lst (txs a.1)]) (fun a => Pic a.1 a.2) (fun a d => d = .lst (txs (colsM a.1)))
abbrev N_l_columns : List Str := ["_law_rows_here", "_law_at", "_law_row_here"]
theorem sc_l_columns : FnScope N_l_columns ["_law_rows_here"] (defScope s_l_columns) := ⟨rfl, rfl, rfl, by decide +kernel, rfl, by decide +kernel, by decide +kernel⟩
theorem ok_l_columns {P : Program} {w : World} {K : PySem.W.Frag} {mg : Str → Option Value} {base : Heap} (T : Tp K mg) : Okd P w K mg base 1 "_law_columns" ["_law_rows_here"] (sp_l_columns K) := by
  obtain ⟨fd, F⟩ := T.fn 50 d_l_columns rfl
  refine ⟨_, fd, ?_, T.gl "_law_columns" (by decide +kernel), F.kp, FunD.bindsN F fun _ _ _ _ _ _ us hl => match us, hl with | [_], _ => rfl⟩
  refine FunD.ok F sc_l_columns (fun vs H Q E h => Fn.len (E := E) h) (fun cdv A outer s H vs Q E hr h => ?_)
  refine ⟨_, PSs.nox (pss_one (ps_ret (pe_lc (own := [("_law_at", 1)]) rfl sc_l_columns.nd (pi_range1 (by rfl) T.range (pa_cons (pe_callB call_lenS (by rfl) T.len (by decide +kernel) (pa_cons (pe_ix (ix_listK (K := K)) (pv 0) pe_int (fun _ _ => rfl)) pa_nil)) pa_nil)) (blkOk_by (N := N_l_columns) (own := [("_law_at", 1)]) (by kernel_rfl)) (fun _ _ _ _ _ => (pg_name (i := 1) sc_l_columns.nd rfl (Or.inr rfl))) (fun _ _ _ _ _ => pts_nil) (fun _ _ _ _ _ => (pe_joinK (K := K) pe_str (pe_lc (own := [("_law_row_here", 2)]) rfl sc_l_columns.nd (pi_listK (K := K) (pv 0)) (blkOk_by (N := N_l_columns) (own := [("_law_row_here", 2)]) (by kernel_rfl)) (fun _ _ _ _ _ => (pg_name (i := 2) sc_l_columns.nd rfl (Or.inl rfl))) (fun _ _ _ _ _ => pts_nil) (fun _ _ _ _ _ => (pe_ix ix_str (pv 2) (pv 1) (fun _ _ => rfl))))))))), ?_⟩
  refine bodyS (E := E) h fun ⟨rows, n⟩ σ G hp c D kr kn => ?_
  obtain ⟨h0, h1, h2, h3⟩ : Pic rows n := hp
  have e0 : (rows.getD 0 []).length = n := h2 _ (getD_mem h0)
  have f0 : (txs rows)[0]? = some (.str (rows.getD 0 [])) := by
    cases rows with
    | nil => exact absurd rfl h0
    | cons a r => rfl
  refine c_ret c (ev_mapA (fun j : Nat => .str (rows.map fun r => r.getD j 0)) (sv_rangeN (ev_cb1 (ev_op (ev_var rfl) ev_int (rg_ixL (j := 0) f0)) (cg_lenS (by rw [e0]; omega))) (by rw [e0]; omega)) (by rw [List.length_range, e0]; omega) fun j hj => ⟨_, [1], by decide, tg_name, ?_⟩) fun v d G' H' e c' g r => kr _ _ _ _ _ _ r ?_ c'
  · have hj2 : j < n := by rw [← e0]; exact List.mem_range.mp hj
    have key : (rows.map fun r => [r.getD j 0]).flatten = rows.map fun r => r.getD j 0 := by
      have := flatten_one (rows.map fun r => r.getD j 0)
      rw [List.map_map] at this
      exact this
    rw [← key]
    refine ev_m1 ev_str ((ev_mapA (l := rows) (enc := .str) (fun r => .str [r.getD j 0]) (sv_list (ev_var rfl)) (by omega) fun r hr => ⟨_, [2], by decide, tg_name, ev_op (ev_var rfl) (ev_var rfl) (rg_ixS ?_ ?_)⟩).to ?_) (mg_join ?_)
    · have hl : j < r.length := by rw [h2 r hr]; exact hj2
      exact at_getD hl 0
    · rw [h2 r hr]; omega
    · rw [txs, List.map_map]; rfl
    · rw [key, List.length_map]; omega
  · rw [e, colsM, txs, List.map_map]
    rfl
/-! ### _law_rows -/
def sp_l_rows (K : PySem.W.Frag) : Sp := Fs K (fun a : List Tx × Nat => [.lst (txs a.1), .int (a.2 : Nat)]) (fun a => a.1.length ≤ 1000 ∧ a.2 ≤ 1000 ∧ ∀ c ∈ a.1, c.length = a.2) (fun a d => d = .lst (txs (rowsM a.1 a.2)))
abbrev N_l_rows : List Str := ["_law_columns_here", "_law_high", "_law_y", "_law_column"]
theorem sc_l_rows : FnScope N_l_rows ["_law_columns_here", "_law_high"] (defScope s_l_rows) := ⟨rfl, rfl, rfl, by decide +kernel, rfl, by decide +kernel, by decide +kernel⟩
theorem ok_l_rows {P : Program} {w : World} {K : PySem.W.Frag} {mg : Str → Option Value} {base : Heap} (T : Tp K mg) : Okd P w K mg base 1 "_law_rows" ["_law_columns_here", "_law_high"] (sp_l_rows K) := by
  obtain ⟨fd, F⟩ := T.fn 51 d_l_rows rfl
  refine ⟨_, fd, ?_, T.gl "_law_rows" (by decide +kernel), F.kp, FunD.bindsN F fun _ _ _ _ _ _ us hl => match us, hl with | [_, _], _ => rfl⟩
  refine FunD.ok F sc_l_rows (fun vs H Q E h => Fn.len (E := E) h) (fun cdv A outer s H vs Q E hr h => ?_)
  refine ⟨_, PSs.nox (pss_one (ps_ret (pe_lc (own := [("_law_y", 2)]) rfl sc_l_rows.nd (pi_range1 (by rfl) T.range (pa_cons (pv 1) pa_nil)) (blkOk_by (N := N_l_rows) (own := [("_law_y", 2)]) (by kernel_rfl)) (fun _ _ _ _ _ => (pg_name (i := 2) sc_l_rows.nd rfl (Or.inr rfl))) (fun _ _ _ _ _ => pts_nil) (fun _ _ _ _ _ => (pe_joinK (K := K) pe_str (pe_lc (own := [("_law_column", 3)]) rfl sc_l_rows.nd (pi_listK (K := K) (pv 0)) (blkOk_by (N := N_l_rows) (own := [("_law_column", 3)]) (by kernel_rfl)) (fun _ _ _ _ _ => (pg_name (i := 3) sc_l_rows.nd rfl (Or.inl rfl))) (fun _ _ _ _ _ => pts_nil) (fun _ _ _ _ _ => (pe_ix ix_str (pv 3) (pv 2) (fun _ _ => rfl))))))))), ?_⟩
  refine bodyS (E := E) h fun ⟨cols, n⟩ σ G hp c D kr kn => ?_
  obtain ⟨h1, h3, h2⟩ : cols.length ≤ 1000 ∧ n ≤ 1000 ∧ ∀ c ∈ cols, c.length = n := hp
  refine c_ret c (ev_mapA (fun j : Nat => .str (cols.map fun r => r.getD j 0)) (sv_rangeN (ev_var rfl) (by omega)) (by rw [List.length_range]; omega) fun j hj => ⟨_, [2], by decide, tg_name, ?_⟩) fun v d G' H' e c' g r => kr _ _ _ _ _ _ r ?_ c'
  · have hj2 : j < n := List.mem_range.mp hj
    have key : (cols.map fun r => [r.getD j 0]).flatten = cols.map fun r => r.getD j 0 := by
      have := flatten_one (cols.map fun r => r.getD j 0)
      rw [List.map_map] at this
      exact this
    rw [← key]
    refine ev_m1 ev_str ((ev_mapA (l := cols) (enc := .str) (fun r => .str [r.getD j 0]) (sv_list (ev_var rfl)) (by omega) fun r hr => ⟨_, [3], by decide, tg_name, ev_op (ev_var rfl) (ev_var rfl) (rg_ixS ?_ ?_)⟩).to ?_) (mg_join ?_)
    · have hl : j < r.length := by rw [h2 r hr]; exact hj2
      exact at_getD hl 0
    · rw [h2 r hr]; omega
    · rw [txs, List.map_map]; rfl
    · rw [key, List.length_map]; omega
  · rw [e, rowsM, txs, List.map_map]
    rfl
/-! ### _law_letters -/
def sp_l_letters (K : PySem.W.Frag) : Sp := Fs K (fun a : Tx × Nat => [.str a.1, .int (a.2 : Nat)]) (fun a => a.1.length ≤ 27 ∧ a.2 ≤ 3) (fun a d => d = .lst (txs (wordsM a.1 a.2)))
abbrev N_l_letters : List Str := ["_law_signs_here", "_law_high", "_law_found", "_law_k", "_law_longer", "_law_word", "_law_sign"]
theorem sc_l_letters : FnScope N_l_letters ["_law_signs_here", "_law_high"] (defScope s_l_letters) := ⟨rfl, rfl, rfl, by decide +kernel, rfl, by decide +kernel, by decide +kernel⟩
theorem ok_l_letters {P : Program} {w : World} {K : PySem.W.Frag} {mg : Str → Option Value} {base : Heap} (T : Tp K mg) : Okd P w K mg base 1 "_law_letters" ["_law_signs_here", "_law_high"] (sp_l_letters K) := by
  obtain ⟨fd, F⟩ := T.fn 48 d_l_letters rfl
  refine ⟨_, fd, ?_, T.gl "_law_letters" (by decide +kernel), F.kp, FunD.bindsN F fun _ _ _ _ _ _ us hl => match us, hl with | [_, _], _ => rfl⟩
  refine FunD.ok F sc_l_letters (fun vs H Q E h => Fn.len (E := E) h) (fun cdv A outer s H vs Q E hr h => ?_)
  refine ⟨_, PSs.nox (pss_cons (ps_set (i := 2) sc_l_letters.nd rfl (Or.inl rfl) (pe_lst (pa_cons pe_str pa_nil)))
    (pss_cons (ps_for PassesOwn.never rfl (pi_range1 (by rfl) T.range (pa_cons (pv 1) pa_nil)) (pg_name (i := 3) sc_l_letters.nd rfl (Or.inl rfl))
      (pss_cons (ps_set (i := 4) sc_l_letters.nd rfl (Or.inl rfl) (pe_lst pa_nil))
      (pss_cons (ps_for PassesOwn.never rfl (pi_listK (K := K) (pv 2)) (pg_name (i := 5) sc_l_letters.nd rfl (Or.inr rfl))
        (pss_one (ps_expr (pe_bmK (K := K) PySem.F.plainAttrs_list PySem.F.slot_list_extend PySem.F.type_list_extend mt_extend (pv 4) (pa_cons (pe_lc (own := [("_law_sign", 6)]) rfl sc_l_letters.nd (pi_str (pv 0)) (blkOk_by (N := N_l_letters) (own := [("_law_sign", 6)]) (by kernel_rfl)) (fun _ _ _ _ _ => (pg_name (i := 6) sc_l_letters.nd rfl (Or.inl rfl))) (fun _ _ _ _ _ => pts_nil) (fun _ _ _ _ _ => (pe_op op_addS (pv 5) (pv 6)))) pa_nil)))))
      (pss_one (ps_set (i := 2) sc_l_letters.nd rfl (Or.inl rfl) (pv 4))))))
    (pss_one (ps_ret (pv 2))))), ?_⟩
  refine bodyS (E := E) h fun ⟨l, n⟩ σ G ⟨hl, hn⟩ c D kr kn => ?_
  have hl : l.length ≤ 27 := hl
  have hn : n ≤ 3 := hn
  refine q_setV (d := .lst (txs (wordsM l 0))) c (ev_lst (ea_cons (ev_lit lit_nil) ea_nil) (by show 1 ≤ 100000; decide)) fun σ1 G1 H1 c1 g1 => ?_
  refine q_forA (l := List.range n) (enc := fun i => .int (i : Nat)) c1 (sv_rangeN (ev_var rfl) (by omega)) (fun i => [some (.str l), some (.int (n : Nat)), some (.lst (txs (wordsM l i))), none, none, none, none]) (fun _ => True) rfl trivial (fun i a ha => tg_name) (fun G2 H2 g2 i a σ' G' H' D' ha _ c2 hrt kn' => ?_) fun _ σ' G' H' c2 => ?_
  · have hi : i < n := by
      have := (List.getElem?_eq_some_iff.mp ha).1
      rwa [List.length_range] at this
    have few : (wordsM l (i + 1)).length ≤ 100000 := by
      rw [wordsM_len]
      exact Nat.le_trans (Nat.pow_le_pow_left hl _) (Nat.le_trans (Nat.pow_le_pow_right (by decide) (show i + 1 ≤ 3 by omega)) (by decide))
    have part : ∀ ws : List Tx, (ws.flatMap fun w => l.map fun c => w ++ [c]).length = ws.length * l.length := by
      intro ws
      induction ws with
      | nil => simp
      | cons a r ih => rw [List.flatMap_cons, List.length_append, ih, List.length_map, List.length_cons, Nat.succ_mul, Nat.add_comm]
    have few' : (wordsM l i).length * l.length ≤ 100000 := by
      have := part (wordsM l i)
      rw [← this]; exact few
    refine q_nil c2 fun p σ3 H3 hp0 hp np a3 c3 e3 => ?_
    refine q_forL (l := wordsM l i) (enc := .str) c3 a3 np (sv_list (ev_var rfl)) (fun j => [some (.str l), some (.int (n : Nat)), some (.lst (txs (wordsM l i))), some (.int (a : Nat)), some (.raw (.ref p)), none, none]) (fun j b => b = txs (((wordsM l i).take j).flatMap fun w => l.map fun c => w ++ [c])) rfl rfl (fun j w hw => tg_name) (fun j w b σ4 G4 H4 D4 hw hb s4 c4 a4 hrt4 kn4 => ?_) fun b σ4 G4 H4 hb s4 c4 a4 => ?_
    · have hj : j < (wordsM l i).length := (List.getElem?_eq_some_iff.mp hw).1
      have hwl : w.length = i := (wordsM_each l i w (List.mem_of_getElem? hw)).1
      have bl : b.length + ((l.map fun c => Dt.str (w ++ [c]))).length ≤ 100000 := by
        rw [hb, txs, List.length_map, part, List.length_map, List.length_take]
        have e1 : min j (wordsM l i).length = j := by omega
        have e2 : (j + 1) * l.length ≤ (wordsM l i).length * l.length := Nat.mul_le_mul_right _ hj
        rw [Nat.succ_mul] at e2
        rw [e1]; omega
      refine c_ext c4 rfl a4 hp np bl (ev_mapA (l := l) (enc := fun c => .str [c]) (fun c => .str (w ++ [c])) (sv_str (ev_var rfl)) (by omega) fun x hx => ⟨_, [6], by decide, tg_name, ev_op (ev_var rfl) (ev_var rfl) (rg_addS (by rw [hwl]; show i + 1 ≤ _; omega))⟩) fun G5 H5 H6 g5 c5 a5 _ => ?_
      refine kn4 _ _ _ _ ?_ g5.g ((c5.lose 5).to rfl) a5
      rw [flatMap_take_succ hw, hb, txs, txs, List.map_append, List.map_map]
      rfl
    · rw [List.take_length] at hb
      obtain ⟨G7, s7, c7, _⟩ := c4.done (i := 4) rfl a4 hp np
      refine c_setV c7 (ev_var rfl) fun σ8 G8 H8 c8 g8 => ?_
      refine kn' trivial _ _ _ ((((c8.lose 3).lose 4)).to ?_)
      rw [hb]; rfl
  · rw [List.length_range] at c2
    refine c_ret c2 (ev_var rfl) fun v d G' H' e c' g r => kr _ _ _ _ _ _ r e c'
/-! ### _law_off -/
def sp_l_off (K : PySem.W.Frag) : Sp := Fs K (fun p : Tx => [.str p]) (fun p => p ∈ places) (fun p d => d = .tup [.int (offOf p).1, .int (offOf p).2])
def ofs5 : List (Key × Dt) := [(.inr "n", .tup [.int 0, .int (-1)]), (.inr "ne", .tup [.int 1, .int (-1)]), (.inr "e", .tup [.int 1, .int 0]), (.inr "se", .tup [.int 1, .int 1]), (.inr "s", .tup [.int 0, .int 1])]
def ofs2 : List (Key × Dt) := [(.inr "sw", .tup [.int (-1), .int 1]), (.inr "w", .tup [.int (-1), .int 0])]
theorem ofs_get {p : Tx} (h : p ∈ places) : (lk (mergeD (mergeD [] ofs5) ofs2) (.inr (tx p))).getD (.tup [.int (-1), .int (-1)]) = .tup [.int (offOf p).1, .int (offOf p).2] := by
  simp only [places, List.mem_cons, List.not_mem_nil, or_false] at h
  rcases h with e | e | e | e | e | e | e | e <;> rw [e] <;> rfl
theorem ev_pair {K : PySem.W.Frag} {m : Mu} {Γ : Ga} {ta tb : TE} {i j : Int} (h : Ev K m ta Γ (.int i)) (h2 : Ev K m tb Γ (.int j)) : Ev K m (tTup (tCons ta (tCons tb tNil))) Γ (.tup [.int i, .int j]) := ev_tup (ea_cons h (ea_cons h2 ea_nil)) (show 2 ≤ 100000 by decide)
abbrev N_l_off : List Str := ["_law_place", "_law_offs"]
theorem sc_l_off : FnScope N_l_off ["_law_place"] (defScope s_l_off) := ⟨rfl, rfl, rfl, by decide +kernel, rfl, by decide +kernel, by decide +kernel⟩
theorem ok_l_off {P : Program} {w : World} {K : PySem.W.Frag} {mg : Str → Option Value} {base : Heap} (T : Tp K mg) : Okd P w K mg base 1 "_law_off" ["_law_place"] (sp_l_off K) := by
  obtain ⟨fd, F⟩ := T.fn 46 d_l_off rfl
  refine ⟨_, fd, ?_, T.gl "_law_off" (by decide +kernel), F.kp, FunD.bindsN F fun _ _ _ _ _ _ us hl => match us, hl with | [_], _ => rfl⟩
  refine FunD.ok F sc_l_off (fun vs H Q E h => Fn.len (E := E) h) (fun cdv A outer s H vs Q E hr h => ?_)
  refine ⟨_, PSs.nox (pss_cons (ps_set (i := 1) sc_l_off.nd rfl (Or.inl rfl) (pe_disp (pps_cons pe_str (pe_tup (pa_cons pe_int (pa_cons (pe_un un_neg pe_int) pa_nil))) (pps_cons pe_str (pe_tup (pa_cons pe_int (pa_cons (pe_un un_neg pe_int) pa_nil))) (pps_cons pe_str (pe_tup (pa_cons pe_int (pa_cons pe_int pa_nil))) (pps_cons pe_str (pe_tup (pa_cons pe_int (pa_cons pe_int pa_nil))) (pps_cons pe_str (pe_tup (pa_cons pe_int (pa_cons pe_int pa_nil))) pps_nil))))) (by rfl) (by rfl) (fun z => by cases z) (by decide)))
    (pss_cons (ps_expr (pe_bmK (K := K) PySem.F.plainAttrs_dict PySem.F.slot_dict_update PySem.F.type_dict_update mt_updK (pv 1) (pa_cons (pe_disp (pps_cons pe_str (pe_tup (pa_cons (pe_un un_neg pe_int) (pa_cons pe_int pa_nil))) (pps_cons pe_str (pe_tup (pa_cons (pe_un un_neg pe_int) (pa_cons pe_int pa_nil))) pps_nil)) (by rfl) (by rfl) (fun z => by cases z) (by decide)) pa_nil)))
    (pss_one (ps_ret (pe_dget2 (hu_of hr) (pv 1) (pv 0) (pe_tup (pa_cons (pe_un un_neg pe_int) (pa_cons (pe_un un_neg pe_int) pa_nil))) ⟨by rfl, by rfl, by rfl, by rfl⟩))))), ?_⟩
  refine bodyS (E := E) h fun p σ G hp c D kr kn => ?_
  have neg : ∀ {Γ : Ga} {i : Int}, Ev K still (tUn (rU fun i => .int (-i)) (tC (.int i))) Γ (.int (-i)) := ev_un ev_int ug_neg
  refine q_dispH (ps := ofs5) c (.cons ev_str (ev_pair ev_int neg) (.cons ev_str (ev_pair ev_int neg) (.cons ev_str (ev_pair ev_int ev_int) (.cons ev_str (ev_pair ev_int ev_int) (.cons ev_str (ev_pair ev_int ev_int) .nil))))) (show 5 ≤ 15 by decide) fun q σ1 G1 H1 hq n1 a1 c1 g1 => ?_
  refine q_updK (ms := mergeD [] ofs2) c1 rfl a1 hq n1 (by decide +kernel) (ev_disp (ps := ofs2) (.cons ev_str (ev_pair neg ev_int) (.cons ev_str (ev_pair neg ev_int) .nil)) (show 2 ≤ 15 by decide)) fun G2 H2 c2 a2 => ?_
  obtain ⟨G3, s3, c3, _⟩ := c2.doneK (i := 1) rfl a2 hq n1
  refine c_ret c3 (ev_dget2K (k := .inr (tx p)) (ev_var rfl) ((ev_var rfl).to (by show Dt.str p = .str (tx p).cps.toList; rw [tx_list])) (ev_pair neg neg)) fun v d G4 H4 e c4 g4 r4 => kr _ _ _ _ _ _ r4 ?_ c4
  rw [e]; exact ofs_get hp
end K70
namespace K70
open PySem PySem.Spec PyProof.Rows L2
/-! ### _law_middle -/
theorem beyond_get {edge : Nat} {col : Tx} {n y : Nat} {dy : Int} (hl : col.length = n) (hy : y < n) (hd : dy = -1 ∨ dy = 0 ∨ dy = 1) : ∃ j : Nat, (y : Int) + dy + 1 = (j : Nat) ∧ (([edge] ++ col) ++ [edge])[j]? = some (signIn edge col (y + dy)) := by
  refine ⟨((y : Int) + dy + 1).toNat, by omega, ?_⟩
  unfold signIn
  by_cases h : 0 ≤ (y : Int) + dy ∧ (y : Int) + dy < col.length
  · rw [if_pos h]
    obtain ⟨j, hj⟩ : ∃ j : Nat, (y : Int) + dy = (j : Nat) := ⟨((y : Int) + dy).toNat, by omega⟩
    have e1 : ((y : Int) + dy + 1).toNat = j + 1 := by omega
    have e2 : ((y : Int) + dy).toNat = j := by omega
    have hj2 : j < col.length := by omega
    rw [e1, e2, List.append_assoc, List.singleton_append, List.getElem?_cons_succ, List.getElem?_append_left hj2]
    exact at_getD hj2 0
  · rw [if_neg h]
    by_cases h0 : (y : Int) + dy < 0
    · have e1 : ((y : Int) + dy + 1).toNat = 0 := by omega
      rw [e1]; rfl
    · have e1 : ((y : Int) + dy + 1).toNat = col.length + 1 := by omega
      rw [e1, List.append_assoc, List.singleton_append, List.getElem?_cons_succ, List.getElem?_append_right (Nat.le_refl _), Nat.sub_self]; rfl
theorem off_dy (p : Tx) : (offOf p).2 = -1 ∨ (offOf p).2 = 0 ∨ (offOf p).2 = 1 := by
  unfold offOf
  repeat' split
  all_goals simp
def sp_l_middle (K : PySem.W.Frag) : Sp := Fs K (fun a : Rl × Nat × Tx × Tx × Tx => [ruD a.1, .str [a.2.1], .tup [.str a.2.2.1, .str a.2.2.2.1, .str a.2.2.2.2]]) (fun a => a.1.ok ∧ a.2.2.1.length = a.2.2.2.1.length ∧ a.2.2.2.2.length = a.2.2.2.1.length ∧ a.2.2.2.1.length ≤ 100) (fun a d => d = .str (a.1.mid a.2.1 a.2.2.1 a.2.2.2.1 a.2.2.2.2))
abbrev N_l_middle : List Str := ["_law_rule_here", "_law_edge", "_law_three", "_law_found", "_law_y", "_law_around", "_law_place", "_law_dx", "_law_dy", "_law_column", "_law_beyond"]
theorem sc_l_middle : FnScope N_l_middle ["_law_rule_here", "_law_edge", "_law_three"] (defScope s_l_middle) := ⟨rfl, rfl, rfl, by decide +kernel, rfl, by decide +kernel, by decide +kernel⟩
theorem ok_l_middle {P : Program} {w : World} {K : PySem.W.Frag} {mg : Str → Option Value} {base : Heap} (T : Tp K mg)
    (o_l_off : Okd P w K mg base 1 "_law_off" ["_law_place"] (sp_l_off K))
    (o_l_becomes : Okd P w K mg base 2 "_law_becomes" ["_law_rule_here", "_law_own", "_law_around"] (sp_l_becomes K)) : Okd P w K mg base 3 "_law_middle" ["_law_rule_here", "_law_edge", "_law_three"] (sp_l_middle K) := by
  obtain ⟨f_l_off, fd_l_off, F_l_off, g_l_off, k_l_off, b_l_off⟩ := o_l_off
  obtain ⟨f_l_becomes, fd_l_becomes, F_l_becomes, g_l_becomes, k_l_becomes, b_l_becomes⟩ := o_l_becomes
  obtain ⟨fd, F⟩ := T.fn 47 d_l_middle rfl
  refine ⟨_, fd, ?_, T.gl "_law_middle" (by decide +kernel), F.kp, FunD.bindsN F fun _ _ _ _ _ _ us hl => match us, hl with | [_, _, _], _ => rfl⟩
  refine FunD.ok F sc_l_middle (fun vs H Q E h => Fn.len (E := E) h) (fun cdv A outer s H vs Q E hr h => ?_)
  refine ⟨_, PSs.nox (pss_cons (ps_set (i := 3) sc_l_middle.nd rfl (Or.inl rfl) pe_str)
    (pss_cons (ps_for PassesOwn.never rfl (pi_range1 (by rfl) T.range (pa_cons (pe_callB call_lenS (by rfl) T.len (by decide +kernel) (pa_cons (pe_ix (ix_tupK (K := K)) (pv 2) pe_int (fun _ _ => rfl)) pa_nil)) pa_nil)) (pg_name (i := 4) sc_l_middle.nd rfl (Or.inl rfl))
      (pss_cons (ps_set (i := 5) sc_l_middle.nd rfl (Or.inl rfl) pe_str)
      (pss_cons (ps_for PassesOwn.never rfl (pi_tupK (K := K) (pe_ix (ix_tupK (K := K)) (pv 0) pe_int (fun _ _ => rfl))) (pg_name (i := 6) sc_l_middle.nd rfl (Or.inl rfl))
        (pss_cons (ps_asg (pe_call F_l_off (hr.mono (by decide)) (by rfl) g_l_off k_l_off b_l_off .nil pass0 (pa_cons (pv 6) pa_nil)) (pg_tupK (K := K) (n := 2) rfl (pgs_cons (pg_name (i := 7) sc_l_middle.nd rfl (Or.inl rfl)) (pgs_cons (pg_name (i := 8) sc_l_middle.nd rfl (Or.inl rfl)) pgs_nil))))
        (pss_cons (ps_set (i := 9) sc_l_middle.nd rfl (Or.inl rfl) (pe_ix (ix_tupK (K := K)) (pv 2) (pe_op op_add pe_int (pv 7)) (fun _ _ => rfl)))
        (pss_cons (ps_set (i := 10) sc_l_middle.nd rfl (Or.inl rfl) (pe_ix (ix_listK (K := K)) (pe_lst (pa_cons (pv 1) (pa_cons (pv 9) pa_nil))) (pe_callTy call_int1 (by rfl) T.int (by decide +kernel) (pa_cons (pe_cmpR op_isN (pv 1) pe_non (nomark _)) pa_nil)) (fun _ _ => rfl)))
        (pss_one (ps_set (i := 5) sc_l_middle.nd rfl (Or.inl rfl) (pe_op op_addS (pv 5) (pe_ix ix_str (pe_op op_addS (pe_op op_addS (pv 10) (pv 9)) (pv 10)) (pe_op op_add (pe_op op_add (pv 4) (pv 8)) pe_int) (fun _ _ => rfl)))))))))
      (pss_one (ps_set (i := 3) sc_l_middle.nd rfl (Or.inl rfl) (pe_op op_addS (pv 3) (pe_call F_l_becomes (hr.mono (by decide)) (by rfl) g_l_becomes k_l_becomes b_l_becomes .nil pass0 (pa_cons (pv 0) (pa_cons (pe_ix ix_str (pe_ix (ix_tupK (K := K)) (pv 2) pe_int (fun _ _ => rfl)) (pv 4) (fun _ _ => rfl)) (pa_cons (pv 5) pa_nil))))))))))
    (pss_one (ps_ret (pv 3))))), ?_⟩
  refine bodyS (E := E) h fun ⟨r, edge, one, two, three⟩ σ G hp c D kr kn => ?_
  obtain ⟨ok, l1, l3, l2⟩ : r.ok ∧ one.length = two.length ∧ three.length = two.length ∧ two.length ≤ 100 := hp
  have n8 := ok.nearLen
  refine q_setV c (ev_lit lit_nil) fun σ1 G1 H1 c1 g1 => ?_
  refine q_forA (l := List.range two.length) (enc := fun i => .int (i : Nat)) c1 (sv_rangeN (ev_cb1 (ev_op (ev_var rfl) ev_int (rg_ixT (j := 1) rfl)) (cg_lenS (Nat.le_trans l2 (by decide)))) (Nat.le_trans l2 (by decide))) (fun i => [some (ruD r), some (.str [edge]), some (.tup [.str one, .str two, .str three]), some (.str ((List.range i).map fun y => r.fate (two.getD y 0) (r.around edge one two three y))), none, none, none, none, none, none, none]) (fun _ => True) rfl trivial (fun i a ha => tg_name) (fun G2 H2 g2 i a σ' G' H' D' ha _ c2 hrt kn' => ?_) fun _ σ' G' H' c2 => ?_
  · have hi : i < two.length := by
      have := (List.getElem?_eq_some_iff.mp ha).1
      rwa [List.length_range] at this
    obtain rfl : a = i := by
      rw [List.getElem?_range hi] at ha
      exact (Option.some.inj ha).symm
    refine q_setV c2 (ev_lit lit_nil) fun σ3 G3 H3 c3 g3 => ?_
    refine q_forA (l := r.near) (enc := .str) c3 (sv_tupW (ev_tupN (ev_op (ev_var rfl) ev_int (rg_ixT (j := 2) rfl)))) (fun j => [some (ruD r), some (.str [edge]), some (.tup [.str one, .str two, .str three]), some (.str ((List.range a).map fun y => r.fate (two.getD y 0) (r.around edge one two three y))), some (.int (a : Nat)), some (.str ((r.near.take j).map fun p => signIn edge (if (offOf p).1 = -1 then one else if (offOf p).1 = 0 then two else three) (a + (offOf p).2))), none, none, none, none, none]) (fun _ => True) rfl trivial (fun j p hj => tg_name) (fun G4 H4 g4 j p σ4 G4' H4' D4 hj _ c4 hrt4 kn4 => ?_) fun _ σ4 G4 H4 c4 => ?_
    · have hp := ok.nearIn p (List.mem_of_getElem? hj)
      have hjl : j < r.near.length := (List.getElem?_eq_some_iff.mp hj).1
      refine q_asgV c4 (ev_call p (ea_cons (ev_var rfl) ea_nil) hp) tg_two fun σ5 G5 H5 c5 g5 => ?_
      generalize hcol : (if (offOf p).1 = -1 then one else if (offOf p).1 = 0 then two else three) = col
      have hcl : col.length = two.length := by
        rw [← hcol]
        split
        · exact l1
        · split
          · rfl
          · exact l3
      have ix : ∃ q : Nat, (1 : Int) + (offOf p).1 = (q : Nat) ∧ [Dt.str one, Dt.str two, Dt.str three][q]? = some (.str col) := by
        rcases off_dx p with e | e | e
        · rw [e, if_pos rfl] at hcol
          exact ⟨0, by rw [e]; rfl, by rw [hcol]; rfl⟩
        · rw [e, if_neg (by decide), if_pos rfl] at hcol
          exact ⟨1, by rw [e]; rfl, by rw [hcol]; rfl⟩
        · rw [e, if_neg (by decide), if_neg (by decide)] at hcol
          exact ⟨2, by rw [e]; rfl, by rw [hcol]; rfl⟩
      obtain ⟨q, eq1, eq2⟩ := ix
      refine q_setV (d := .str col) c5 (ev_op (ev_var rfl) ((ev_op ev_int (ev_var rfl) rg_add).to (by rw [eq1])) (rg_ixT (j := q) eq2)) fun σ6 G6 H6 c6 g6 => ?_
      refine q_setV (d := .str [edge]) c6 (ev_op (ev_lst (ea_cons (ev_var rfl) (ea_cons (ev_var rfl) ea_nil)) (show 2 ≤ 100000 by decide)) (ev_cb1 (ev_op (ev_var rfl) ev_non (rg_isN (b := false) fun G v rv => by obtain rfl := rv.str_inv; rfl)) cg_intB) (rg_ixL (j := 0) rfl)) fun σ7 G7 H7 c7 g7 => ?_
      obtain ⟨w, ew1, ew2⟩ := beyond_get (edge := edge) hcl hi (off_dy p)
      refine c_setV (d := .str ((r.near.take j).map (fun p => signIn edge (if (offOf p).1 = -1 then one else if (offOf p).1 = 0 then two else three) (a + (offOf p).2)) ++ [signIn edge col (a + (offOf p).2)])) c7 (ev_op (ev_var rfl) (ev_op (ev_op (a := .str ([edge] ++ col)) (b := .str [edge]) (ev_op (a := .str [edge]) (b := .str col) (ev_var rfl) (ev_var rfl) (rg_addS (by show 1 + col.length ≤ _; omega))) (ev_var rfl) (rg_addS (by rw [List.length_append]; show 1 + col.length + 1 ≤ _; omega))) ((ev_op (ev_op (ev_var rfl) (ev_var rfl) rg_add) ev_int rg_add).to (by rw [ew1])) (rg_ixS ew2 (by rw [List.length_append, List.length_append]; show 1 + col.length + 1 ≤ _; omega))) (rg_addS (by rw [List.length_map, List.length_take]; show _ + 1 ≤ _; omega))) fun σ8 G8 H8 c8 g8 => ?_
      refine kn4 trivial _ _ _ ((((((c8.lose 6).lose 7).lose 8).lose 9).lose 10).to ?_)
      rw [map_take_succ hj, hcol]; rfl
    · rw [List.take_length] at c4
      have ar : (r.near.map fun p => signIn edge (if (offOf p).1 = -1 then one else if (offOf p).1 = 0 then two else three) (a + (offOf p).2)) = r.around edge one two three a := rfl
      rw [ar] at c4
      refine c_setV (d := .str ((List.range a).map (fun y => r.fate (two.getD y 0) (r.around edge one two three y)) ++ [r.fate (two.getD a 0) (r.around edge one two three a)])) c4 (ev_op (ev_var rfl) (ev_call (r, two.getD a 0, r.around edge one two three a) (ea_cons (ev_var rfl) (ea_cons (ev_op (ev_op (ev_var rfl) ev_int (rg_ixT (j := 1) rfl)) (ev_var rfl) (rg_ixS (at_getD hi 0) (Nat.le_trans l2 (by decide)))) (ea_cons (ev_var rfl) ea_nil))) ⟨ok, by unfold Rl.around; exact List.length_map ..⟩) (rg_addS (by rw [List.length_map, List.length_range]; show a + 1 ≤ _; omega))) fun σ5 G5 H5 c5 g5 => ?_
      refine kn' trivial _ _ _ (((c5.lose 4).lose 5).to ?_)
      rw [List.range_succ, List.map_append]; rfl
  · rw [List.length_range] at c2
    refine c_ret c2 (ev_var rfl) fun v d G' H' e c' g r => kr _ _ _ _ _ _ r e c'
/-! ### _law_next_rows -/
theorem cut_three {α : Type} {l : List α} {i : Nat} (h : i + 3 ≤ l.length) (d : α) : cutD l (some ((i : Nat) : Int)) (some ((i + 3 : Nat) : Int)) = [l.getD i d, l.getD (i + 1) d, l.getD (i + 2) d] := by
  unfold cutD
  rw [HT.sIx_nat, HT.sIx_nat, Nat.min_eq_left h, Nat.min_eq_left (show i ≤ l.length by omega)]
  have e : i + 3 - i = 3 := by omega
  rw [e, List.drop_eq_getElem_cons (by omega), List.drop_eq_getElem_cons (by omega), List.drop_eq_getElem_cons (by omega)]
  have g : ∀ {j : Nat} (hj : j < l.length), l.getD j d = l[j] := fun hj => by
    rw [List.getD_eq_getElem?_getD, List.getElem?_eq_getElem hj]; rfl
  rw [g (by omega), g (by omega), g (by omega)]
  rfl
/-- the middles of all triples of columns -/
def midsM (r : Rl) (edge : Nat) (cols : List Tx) : List Tx := (List.range (cols.length - 2)).map fun i => r.mid edge (cols.getD i []) (cols.getD (i + 1) []) (cols.getD (i + 2) [])
def nextRowsM (r : Rl) (edge : Nat) (rows : List Tx) : List Tx := rowsM (midsM r edge (colsM rows)) rows.length
theorem getD_txs {l : List Tx} {i : Nat} (h : i < l.length) : (txs l).getD i .non = .str (l.getD i []) := by
  rw [List.getD_eq_getElem?_getD, txs, List.getElem?_map, at_getD h []]; rfl
theorem colsM_each {rows : List Tx} {n : Nat} (p : Pic rows n) : ∀ c ∈ colsM rows, c.length = rows.length := by
  intro c hc
  obtain ⟨j, _, rfl⟩ := List.mem_map.mp hc
  exact List.length_map ..
theorem getD_in {l : List Tx} {i : Nat} (h : i < l.length) : l.getD i [] ∈ l := List.mem_of_getElem? (at_getD h [])
theorem mid_len (r : Rl) (edge : Nat) (a b c : Tx) : (r.mid edge a b c).length = b.length := by
  unfold Rl.mid
  rw [List.length_map, List.length_range]
def sp_l_next_rows (K : PySem.W.Frag) : Sp := Fs K (fun a : Rl × Nat × List Tx × Nat => [ruD a.1, .str [a.2.1], .lst (txs a.2.2.1)]) (fun a => a.1.ok ∧ Pic a.2.2.1 (a.2.2.2 + 2) ∧ a.2.2.1.length ≤ 100) (fun a d => d = .lst (txs (nextRowsM a.1 a.2.1 a.2.2.1)))
abbrev N_l_next_rows : List Str := ["_law_rule_here", "_law_edge", "_law_rows_here", "_law_columns_here", "_law_found", "_law_at"]
theorem sc_l_next_rows : FnScope N_l_next_rows ["_law_rule_here", "_law_edge", "_law_rows_here"] (defScope s_l_next_rows) := ⟨rfl, rfl, rfl, by decide +kernel, rfl, by decide +kernel, by decide +kernel⟩
theorem ok_l_next_rows {P : Program} {w : World} {K : PySem.W.Frag} {mg : Str → Option Value} {base : Heap} (T : Tp K mg)
    (o_l_columns : Okd P w K mg base 1 "_law_columns" ["_law_rows_here"] (sp_l_columns K))
    (o_l_middle : Okd P w K mg base 3 "_law_middle" ["_law_rule_here", "_law_edge", "_law_three"] (sp_l_middle K))
    (o_l_rows : Okd P w K mg base 1 "_law_rows" ["_law_columns_here", "_law_high"] (sp_l_rows K)) : Okd P w K mg base 4 "_law_next_rows" ["_law_rule_here", "_law_edge", "_law_rows_here"] (sp_l_next_rows K) := by
  obtain ⟨f_l_columns, fd_l_columns, F_l_columns, g_l_columns, k_l_columns, b_l_columns⟩ := o_l_columns
  obtain ⟨f_l_middle, fd_l_middle, F_l_middle, g_l_middle, k_l_middle, b_l_middle⟩ := o_l_middle
  obtain ⟨f_l_rows, fd_l_rows, F_l_rows, g_l_rows, k_l_rows, b_l_rows⟩ := o_l_rows
  obtain ⟨fd, F⟩ := T.fn 54 d_l_next_rows rfl
  refine ⟨_, fd, ?_, T.gl "_law_next_rows" (by decide +kernel), F.kp, FunD.bindsN F fun _ _ _ _ _ _ us hl => match us, hl with | [_, _, _], _ => rfl⟩
  refine FunD.ok F sc_l_next_rows (fun vs H Q E h => Fn.len (E := E) h) (fun cdv A outer s H vs Q E hr h => ?_)
  refine ⟨_, PSs.nox (pss_cons (ps_set (i := 3) sc_l_next_rows.nd rfl (Or.inr rfl) (pe_call F_l_columns (hr.mono (by decide)) (by rfl) g_l_columns k_l_columns b_l_columns .nil pass0 (pa_cons (pv 2) pa_nil)))
    (pss_cons (ps_setLc (i := 4) (own := [("_law_at", 5)]) rfl sc_l_next_rows.nd rfl rfl (sw_true rfl rfl rfl (by decide +kernel)) (pi_range1 (by rfl) T.range (pa_cons (pe_op op_sub (pe_callB (call_lenK (K := K)) (by rfl) T.len (by decide +kernel) (pa_cons (pv 3) pa_nil)) pe_int) pa_nil)) (blkOk_by (N := N_l_next_rows) (own := [("_law_at", 5)]) (by kernel_rfl)) (fun _ _ _ _ _ => (pg_name (i := 5) sc_l_next_rows.nd rfl (Or.inl rfl))) (fun _ _ _ _ _ => pts_nil) (fun _ _ _ _ _ => (pe_call F_l_middle (hr.mono (by decide)) (by rfl) g_l_middle k_l_middle b_l_middle .nil pass0 (pa_cons (pv 0) (pa_cons (pv 1) (pa_cons (pe_callTy (call_tupleK (K := K)) (by rfl) T.tuple (by decide +kernel) (pa_cons (pe_slice (sl_listK (K := K)) (pv 3) (po_some (pv 5)) (po_some (pe_op op_add (pv 5) pe_int))) pa_nil)) pa_nil))))))
    (pss_one (ps_ret (pe_call F_l_rows (hr.mono (by decide)) (by rfl) g_l_rows k_l_rows b_l_rows .nil pass0 (pa_cons (pv 4) (pa_cons (pe_callB (call_lenK (K := K)) (by rfl) T.len (by decide +kernel) (pa_cons (pv 2) pa_nil)) pa_nil))))))), ?_⟩
  refine bodyS (E := E) h fun ⟨r, edge, rows, n⟩ σ G hp c D kr kn => ?_
  obtain ⟨ok, p, hl⟩ : r.ok ∧ Pic rows (n + 2) ∧ rows.length ≤ 100 := hp
  refine q_setV c (ev_call (rows, n + 2) (ea_cons (ev_var rfl) ea_nil) p) fun σ1 G1 H1 c1 g1 => ?_
  have cl := colsM_len p
  have ce := colsM_each p
  have pw := p.wide
  have c1 : Cf K still G _ σ1 [some (ruD r), some (.str [edge]), some (.lst (txs rows)), some (.lst (txs (colsM rows))), none, none] G1 H1 := c1
  have nl : (((txs (colsM rows)).length : Nat) : Int) - 2 = (((colsM rows).length - 2 : Nat) : Nat) := by
    rw [txs, List.length_map]; omega
  refine q_setV (d := .lst (txs (midsM r edge (colsM rows)))) c1 ((ev_mapA (l := List.range ((colsM rows).length - 2)) (enc := fun i => .int (i : Nat)) (fun i => .str (r.mid edge ((colsM rows).getD i []) ((colsM rows).getD (i + 1) []) ((colsM rows).getD (i + 2) []))) (sv_rangeN ((ev_op (ev_cb1 (ev_var rfl) cg_lenL) ev_int rg_sub).to (by rw [nl])) (by omega)) (by rw [List.length_range]; omega) fun i hi => ⟨_, [5], by decide, tg_name, ?_⟩).to ?_) fun σ2 G2 H2 c2 g2 => ?_
  · have hi2 : i < (colsM rows).length - 2 := List.mem_range.mp hi
    have i3 : i + 3 ≤ (colsM rows).length := by omega
    refine ev_call (r, edge, (colsM rows).getD i [], (colsM rows).getD (i + 1) [], (colsM rows).getD (i + 2) []) (ea_cons (ev_var rfl) (ea_cons (ev_var rfl) (ea_cons ((ev_cb1 (ev_sl (ev_var rfl) (eo_some (ev_var rfl)) (eo_some (i := ((i + 3 : Nat) : Int)) ((ev_op (ev_var rfl) ev_int rg_add).to (by show Dt.int ((i : Nat) + 3) = .int ((i + 3 : Nat) : Int); rw [Int.natCast_add]; rfl))) lg_list) cg_tupleL).to ?_) ea_nil))) ⟨ok, ?_, ?_, ?_⟩
    · rw [cut_three (by rw [txs, List.length_map]; exact i3) .non, getD_txs (by omega), getD_txs (by omega), getD_txs (by omega)]
    · show ((colsM rows).getD i []).length = ((colsM rows).getD (i + 1) []).length
      rw [ce _ (getD_in (by omega)), ce _ (getD_in (by omega))]
    · show ((colsM rows).getD (i + 2) []).length = ((colsM rows).getD (i + 1) []).length
      rw [ce _ (getD_in (by omega)), ce _ (getD_in (by omega))]
    · show ((colsM rows).getD (i + 1) []).length ≤ 100
      rw [ce _ (getD_in (by omega))]; exact hl
  · rw [midsM, txs, List.map_map]; rfl
  · have c2 : Cf K still G _ σ2 [some (ruD r), some (.str [edge]), some (.lst (txs rows)), some (.lst (txs (colsM rows))), some (.lst (txs (midsM r edge (colsM rows)))), none] G2 H2 := c2
    have ml : (midsM r edge (colsM rows)).length ≤ 1000 := by
      rw [midsM, List.length_map, List.length_range]; omega
    refine c_ret c2 (ev_call (midsM r edge (colsM rows), rows.length) (ea_cons (ev_var rfl) (ea_cons (ev_cb1 (ev_var rfl) (by
      have := cg_lenL (K := K) (ds := txs rows)
      rw [txs, List.length_map] at this; exact this)) ea_nil)) ⟨ml, by show rows.length ≤ 1000; omega, fun c hc => ?_⟩) fun v d G3 H3 e c3 g3 r3 => kr _ _ _ _ _ _ r3 e c3
    obtain ⟨i, hi, rfl⟩ := List.mem_map.mp hc
    have hi2 : i < (colsM rows).length - 2 := List.mem_range.mp hi
    show (r.mid edge _ _ _).length = rows.length
    rw [mid_len, ce _ (getD_in (by omega))]
end K70
namespace K70
open PySem PySem.Spec PyProof.Rows L2
/-! ### _law_steps -/
def stepD (r : Rl) (edge : Nat) (L : List Tx) (s : Tx × Tx) : Dt := .lst (L.map fun t => .tup [.str t, .str (r.mid edge s.1 s.2 t)])
def stepsL (r : Rl) (edge : Nat) (L : List Tx) (l : List (Tx × Tx)) : List (List Key × Dt) := l.map fun s => (kT s, stepD r edge L s)
def stepsD (r : Rl) (edge n : Nat) : Dt := .dT (stepsL r edge (lettersM r n) (statesM (lettersM r n)))
theorem letters_nodup (r : Rl) (n : Nat) : (lettersM r n).Nodup := wordsM_nodup (signs_nodup r) n
def sp_l_steps (K : PySem.W.Frag) : Sp := Fs K (fun a : Rl × Nat × Nat => [ruD a.1, .str [a.2.1], .int (a.2.2 : Nat)]) (fun a => Zok a.1 a.2.1 a.2.2) (fun a d => d = stepsD a.1 a.2.1 a.2.2)
abbrev N_l_steps : List Str := ["_law_rule_here", "_law_edge", "_law_high", "_law_letters_here", "_law_found", "_law_one", "_law_two", "_law_three"]
theorem sc_l_steps : FnScope N_l_steps ["_law_rule_here", "_law_edge", "_law_high"] (defScope s_l_steps) := ⟨rfl, rfl, rfl, by decide +kernel, rfl, by decide +kernel, by decide +kernel⟩
theorem ok_l_steps {P : Program} {w : World} {K : PySem.W.Frag} {mg : Str → Option Value} {base : Heap} (T : Tp K mg)
    (o_l_letters : Okd P w K mg base 1 "_law_letters" ["_law_signs_here", "_law_high"] (sp_l_letters K))
    (o_l_signs : Okd P w K mg base 1 "_law_signs" ["_law_many"] (sp_l_signs K))
    (o_l_middle : Okd P w K mg base 3 "_law_middle" ["_law_rule_here", "_law_edge", "_law_three"] (sp_l_middle K)) : Okd P w K mg base 4 "_law_steps" ["_law_rule_here", "_law_edge", "_law_high"] (sp_l_steps K) := by
  obtain ⟨f_l_letters, fd_l_letters, F_l_letters, g_l_letters, k_l_letters, b_l_letters⟩ := o_l_letters
  obtain ⟨f_l_signs, fd_l_signs, F_l_signs, g_l_signs, k_l_signs, b_l_signs⟩ := o_l_signs
  obtain ⟨f_l_middle, fd_l_middle, F_l_middle, g_l_middle, k_l_middle, b_l_middle⟩ := o_l_middle
  obtain ⟨fd, F⟩ := T.fn 49 d_l_steps rfl
  refine ⟨_, fd, ?_, T.gl "_law_steps" (by decide +kernel), F.kp, FunD.bindsN F fun _ _ _ _ _ _ us hl => match us, hl with | [_, _, _], _ => rfl⟩
  refine FunD.ok F sc_l_steps (fun vs H Q E h => Fn.len (E := E) h) (fun cdv A outer s H vs Q E hr h => ?_)
  refine ⟨_, PSs.nox (pss_cons (ps_set (i := 3) sc_l_steps.nd rfl (Or.inl rfl) (pe_call F_l_letters (hr.mono (by decide)) (by rfl) g_l_letters k_l_letters b_l_letters .nil pass0 (pa_cons (pe_call F_l_signs (hr.mono (by decide)) (by rfl) g_l_signs k_l_signs b_l_signs .nil pass0 (pa_cons (pe_ix (ix_tupK (K := K)) (pv 0) pe_int (fun _ _ => rfl)) pa_nil)) (pa_cons (pv 2) pa_nil))))
    (pss_cons (ps_set (i := 4) sc_l_steps.nd rfl (Or.inl rfl) pe_dnewT)
    (pss_cons (ps_for PassesOwn.never rfl (pi_listK (K := K) (pv 3)) (pg_name (i := 5) sc_l_steps.nd rfl (Or.inr rfl))
      (pss_one (ps_for PassesOwn.never rfl (pi_listK (K := K) (pv 3)) (pg_name (i := 6) sc_l_steps.nd rfl (Or.inr rfl))
        (pss_one (ps_dput (hu_of hr) (pv 4) (pe_tup (pa_cons (pv 5) (pa_cons (pv 6) pa_nil))) (pe_lc (own := [("_law_three", 7)]) rfl sc_l_steps.nd (pi_listK (K := K) (pv 3)) (blkOk_by (N := N_l_steps) (own := [("_law_three", 7)]) (by kernel_rfl)) (fun _ _ _ _ _ => (pg_name (i := 7) sc_l_steps.nd rfl (Or.inl rfl))) (fun _ _ _ _ _ => pts_nil) (fun _ _ _ _ _ => (pe_tup (pa_cons (pv 7) (pa_cons (pe_call F_l_middle (hr.mono (by decide)) (by rfl) g_l_middle k_l_middle b_l_middle .nil pass0 (pa_cons (pv 0) (pa_cons (pv 1) (pa_cons (pe_tup (pa_cons (pv 5) (pa_cons (pv 6) (pa_cons (pv 7) pa_nil)))) pa_nil)))) pa_nil))))) rfl)))))
    (pss_one (ps_ret (pv 4)))))), ?_⟩
  refine bodyS (E := E) h fun ⟨r, edge, n⟩ σ G hp c D kr kn => ?_
  have z : Zok r edge n := hp
  have z8 : (lettersM r n).length ≤ 8 := by rw [z.len]; exact z.few
  have zl := z.each
  have z3 := z.hi
  have nd := letters_nodup r n
  refine q_setV (d := .lst (txs (lettersM r n))) c (ev_call (r.signs, n) (ea_cons (ev_call r.many (ea_cons (ev_op (ev_var rfl) ev_int (rg_ixT (j := 1) rfl)) ea_nil) trivial) (ea_cons (ev_var rfl) ea_nil)) ⟨by rw [Rl.signs_len z.ok]; exact z.ok.hi, z.hi⟩) fun σ1 G1 H1 c1 g1 => ?_
  generalize hL : lettersM r n = L at z8 zl nd c1
  have c1 : Cf K still G _ σ1 [some (ruD r), some (.str [edge]), some (.int (n : Nat)), some (.lst (txs L)), none, none, none, none] G1 H1 := c1
  refine q_newT c1 fun p σ2 H2 hp0 hp np a2 c2 e2 => ?_
  refine q_forT (l := L) (enc := .str) c2 a2 np (sv_list (ev_var rfl)) (fun i => [some (ruD r), some (.str [edge]), some (.int (n : Nat)), some (.lst (txs L)), some (.raw (.ref p)), none, none, none]) (fun i t => t = stepsL r edge L ((L.take i).flatMap fun a => L.map fun b => (a, b))) rfl rfl (fun i a ha => tg_name) (fun i a t σ' G' H' D' ha ht s c3 a3 hrt kn' => ?_) fun t σ' G' H' ht s c3 a3 => ?_
  · have hla := zl a (List.mem_of_getElem? ha)
    refine c_forT (l := L) (enc := .str) c3 a3 np (sv_list (ev_var rfl)) (fun j => [some (ruD r), some (.str [edge]), some (.int (n : Nat)), some (.lst (txs L)), some (.raw (.ref p)), some (.str a), none, none]) (fun j t' => t' = t ++ stepsL r edge L ((L.take j).map fun b => (a, b))) rfl (by rw [List.take_zero]; simp [stepsL]) (fun j b hb => tg_name) (fun j b t' σ4 G4 H4 D4 hb ht' s4 c4 a4 hrt4 kn4 => ?_) fun t' σ4 G4 H4 ht' s4 c4 a4 => ?_
    · have hlb := zl b (List.mem_of_getElem? hb)
      have hi : i < L.length := (List.getElem?_eq_some_iff.mp ha).1
      have hj : j < L.length := (List.getElem?_eq_some_iff.mp hb).1
      have tl : t'.length < 100000 := by
        have e1 : ∀ ws : List Tx, (ws.flatMap fun a => L.map fun b => (a, b)).length = ws.length * L.length := by
          intro ws
          induction ws with
          | nil => simp
          | cons a r ih => rw [List.flatMap_cons, List.length_append, ih, List.length_map, List.length_cons, Nat.succ_mul, Nat.add_comm]
        rw [ht', ht, List.length_append, stepsL, stepsL, List.length_map, List.length_map, e1, List.length_map, List.length_take, List.length_take]
        have : min i L.length * L.length ≤ 8 * 8 := Nat.mul_le_mul (by omega) z8
        omega
      refine c_putT (q := (a, b)) c4 rfl a4 hp np tl (P := fun d => d = stepD r edge L (a, b)) (ev_mapA (l := L) (enc := .str) (fun x => .tup [.str x, .str (r.mid edge a b x)]) (sv_list (ev_var rfl)) (by omega) fun x hx => ⟨_, [7], by decide, tg_name, ev_tup (ea_cons (ev_var rfl) (ea_cons (ev_call (r, edge, a, b, x) (ea_cons (ev_var rfl) (ea_cons (ev_var rfl) (ea_cons (ev_tup (ea_cons (ev_var rfl) (ea_cons (ev_var rfl) (ea_cons (ev_var rfl) ea_nil))) (show 3 ≤ 100000 by decide)) ea_nil))) ⟨z.ok, by show a.length = b.length; rw [hla, hlb], by show x.length = b.length; rw [zl x hx, hlb], by show b.length ≤ 100; omega⟩) ea_nil)) (show 2 ≤ 100000 by decide)⟩) (ev_tup (ea_cons (ev_var rfl) (ea_cons (ev_var rfl) ea_nil)) (show 2 ≤ 100000 by decide)) fun d G5 H5 H6 e5 g5 c6 a6 _ => ?_
      refine kn4 _ _ _ _ ?_ g5.g (((c6.lose 6).lose 7).to rfl) a6
      rw [putD_new, ht', map_take_succ hb, e5, List.append_assoc]
      · unfold stepsL
        rw [List.map_append]; rfl
      · intro q hq w
        rw [ht', ht] at hq
        rcases List.mem_append.mp hq with hq | hq
        · obtain ⟨s0, hs0, rfl⟩ := List.mem_map.mp hq
          have e3 : s0 = (a, b) := kT_inj w
          obtain ⟨a', ha', h3⟩ := List.mem_flatMap.mp hs0
          obtain ⟨b', _, h4⟩ := List.mem_map.mp h3
          rw [e3] at h4
          have e5 : a' = a := congrArg Prod.fst h4
          rw [e5] at ha'
          exact take_not_mem nd ha ha'
        · obtain ⟨s0, hs0, rfl⟩ := List.mem_map.mp hq
          have e3 : s0 = (a, b) := kT_inj w
          obtain ⟨b', hb', h4⟩ := List.mem_map.mp hs0
          rw [e3] at h4
          have e5 : b' = b := congrArg Prod.snd h4
          rw [e5] at hb'
          exact take_not_mem nd hb hb'
    · rw [List.take_length] at ht'
      refine kn' _ _ _ _ ?_ s4 (((c4.lose 5).lose 6).to rfl) a4
      rw [ht', ht, flatMap_take_succ ha]
      unfold stepsL
      rw [← List.map_append]
  · rw [List.take_length] at ht
    obtain ⟨G7, s7, c7, _⟩ := c3.doneT (i := 4) rfl a3 hp np
    refine c_ret c7 (ev_var rfl) fun v d G8 H8 e c8 g8 r8 => kr _ _ _ _ _ _ r8 ?_ c8
    show d = stepsD r edge n
    unfold stepsD
    rw [hL, e, ht]
    rfl
end K70
namespace K70
open PySem PySem.Spec PyProof.Rows L2
/-! ### _law_set_behind -/
theorem tx_lt_irrefl (a : Tx) : ¬ a < a := List.lt_irrefl a
theorem lt_app_single {a b : Tx} (hl : a.length = b.length) (h : a < b) (c d : Nat) : a ++ [c] < b ++ [d] := by
  induction a generalizing b with
  | nil =>
    cases b with
    | nil => exact absurd h (List.lt_irrefl _)
    | cons y b => simp at hl
  | cons x a ih =>
    cases b with
    | nil => simp at hl
    | cons y b =>
      rw [List.cons_append, List.cons_append]
      rcases List.cons_lt_cons_iff.mp h with q | ⟨q, q2⟩
      · exact List.cons_lt_cons_iff.mpr (.inl q)
      · exact List.cons_lt_cons_iff.mpr (.inr ⟨q, ih (by simpa using hl) q2⟩)
theorem lt_app_same (a : Tx) {c d : Nat} (h : c < d) : a ++ [c] < a ++ [d] := by
  induction a with
  | nil => exact List.cons_lt_cons_iff.mpr (.inl h)
  | cons x a ih => rw [List.cons_append, List.cons_append]; exact List.cons_lt_cons_iff.mpr (.inr ⟨rfl, ih⟩)
theorem wordsM_sorted {l : Tx} (h : l.Pairwise (· < ·)) : ∀ n, (wordsM l n).Pairwise (· < ·)
  | 0 => List.pairwise_singleton _ _
  | n + 1 => by
    show (List.flatMap _ _).Pairwise _
    have ih := wordsM_sorted h n
    have each := wordsM_each l n
    generalize wordsM l n = ws at ih each
    induction ws with
    | nil => exact List.Pairwise.nil
    | cons w ws ih2 =>
      obtain ⟨h1, h2⟩ := List.pairwise_cons.mp ih
      rw [List.flatMap_cons, List.pairwise_append]
      refine ⟨?_, ih2 h2 (fun v hv => each v (List.mem_cons_of_mem _ hv)), fun x hx y hy => ?_⟩
      · rw [List.pairwise_map]
        exact h.imp fun {a b} hab => lt_app_same w hab
      · obtain ⟨c, _, rfl⟩ := List.mem_map.mp hx
        obtain ⟨v, hv, h3⟩ := List.mem_flatMap.mp hy
        obtain ⟨d, _, rfl⟩ := List.mem_map.mp h3
        exact lt_app_single (by rw [(each w List.mem_cons_self).1, (each v (List.mem_cons_of_mem _ hv)).1]) (h1 v hv) c d
theorem sg_sorted : sg.Pairwise (· < ·) := by decide +kernel
theorem letters_sorted (r : Rl) (n : Nat) : (lettersM r n).Pairwise (· < ·) := wordsM_sorted (List.Pairwise.sublist (List.take_sublist _ _) sg_sorted) n
theorem ltS_iff {a b : Tx × Tx} : ltS a b = true ↔ a.1 < b.1 ∨ (¬ b.1 < a.1 ∧ a.2 < b.2) := by
  show (decide (a.1 < b.1) || (!decide (b.1 < a.1) && (decide (a.2 < b.2) || (!decide (b.2 < a.2) && false)))) = true ↔ _
  simp
theorem states_sorted (r : Rl) (n : Nat) : (statesM (lettersM r n)).Pairwise (fun p q => ltS p q = true) := by
  have h := letters_sorted r n
  unfold statesM
  generalize lettersM r n = L at h
  have gen : ∀ ws : List Tx, ws.Pairwise (· < ·) → (ws.flatMap fun a => L.map fun b => (a, b)).Pairwise (fun p q => ltS p q = true) := by
    intro ws
    induction ws with
    | nil => intro _; exact List.Pairwise.nil
    | cons w ws ih =>
      intro hw
      obtain ⟨h1, h2⟩ := List.pairwise_cons.mp hw
      rw [List.flatMap_cons, List.pairwise_append]
      refine ⟨?_, ih h2, fun x hx y hy => ?_⟩
      · rw [List.pairwise_map]
        exact h.imp fun {a b} hab => ltS_iff (a := (w, a)) (b := (w, b)) |>.mpr (.inr ⟨List.lt_irrefl _, hab⟩)
      · obtain ⟨c, _, rfl⟩ := List.mem_map.mp hx
        obtain ⟨v, hv, h3⟩ := List.mem_flatMap.mp hy
        obtain ⟨d, _, rfl⟩ := List.mem_map.mp h3
        exact ltS_iff.mpr (.inl (h1 v hv))
  exact gen L h
/-- the states that may stand behind some where c is made, sorted -/
def setM (r : Rl) (edge : Nat) (L : List Tx) (some : List (Tx × Tx)) (c : Tx) : List (Tx × Tx) := (statesM L).filter fun t => some.any fun s => decide (t ∈ behindM r edge L s c)
theorem setM_mem {r : Rl} {edge : Nat} {L : List Tx} {some : List (Tx × Tx)} {c : Tx} {t : Tx × Tx} (hs : ∀ s ∈ some, s ∈ statesM L) : t ∈ setM r edge L some c ↔ ∃ s ∈ some, t ∈ behindM r edge L s c := by
  unfold setM
  rw [List.mem_filter, List.any_eq_true]
  constructor
  · rintro ⟨_, s, h1, h2⟩
    exact ⟨s, h1, of_decide_eq_true h2⟩
  · rintro ⟨s, h1, h2⟩
    exact ⟨behind_mem (hs s h1) h2, s, h1, decide_eq_true h2⟩
theorem setM_is {r : Rl} {edge n : Nat} {some S : List (Tx × Tx)} {c : Tx} (hs : ∀ s ∈ some, s ∈ statesM (lettersM r n)) (h1 : S.Pairwise (fun p q => ltS p q = true)) (h2 : ∀ t, t ∈ S ↔ ∃ s ∈ some, t ∈ behindM r edge (lettersM r n) s c) : S = setM r edge (lettersM r n) some c :=
  sorted_unique h1 (List.Pairwise.sublist List.filter_sublist (states_sorted r n)) fun x => (h2 x).trans (setM_mem hs).symm
abbrev truesL (ks : List (Tx × Tx)) : List (List Key × Dt) := ks.map fun s => (kT s, .bl true)
theorem put_true {ks : List (Tx × Tx)} {x : Tx × Tx} : putD (truesL ks) (kT x) (.bl true) = truesL (if x ∈ ks then ks else ks ++ [x]) := by
  by_cases h : x ∈ ks
  · rw [if_pos h]
    unfold putD
    rw [if_pos (List.any_eq_true.mpr ⟨(kT x, .bl true), List.mem_map.mpr ⟨x, h, rfl⟩, decide_eq_true rfl⟩)]
    unfold truesL
    rw [List.map_map]
    apply List.map_congr_left
    intro s _
    show (if kT s = kT x then (kT s, Dt.bl true) else (kT s, Dt.bl true)) = _
    split <;> rfl
  · rw [if_neg h, putD_new]
    · unfold truesL; rw [List.map_append]; rfl
    · intro q hq e
      obtain ⟨s, hs, rfl⟩ := List.mem_map.mp hq
      exact h (kT_inj e ▸ hs)
def sp_l_set_behind (K : PySem.W.Frag) : Sp := Fs K (fun a : Rl × Nat × Nat × List (Tx × Tx) × Tx => [stepsD a.1 a.2.1 a.2.2.1, .lst (a.2.2.2.1.map stD), .str a.2.2.2.2]) (fun a => Zok a.1 a.2.1 a.2.2.1 ∧ ∀ s ∈ a.2.2.2.1, s ∈ statesM (lettersM a.1 a.2.2.1)) (fun a d => d = .lst ((setM a.1 a.2.1 (lettersM a.1 a.2.2.1) a.2.2.2.1 a.2.2.2.2).map stD))
theorem mem_take_succ {α : Type} {l : List α} {i : Nat} {a x : α} (h : l[i]? = some a) : x ∈ l.take (i + 1) ↔ x ∈ l.take i ∨ x = a := by
  rw [List.take_add_one, h, List.mem_append]
  simp
abbrev N_l_set_behind : List Str := ["_law_steps_here", "_law_some_here", "_law_column", "_law_found", "_law_one", "_law_two", "_law_three", "_law_made"]
theorem sc_l_set_behind : FnScope N_l_set_behind ["_law_steps_here", "_law_some_here", "_law_column"] (defScope s_l_set_behind) := ⟨rfl, rfl, rfl, by decide +kernel, rfl, by decide +kernel, by decide +kernel⟩
theorem ok_l_set_behind {P : Program} {w : World} {K : PySem.W.Frag} {mg : Str → Option Value} {base : Heap} (T : Tp K mg) : Okd P w K mg base 1 "_law_set_behind" ["_law_steps_here", "_law_some_here", "_law_column"] (sp_l_set_behind K) := by
  obtain ⟨fd, F⟩ := T.fn 56 d_l_set_behind rfl
  refine ⟨_, fd, ?_, T.gl "_law_set_behind" (by decide +kernel), F.kp, FunD.bindsN F fun _ _ _ _ _ _ us hl => match us, hl with | [_, _, _], _ => rfl⟩
  refine FunD.ok F sc_l_set_behind (fun vs H Q E h => Fn.len (E := E) h) (fun cdv A outer s H vs Q E hr h => ?_)
  refine ⟨_, PSs.nox (pss_cons (ps_set (i := 3) sc_l_set_behind.nd rfl (Or.inl rfl) pe_dnewT)
    (pss_cons (ps_for PassesOwn.never rfl (pi_listK (K := K) (pv 1)) (pg_tupK (K := K) (n := 2) rfl (pgs_cons (pg_name (i := 4) sc_l_set_behind.nd rfl (Or.inl rfl)) (pgs_cons (pg_name (i := 5) sc_l_set_behind.nd rfl (Or.inl rfl)) pgs_nil)))
      (pss_one (ps_for PassesOwn.never rfl (pi_listK (K := K) (pe_dget (hu_of hr) (pv 0) (pe_tup (pa_cons (pv 4) (pa_cons (pv 5) pa_nil))) (fun _ _ => rfl))) (pg_tupK (K := K) (n := 2) rfl (pgs_cons (pg_name (i := 6) sc_l_set_behind.nd rfl (Or.inl rfl)) (pgs_cons (pg_name (i := 7) sc_l_set_behind.nd rfl (Or.inl rfl)) pgs_nil)))
        (pss_one (ps_if (pt_cmpR op_eq (pv 7) (pv 2) (nomark _)) (pss_one (ps_dput (hu_of hr) (pv 3) (pe_tup (pa_cons (pv 5) (pa_cons (pv 6) pa_nil))) pe_bl rfl)) pss_nil)))))
    (pss_one (ps_ret (pe_callB (cr_sortedD rfl) (by rfl) T.sorted (by decide +kernel) (pa_cons (pv 3) pa_nil)))))), ?_⟩
  refine bodyS (E := E) h fun ⟨r, edge, n, som, co⟩ σ G hp c D kr kn => ?_
  obtain ⟨z, hs⟩ : Zok r edge n ∧ ∀ s ∈ som, s ∈ statesM (lettersM r n) := hp
  have z8 : (lettersM r n).length ≤ 8 := by rw [z.len]; exact z.few
  have z64 := z.states
  have c : Cf K still G _ σ [.some (stepsD r edge n), .some (.lst (som.map stD)), .some (.str co), none, none, none, none, none] G _ := c
  refine q_newT c fun p σ2 H2 hp0 hp np a2 c2 e2 => ?_
  have few : ∀ ks : List (Tx × Tx), ks.Nodup → (∀ x ∈ ks, x ∈ statesM (lettersM r n)) → (truesL ks).length < 100000 := by
    intro ks nd hk
    have := nodup_len nd hk
    rw [List.length_map]; omega
  refine q_forT (l := som) (enc := stD) c2 a2 np (sv_list (ev_var rfl)) (fun i => [.some (stepsD r edge n), .some (.lst (som.map stD)), .some (.str co), .some (.raw (.ref p)), none, none, none, none]) (fun i t => ∃ ks : List (Tx × Tx), t = truesL ks ∧ ks.Nodup ∧ ∀ x, x ∈ ks ↔ ∃ s ∈ som.take i, x ∈ behindM r edge (lettersM r n) s co) rfl ⟨[], rfl, List.nodup_nil, fun x => ⟨fun h => (nomatch h), fun ⟨s, h, _⟩ => by simp at h⟩⟩ (fun i s hi => tg_two) (fun i s t σ' G' H' D' hi ht s3 c3 a3 hrt kn' => ?_) fun t σ' G' H' ht s3 c3 a3 => ?_
  · obtain ⟨ks, rfl, nd, hk⟩ := ht
    have hsm := hs s (List.mem_of_getElem? hi)
    refine c_forT (l := lettersM r n) (enc := fun t => .tup [.str t, .str (r.mid edge s.1 s.2 t)]) c3 a3 np (sv_list (ev_dgetT (q := s) (ev_var rfl) (ev_tup (ea_cons (ev_var rfl) (ea_cons (ev_var rfl) ea_nil)) (show 2 ≤ 100000 by decide)) (lk_mapT hsm))) (fun j => [.some (stepsD r edge n), .some (.lst (som.map stD)), .some (.str co), .some (.raw (.ref p)), .some (.str s.1), .some (.str s.2), none, none]) (fun j t => ∃ ks : List (Tx × Tx), t = truesL ks ∧ ks.Nodup ∧ ∀ x, x ∈ ks ↔ (∃ s ∈ som.take i, x ∈ behindM r edge (lettersM r n) s co) ∨ ∃ t ∈ (lettersM r n).take j, r.mid edge s.1 s.2 t = co ∧ x = (s.2, t)) rfl ⟨ks, rfl, nd, fun x => by rw [hk]; simp⟩ (fun j t hj => tg_two) (fun j t tt σ4 G4 H4 D4 hj ht4 s4 c4 a4 hrt4 kn4 => ?_) fun tt σ4 G4 H4 ht4 s4 c4 a4 => ?_
    · obtain ⟨ks4, rfl, nd4, hk4⟩ := ht4
      have htL := List.mem_of_getElem? hj
      have sub4 : ∀ x ∈ ks4, x ∈ statesM (lettersM r n) := by
        intro x hx
        rcases (hk4 x).mp hx with ⟨s', h1, h2⟩ | ⟨t', h1, _, h3⟩
        · exact behind_mem (hs s' (List.mem_of_mem_take h1)) h2
        · rw [h3]; exact statesM_mem.mpr ⟨(statesM_mem.mp hsm).2, List.mem_of_mem_take h1⟩
      refine c_if c4 (et_test (ev_op (ev_var rfl) (ev_var rfl) rg_eqS)) (fun b G5 H5 c5 g5 => ?_) (fun b G5 H5 c5 g5 => ?_)
      · have hb : r.mid edge s.1 s.2 t = co := of_decide_eq_true b.symm
        have a5 := a4.grow g5 (fun z => z)
        refine c_putT (q := (s.2, t)) c5 rfl a5 hp np (few ks4 nd4 sub4) ev_bl (ev_tup (ea_cons (ev_var rfl) (ea_cons (ev_var rfl) ea_nil)) (show 2 ≤ 100000 by decide)) fun d G6 H6 H7 e6 g6 c7 a7 _ => ?_
        rw [e6, put_true] at a7
        refine kn4 _ _ _ _ ⟨_, rfl, ?_, fun x => ?_⟩ (g5.g.trans g6.g) (((c7.lose 6).lose 7).to rfl) a7
        · split
          · exact nd4
          · rename_i hn
            rw [List.nodup_append]
            refine ⟨nd4, by simp, fun a ha b hb' e => hn ?_⟩
            have e1 : b = (s.2, t) := by simpa using hb'
            rw [← e1, ← e]; exact ha
        · have h1 : x ∈ (if (s.2, t) ∈ ks4 then ks4 else ks4 ++ [(s.2, t)]) ↔ x ∈ ks4 ∨ x = (s.2, t) := by
            split
            · rename_i hin
              exact ⟨.inl, fun h => h.elim id fun e => e ▸ hin⟩
            · rw [List.mem_append]; simp
          rw [h1, hk4]
          constructor
          · rintro ((q | ⟨t', q1, q2, q3⟩) | q)
            · exact .inl q
            · exact .inr ⟨t', (mem_take_succ hj).mpr (.inl q1), q2, q3⟩
            · exact .inr ⟨t, (mem_take_succ hj).mpr (.inr rfl), hb, q⟩
          · rintro (q | ⟨t', q1, q2, q3⟩)
            · exact .inl (.inl q)
            · rcases (mem_take_succ hj).mp q1 with w | w
              · exact .inl (.inr ⟨t', w, q2, q3⟩)
              · rw [w] at q3; exact .inr q3
      · have hb : ¬ r.mid edge s.1 s.2 t = co := of_decide_eq_false b.symm
        refine kn4 _ _ _ _ ⟨ks4, rfl, nd4, fun x => ?_⟩ g5.g (((c5.lose 6).lose 7).to rfl) (a4.grow g5 (fun z => z))
        rw [hk4]
        constructor
        · rintro (q | ⟨t', q1, q2, q3⟩)
          · exact .inl q
          · exact .inr ⟨t', (mem_take_succ hj).mpr (.inl q1), q2, q3⟩
        · rintro (q | ⟨t', q1, q2, q3⟩)
          · exact .inl q
          · rcases (mem_take_succ hj).mp q1 with w | w
            · exact .inr ⟨t', w, q2, q3⟩
            · rw [w] at q2; exact absurd q2 hb
    · obtain ⟨ks4, rfl, nd4, hk4⟩ := ht4
      refine kn' _ _ _ _ ⟨ks4, rfl, nd4, fun x => ?_⟩ s4 (((c4.lose 4).lose 5).to rfl) a4
      rw [hk4, List.take_length]
      have hbm : x ∈ behindM r edge (lettersM r n) s co ↔ ∃ t ∈ lettersM r n, r.mid edge s.1 s.2 t = co ∧ x = (s.2, t) := by
        unfold behindM
        rw [List.mem_map]
        constructor
        · rintro ⟨t, h1, h2⟩
          obtain ⟨h3, h4⟩ := List.mem_filter.mp h1
          exact ⟨t, h3, of_decide_eq_true h4, h2.symm⟩
        · rintro ⟨t, h1, h2, h3⟩
          exact ⟨t, List.mem_filter.mpr ⟨h1, decide_eq_true h2⟩, h3.symm⟩
      rw [← hbm]
      constructor
      · rintro (⟨s', h1, h2⟩ | h)
        · exact ⟨s', (mem_take_succ hi).mpr (.inl h1), h2⟩
        · exact ⟨s, (mem_take_succ hi).mpr (.inr rfl), h⟩
      · rintro ⟨s', h1, h2⟩
        rcases (mem_take_succ hi).mp h1 with w | w
        · exact .inl ⟨s', w, h2⟩
        · rw [w] at h2; exact .inr h2
  · obtain ⟨ks, rfl, nd, hk⟩ := ht
    rw [List.take_length] at hk
    obtain ⟨G7, s7, c7, _⟩ := c3.doneT (i := 3) rfl a3 hp np
    refine c_ret c7 (ev_sortedD (l := ks) (ev_var rfl) (by rw [List.map_map]; rfl) nd) fun v d G8 H8 e c8 g8 r8 => kr _ _ _ _ _ _ r8 ?_ c8
    obtain ⟨S, rfl, h1, h2⟩ := e
    show Dt.lst (S.map stD) = _
    rw [setM_is hs h2 fun t => (h1.mem_iff).trans (hk t)]
end K70
namespace K70
open PySem PySem.Spec PyProof.Rows L2
/-! ### _law_sets -/
/-- the sets of states from the left on -/
def curM (r : Rl) (edge : Nat) (L : List Tx) (cols : List Tx) : Nat → List (Tx × Tx)
  | 0 => statesM L
  | i + 1 => setM r edge L (curM r edge L cols i) (cols.getD i [])
theorem cur_sub (r : Rl) (edge : Nat) (L : List Tx) (cols : List Tx) : ∀ i, ∀ s ∈ curM r edge L cols i, s ∈ statesM L
  | 0, s, h => h
  | i + 1, s, h => (List.mem_filter.mp h).1
def noneM (r : Rl) (edge : Nat) (L : List Tx) (cols : List Tx) : Option (List (List (Tx × Tx))) := ((List.range cols.length).find? fun i => (curM r edge L cols (i + 1)).isEmpty).map fun i => (List.range (i + 2)).map (curM r edge L cols)
def setD (S : List (Tx × Tx)) : Dt := .lst (S.map stD)
def noneD : Option (List (List (Tx × Tx))) → Dt
  | none => .non
  | some l => .lst (l.map setD)
theorem signs_small (r : Rl) : ∀ c ∈ r.signs, c < 128 := fun c hc => sg_small c (List.mem_of_mem_take hc)
theorem letters_small (r : Rl) (n : Nat) : ∀ w ∈ lettersM r n, ∀ c ∈ w, c < 128 := fun w hw c hc => signs_small r c ((wordsM_each _ _ w hw).2 c hc)
theorem fit_states {r : Rl} {n : Nat} {S : List (Tx × Tx)} (h : ∀ s ∈ S, s ∈ statesM (lettersM r n)) : Fit (setD S) 2 := fit_sts fun s hs => by
  obtain ⟨h1, h2⟩ := statesM_mem.mp (h s hs)
  exact ⟨letters_small r n _ h1, letters_small r n _ h2⟩
theorem set_nil {S : List (Tx × Tx)} : (S.isEmpty = true) ↔ setD S = .lst [] := by
  cases S with
  | nil => simp [setD]
  | cons a l => simp [setD]
theorem eq_sorted {l S : List (Tx × Tx)} (h1 : S.Perm l) (h2 : S.Pairwise (fun p q => ltS p q = true)) (h3 : l.Pairwise (fun p q => ltS p q = true)) : S = l := sorted_unique h2 h3 fun x => h1.mem_iff
def sp_l_sets (K : PySem.W.Frag) : Sp := Fs K (fun a : Rl × Nat × Nat × List Tx => [stepsD a.1 a.2.1 a.2.2.1, .lst (txs a.2.2.2)]) (fun a => Zok a.1 a.2.1 a.2.2.1 ∧ a.2.2.2.length ≤ 1000) (fun a d => d = noneD (noneM a.1 a.2.1 (lettersM a.1 a.2.2.1) a.2.2.2))
theorem last_range {f : Nat → Dt} (i : Nat) : ((List.range (i + 1)).map f)[((List.range (i + 1)).map f).length - 1]? = some (f i) := by
  rw [List.length_map, List.length_range, List.getElem?_map, Nat.add_sub_cancel, List.getElem?_range (by omega)]; rfl
theorem none_found {r : Rl} {edge : Nat} {L : List Tx} {cols : List Tx} {i : Nat} (hi : i < cols.length) (hn : ∀ j, j < i → ¬ (curM r edge L cols (j + 1)).isEmpty = true) (h : (curM r edge L cols (i + 1)).isEmpty = true) : noneM r edge L cols = some ((List.range (i + 2)).map (curM r edge L cols)) := by
  unfold noneM
  rw [find_first (i := i) (q := i) (fun j hj q hq => ?_) (List.getElem?_range hi) h]
  · rfl
  · rw [List.getElem?_range (by omega)] at hq
    cases hq
    have := hn j hj
    cases e : (curM r edge L cols (j + 1)).isEmpty with
    | true => exact absurd e this
    | false => rfl
theorem none_not {r : Rl} {edge : Nat} {L : List Tx} {cols : List Tx} (hn : ∀ j, j < cols.length → ¬ (curM r edge L cols (j + 1)).isEmpty = true) : noneM r edge L cols = none := by
  unfold noneM
  rw [find_no fun j hj q hq => ?_]
  · rfl
  · rw [List.length_range] at hj
    rw [List.getElem?_range hj] at hq
    cases hq
    have := hn j hj
    cases e : (curM r edge L cols (j + 1)).isEmpty with
    | true => exact absurd e this
    | false => rfl
abbrev N_l_sets : List Str := ["_law_steps_here", "_law_columns_here", "_law_sets_here", "_law_column"]
theorem sc_l_sets : FnScope N_l_sets ["_law_steps_here", "_law_columns_here"] (defScope s_l_sets) := ⟨rfl, rfl, rfl, by decide +kernel, rfl, by decide +kernel, by decide +kernel⟩
theorem ok_l_sets {P : Program} {w : World} {K : PySem.W.Frag} {mg : Str → Option Value} {base : Heap} (T : Tp K mg)
    (o_l_set_behind : Okd P w K mg base 1 "_law_set_behind" ["_law_steps_here", "_law_some_here", "_law_column"] (sp_l_set_behind K)) : Okd P w K mg base 2 "_law_sets" ["_law_steps_here", "_law_columns_here"] (sp_l_sets K) := by
  obtain ⟨f_l_set_behind, fd_l_set_behind, F_l_set_behind, g_l_set_behind, k_l_set_behind, b_l_set_behind⟩ := o_l_set_behind
  obtain ⟨fd, F⟩ := T.fn 58 d_l_sets rfl
  refine ⟨_, fd, ?_, T.gl "_law_sets" (by decide +kernel), F.kp, FunD.bindsN F fun _ _ _ _ _ _ us hl => match us, hl with | [_, _], _ => rfl⟩
  refine FunD.ok F sc_l_sets (fun vs H Q E h => Fn.len (E := E) h) (fun cdv A outer s H vs Q E hr h => ?_)
  refine ⟨_, PSs.nox (pss_cons (ps_set (i := 2) sc_l_sets.nd rfl (Or.inl rfl) (pe_lst (pa_cons (pe_callB (cr_sortedD rfl) (by rfl) T.sorted (by decide +kernel) (pa_cons (pv 0) pa_nil)) pa_nil)))
    (pss_cons (ps_for PassesOwn.never rfl (pi_listK (K := K) (pv 1)) (pg_name (i := 3) sc_l_sets.nd rfl (Or.inl rfl))
      (pss_cons (ps_expr (pe_bmK (K := K) PySem.F.plainAttrs_list PySem.F.slot_list_append PySem.F.type_list_append mt_append (pv 2) (pa_cons (pe_call F_l_set_behind (hr.mono (by decide)) (by rfl) g_l_set_behind k_l_set_behind b_l_set_behind .nil pass0 (pa_cons (pv 0) (pa_cons (pe_ix (ix_listK (K := K)) (pv 2) (pe_un un_neg pe_int) (fun _ _ => rfl)) (pa_cons (pv 3) pa_nil)))) pa_nil)))
      (pss_one (ps_if (pt_cmpR (op_eqDK (K := K) hr.units) (pe_ix (ix_listK (K := K)) (pv 2) (pe_un un_neg pe_int) (fun _ _ => rfl)) (pe_lst pa_nil) (nomark _)) (pss_one (ps_ret (pv 2))) pss_nil))))
    (pss_one (ps_ret pe_non)))), ?_⟩
  refine bodyS (E := E) h fun ⟨r, edge, n, cols⟩ σ G hp c D kr kn => ?_
  obtain ⟨z, hc⟩ : Zok r edge n ∧ cols.length ≤ 1000 := hp
  have z64 := z.states
  generalize hL : lettersM r n = L at z64
  have c : Cf K still G _ σ [some (stepsD r edge n), some (.lst (txs cols)), none, none] G _ := c
  have hs0 : EvG K still (tCB rSortedD (tCons (tVar 0) tNil)) [some (stepsD r edge n), some (.lst (txs cols)), none, none] (· = setD (statesM L)) := by
    refine (ev_sortedD (l := statesM (lettersM r n)) (ev_var rfl) (by rw [stepsL, List.map_map]; rfl) (states_nodup r n)).imp fun d e => ?_
    obtain ⟨S, rfl, h1, h2⟩ := e
    rw [← hL, eq_sorted h1 h2 (states_sorted r n)]; rfl
  refine q_lstH c (ea_cons hs0 ea_nil) (show 1 ≤ 100000 by decide) fun p σ1 G1 H1 hp n1 a1 c1 g1 => ?_
  refine q_forL (l := cols) (enc := .str) c1 a1 n1 (sv_list (ev_var rfl)) (fun _ => [some (stepsD r edge n), some (.lst (txs cols)), some (.raw (.ref p)), none]) (fun i b => b = (List.range (i + 1)).map (fun j => setD (curM r edge L cols j)) ∧ ∀ j, j < i → ¬ (curM r edge L cols (j + 1)).isEmpty = true) rfl ⟨rfl, fun j hj => absurd hj (Nat.not_lt_zero _)⟩ (fun i a ha => tg_name) (fun i co b σ' G' H' D' ha hb s c2 a2 hrt kn' => ?_) fun b σ' G' H' hb s c2 a2 => ?_
  · obtain ⟨rfl, hne⟩ := hb
    have hi : i < cols.length := (List.getElem?_eq_some_iff.mp ha).1
    have hco : cols.getD i [] = co := by rw [List.getD_eq_getElem?_getD, ha]; rfl
    have sub : ∀ s ∈ curM r edge L cols i, s ∈ statesM (lettersM r n) := by rw [hL]; exact cur_sub r edge L cols i
    have sub1 : ∀ s ∈ curM r edge L cols (i + 1), s ∈ statesM (lettersM r n) := by rw [hL]; exact cur_sub r edge L cols (i + 1)
    refine q_appL (P := fun d => d = setD (curM r edge L cols (i + 1))) c2 rfl a2 hp (by rw [List.length_map, List.length_range]; omega) (fun vs _ => (ev_call (r, edge, n, curM r edge L cols i, co) (ea_cons (ev_var rfl) (ea_cons (ev_lastAcc rfl (last_range i) (ev_un ev_int ug_neg)) (ea_cons (ev_var rfl) ea_nil))) ⟨z, sub⟩).imp fun d e => by
      rw [e, hL]
      show _ = setD (setM r edge L (curM r edge L cols i) (cols.getD i []))
      rw [hco]; rfl) fun d G3 H3 e s3 c3 a3 => ?_
    subst e
    have e3 : (List.range (i + 1)).map (fun j => setD (curM r edge L cols j)) ++ [setD (curM r edge L cols (i + 1))] = (List.range (i + 2)).map (fun j => setD (curM r edge L cols j)) := by
      rw [List.range_succ (n := i + 1), List.map_append]; rfl
    rw [e3] at a3
    refine c_ifL (B := (· = (curM r edge L cols (i + 1)).isEmpty)) c3 a3 (fun vs _ => et_test (ev_op (ev_lastAcc rfl (last_range (i + 1)) (ev_un ev_int ug_neg)) (ev_lst ea_nil (by decide)) (rg_eqF (fit_states sub1) fit_nil (by decide) (by decide) set_nil))) (fun b G4 H4 s4 c4 a4 => ?_) fun b G4 H4 s4 c4 a4 => ?_
    · obtain ⟨G5, s5, c5, _⟩ := c4.done (i := 2) rfl a4 hp n1
      refine c_ret c5 (ev_var rfl) fun v d G6 H6 e c6 g6 r6 => ?_
      rw [hrt]
      refine kr _ _ _ _ _ _ r6 ?_ c6
      show d = noneD (noneM r edge (lettersM r n) cols)
      rw [hL, none_found hi hne b.symm, e]
      show _ = Dt.lst (((List.range (i + 2)).map (curM r edge L cols)).map setD)
      rw [List.map_map]; rfl
    · refine kn' _ _ _ _ ⟨rfl, fun j hj => ?_⟩ (s3.trans s4) ((c4.lose 3).to rfl) a4
      by_cases e : j = i
      · subst e; rw [← b]; decide
      · exact hne j (by omega)
  · obtain ⟨rfl, hne⟩ := hb
    refine c_ret c2 ev_non fun v d G3 H3 e c3 g3 r3 => kr _ _ _ _ _ _ r3 ?_ c3
    show d = noneD (noneM r edge (lettersM r n) cols)
    rw [hL, none_not hne, e]; rfl
end K70
namespace K70
open PySem PySem.Spec PyProof.Rows L2
/-! ### _law_counted -/
theorem lk_nodup {t : Tab} {q : (Tx × Tx) × Nat} (nd : (t.map (·.1)).Nodup) (h : q ∈ t) : lk t q.1 = some q.2 := by
  induction t with
  | nil => cases h
  | cons a t ih =>
    rw [List.map_cons, List.nodup_cons] at nd
    obtain ⟨a1, a2⟩ := a
    by_cases e : a1 = q.1
    · rcases List.mem_cons.mp h with z | z
      · rw [z]; exact lk_pos
      · exact absurd (List.mem_map.mpr ⟨q, z, e.symm⟩) nd.1
    · rw [lk_neg e]
      rcases List.mem_cons.mp h with z | z
      · exact absurd (by rw [z]) e
      · exact ih nd.2 z
theorem putD_tab {t : Tab} {x : Tx × Tx} {v : Nat} : putD (tabL t) (kT x) (.int (v : Nat)) = tabL (putD t x v) := by
  have any : ((tabL t).any fun p => decide (p.1 = kT x)) = (t.any fun p => decide (p.1 = x)) := by
    unfold tabL
    rw [List.any_map]
    congr 1
    funext q
    show decide (kT q.1 = kT x) = decide (q.1 = x)
    apply decide_eq_decide.mpr
    exact ⟨kT_inj, fun e => by rw [e]⟩
  unfold putD
  rw [any]
  by_cases h : (t.any fun p => decide (p.1 = x)) = true
  · rw [if_pos h, if_pos h]
    unfold tabL
    rw [List.map_map, List.map_map]
    apply List.map_congr_left
    intro q _
    show (if kT q.1 = kT x then (kT q.1, Dt.int (v : Nat)) else (kT q.1, .int (q.2 : Nat))) = (kT (if q.1 = x then (q.1, v) else q).1, .int ((if q.1 = x then (q.1, v) else q).2 : Nat))
    by_cases e : q.1 = x
    · rw [if_pos (by rw [e]), if_pos e]
    · rw [if_neg (fun z => e (kT_inj z)), if_neg e]
  · rw [if_neg h, if_neg h]
    unfold tabL
    rw [List.map_append]; rfl
theorem put_keys {t : Tab} {x : Tx × Tx} {v : Nat} : (putD t x v).map (·.1) = if x ∈ t.map (·.1) then t.map (·.1) else t.map (·.1) ++ [x] := by
  unfold putD
  have any : (t.any fun p => decide (p.1 = x)) = true ↔ x ∈ t.map (·.1) := by
    rw [List.any_eq_true, List.mem_map]
    constructor
    · rintro ⟨q, h1, h2⟩; exact ⟨q, h1, of_decide_eq_true h2⟩
    · rintro ⟨q, h1, h2⟩; exact ⟨q, h1, decide_eq_true h2⟩
  by_cases h : (t.any fun p => decide (p.1 = x)) = true
  · rw [if_pos h, if_pos (any.mp h), List.map_map]
    apply List.map_congr_left
    intro q _
    show (if q.1 = x then (q.1, v) else q).1 = q.1
    split <;> rfl
  · rw [if_neg h, if_neg (fun z => h (any.mpr z)), List.map_append]; rfl
/-- the ways so far, each weighed by f -/
def wsum (t : Tab) (f : Tx × Tx → Nat) : Nat := (t.map fun q => q.2 * f q.1).sum
theorem wsum_same {t : Tab} {x : Tx × Tx} {v : Nat} {f : Tx × Tx → Nat} (h : x ∉ t.map (·.1)) : (t.map (fun q => if q.1 = x then (q.1, v) else q)) = t := by
  rw [List.map_congr_left (g := id)]
  · exact List.map_id _
  · intro q hq
    have : q.1 ≠ x := fun e => h (List.mem_map.mpr ⟨q, hq, e⟩)
    rw [if_neg this]; rfl
theorem wsum_put {t : Tab} {x : Tx × Tx} {v : Nat} {f : Tx × Tx → Nat} (nd : (t.map (·.1)).Nodup) : wsum (putD t x (getT t x + v)) f = wsum t f + v * f x := by
  by_cases hx : x ∈ t.map (·.1)
  · have any : (t.any fun p => decide (p.1 = x)) = true := by
      obtain ⟨q, h1, h2⟩ := List.mem_map.mp hx
      exact List.any_eq_true.mpr ⟨q, h1, decide_eq_true h2⟩
    unfold putD
    rw [if_pos any]
    generalize hg : getT t x = g
    induction t with
    | nil => cases hx
    | cons a t ih =>
      rw [List.map_cons, List.nodup_cons] at nd
      obtain ⟨a1, a2⟩ := a
      by_cases e : a1 = x
      · subst e
        have hg2 : g = a2 := by rw [← hg]; unfold getT; rw [lk_pos]; rfl
        rw [List.map_cons, if_pos rfl, wsum_same (f := f) nd.1]
        unfold wsum
        rw [List.map_cons, List.sum_cons, List.map_cons, List.sum_cons, hg2]
        show (a2 + v) * f a1 + _ = a2 * f a1 + _ + v * f a1
        rw [Nat.add_mul]; omega
      · have hx' : x ∈ t.map (·.1) := by
          rcases List.mem_cons.mp hx with z | z
          · exact absurd z.symm e
          · exact z
        have hg' : getT t x = g := by rw [← hg]; unfold getT; rw [lk_neg e]
        have any' : (t.any fun p => decide (p.1 = x)) = true := by
          obtain ⟨q, h1, h2⟩ := List.mem_map.mp hx'
          exact List.any_eq_true.mpr ⟨q, h1, decide_eq_true h2⟩
        have := ih nd.2 hx' any' hg'
        unfold wsum at this ⊢
        rw [List.map_cons, if_neg e, List.map_cons, List.sum_cons, this, List.map_cons, List.sum_cons]
        omega
  · have any : ¬ (t.any fun p => decide (p.1 = x)) = true := fun h => by
      obtain ⟨q, h1, h2⟩ := List.any_eq_true.mp h
      exact hx (List.mem_map.mpr ⟨q, h1, of_decide_eq_true h2⟩)
    unfold putD
    rw [if_neg any]
    have hg : getT t x = 0 := by
      unfold getT
      have : lk t x = none := by
        unfold lk
        rw [List.find?_eq_none.mpr]
        · rfl
        · intro q hq w
          exact hx (List.mem_map.mpr ⟨q, hq, of_decide_eq_true w⟩)
      rw [this]; rfl
    unfold wsum
    rw [List.map_append, List.sum_append, hg]
    simp
/-- one way more behind s, for each letter that makes c -/
def addC (r : Rl) (edge : Nat) (L : List Tx) (c : Tx) (t : Tab) (q : (Tx × Tx) × Nat) : Tab := L.foldl (fun t x => if r.mid edge q.1.1 q.1.2 x = c then putD t (q.1.2, x) (getT t (q.1.2, x) + q.2) else t) t
def stepC (r : Rl) (edge : Nat) (L : List Tx) (t : Tab) (c : Tx) : Tab := t.foldl (addC r edge L c) []
def cntT (r : Rl) (edge : Nat) (L : List Tx) (cols : List Tx) : Nat → Tab
  | 0 => onesT L
  | i + 1 => stepC r edge L (cntT r edge L cols i) (cols.getD i [])
structure TbOk (L : List Tx) (t : Tab) : Prop where
  nd : (t.map (·.1)).Nodup
  sub : ∀ x ∈ t.map (·.1), x ∈ statesM L
theorem TbOk.put {L : List Tx} {t : Tab} {x : Tx × Tx} {v : Nat} (h : TbOk L t) (hx : x ∈ statesM L) : TbOk L (putD t x v) := by
  constructor
  · rw [put_keys]
    split
    · exact h.nd
    · rename_i hn
      rw [List.nodup_append]
      refine ⟨h.nd, by simp, fun a ha b hb e => hn ?_⟩
      have e1 : b = x := by simpa using hb
      rw [← e1, ← e]; exact ha
  · rw [put_keys]
    split
    · exact h.sub
    · intro y hy
      rcases List.mem_append.mp hy with z | z
      · exact h.sub y z
      · have : y = x := by simpa using z
        rw [this]; exact hx
theorem foldl_take_succ {α β : Type} {f : β → α → β} {b : β} {l : List α} {i : Nat} {a : α} (h : l[i]? = some a) : (l.take (i + 1)).foldl f b = f ((l.take i).foldl f b) a := by
  rw [List.take_add_one, h]
  simp
theorem addC_ok {r : Rl} {edge : Nat} {L : List Tx} {c : Tx} {q : (Tx × Tx) × Nat} (hq : q.1 ∈ statesM L) (f : Tx × Tx → Nat) : ∀ (l : List Tx), (∀ x ∈ l, x ∈ L) → ∀ t : Tab, TbOk L t →
    TbOk L (l.foldl (fun t x => if r.mid edge q.1.1 q.1.2 x = c then putD t (q.1.2, x) (getT t (q.1.2, x) + q.2) else t) t) ∧
    wsum (l.foldl (fun t x => if r.mid edge q.1.1 q.1.2 x = c then putD t (q.1.2, x) (getT t (q.1.2, x) + q.2) else t) t) f = wsum t f + q.2 * (((l.filter fun x => decide (r.mid edge q.1.1 q.1.2 x = c)).map fun x => (q.1.2, x)).map f).sum
  | [], _, t, h => ⟨h, by simp⟩
  | x :: l, hl, t, h => by
    rw [List.foldl_cons]
    have hx : (q.1.2, x) ∈ statesM L := statesM_mem.mpr ⟨(statesM_mem.mp hq).2, hl x List.mem_cons_self⟩
    by_cases e : r.mid edge q.1.1 q.1.2 x = c
    · rw [if_pos e, List.filter_cons_of_pos (by simpa using e)]
      have h2 := TbOk.put (v := getT t (q.1.2, x) + q.2) h hx
      obtain ⟨i1, i2⟩ := addC_ok (r := r) (edge := edge) (c := c) hq f l (fun y hy => hl y (List.mem_cons_of_mem _ hy)) _ h2
      refine ⟨i1, ?_⟩
      rw [i2, wsum_put h.nd, List.map_cons, List.map_cons, List.sum_cons, Nat.mul_add]
      omega
    · rw [if_neg e, List.filter_cons_of_neg (by simpa using e)]
      exact addC_ok hq f l (fun y hy => hl y (List.mem_cons_of_mem _ hy)) t h
theorem stepC_ok {r : Rl} {edge : Nat} {L : List Tx} {c : Tx} (T : Tab) : ∀ (l : Tab), (∀ q ∈ l, q.1 ∈ statesM L) → ∀ t : Tab, TbOk L t → TbOk L (l.foldl (addC r edge L c) t) ∧ wsum (l.foldl (addC r edge L c) t) (getT T) = wsum t (getT T) + wsum l (nextOne r edge L T c)
  | [], _, t, h => ⟨h, rfl⟩
  | q :: l, hl, t, h => by
    rw [List.foldl_cons]
    obtain ⟨a1, a2⟩ := addC_ok (r := r) (edge := edge) (c := c) (hl q List.mem_cons_self) (getT T) L (fun x hx => hx) t h
    obtain ⟨i1, i2⟩ := stepC_ok (r := r) (edge := edge) (c := c) T l (fun x hx => hl x (List.mem_cons_of_mem _ hx)) (addC r edge L c t q) a1
    refine ⟨i1, ?_⟩
    rw [i2]
    unfold addC
    rw [a2]
    unfold wsum
    rw [List.map_cons, List.sum_cons]
    show _ + q.2 * nextOne r edge L T c q.1 + _ = _
    omega
theorem cnt_ok (r : Rl) (edge n : Nat) (cols : List Tx) : ∀ i, i ≤ cols.length → TbOk (lettersM r n) (cntT r edge (lettersM r n) cols i) ∧ wsum (cntT r edge (lettersM r n) cols i) (getT (tabAt r edge (lettersM r n) cols i)) = manyM r edge (lettersM r n) cols
  | 0, h => by
    refine ⟨⟨?_, fun x hx => ?_⟩, ?_⟩
    · show ((onesT (lettersM r n)).map (·.1)).Nodup
      unfold onesT
      rw [List.map_map]
      have : (statesM (lettersM r n)).map ((fun q : (Tx × Tx) × Nat => q.1) ∘ fun s => (s, 1)) = statesM (lettersM r n) := by
        exact (List.map_congr_left (g := id) fun _ _ => rfl).trans (List.map_id _)
      rw [this]; exact states_nodup r n
    · obtain ⟨q, hq, rfl⟩ := List.mem_map.mp hx
      obtain ⟨s, hs, rfl⟩ := List.mem_map.mp hq
      exact hs
    · have h0 : manyM r edge (lettersM r n) cols = totM (tabAt r edge (lettersM r n) cols 0) := rfl
      rw [h0, tot_at r edge n cols h]
      show wsum (onesT (lettersM r n)) _ = _
      unfold wsum onesT
      rw [List.map_map]
      congr 1
      apply List.map_congr_left
      intro s _
      show 1 * getT _ s = _
      omega
  | i + 1, h => by
    obtain ⟨h1, h2⟩ := cnt_ok r edge n cols i (by omega)
    have hc : cols[i]? = some (cols.getD i []) := at_getD (by omega) []
    have sub : ∀ q ∈ cntT r edge (lettersM r n) cols i, q.1 ∈ statesM (lettersM r n) := fun q hq => h1.sub _ (List.mem_map.mpr ⟨q, hq, rfl⟩)
    obtain ⟨s1, s2⟩ := stepC_ok (r := r) (edge := edge) (c := cols.getD i []) (tabAt r edge (lettersM r n) cols (i + 1)) (cntT r edge (lettersM r n) cols i) sub [] ⟨List.nodup_nil, fun x hx => nomatch hx⟩
    refine ⟨s1, ?_⟩
    show wsum (stepC r edge (lettersM r n) (cntT r edge (lettersM r n) cols i) (cols.getD i [])) _ = _
    unfold stepC
    rw [s2, ← h2, tabAt_step hc]
    show 0 + _ = _
    rw [Nat.zero_add]
    unfold wsum
    congr 1
    apply List.map_congr_left
    intro q hq
    rw [getT_next (states_nodup r n) (sub q hq)]
theorem cnt_end (r : Rl) (edge n : Nat) (cols : List Tx) : totM (cntT r edge (lettersM r n) cols cols.length) = manyM r edge (lettersM r n) cols := by
  obtain ⟨h1, h2⟩ := cnt_ok r edge n cols cols.length (Nat.le_refl _)
  rw [← h2, tabAt_end]
  unfold totM wsum
  congr 1
  apply List.map_congr_left
  intro q hq
  rw [getT_ones (h1.sub _ (List.mem_map.mpr ⟨q, hq, rfl⟩)), Nat.mul_one]
def sp_l_counted (K : PySem.W.Frag) : Sp := Fs K (fun a : Rl × Nat × Nat × List Tx => [stepsD a.1 a.2.1 a.2.2.1, .lst (txs a.2.2.2)]) (fun a => Zok a.1 a.2.1 a.2.2.1 ∧ a.2.2.2.length ≤ 1000) (fun a d => d = .int (manyM a.1 a.2.1 (lettersM a.1 a.2.2.1) a.2.2.2 : Nat))
abbrev N_l_counted : List Str := ["_law_steps_here", "_law_columns_here", "_law_counts", "_law_column", "_law_later", "_law_one", "_law_two", "_law_three", "_law_made", "_law_state"]
theorem sc_l_counted : FnScope N_l_counted ["_law_steps_here", "_law_columns_here"] (defScope s_l_counted) := ⟨rfl, rfl, rfl, by decide +kernel, rfl, by decide +kernel, by decide +kernel⟩
theorem ok_l_counted {P : Program} {w : World} {K : PySem.W.Frag} {mg : Str → Option Value} {base : Heap} (T : Tp K mg) : Okd P w K mg base 1 "_law_counted" ["_law_steps_here", "_law_columns_here"] (sp_l_counted K) := by
  obtain ⟨fd, F⟩ := T.fn 57 d_l_counted rfl
  refine ⟨_, fd, ?_, T.gl "_law_counted" (by decide +kernel), F.kp, FunD.bindsN F fun _ _ _ _ _ _ us hl => match us, hl with | [_, _], _ => rfl⟩
  refine FunD.ok F sc_l_counted (fun vs H Q E h => Fn.len (E := E) h) (fun cdv A outer s H vs Q E hr h => ?_)
  refine ⟨_, PSs.nox (pss_cons (ps_set (i := 2) sc_l_counted.nd rfl (Or.inl rfl) (pe_callTy (cr_dictT rfl (Nat.lt_of_le_of_lt (Nat.add_le_add_left (by decide : 2 ≤ 64) _) hr.units)) (by rfl) T.dict (by decide +kernel) (pa_cons (pe_lockR (pe_lc (own := [("_law_state", 9)]) rfl sc_l_counted.nd (pi_keys (pv 0)) (blkOk_by (N := N_l_counted) (own := [("_law_state", 9)]) (by kernel_rfl)) (fun _ _ _ _ _ => (pg_name (i := 9) sc_l_counted.nd rfl (Or.inl rfl))) (fun _ _ _ _ _ => pts_nil) (fun _ _ _ _ _ => (pe_tup (pa_cons (pv 9) (pa_cons pe_int pa_nil)))))) pa_nil)))
    (pss_cons (ps_for PassesOwn.never rfl (pi_listK (K := K) (pv 1)) (pg_name (i := 3) sc_l_counted.nd rfl (Or.inl rfl))
      (pss_cons (ps_set (i := 4) sc_l_counted.nd rfl (Or.inl rfl) pe_dnewT)
      (pss_cons (ps_lockR (ps_for PassesOwn.never rfl (pi_keys (pv 2)) (pg_tupK (K := K) (n := 2) rfl (pgs_cons (pg_name (i := 5) sc_l_counted.nd rfl (Or.inl rfl)) (pgs_cons (pg_name (i := 6) sc_l_counted.nd rfl (Or.inl rfl)) pgs_nil)))
        (pss_one (ps_for PassesOwn.never rfl (pi_listK (K := K) (pe_dget (hu_of hr) (pv 0) (pe_tup (pa_cons (pv 5) (pa_cons (pv 6) pa_nil))) (fun _ _ => rfl))) (pg_tupK (K := K) (n := 2) rfl (pgs_cons (pg_name (i := 7) sc_l_counted.nd rfl (Or.inl rfl)) (pgs_cons (pg_name (i := 8) sc_l_counted.nd rfl (Or.inl rfl)) pgs_nil)))
          (pss_one (ps_if (pt_cmpR op_eq (pv 8) (pv 3) (nomark _)) (pss_one (ps_dput (hu_of hr) (pv 4) (pe_tup (pa_cons (pv 6) (pa_cons (pv 7) pa_nil))) (pe_op op_add (pe_dget2 (hu_of hr) (pv 4) (pe_tup (pa_cons (pv 6) (pa_cons (pv 7) pa_nil))) pe_int ⟨by rfl, by rfl, by rfl, by rfl⟩) (pe_dget (hu_of hr) (pv 2) (pe_tup (pa_cons (pv 5) (pa_cons (pv 6) pa_nil))) (fun _ _ => rfl))) rfl)) pss_nil))))))
      (pss_one (ps_set (i := 2) sc_l_counted.nd rfl (Or.inl rfl) (pv 4))))))
    (pss_one (ps_ret (pe_callB (cr_sumK (K := K) rfl) (by rfl) T.sum (by decide +kernel) (pa_cons (pe_callTy (cr_listV rfl) (by rfl) T.list (by decide +kernel) (pa_cons (pe_vals (pv 2)) pa_nil)) pa_nil)))))), ?_⟩
  refine bodyS (E := E) h fun ⟨r, edge, n, cols⟩ σ G hp c D kr kn => ?_
  obtain ⟨z, hc⟩ : Zok r edge n ∧ cols.length ≤ 1000 := hp
  have z64 := z.states
  have z8 : (lettersM r n).length ≤ 8 := by rw [z.len]; exact z.few
  have c : Cf K still G _ σ [some (stepsD r edge n), some (.lst (txs cols)), none, none, none, none, none, none, none, none] G _ := c
  refine q_setV (d := tabD (cntT r edge (lettersM r n) cols 0)) c ((ev_cb1 (ev_lcKeys (l := statesM (lettersM r n)) (d := stepD r edge (lettersM r n)) (fun s => .tup [stD s, .int 1]) rfl (Nat.le_trans z64 (by decide)) fun s hs => ⟨_, [9], by decide, tg_name, ev_tup (ea_cons (ev_var rfl) (ea_cons ev_int ea_nil)) (show 2 ≤ 100000 by decide)⟩) (cg_dictT (d := fun _ => .int 1) (states_nodup r n))).to (ones_D _)) fun σ1 G1 H1 c1 g1 => ?_
  refine q_forA (l := cols) (enc := .str) c1 (sv_list (ev_var rfl)) (fun i => [some (stepsD r edge n), some (.lst (txs cols)), some (tabD (cntT r edge (lettersM r n) cols i)), none, none, none, none, none, none, none]) (fun _ => True) rfl trivial (fun i a ha => tg_name) (fun Gb Hb gb i co σ' G' H' D' ha _ c2 hrt kn' => ?_) fun _ σ' G' H' c2 => ?_
  · have hi : i < cols.length := (List.getElem?_eq_some_iff.mp ha).1
    have hco : cols.getD i [] = co := by rw [List.getD_eq_getElem?_getD, ha]; rfl
    obtain ⟨ok, _⟩ := cnt_ok r edge n cols i (Nat.le_of_lt hi)
    have hnext : cntT r edge (lettersM r n) cols (i + 1) = stepC r edge (lettersM r n) (cntT r edge (lettersM r n) cols i) co := by rw [← hco]; rfl
    generalize hT : cntT r edge (lettersM r n) cols i = T at ok hnext c2
    have tsub : ∀ q ∈ T, q.1 ∈ statesM (lettersM r n) := fun q hq => ok.sub _ (List.mem_map.mpr ⟨q, hq, rfl⟩)
    obtain ⟨v2, e2, r2⟩ := c2.sl.at_ 2 (tabD T) rfl
    obtain ⟨d, kvs, rfl, ga, rm⟩ := id r2.dT_inv
    have c2r : Cf K still G' H' σ' [some (stepsD r edge n), some (.lst (txs cols)), some (tabD T), some (.str co), none, none, none, none, none, none] G' H' := ⟨c2.sl, c2.gh, trivial, Grow.refl c2.gh⟩
    have c3 : Cf K still G' H' σ' [some (stepsD r edge n), some (.lst (txs cols)), some (.raw (.ref d)), some (.str co), none, none, none, none, none, none] G' H' := c2r.reput e2 (.raw _)
    refine q_newT c3 fun p σ3 H3 hf hp np a4 c4 e4 => ?_
    have npd : p ≠ d := fun w => by
      have := a4.out
      rw [w] at this
      rcases ga with ga | ⟨o, ga⟩
      · rw [ga] at this; cases this
      · rw [ga] at this; cases this
    refine q_lockB c4 c2.gh ga fun od G0' H0' Ga Ha U D1 L0 L c5 kx => ?_
    have a5 := AccT.locked L a4 npd
    have hp' : H0' p = none := by rw [L0.H1o p npd]; exact hp
    obtain ⟨v5, e5, r5⟩ := c5.sl.at_ 2 (.raw (.ref d)) rfl
    obtain rfl := r5.raw_inv
    have rmL := rm.lock L.s1
    have c6 : Cf K still G0' H0' σ3 [some (stepsD r edge n), some (.lst (txs cols)), some (tabD T), some (.str co), some (.raw (.ref p)), none, none, none, none, none] Ga Ha := c5.reput e5 (.dT (.inr ⟨od, L.at_⟩) rmL)
    have ek : (tabL T).map (fun q => Dt.tup (q.1.map kD)) = T.map fun q => stD q.1 := by
      unfold tabL
      rw [List.map_map]
      apply List.map_congr_left
      intro q _
      exact kT_D q.1
    have okJ := fun j => (stepC_ok (r := r) (edge := edge) (L := lettersM r n) (c := co) [] (T.take j) (fun q hq => tsub q (List.mem_of_mem_take hq)) [] ⟨List.nodup_nil, fun x hx => nomatch hx⟩).1
    have few : ∀ t : Tab, TbOk (lettersM r n) t → (tabL t).length < 100000 := by
      intro t ht
      have := nodup_len ht.nd ht.sub
      rw [List.length_map] at this
      rw [List.length_map]; omega
    refine c_forXat (l := T) (enc := fun q => stD q.1) (fun G H t => AccT K G H p t) (fun a g => a.grow g (fun z => z)) c6 (fun R hR => hs_keys e5 L.at_ L.sub (src_keys L.at_ rmL) R fun J es G2 H2 q => hR J es G2 H2 (q.trans ek)) (x0 := []) (fun G1 H1 g => a5.grow g (fun z => z)) (fun j => [some (stepsD r edge n), some (.lst (txs cols)), some (tabD T), some (.str co), some (.raw (.ref p)), none, none, none, none, none]) (fun j t => t = tabL ((T.take j).foldl (addC r edge (lettersM r n) co) [])) rfl rfl (fun j q hq => tg_two) (fun j q t σ6 G6 H6 D6 hq ht s6 c7 a7 hrt6 kn6 => ?_) fun t σ6 G6 H6 ht s6 c7 a7 => ?_
    · have hqm := List.mem_of_getElem? hq
      have hqs := tsub q hqm
      have prior := okJ j
      generalize hpr : (T.take j).foldl (addC r edge (lettersM r n) co) [] = t0 at ht prior
      subst ht
      have okK := fun k => (addC_ok (r := r) (edge := edge) (L := lettersM r n) (c := co) hqs (fun _ => 0) ((lettersM r n).take k) (fun x hx => List.mem_of_mem_take hx) t0 prior).1
      refine c_forT (l := lettersM r n) (enc := fun t => .tup [.str t, .str (r.mid edge q.1.1 q.1.2 t)]) c7 a7 np (sv_list (ev_dgetT (q := q.1) (ev_var rfl) (ev_tup (ea_cons (ev_var rfl) (ea_cons (ev_var rfl) ea_nil)) (show 2 ≤ 100000 by decide)) (lk_mapT hqs))) (fun k => [some (stepsD r edge n), some (.lst (txs cols)), some (tabD T), some (.str co), some (.raw (.ref p)), some (.str q.1.1), some (.str q.1.2), none, none, none]) (fun k t => t = tabL (((lettersM r n).take k).foldl (fun t x => if r.mid edge q.1.1 q.1.2 x = co then putD t (q.1.2, x) (getT t (q.1.2, x) + q.2) else t) t0)) rfl rfl (fun k x hx => tg_two) (fun k x t σ8 G8 H8 D8 hx ht s8 c8 a8 hrt8 kn8 => ?_) fun t σ8 G8 H8 ht s8 c8 a8 => ?_
      · have okk := okK k
        have hsucc := foldl_take_succ (f := fun (t : Tab) x => if r.mid edge q.1.1 q.1.2 x = co then putD t (q.1.2, x) (getT t (q.1.2, x) + q.2) else t) (b := t0) hx
        generalize ((lettersM r n).take k).foldl (fun (t : Tab) x => if r.mid edge q.1.1 q.1.2 x = co then putD t (q.1.2, x) (getT t (q.1.2, x) + q.2) else t) t0 = t1 at ht okk hsucc
        subst ht
        refine c_if c8 (et_test (ev_op (ev_var rfl) (ev_var rfl) rg_eqS)) (fun b G9 H9 c9 g9 => ?_) (fun b G9 H9 c9 g9 => ?_)
        · have hb : r.mid edge q.1.1 q.1.2 x = co := of_decide_eq_true b.symm
          have a9 := a8.grow g9 (fun z => z)
          have look : lk (tabL T) (kT q.1) = some (.int (q.2 : Nat)) := by
            have w := lk_mapK (f := fun x : Nat => Dt.int (x : Nat)) (s := q.1) (l := T)
            rw [lk_nodup ok.nd hqm] at w
            exact w
          refine c_putTT (q := (q.1.2, x)) (P := fun d => d = .int ((getT t1 (q.1.2, x) + q.2 : Nat) : Nat)) c9 rfl a9 hp' (few t1 okk) (fun vs => (ev_op ((ev_dget2Acc (q := (q.1.2, x)) rfl (ev_tup (ea_cons (ev_var rfl) (ea_cons (ev_var rfl) ea_nil)) (show 2 ≤ 100000 by decide)) ev_int).to (getT_D t1 (q.1.2, x))) (ev_dgetT (q := q.1) (ev_var rfl) (ev_tup (ea_cons (ev_var rfl) (ea_cons (ev_var rfl) ea_nil)) (show 2 ≤ 100000 by decide)) look) rg_add).to (by rw [Int.natCast_add])) (ev_tup (ea_cons (ev_var rfl) (ea_cons (ev_var rfl) ea_nil)) (show 2 ≤ 100000 by decide)) fun dd G10 H10 e10 s10 c10 a10 => ?_
          rw [e10, putD_tab] at a10
          refine kn8 _ _ _ _ ?_ (g9.g.trans s10) (((c10.lose 7).lose 8).to rfl) a10
          rw [hsucc, if_pos hb]
        · have hb : ¬ r.mid edge q.1.1 q.1.2 x = co := of_decide_eq_false b.symm
          refine kn8 _ _ _ _ ?_ g9.g (((c9.lose 7).lose 8).to rfl) (a8.grow g9 (fun z => z))
          rw [hsucc, if_neg hb]
      · rw [List.take_length] at ht
        refine kn6 _ _ _ _ ?_ s8 (((c8.lose 5).lose 6).to rfl) a8
        rw [foldl_take_succ hq, hpr, ht]; rfl
    · rw [List.take_length] at ht
      refine kx _ _ _ _ c7 fun c8 => ?_
      have a8 := AccT.unlock L s6 a7 npd
      obtain ⟨G9, s9, c9, _⟩ := c8.doneT (i := 4) rfl a8 hp np
      refine c_setV c9 (ev_var rfl) fun σ10 G10 H10 c10 g10 => ?_
      refine kn' trivial _ _ _ ((((c10.base c2.gr).lose 3).lose 4).to ?_)
      rw [hnext, ht]; rfl
  · refine c_ret c2 ((ev_cb1 ((ev_listV (ds := tabL (cntT r edge (lettersM r n) cols cols.length)) (ev_var rfl)).to (e := .lst (intsD ((cntT r edge (lettersM r n) cols cols.length).map fun q => ((q.2 : Nat) : Int)))) ?_) cg_sum).to ?_) fun v d G3 H3 e c3 g3 r3 => kr _ _ _ _ _ _ r3 e c3
    · unfold intsD tabL
      rw [List.map_map, List.map_map]; rfl
    · have e1 : ((cntT r edge (lettersM r n) cols cols.length).map fun q => ((q.2 : Nat) : Int)).sum = (totM (cntT r edge (lettersM r n) cols cols.length) : Nat) := by
        unfold totM
        rw [← nat_sum, List.map_map]; rfl
      rw [e1, cnt_end]
end K70
namespace K70
open PySem PySem.Spec PyProof.Rows L2
/-! ### is_sign -/
theorem ev_isi {K : PySem.W.Frag} {m : Mu} {Γ : Ga} {te : TE} {d : Dt} {t n : String} {b : Bool} (h : Ev K m te Γ d) (e : tyN d = t) (hb : kitB t n = some b) (h0 : t ≠ "") : Ev K m (tCB (rIsi K) (tCons te (tCons (tC (.ty n)) tNil))) Γ (.bl b) := ev_cb (ea_cons h (ea_cons ev_raw ea_nil)) (cg_isi e hb h0)
theorem ev_isS {K : PySem.W.Frag} {m : Mu} {Γ : Ga} {te : TE} {s : Tx} (h : Ev K m te Γ (.str s)) : Ev K m (tCB (rIsi K) (tCons te (tCons (tC (.ty "str")) tNil))) Γ (.bl true) := ev_isi (t := "str") h rfl (by decide +kernel) (by decide)
def sp_is_sign (K : PySem.W.Frag) : Sp := Fs K (fun c : Nat => [.str [c]]) (fun c => c ∈ sg) (fun _ d => d = .bl true)
abbrev N_is_sign : List Str := ["thing"]
theorem sc_is_sign : FnScope N_is_sign ["thing"] (defScope s_is_sign) := ⟨rfl, rfl, rfl, by decide +kernel, rfl, by decide +kernel, by decide +kernel⟩
theorem ok_is_sign {P : Program} {w : World} {K : PySem.W.Frag} {mg : Str → Option Value} {base : Heap} (T : Tp K mg) : Okd P w K mg base 1 "is_sign" ["thing"] (sp_is_sign K) := by
  obtain ⟨_, hSIGNS⟩ := T.tSigns
  obtain ⟨fd, F⟩ := T.fn 3 d_is_sign rfl
  refine ⟨_, fd, ?_, T.gl "is_sign" (by decide +kernel), F.kp, FunD.bindsN F fun _ _ _ _ _ _ us hl => match us, hl with | [_], _ => rfl⟩
  refine FunD.ok F sc_is_sign (fun vs H Q E h => Fn.len (E := E) h) (fun cdv A outer s H vs Q E hr h => ?_)
  refine ⟨_, PSs.nox (pss_one (ps_ret (pe_and (pe_callB (call_isiK (K := K)) (by rfl) T.isinstance (by decide +kernel) (pa_cons (pv 0) (pa_cons (pe_bltn (v := .ty "str") (by rfl) T.str (by decide +kernel) rfl) pa_nil))) (pe_and (pe_cmpR op_eq (pe_callB call_lenS (by rfl) T.len (by decide +kernel) (pa_cons (pv 0) pa_nil)) pe_int (nomark _)) (pe_one (pe_cmpR op_inSg (pv 0) (pe_glob (v := .str ".abcdefghijklmnopqrstuvwxyz") (by rfl) hSIGNS ⟨_, rfl⟩) rfl)))))), ?_⟩
  refine bodyS (E := E) h fun x σ G hp c D kr kn => ?_
  refine c_ret c (ev_andV (a := true) (b := true) (ev_isS (ev_var rfl)) fun _ => ev_andV (a := true) (b := true) ((ev_op (ev_cb1 (ev_var rfl) (cg_lenS (z := [x]) (Nat.le_of_ble_eq_true rfl))) ev_int rg_eqI).to rfl) fun _ => (ev_op (ev_var rfl) ev_SIGNS rg_inS).to (by rw [decide_eq_true hp])) fun v d G' H' p c' g r => kr _ _ _ _ _ _ r p c'
/-! ### is_place -/
theorem places_V : (["n", "ne", "e", "se", "s", "sw", "w", "nw"] : List Str).map (fun x : Str => V.str x) = places.map fun x => V.str (tx x) := by decide +kernel
theorem dvs_txs' {K : PySem.W.Frag} {G : Hp} : ∀ {l : List Tx}, Dvs K G (l.map fun x => V.str (tx x)) (txs l)
  | [] => .nil
  | _ :: _ => .cons (.str _) dvs_txs'
theorem ev_places {K : PySem.W.Frag} {mg : Str → Option Value} {m : Mu} {Γ : Ga} (T : Tp K mg) : Ev K m (tC (.ref (He.ga K "PLACES"))) Γ (.tupW (txs places)) := ev_c fun G => .tupW (T.tPlaces G) (by rw [places_V]; exact dvs_txs')
def sp_is_place (K : PySem.W.Frag) : Sp := Fs K (fun p : Tx => [.str p]) (fun p => p ∈ places) (fun _ d => d = .bl true)
abbrev N_is_place : List Str := ["thing"]
theorem sc_is_place : FnScope N_is_place ["thing"] (defScope s_is_place) := ⟨rfl, rfl, rfl, by decide +kernel, rfl, by decide +kernel, by decide +kernel⟩
theorem ok_is_place {P : Program} {w : World} {K : PySem.W.Frag} {mg : Str → Option Value} {base : Heap} (T : Tp K mg) : Okd P w K mg base 1 "is_place" ["thing"] (sp_is_place K) := by
  obtain ⟨fd, F⟩ := T.fn 5 d_is_place rfl
  refine ⟨_, fd, ?_, T.gl "is_place" (by decide +kernel), F.kp, FunD.bindsN F fun _ _ _ _ _ _ us hl => match us, hl with | [_], _ => rfl⟩
  refine FunD.ok F sc_is_place (fun vs H Q E h => Fn.len (E := E) h) (fun cdv A outer s H vs Q E hr h => ?_)
  refine ⟨_, PSs.nox (pss_one (ps_ret (pe_and (pe_callB (call_isiK (K := K)) (by rfl) T.isinstance (by decide +kernel) (pa_cons (pv 0) (pa_cons (pe_bltn (v := .ty "str") (by rfl) T.str (by decide +kernel) rfl) pa_nil))) (pe_one (pe_cmpR (op_in_seqK (K := K)) (pv 0) (pe_glob (v := .ref _) (by rfl) T.gPlaces rfl) rfl))))), ?_⟩
  refine bodyS (E := E) h fun x σ G hp c D kr kn => ?_
  refine c_ret c (ev_andV (a := true) (b := true) (ev_isS (ev_var rfl)) fun _ => (ev_op (ev_var rfl) (ev_places T) rg_inW).to (by rw [decide_eq_true hp])) fun v d G' H' p c' g r => kr _ _ _ _ _ _ r p c'
/-! ### is_signs -/
theorem rising_len {s signs : Tx} (h : Rising s) (hs : ∀ c ∈ s, c ∈ signs) : s.length ≤ signs.length := nodup_len (h.2.imp fun {a b} hab => Nat.ne_of_lt hab) hs
theorem next_pairs : ∀ {s : Tx}, s.Pairwise (· < ·) → ∀ p ∈ s.zip (s.drop 1), p.1 < p.2
  | [], _, p, hp => by simp at hp
  | [a], _, p, hp => by simp at hp
  | a :: b :: s, h, p, hp => by
    obtain ⟨h1, h2⟩ := List.pairwise_cons.mp h
    rw [List.drop_succ_cons, List.drop_zero, List.zip_cons_cons] at hp
    rcases List.mem_cons.mp hp with e | hp
    · rw [e]; exact h1 b List.mem_cons_self
    · exact next_pairs h2 p (by rw [List.drop_succ_cons, List.drop_zero]; exact hp)
theorem sg_len : sg.length = 27 := by decide +kernel
def sp_is_signs (K : PySem.W.Frag) : Sp := Fs K (fun s : Tx => [.str s]) (fun s => Rising s ∧ ∀ c ∈ s, c ∈ sg) (fun _ d => d = .bl true)
abbrev N_is_signs : List Str := ["thing", "one", "other", "sign"]
theorem sc_is_signs : FnScope N_is_signs ["thing"] (defScope s_is_signs) := ⟨rfl, rfl, rfl, by decide +kernel, rfl, by decide +kernel, by decide +kernel⟩
theorem ok_is_signs {P : Program} {w : World} {K : PySem.W.Frag} {mg : Str → Option Value} {base : Heap} (T : Tp K mg) : Okd P w K mg base 1 "is_signs" ["thing"] (sp_is_signs K) := by
  obtain ⟨_, hSIGNS⟩ := T.tSigns
  obtain ⟨fd, F⟩ := T.fn 4 d_is_signs rfl
  refine ⟨_, fd, ?_, T.gl "is_signs" (by decide +kernel), F.kp, FunD.bindsN F fun _ _ _ _ _ _ us hl => match us, hl with | [_], _ => rfl⟩
  refine FunD.ok F sc_is_signs (fun vs H Q E h => Fn.len (E := E) h) (fun cdv A outer s H vs Q E hr h => ?_)
  refine ⟨_, PSs.nox (pss_cons (ps_if (PW.pt (pw_or (pt_not (pt_val (pe_callB (call_isiK (K := K)) (by rfl) T.isinstance (by decide +kernel) (pa_cons (pv 0) (pa_cons (pe_bltn (v := .ty "str") (by rfl) T.str (by decide +kernel) rfl) pa_nil))))) (pw_or (pt_cmpR op_eq (pv 0) pe_str (nomark _)) (pw_or1 (pt_not (pt_val (pe_callB (cr_allK (K := K) rfl) (by rfl) T.all (by decide +kernel) (pa_cons (pe_lc (own := [("sign", 3)]) rfl sc_is_signs.nd (pi_str (pv 0)) (blkOk_by (N := N_is_signs) (own := [("sign", 3)]) (by kernel_rfl)) (fun _ _ _ _ _ => (pg_name (i := 3) sc_is_signs.nd rfl (Or.inl rfl))) (fun _ _ _ _ _ => pts_nil) (fun _ _ _ _ _ => (pe_cmpR op_inSg (pv 3) (pe_glob (v := .str ".abcdefghijklmnopqrstuvwxyz") (by rfl) hSIGNS ⟨_, rfl⟩) rfl))) pa_nil)))))))) (pss_one (ps_ret pe_bl)) pss_nil)
    (pss_one (ps_ret (pe_callB (cr_allK (K := K) rfl) (by rfl) T.all (by decide +kernel) (pa_cons (pe_lc (own := [("one", 1), ("other", 2)]) rfl sc_is_signs.nd (pi_zipS (by rfl) T.zip (pa_cons (pv 0) (pa_cons (pe_slice sl_str (pv 0) (po_some pe_int) po_none) pa_nil))) (blkOk_by (N := N_is_signs) (own := [("one", 1), ("other", 2)]) (by kernel_rfl)) (fun _ _ _ _ _ => (pg_tupK (K := K) (n := 2) rfl (pgs_cons (pg_name (i := 1) sc_is_signs.nd rfl (Or.inl rfl)) (pgs_cons (pg_name (i := 2) sc_is_signs.nd rfl (Or.inl rfl)) pgs_nil)))) (fun _ _ _ _ _ => pts_nil) (fun _ _ _ _ _ => (pe_cmpR op_ltS (pv 1) (pv 2) (nomark _)))) pa_nil))))), ?_⟩
  refine bodyS (E := E) h fun s σ G hp c D kr kn => ?_
  obtain ⟨hr1, hs⟩ : Rising s ∧ ∀ c ∈ s, c ∈ sg := hp
  have l27 := rising_len hr1 hs
  rw [sg_len] at l27
  have hall : (s.all fun c => decide (c ∈ sg)) = true := List.all_eq_true.mpr fun x hx => decide_eq_true (hs x hx)
  refine q_skip c ((et_or (et_not (et_B (ev_isS (ev_var rfl)))) fun _ => et_or (et_test (ev_op (ev_var rfl) (ev_lit lit_nil) rg_eqS)) fun _ => et_not (et_B (b := s.all fun c => decide (c ∈ sg)) ((ev_cb1 ((ev_mapA (l := s) (enc := fun c => .str [c]) (fun c => .bl (decide (c ∈ sg))) (sv_str (ev_var rfl)) (by omega) fun x hx => ⟨_, [3], by decide, tg_name, ev_op (ev_var rfl) ev_SIGNS rg_inS⟩).to (bls_map _ _)) cg_all).to (by rw [all_map])))).to (by
    rw [hall, decide_eq_false hr1.1]; rfl)) fun G1 H1 c1 g1 => ?_
  refine c_ret c1 ((ev_cb1 ((ev_mapA (l := s.zip (s.drop 1)) (enc := fun p => .tup [.str [p.1], .str [p.2]]) (fun p => .bl (decide ([p.1] < [p.2]))) ((sv_zipS (x := s) (z := s.drop 1) (ev_var rfl) ((ev_sl (ev_var rfl) (eo_some (i := ((1 : Nat) : Int)) ev_int) eo_none (lg_str (Nat.le_trans l27 (by decide)))).to (by rw [cut_drop]))).to' (by unfold sgn; rw [zip_A])) (by rw [List.length_zip]; omega) fun p hp => ⟨_, [1, 2], by decide, tg_two, ev_op (ev_var rfl) (ev_var rfl) rg_ltS⟩).to (bls_map _ _)) cg_all).to ?_) fun v d G2 H2 p c2 g2 r2 => kr _ _ _ _ _ _ r2 p c2
  rw [all_map]
  have : ((s.zip (s.drop 1)).all fun p => decide ([p.1] < [p.2])) = true := List.all_eq_true.mpr fun p hp => decide_eq_true (List.cons_lt_cons_iff.mpr (.inl (next_pairs hr1.2 p hp)))
  rw [this]
/-! ### are_of -/
def sp_are_of (K : PySem.W.Frag) : Sp := Fs K (fun a : Tx × Tx => [.str a.1, .str a.2]) (fun a => Rising a.1 ∧ (∀ c ∈ a.1, c ∈ a.2) ∧ ∀ c ∈ a.2, c ∈ sg) (fun _ d => d = .bl true)
abbrev N_are_of : List Str := ["thing", "signs", "sign"]
theorem sc_are_of : FnScope N_are_of ["thing", "signs"] (defScope s_are_of) := ⟨rfl, rfl, rfl, by decide +kernel, rfl, by decide +kernel, by decide +kernel⟩
theorem ok_are_of {P : Program} {w : World} {K : PySem.W.Frag} {mg : Str → Option Value} {base : Heap} (T : Tp K mg)
    (o_is_signs : Okd P w K mg base 1 "is_signs" ["thing"] (sp_is_signs K)) : Okd P w K mg base 2 "are_of" ["thing", "signs"] (sp_are_of K) := by
  obtain ⟨f_is_signs, fd_is_signs, F_is_signs, g_is_signs, k_is_signs, b_is_signs⟩ := o_is_signs
  obtain ⟨fd, F⟩ := T.fn 25 d_are_of rfl
  refine ⟨_, fd, ?_, T.gl "are_of" (by decide +kernel), F.kp, FunD.bindsN F fun _ _ _ _ _ _ us hl => match us, hl with | [_, _], _ => rfl⟩
  refine FunD.ok F sc_are_of (fun vs H Q E h => Fn.len (E := E) h) (fun cdv A outer s H vs Q E hr h => ?_)
  refine ⟨_, PSs.nox (pss_one (ps_ret (pe_and (pe_call F_is_signs (hr.mono (by decide)) (by rfl) g_is_signs k_is_signs b_is_signs .nil pass0 (pa_cons (pv 0) pa_nil)) (pe_one (pe_callB (cr_allK (K := K) rfl) (by rfl) T.all (by decide +kernel) (pa_cons (pe_lc (own := [("sign", 2)]) rfl sc_are_of.nd (pi_str (pv 0)) (blkOk_by (N := N_are_of) (own := [("sign", 2)]) (by kernel_rfl)) (fun _ _ _ _ _ => (pg_name (i := 2) sc_are_of.nd rfl (Or.inl rfl))) (fun _ _ _ _ _ => pts_nil) (fun _ _ _ _ _ => (pe_cmpR op_inSg (pv 2) (pv 1) rfl))) pa_nil)))))), ?_⟩
  refine bodyS (E := E) h fun ⟨s, ss⟩ σ G hp c D kr kn => ?_
  obtain ⟨hr1, hs, hss⟩ : Rising s ∧ (∀ c ∈ s, c ∈ ss) ∧ ∀ c ∈ ss, c ∈ sg := hp
  have l27 := rising_len hr1 fun c hc => hss c (hs c hc)
  rw [sg_len] at l27
  have hall : (s.all fun c => decide (c ∈ ss)) = true := List.all_eq_true.mpr fun x hx => decide_eq_true (hs x hx)
  refine c_ret c (ev_andV (a := true) (b := true) (ev_call s (ea_cons (ev_var rfl) ea_nil) ⟨hr1, fun c hc => hss c (hs c hc)⟩) fun _ => (ev_cb1 ((ev_mapA (l := s) (enc := fun c => .str [c]) (fun c => .bl (decide (c ∈ ss))) (sv_str (ev_var rfl)) (by omega) fun x hx => ⟨_, [2], by decide, tg_name, ev_op (ev_var rfl) (ev_var rfl) rg_inS⟩).to (bls_map _ _)) cg_all).to (by rw [all_map, hall])) fun v d G2 H2 p c2 g2 r2 => kr _ _ _ _ _ _ r2 p c2
end K70
namespace K70
open PySem PySem.Spec PyProof.Rows L2
/-! ### _law_bag -/
/-- the script, an object that stands still, stays -/
def scrM (K : PySem.W.Frag) (a : Addr) (xs : List V) : Mu where
  μ := Pure
  M := fun G _ => SqL K G a xs
  there := fun _ z => z.elim
  out := fun _ z => z.elim
  st := fun s1 _ _ _ h => Same.seq s1 h
theorem ev_slRaw {K : PySem.W.Frag} {a : Addr} {xs : List Int} {Γ : Ga} {i : Nat} {tl th : TO} {lo hi : Option Int} (hi0 : Γ[i]? = some (some (.raw (.ref a)))) (h1 : Eo K (scrM K a (xs.map V.int)) tl Γ lo) (h2 : Eo K (scrM K a (xs.map V.int)) th Γ hi) :
    Ev K (scrM K a (xs.map V.int)) (tSl (rSlL K) (tVar i) tl th) Γ (.lst (intsD (cutD xs lo hi))) := fun σ G H x s M Q k => by
  obtain ⟨v, e1, e2⟩ := x.at_ i _ hi0
  obtain rfl := e2.raw_inv
  refine ⟨_, e1, h1 σ G H x s M _ fun lo' G1 H1 p1 g1 M1 => h2 σ G1 H1 (x.mono g1.g) g1.sub M1 _ fun hi' G2 H2 p2 g2 M2 => ?_⟩
  subst p1 p2
  refine ⟨a, xs.map V.int, rfl, Same.seq g2.sub M2, fun p hp => ?_⟩
  have g3 : Grow Pure G2 H2 (upd G2 p (.lst (cutV (xs.map V.int) lo' hi'))) (upd H2 p (.lst (cutV (xs.map V.int) lo' hi'))) := Grow.grow g2.sub hp
  refine k _ _ _ _ rfl ((g1.trans g2).trans g3.lift) (Mu.pure g3 M2) (.lst upd_same ?_)
  have r : Dvs K (upd G2 p (.lst (cutV (xs.map V.int) lo' hi'))) (xs.map V.int) (intsD xs) := dvs_ints
  have c := r.cut lo' hi'
  have e : cutD (intsD xs) lo' hi' = intsD (cutD xs lo' hi') := by
    unfold cutD intsD
    rw [List.length_map, List.map_take, List.map_drop]
  rw [e] at c
  exact c
theorem c_retNew {K : PySem.W.Frag} {m : Mu} {Γ : Ga} {G0 H0 G H : Hp} {σ : L2.St} {D : Ends} {t : TA} {R : List Dt → Prop} (c : Cf K m G0 H0 σ Γ G H) (h : EaG K m t Γ R) (hl : ∀ ds, R ds → ds.length ≤ 100000)
    (k : ∀ vs ds p G' H', R ds → Cf K m G0 H0 σ Γ G' H' → Dvs K G' vs ds → H' p = none → D.rt (.ref p) (upd H' p (.lst vs))) : tRet (tLst t) D σ H :=
  h σ G H c.sl c.gh c.mm _ fun vs ds G1 H1 p1 g1 M1 r1 => ⟨by rw [r1.length]; exact Nat.le_trans (hl ds p1) (by decide), fun p hp => k vs ds p G1 H1 p1 ⟨c.sl.mono g1.g, g1.sub, M1, c.gr.trans g1⟩ r1 hp⟩
def sp_l_bag (K : PySem.W.Frag) : Sp := fun vs H Q _ => ∃ (a : Addr) (ns : List Int), vs = [.ref a] ∧ SqL K H a (ns.map V.int) ∧
  ∀ (p : Addr) (x : Bag) (us : List V) (G' H' : Hp), x.ok → Grow Pure H H G' H' → H p = none → G' p = none → H' p = some (.lst us) → Dvs K G' us x.d → Q (.ref p) H'
theorem sp_l_bag_len {K : PySem.W.Frag} {vs : List V} {H : Hp} {Q : VK} {E : XK} (h : sp_l_bag K vs H Q E) : vs.length = 1 := by
  obtain ⟨a, ns, rfl, _⟩ := h
  rfl
abbrev N_l_bag : List Str := ["_law_script", "_law_cell"]
theorem sc_l_bag : FnScope N_l_bag ["_law_script"] (defScope s_l_bag) := ⟨rfl, rfl, rfl, by decide +kernel, rfl, by decide +kernel, by decide +kernel⟩
theorem ok_l_bag {P : Program} {w : World} {K : PySem.W.Frag} {mg : Str → Option Value} {base : Heap} (T : Tp K mg) : Okd P w K mg base 1 "_law_bag" ["_law_script"] (sp_l_bag K) := by
  obtain ⟨fd, F⟩ := T.fn 36 d_l_bag rfl
  refine ⟨_, fd, ?_, T.gl "_law_bag" (by decide +kernel), F.kp, FunD.bindsN F fun _ _ _ _ _ _ us hl => match us, hl with | [_], _ => rfl⟩
  refine FunD.ok F sc_l_bag (fun vs H Q E h => sp_l_bag_len (E := E) h) (fun cdv A outer s H vs Q E hr h => ?_)
  refine ⟨_, PSs.nox (pss_one (ps_ret (pe_lst (pa_cons pe_int (pa_cons pe_int (pa_cons pe_int (pa_cons (pe_lc (own := [("_law_cell", 1)]) rfl sc_l_bag.nd (pi_listK (K := K) (pe_slice (sl_listK (K := K)) (pv 0) po_none (po_some pe_int))) (blkOk_by (N := N_l_bag) (own := [("_law_cell", 1)]) (by kernel_rfl)) (fun _ _ _ _ _ => (pg_name (i := 1) sc_l_bag.nd rfl (Or.inl rfl))) (fun _ _ _ _ _ => pts_nil) (fun _ _ _ _ _ => (pe_callB call_abs (by rfl) T.abs (by decide +kernel) (pa_cons (pv 1) pa_nil)))) pa_nil))))))), ?_⟩
  obtain ⟨a, ns, rfl, hs, hq⟩ := h
  have c : Cf K (scrM K a (ns.map V.int)) H H (L2.start N_l_bag [.ref a]) [some (.raw (.ref a)), none] H H := Cf.refl (N := N_l_bag) (ds := [.raw (.ref a)]) (.cons (.raw _) .nil) (Same.refl H) hs
  have cut : cutD ns none (some ((63 : Nat) : Int)) = ns.take 63 := cut_take ns 63
  have e63 : ((63 : Int)) = ((63 : Nat) : Int) := rfl
  refine c_retNew (R := fun ds => ∃ x : Bag, x.ok ∧ ds = x.d) c (er_cons (R := fun ds => ∃ l : List Int, (∀ i ∈ l, 0 ≤ i) ∧ ds = [.int 1234567891, .int 0, .lst (intsD l)]) ev_int (er_cons (R := fun ds => ∃ l : List Int, (∀ i ∈ l, 0 ≤ i) ∧ ds = [.int 0, .lst (intsD l)]) ev_int (er_cons (R := fun ds => ∃ l : List Int, (∀ i ∈ l, 0 ≤ i) ∧ ds = [.lst (intsD l)]) ev_int (er_cons (ev_mapA (l := ns.take 63) (enc := .int) (fun i => .int (if i < 0 then -i else i)) (sv_list ((ev_slRaw rfl eo_none (eo_some ev_int)).to (by rw [e63, cut]; rfl))) (by rw [List.length_take]; omega) fun i hi => ⟨_, [1], by decide, tg_name, ev_cb1 (ev_var rfl) cg_abs⟩) ea_nil ?_) ?_) ?_) ?_) (fun ds hd => ?_) fun us ds p G1 H1 p1 c1 r1 hp => ?_
  · rintro _ _ rfl rfl
    refine ⟨(ns.take 63).map fun i => if i < 0 then -i else i, fun i hi => ?_, by rw [intsD, List.map_map]; rfl⟩
    obtain ⟨j, _, rfl⟩ := List.mem_map.mp hi
    split <;> omega
  · rintro _ _ rfl ⟨l, hl, rfl⟩
    exact ⟨l, hl, rfl⟩
  · rintro _ _ rfl ⟨l, hl, rfl⟩
    exact ⟨l, hl, rfl⟩
  · rintro _ _ rfl ⟨l, hl, rfl⟩
    exact ⟨⟨0, 1234567891, 0, l⟩, ⟨show (0 : Int) ≤ 0 by decide, show (0 : Int) ≤ 1234567891 by decide, show (1234567891 : Int) < 2147483647 by decide, show (0 : Int) ≤ 0 by decide, hl⟩, rfl⟩
  · obtain ⟨x, _, rfl⟩ := hd
    exact (by decide : 4 ≤ 100000)
  · obtain ⟨x, ox, rfl⟩ := p1
    exact hq p x us G1 _ ox (Grow.trans c1.gr (Grow.hide c1.gh hp)) (c1.gr.dom p hp) (c1.gh.free hp) upd_same r1
/-! ### _law_take -/
def sp_l_take (K : PySem.W.Frag) : Sp := Fn K (fun a : Addr × Nat => [.raw (.ref a.1), .int (a.2 : Nat)]) (fun a => bagM K a.1) (fun a => 0 < a.2 ∧ a.2 ≤ 1000000000000000000) (fun a d => ∃ v : Nat, v < a.2 ∧ d = .int (v : Nat))
theorem emod_nat {i : Int} {n : Nat} (h : 0 < n) : ∃ v : Nat, v < n ∧ i % (n : Int) = (v : Nat) := by
  have h1 := Int.emod_nonneg i (show (n : Int) ≠ 0 by omega)
  have h2 := Int.emod_lt_of_pos i (show (0 : Int) < n by omega)
  exact ⟨(i % (n : Int)).toNat, by omega, by omega⟩
theorem log_small {n : Nat} (h0 : 0 < n) (h : n ≤ 1000000000000000000) : ((n : Nat) : Int).natAbs.log2 < 9000 := by
  rw [Int.natAbs_natCast]
  have : n.log2 < 60 := (Nat.log2_lt (by omega)).mpr (Nat.lt_of_le_of_lt h (by decide))
  omega
abbrev N_l_take : List Str := ["_law_bag_here", "_law_many", "_law_cell", "_law_value", "_law_first", "_law_second"]
theorem sc_l_take : FnScope N_l_take ["_law_bag_here", "_law_many"] (defScope s_l_take) := ⟨rfl, rfl, rfl, by decide +kernel, rfl, by decide +kernel, by decide +kernel⟩
theorem ok_l_take {P : Program} {w : World} {K : PySem.W.Frag} {mg : Str → Option Value} {base : Heap} (T : Tp K mg) : Okd P w K mg base 1 "_law_take" ["_law_bag_here", "_law_many"] (sp_l_take K) := by
  obtain ⟨fd, F⟩ := T.fn 37 d_l_take rfl
  refine ⟨_, fd, ?_, T.gl "_law_take" (by decide +kernel), F.kp, FunD.bindsN F fun _ _ _ _ _ _ us hl => match us, hl with | [_, _], _ => rfl⟩
  refine FunD.ok F sc_l_take (fun vs H Q E h => Fn.len (E := E) h) (fun cdv A outer s H vs Q E hr h => ?_)
  refine ⟨_, PSs.nox (pss_cons (ps_if (pt_cmpR op_eq (pe_ix (ix_listK (K := K)) (pv 0) pe_int (fun _ _ => rfl)) pe_int (nomark _)) (pss_cons (ps_set (i := 2) sc_l_take.nd rfl (Or.inl rfl) pe_int)
    (pss_cons (ps_if (pt_cmpR op_lt (pe_ix (ix_listK (K := K)) (pv 0) pe_int (fun _ _ => rfl)) (pe_callB (call_lenK (K := K)) (by rfl) T.len (by decide +kernel) (pa_cons (pe_ix (ix_listK (K := K)) (pv 0) pe_int (fun _ _ => rfl)) pa_nil)) (nomark _)) (pss_one (ps_set (i := 2) sc_l_take.nd rfl (Or.inl rfl) (pe_ix (ix_listK (K := K)) (pe_ix (ix_listK (K := K)) (pv 0) pe_int (fun _ _ => rfl)) (pe_ix (ix_listK (K := K)) (pv 0) pe_int (fun _ _ => rfl)) (fun _ _ => rfl)))) pss_nil)
    (pss_cons (ps_augS (pv 0) pe_int (pget_list (K := K)) pe_int ip_add set_list)
    (pss_cons (ps_if (pt_cmpR op_ge (pv 2) pe_int (nomark _)) (pss_one (ps_asg (pv 2) (pg_sub (pv 0) pe_int set_list))) pss_nil)
    (pss_one (ps_asg (pe_op op_mod (pe_op op_add (pe_op op_add (pe_op op_mul (pe_ix (ix_listK (K := K)) (pv 0) pe_int (fun _ _ => rfl)) pe_int) (pe_op op_mod (pv 2) pe_int)) (pe_op op_mul pe_int (pe_ix (ix_listK (K := K)) (pv 0) pe_int (fun _ _ => rfl)))) pe_int) (pg_sub (pv 0) pe_int set_list))))))) pss_nil)
    (pss_cons (ps_if (pt_cmpR op_gt (pe_ix (ix_listK (K := K)) (pv 0) pe_int (fun _ _ => rfl)) pe_int (nomark _)) (pss_cons (ps_set (i := 3) sc_l_take.nd rfl (Or.inl rfl) (pe_op op_mod (pe_ix (ix_listK (K := K)) (pv 0) pe_int (fun _ _ => rfl)) (pv 1)))
    (pss_cons (ps_asg (pe_op op_fdivW (pe_ix (ix_listK (K := K)) (pv 0) pe_int (fun _ _ => rfl)) (pv 1)) (pg_sub (pv 0) pe_int set_list))
    (pss_one (ps_ret (pv 3))))) pss_nil)
    (pss_cons (ps_set (i := 4) sc_l_take.nd rfl (Or.inl rfl) (pe_op op_mod (pe_op op_mul (pe_op op_add (pe_ix (ix_listK (K := K)) (pv 0) pe_int (fun _ _ => rfl)) pe_int) pe_int) pe_int))
    (pss_cons (ps_set (i := 5) sc_l_take.nd rfl (Or.inl rfl) (pe_op op_mod (pe_op op_mul (pe_op op_mod (pe_op op_mul (pv 4) (pv 4)) pe_int) pe_int) pe_int))
    (pss_cons (ps_if (pt_cmpR op_gt (pv 1) pe_int (nomark _)) (pss_one (ps_ret (pe_op op_mod (pe_op op_add (pe_op op_mul (pv 5) pe_int) (pv 4)) (pv 1)))) pss_nil)
    (pss_one (ps_ret (pe_op op_mod (pe_op op_fdivW (pv 5) pe_int) (pv 1))))))))), ?_⟩
  refine body (E := E) h fun ⟨p, many⟩ σ G hp c D kr kn => ?_
  obtain ⟨hm0, hm1⟩ : 0 < many ∧ many ≤ 1000000000000000000 := hp
  obtain ⟨x, vs, ox, c⟩ := Cf.openB c
  have c : Cf K (holdL K p vs x.d) G H σ [some (.raw (.ref p)), some (.int (many : Nat)), none, none, none, none] G H := c
  refine q_whenM (R := fun σ' H' => ∃ (x : Bag) (vs : List V) (G' : Hp), x.ok ∧ Cf K (holdL K p vs x.d) G H σ' [some (.raw (.ref p)), some (.int (many : Nat)), none, none, none, none] G' H') c (et_test (ev_op (ev_ixAcc (j := 0) rfl rfl ev_int) ev_int rg_eqI)) (fun _ G1 H1 D1 c1 g1 hrt1 k1 => ?_) (fun _ G1 H1 c1 g1 => ⟨x, vs, G1, ox, c1⟩) ?_
  · refine q_setV (d := .int 0) c1 ev_int fun σ2 G2 H2 c2 g2 => ?_
    have c2 : Cf K (holdL K p vs x.d) G H σ2 [some (.raw (.ref p)), some (.int (many : Nat)), some (.int 0), none, none, none] G2 H2 := c2
    refine q_whenM (R := fun σ' H' => ∃ (cell : Int) (G' : Hp), 0 ≤ cell ∧ Cf K (holdL K p vs x.d) G H σ' [some (.raw (.ref p)), some (.int (many : Nat)), some (.int cell), none, none, none] G' H') c2 (et_test (ev_op (ev_ixAcc (j := 2) rfl rfl ev_int) (ev_cb1 (ev_ixAcc (j := 3) rfl rfl ev_int) cg_lenL) rg_lt)) (fun hb G3 H3 D3 c3 g3 hrt3 k3 => ?_) (fun _ G3 H3 c3 g3 => ⟨0, G3, by decide, c3⟩) ?_
    · have hlt : x.c < ((intsD x.cells).length : Nat) := of_decide_eq_true hb.symm
      have c0 := ox.c0
      have hl : x.c.toNat < x.cells.length := by
        have : (intsD x.cells).length = x.cells.length := List.length_map ..
        omega
      have hx : x.c = ((x.c.toNat : Nat) : Int) := by omega
      refine c_setV (d := .int (x.cells.getD x.c.toNat 0)) c3 (ev_op (ev_ixAcc (j := 3) rfl rfl ev_int) ((ev_ixAcc (j := 2) (d := .int x.c) rfl rfl ev_int).to (congrArg Dt.int hx)) (rg_ixL (j := x.c.toNat) ?_)) fun σ4 G4 H4 c4 g4 => k3 _ _ ⟨_, G4, ?_, c4⟩
      · unfold intsD
        rw [List.getElem?_map, at_getD hl 0]; rfl
      · exact ox.cl _ (List.mem_of_getElem? (at_getD hl 0))
    · rintro σ3 H3 ⟨cell, G3, hcell, c3⟩
      refine q_augB (j := 2) (d0 := .int x.c) c3 rfl rfl rfl ev_int (fun b e => by rw [e]; exact rg_add) fun d vs4 G4 H4 e c4 => ?_
      subst e
      have c4 : Cf K (holdL K p vs4 (Bag.d ⟨x.a, x.b, x.c + 1, x.cells⟩)) G H σ3 [some (.raw (.ref p)), some (.int (many : Nat)), some (.int cell), none, none, none] G4 H4 := c4
      refine q_whenM (R := fun σ' H' => ∃ (a : Int) (vs : List V) (G' : Hp), 0 ≤ a ∧ Cf K (holdL K p vs (Bag.d ⟨a, x.b, x.c + 1, x.cells⟩)) G H σ' [some (.raw (.ref p)), some (.int (many : Nat)), some (.int cell), none, none, none] G' H') c4 (et_test (ev_op (ev_var rfl) ev_int rg_ge)) (fun hb G5 H5 D5 c5 g5 hrt5 k5 => ?_) (fun _ G5 H5 c5 g5 => ⟨x.a, vs4, G5, ox.a0, c5⟩) ?_
      · refine c_setB (j := 0) c5 rfl rfl (show 0 < 4 by decide) (ev_var rfl) fun d vs6 G6 H6 e c6 => ?_
        subst e
        exact k5 _ _ ⟨cell, vs6, G6, hcell, c6⟩
      · rintro σ5 H5 ⟨a5, vs5, G5, ha5, c5⟩
        have b0 := ox.b0
        have b1 := ox.b1
        have c0 := ox.c0
        refine c_setB (j := 1) c5 rfl rfl (show 1 < 4 by decide) (ev_op (ev_op (ev_op (ev_op (ev_ixAcc (j := 1) rfl rfl ev_int) ev_int (rg_mul (.inr ⟨by decide, by decide⟩))) (ev_op (ev_var rfl) ev_int (rg_mod (by decide))) rg_add) (ev_op ev_int (ev_ixAcc (j := 2) rfl rfl ev_int) (rg_mul (.inl ⟨by decide, by decide⟩))) rg_add) ev_int (rg_mod (by decide))) fun d vs6 G6 H6 e c6 => ?_
        subst e
        refine k1 _ _ ⟨⟨a5, _, x.c + 1, x.cells⟩, vs6, G6, ⟨ha5, Int.emod_nonneg _ (by decide), Int.emod_lt_of_pos _ (by decide), by show 0 ≤ x.c + 1; omega, ox.cl⟩, ((c6.lose 2).to rfl)⟩
  · rintro σ2 H2 ⟨x, vs, G2, ox, c2⟩
    refine q_when c2 (et_test (ev_op (ev_ixAcc (j := 0) rfl rfl ev_int) ev_int rg_gt)) (fun hb G3 H3 c3 g3 => ?_) (fun hb G3 H3 c3 g3 => ?_)
    · refine q_setV (d := .int (x.a % (many : Nat))) c3 (ev_op (ev_ixAcc (j := 0) rfl rfl ev_int) (ev_var rfl) (rg_mod (by omega))) fun σ4 G4 H4 c4 g4 => ?_
      refine q_setB (j := 0) c4 rfl rfl (show 0 < 4 by decide) (ev_op (ev_ixAcc (j := 0) rfl rfl ev_int) (ev_var rfl) (rg_fdivW ⟨by omega, log_small hm0 hm1⟩)) fun d vs5 G5 H5 e c5 => ?_
      subst e
      have c5 : Cf K (holdL K p vs5 (Bag.d ⟨x.a / (many : Nat), x.b, x.c, x.cells⟩)) G H σ4 [some (.raw (.ref p)), some (.int (many : Nat)), none, some (.int (x.a % (many : Nat))), none, none] G5 H5 := c5
      have c6 := Cf.closeB (x := ⟨x.a / (many : Nat), x.b, x.c, x.cells⟩) ⟨Int.ediv_nonneg ox.a0 (by omega), ox.b0, ox.b1, ox.c0, ox.cl⟩ c5
      refine c_ret c6 (ev_var rfl) fun v d G7 H7 e c7 g7 r7 => kr v d G7 H7 ?_ c7.gr c7.mm r7
      obtain ⟨n, hn, en⟩ := emod_nat (i := x.a) hm0
      exact ⟨n, hn, by rw [e, en]⟩
    · have c3 : Cf K (bagM K p) G H σ2 [some (.raw (.ref p)), some (.int (many : Nat)), none, none, none, none] G3 H3 := Cf.closeB ox c3
      have b0 := ox.b0
      have b1 := ox.b1
      obtain ⟨y, vs4, oy, c4⟩ := Cf.openB c3
      refine q_setV (d := .int ((y.b + 1) * 39373 % 1000000007)) c4 (ev_op (ev_op (ev_op (ev_ixAcc (j := 1) rfl rfl ev_int) ev_int rg_add) ev_int (rg_mul (.inr ⟨by decide, by decide⟩))) ev_int (rg_mod (by decide))) fun σ5 G5 H5 c5 g5 => ?_
      have c5 := Cf.closeB oy c5
      have f0 : 0 ≤ (y.b + 1) * 39373 % 1000000007 := Int.emod_nonneg _ (by decide)
      have f1 : (y.b + 1) * 39373 % 1000000007 < 1000000007 := Int.emod_lt_of_pos _ (by decide)
      generalize (y.b + 1) * 39373 % 1000000007 = first at c5 f0 f1
      have c5 : Cf K (bagM K p) G H σ5 [some (.raw (.ref p)), some (.int (many : Nat)), none, none, some (.int first), none] G5 H5 := c5
      refine q_setV (d := .int (first * first % 998244353 * 30011 % 998244353)) c5 (ev_op (ev_op (ev_op (ev_op (ev_var rfl) (ev_var rfl) (rg_mul (.inl ⟨by omega, by omega⟩))) ev_int (rg_mod (by decide))) ev_int (rg_mul (.inr ⟨by decide, by decide⟩))) ev_int (rg_mod (by decide))) fun σ6 G6 H6 c6 g6 => ?_
      have s0 : 0 ≤ first * first % 998244353 * 30011 % 998244353 := Int.emod_nonneg _ (by decide)
      have s1 : first * first % 998244353 * 30011 % 998244353 < 998244353 := Int.emod_lt_of_pos _ (by decide)
      generalize first * first % 998244353 * 30011 % 998244353 = second at c6 s0 s1
      have c6 : Cf K (bagM K p) G H σ6 [some (.raw (.ref p)), some (.int (many : Nat)), none, none, some (.int first), some (.int second)] G6 H6 := c6
      refine q_when c6 (et_test (ev_op (ev_var rfl) ev_int rg_gt)) (fun hb G7 H7 c7 g7 => ?_) (fun hb G7 H7 c7 g7 => ?_)
      · refine c_ret c7 (ev_op (ev_op (ev_op (ev_var rfl) ev_int (rg_mul (.inr ⟨by decide, by decide⟩))) (ev_var rfl) rg_add) (ev_var rfl) (rg_mod (by omega))) fun v d G8 H8 e c8 g8 r8 => kr v d G8 H8 ?_ c8.gr c8.mm r8
        obtain ⟨n, hn, en⟩ := emod_nat (i := second * 1000000007 + first) hm0
        exact ⟨n, hn, by rw [e, en]⟩
      · refine c_ret c7 (ev_op (ev_op (ev_var rfl) ev_int (rg_fdivW ⟨by decide, by decide⟩)) (ev_var rfl) (rg_mod (by omega))) fun v d G8 H8 e c8 g8 r8 => kr v d G8 H8 ?_ c8.gr c8.mm r8
        obtain ⟨n, hn, en⟩ := emod_nat (i := second / 7) hm0
        exact ⟨n, hn, by rw [e, en]⟩
end K70
namespace K70
open PySem PySem.Spec PyProof.Rows L2
/-! ### _law_some -/
theorem ev_take {K : PySem.W.Frag} {p : Addr} {Γ : Ga} {E : XK} {tb tn : TE} {n : Nat} (hb : Ev K (bagM K p) tb Γ (.raw (.ref p))) (hn : Ev K (bagM K p) tn Γ (.int (n : Nat))) (h0 : 0 < n) (h1 : n ≤ 1000000000000000000) : EvG K (bagM K p) (tCall (sp_l_take K) [] E (tCons tb (tCons tn tNil))) Γ (fun d => ∃ v : Nat, v < n ∧ d = .int (v : Nat)) :=
  er_call (ea_cons hb (ea_cons hn ea_nil)) fun ds e => ⟨(p, n), e, ⟨h0, h1⟩, rfl, fun _ q => q⟩
/-- take(bag, 2) == 0 and its like -/
theorem et_take {K : PySem.W.Frag} {p : Addr} {Γ : Ga} {E : XK} {tb tn : TE} {n : Nat} {z : Int} (hb : Ev K (bagM K p) tb Γ (.raw (.ref p))) (hn : Ev K (bagM K p) tn Γ (.int (n : Nat))) (h0 : 0 < n) (h1 : n ≤ 1000000000000000000) : EtG K (bagM K p) (tTest (tOp rEq (tCall (sp_l_take K) [] E (tCons tb (tCons tn tNil))) (tC (.int z)))) Γ (fun _ => True) :=
  er_test (P := fun d => ∃ b, d = .bl b) (er_op (ev_take hb hn h0 h1) ev_int fun a b pa pb => by
    obtain ⟨v, _, rfl⟩ := pa
    subst pb
    exact rg_eqI.imp fun d e => ⟨_, e⟩) fun d ⟨b, e⟩ => ⟨b, e, trivial⟩
/-- one of the signs -/
theorem ev_signAt {K : PySem.W.Frag} {p : Addr} {Γ : Ga} {E : XK} {ts tb tn : TE} {ss : Tx} {n : Nat} (hs : Ev K (bagM K p) ts Γ (.str ss)) (hb : Ev K (bagM K p) tb Γ (.raw (.ref p))) (hn : Ev K (bagM K p) tn Γ (.int (n : Nat))) (h0 : 0 < n) (h1 : n = ss.length) (hl : ss.length ≤ 27) : EvG K (bagM K p) (tOp rIxS ts (tCall (sp_l_take K) [] E (tCons tb (tCons tn tNil)))) Γ (fun d => ∃ c, d = .str [c] ∧ c ∈ ss) :=
  er_op hs (ev_take hb hn h0 (by omega)) fun a b pa pb => by
    obtain ⟨v, hv, rfl⟩ := pb
    subst pa
    exact (rg_ixS (at_getD (by omega) 0) (by omega)).imp fun d e => ⟨_, e, List.mem_of_getElem? (at_getD (by omega) 0)⟩
/-- signs that rise -/
structure Sgs (ss : Tx) : Prop where
  ne : ss ≠ []
  ris : ss.Pairwise (· < ·)
  len : ss.length ≤ 27
theorem Sgs.pos {ss : Tx} (h : Sgs ss) : 0 < ss.length := List.length_pos_iff.mpr h.ne
theorem ev_lenSgs {K : PySem.W.Frag} {m : Mu} {Γ : Ga} {te : TE} {ss : Tx} (h : Ev K m te Γ (.str ss)) (hl : ss.length ≤ 27) : Ev K m (tCB rLenStr (tCons te tNil)) Γ (.int ((ss.length : Nat) : Int)) := ev_cb1 h (cg_lenS (by omega))
def sp_l_some (K : PySem.W.Frag) : Sp := Fn K (fun a : Addr × Tx => [.raw (.ref a.1), .str a.2]) (fun a => bagM K a.1) (fun a => Sgs a.2) (fun a d => ∃ s : Tx, d = .str s ∧ Rising s ∧ ∀ c ∈ s, c ∈ a.2)
abbrev N_l_some : List Str := ["_law_bag_here", "_law_signs_here", "_law_found", "_law_one", "_law_sign"]
theorem sc_l_some : FnScope N_l_some ["_law_bag_here", "_law_signs_here"] (defScope s_l_some) := ⟨rfl, rfl, rfl, by decide +kernel, rfl, by decide +kernel, by decide +kernel⟩
theorem ok_l_some {P : Program} {w : World} {K : PySem.W.Frag} {mg : Str → Option Value} {base : Heap} (T : Tp K mg)
    (o_l_take : Okd P w K mg base 1 "_law_take" ["_law_bag_here", "_law_many"] (sp_l_take K)) : Okd P w K mg base 2 "_law_some" ["_law_bag_here", "_law_signs_here"] (sp_l_some K) := by
  obtain ⟨f_l_take, fd_l_take, F_l_take, g_l_take, k_l_take, b_l_take⟩ := o_l_take
  obtain ⟨fd, F⟩ := T.fn 39 d_l_some rfl
  refine ⟨_, fd, ?_, T.gl "_law_some" (by decide +kernel), F.kp, FunD.bindsN F fun _ _ _ _ _ _ us hl => match us, hl with | [_, _], _ => rfl⟩
  refine FunD.ok F sc_l_some (fun vs H Q E h => Fn.len (E := E) h) (fun cdv A outer s H vs Q E hr h => ?_)
  refine ⟨_, PSs.nox (pss_cons (ps_set (i := 2) sc_l_some.nd rfl (Or.inl rfl) (pe_joinK (K := K) pe_str (pe_lc (own := [("_law_sign", 4)]) rfl sc_l_some.nd (pi_str (pv 1)) (blkOk_by (N := N_l_some) (own := [("_law_sign", 4)]) (by kernel_rfl)) (fun _ _ _ _ _ => (pg_name (i := 4) sc_l_some.nd rfl (Or.inl rfl))) (fun _ _ _ _ _ => (pts_one (pt_cmpR op_eq (pe_call F_l_take (hr.mono (by decide)) (by rfl) g_l_take k_l_take b_l_take .nil pass0 (pa_cons (pv 0) (pa_cons pe_int pa_nil))) pe_int (nomark _)))) (fun _ _ _ _ _ => (pv 4)))))
    (pss_cons (ps_set (i := 3) sc_l_some.nd rfl (Or.inl rfl) (pe_ix ix_str (pv 1) (pe_call F_l_take (hr.mono (by decide)) (by rfl) g_l_take k_l_take b_l_take .nil pass0 (pa_cons (pv 0) (pa_cons (pe_callB call_lenS (by rfl) T.len (by decide +kernel) (pa_cons (pv 1) pa_nil)) pa_nil))) (fun _ _ => rfl)))
    (pss_one (ps_ret (pe_orTK (K := K) (pv 2) (pe_one (pv 3))))))), ?_⟩
  refine body (E := E) h fun ⟨p, ss⟩ σ G hp c D kr kn => ?_
  have hs : Sgs ss := hp
  have hl := hs.len
  have c : Cf K (bagM K p) G H σ [some (.raw (.ref p)), some (.str ss), none, none, none] G H := c
  refine q_asg (P := fun d => ∃ s : Tx, d = .str s ∧ s.Sublist ss) c ?_ fun d σ1 G1 H1 e c1 g1 => ?_
  · refine er_m1 (Pa := (· = .str [])) (Pb := fun d => ∃ s : Tx, d = .lst (sgn s) ∧ s.Sublist ss) (ev_lit lit_nil) (er_lcA (l := ss) (enc := fun c => .str [c]) (fun i acc => ∃ s : Tx, acc = sgn s ∧ s.Sublist (ss.take i)) (sv_str (ev_var rfl)) (by omega) ⟨[], rfl, List.nil_sublist _⟩ (fun acc h => ?_) fun i a acc ha hR => ?_) (fun a e => ⟨[], e⟩) fun a b e1 e2 => ?_
    · obtain ⟨s, rfl, h2⟩ := h
      rw [List.take_length] at h2
      exact ⟨s, rfl, h2⟩
    · obtain ⟨s, rfl, h2⟩ := hR
      have e1 : ss.take (i + 1) = ss.take i ++ [a] := by rw [List.take_add_one, ha]; rfl
      refine ⟨_, [4], by decide, tg_name, fun _ => True, et_take (n := 2) (ev_var rfl) ev_int (by decide) (by decide), fun _ => (ev_var rfl).imp fun e he => ⟨s ++ [a], ?_, by rw [e1]; exact h2.append (List.Sublist.refl _)⟩, fun _ => ⟨s, rfl, by rw [e1]; exact h2.trans (List.sublist_append_left _ _)⟩⟩
      rw [he]; unfold sgn; rw [List.map_append]; rfl
    · subst e1
      obtain ⟨s, rfl, h2⟩ := e2
      have hle := h2.length_le
      have q := mg_join (K := K) (l := s.map fun c => [c]) (by rw [flat_one]; omega)
      rw [flat_one, ← sgn_txs] at q
      exact q.imp fun d e => ⟨s, e, h2⟩
  · obtain ⟨s, rfl, hsub⟩ := e
    have c1 : Cf K (bagM K p) G H σ1 [some (.raw (.ref p)), some (.str ss), some (.str s), none, none] G1 H1 := c1
    refine q_asg (P := fun d => ∃ c, d = .str [c] ∧ c ∈ ss) c1 (ev_signAt (n := ss.length) (ev_var rfl) (ev_var rfl) (ev_lenSgs (ev_var rfl) hl) hs.pos rfl hl) fun d σ2 G2 H2 e c2 g2 => ?_
    obtain ⟨one, rfl, hone⟩ := e
    have c2 : Cf K (bagM K p) G H σ2 [some (.raw (.ref p)), some (.str ss), some (.str s), some (.str [one]), none] G2 H2 := c2
    refine c_ret c2 (er_orT (Pa := (· = .str s)) (P := fun d => ∃ s : Tx, d = .str s ∧ Rising s ∧ ∀ c ∈ s, c ∈ ss) (ev_var rfl) (fun d e => ⟨s, e, by have := hsub.length_le; omega, fun hne => ⟨s, rfl, ⟨hne, hs.ris.sublist hsub⟩, fun c hc => hsub.subset hc⟩⟩) ((ev_var rfl).imp fun d e => ⟨[one], e, ⟨by simp, List.pairwise_singleton _ _⟩, fun c hc => by rw [List.mem_singleton.mp hc]; exact hone⟩)) fun v d G3 H3 e c3 g3 r3 => kr v d G3 H3 e c3.gr c3.mm r3
/-! ### _law_near -/
theorem txs_cat (a b : List Tx) : txs a ++ txs b = txs (a ++ b) := by unfold txs; rw [List.map_append]
theorem txs_take (a : List Tx) (n : Nat) : (txs a).take n = txs (a.take n) := by unfold txs; rw [List.map_take]
theorem txs_drop (a : List Tx) (n : Nat) : (txs a).drop n = txs (a.drop n) := by unfold txs; rw [List.map_drop]
theorem txs_rev (a : List Tx) : (txs a).reverse = txs a.reverse := by unfold txs; rw [List.map_reverse]
theorem txs_len (a : List Tx) : (txs a).length = a.length := List.length_map ..
/-- places, none twice -/
structure Plc (l : List Tx) : Prop where
  mem : ∀ q ∈ l, q ∈ places
  nd : l.Nodup
theorem Plc.len {l : List Tx} (h : Plc l) : l.length ≤ 8 := nodup_len h.nd h.mem
theorem Plc.all : Plc places := ⟨fun _ h => h, by decide +kernel⟩
theorem Plc.take {l : List Tx} (h : Plc l) (n : Nat) : Plc (l.take n) := ⟨fun q hq => h.mem q (List.mem_of_mem_take hq), h.nd.sublist (List.take_sublist _ _)⟩
theorem Plc.rev {l : List Tx} (h : Plc l) : Plc l.reverse := ⟨fun q hq => h.mem q (List.mem_reverse.mp hq), (List.reverse_perm l).nodup_iff.mpr h.nd⟩
theorem Plc.spin (v : Nat) : Plc (places.drop v ++ places.take v) := by
  have p : (places.drop v ++ places.take v).Perm places := List.perm_append_comm.trans (by rw [List.take_append_drop])
  exact ⟨fun q hq => p.mem_iff.mp hq, p.nodup_iff.mpr Plc.all.nd⟩
def sp_l_near (K : PySem.W.Frag) : Sp := Fn K (fun p : Addr => [.raw (.ref p), .str tAround]) (fun p => bagM K p) (fun _ => True) (fun _ d => ∃ l : List Tx, d = .tupN (txs l) ∧ Plc l)
abbrev N_l_near : List Str := ["_law_bag_here", "_law_sort", "_law_places", "_law_spin", "_law_found"]
theorem sc_l_near : FnScope N_l_near ["_law_bag_here", "_law_sort"] (defScope s_l_near) := ⟨rfl, rfl, rfl, by decide +kernel, rfl, by decide +kernel, by decide +kernel⟩
theorem ok_l_near {P : Program} {w : World} {K : PySem.W.Frag} {mg : Str → Option Value} {base : Heap} (T : Tp K mg)
    (o_l_take : Okd P w K mg base 1 "_law_take" ["_law_bag_here", "_law_many"] (sp_l_take K)) : Okd P w K mg base 2 "_law_near" ["_law_bag_here", "_law_sort"] (sp_l_near K) := by
  obtain ⟨f_l_take, fd_l_take, F_l_take, g_l_take, k_l_take, b_l_take⟩ := o_l_take
  obtain ⟨fd, F⟩ := T.fn 40 d_l_near rfl
  refine ⟨_, fd, ?_, T.gl "_law_near" (by decide +kernel), F.kp, FunD.bindsN F fun _ _ _ _ _ _ us hl => match us, hl with | [_, _], _ => rfl⟩
  refine FunD.ok F sc_l_near (fun vs H Q E h => Fn.len (E := E) h) (fun cdv A outer s H vs Q E hr h => ?_)
  refine ⟨_, PSs.nox (pss_cons (ps_set (i := 2) sc_l_near.nd rfl (Or.inl rfl) (pe_lst (pa_cons pe_str (pa_cons pe_str (pa_cons pe_str (pa_cons pe_str (pa_cons pe_str (pa_cons pe_str (pa_cons pe_str (pa_cons pe_str pa_nil))))))))))
    (pss_cons (ps_if (pt_cmpR op_ne (pv 1) pe_str (nomark _)) pss_never pss_nil)
    (pss_cons (ps_set (i := 3) sc_l_near.nd rfl (Or.inl rfl) (pe_call F_l_take (hr.mono (by decide)) (by rfl) g_l_take k_l_take b_l_take .nil pass0 (pa_cons (pv 0) (pa_cons (pe_op op_add (pe_callB (call_lenK (K := K)) (by rfl) T.len (by decide +kernel) (pa_cons (pv 2) pa_nil)) pe_int) pa_nil))))
    (pss_cons (ps_set (i := 4) sc_l_near.nd rfl (Or.inl rfl) (pe_op op_cat (pe_slice (sl_listK (K := K)) (pv 2) (po_some (pv 3)) po_none) (pe_slice (sl_listK (K := K)) (pv 2) po_none (po_some (pv 3)))))
    (pss_cons (ps_if (pt_cmpR op_eq (pe_call F_l_take (hr.mono (by decide)) (by rfl) g_l_take k_l_take b_l_take .nil pass0 (pa_cons (pv 0) (pa_cons pe_int pa_nil))) pe_int (nomark _)) (pss_one (ps_set (i := 4) sc_l_near.nd rfl (Or.inl rfl) (pe_revLK (K := K) (pv 4)))) pss_nil)
    (pss_one (ps_ret (pe_callTy (call_tupleN (K := K)) (by rfl) T.tuple (by decide +kernel) (pa_cons (pe_slice (sl_listK (K := K)) (pv 4) po_none (po_some (pe_call F_l_take (hr.mono (by decide)) (by rfl) g_l_take k_l_take b_l_take .nil pass0 (pa_cons (pv 0) (pa_cons (pe_op op_add (pe_callB (call_lenK (K := K)) (by rfl) T.len (by decide +kernel) (pa_cons (pv 2) pa_nil)) pe_int) pa_nil))))) pa_nil))))))))), ?_⟩
  refine body (E := E) h fun p σ G _ c D kr kn => ?_
  have c : Cf K (bagM K p) G H σ [some (.raw (.ref p)), some (.str tAround), none, none, none] G H := c
  refine q_setV (d := .lst (txs places)) c (ev_lst (ea_cons (ev_lit (by decide +kernel)) (ea_cons (ev_lit (by decide +kernel)) (ea_cons (ev_lit (by decide +kernel)) (ea_cons (ev_lit (by decide +kernel)) (ea_cons (ev_lit (by decide +kernel)) (ea_cons (ev_lit (by decide +kernel)) (ea_cons (ev_lit (by decide +kernel)) (ea_cons (ev_lit (by decide +kernel)) ea_nil)))))))) (show 8 ≤ 100000 by decide)) fun σ1 G1 H1 c1 g1 => ?_
  refine q_skip c1 ((et_test (ev_op (ev_var rfl) (ev_lit lit_around) rg_neS)).to (by decide)) fun G2 H2 c2 g2 => ?_
  refine q_asg c2 (ev_take (n := 9) (ev_var rfl) ((ev_op (ev_cb1 (ev_var rfl) cg_lenL) ev_int rg_add).to rfl) (by decide) (by decide)) fun d σ3 G3 H3 e c3 g3 => ?_
  obtain ⟨v, hv, rfl⟩ := e
  have c3 : Cf K (bagM K p) G H σ3 [some (.raw (.ref p)), some (.str tAround), some (.lst (txs places)), some (.int (v : Nat)), none] G3 H3 := c3
  have hcut : ∀ lo hi, (cutD (txs places) lo hi).length ≤ 8 := fun lo hi => cutD_le _ lo hi
  refine q_setV (d := .lst (txs (places.drop v ++ places.take v))) c3 ((ev_op (ev_sl (ev_var rfl) (eo_some (ev_var rfl)) eo_none lg_list) (ev_sl (ev_var rfl) eo_none (eo_some (ev_var rfl)) lg_list) (rg_cat (by have := hcut (some (v : Nat)) none; have := hcut none (some (v : Nat)); omega))).to (by rw [cut_drop, cut_take, txs_drop, txs_take, txs_cat])) fun σ4 G4 H4 c4 g4 => ?_
  have c4 : Cf K (bagM K p) G H σ4 [some (.raw (.ref p)), some (.str tAround), some (.lst (txs places)), some (.int (v : Nat)), some (.lst (txs (places.drop v ++ places.take v)))] G4 H4 := c4
  refine q_whenM (R := fun σ' H' => ∃ (l : List Tx) (G' : Hp), Plc l ∧ Cf K (bagM K p) G H σ' [some (.raw (.ref p)), some (.str tAround), some (.lst (txs places)), some (.int (v : Nat)), some (.lst (txs l))] G' H') c4 (et_take (n := 2) (ev_var rfl) ev_int (by decide) (by decide)) (fun _ G5 H5 D5 c5 g5 hrt5 k5 => ?_) (fun _ G5 H5 c5 g5 => ⟨_, G5, Plc.spin v, c5⟩) ?_
  · refine c_setV (d := .lst (txs (places.drop v ++ places.take v).reverse)) c5 ((ev_revL (ev_var rfl)).to (by rw [txs_rev])) fun σ6 G6 H6 c6 g6 => k5 _ _ ⟨_, G6, (Plc.spin v).rev, c6⟩
  · rintro σ5 H5 ⟨l, G5, hl, c5⟩
    refine c_ret c5 (er_cb1 (Pa := fun d => ∃ n : Nat, d = .lst (txs (l.take n))) (P := fun d => ∃ l : List Tx, d = .tupN (txs l) ∧ Plc l) (er_sl (Pa := (· = .lst (txs l))) (O1 := (· = none)) (O2 := fun o => ∃ n : Nat, o = some ((n : Nat) : Int)) (ev_var rfl) eo_none (er_some (ev_take (n := 9) (ev_var rfl) ((ev_op (ev_cb1 (ev_var rfl) cg_lenL) ev_int rg_add).to rfl) (by decide) (by decide)) fun d hd => ?_) fun a lo hi pa p1 p2 => ?_) fun a pa => ?_) fun v d G6 H6 e c6 g6 r6 => kr v d G6 H6 e c6.gr c6.mm r6
    · obtain ⟨n, _, rfl⟩ := hd
      exact ⟨_, rfl, n, rfl⟩
    · obtain ⟨n, rfl⟩ := p2
      subst pa p1
      exact lg_list.imp fun d e => ⟨n, by rw [e, cut_take, txs_take]⟩
    · obtain ⟨n, rfl⟩ := pa
      exact (cg_tupleN (P := fun _ => True)).imp fun d e => ⟨_, e, hl.take n⟩
end K70
namespace K70
open PySem PySem.Spec PyProof.Rows L2
/-! ### _law_test -/
theorem places_small : ∀ q ∈ places, ∀ c ∈ q, c < 128 := by decide +kernel
theorem Plc.fit {l : List Tx} (h : Plc l) : Fit (.tup (txs l)) 1 := Fit.tup fun d hd => by
  obtain ⟨q, hq, rfl⟩ := List.mem_map.mp hd
  exact Fit.str (places_small q (h.mem q hq))
theorem et_neNil {K : PySem.W.Frag} {m : Mu} {Γ : Ga} {te : TE} {l : List Tx} (h : Ev K m te Γ (.tupN (txs l))) (hl : Plc l) : Et K m (tTest (tOp (rNeD K) te (tTup tNil))) Γ (!l.isEmpty) :=
  et_test (ev_op (ev_tupN h) (ev_tup ea_nil (by decide)) (rg_neNil (hl.fit.shaped (by decide))))
theorem ev_some {K : PySem.W.Frag} {p : Addr} {Γ : Ga} {E : XK} {tb ts : TE} {ss : Tx} (hb : Ev K (bagM K p) tb Γ (.raw (.ref p))) (hs : Ev K (bagM K p) ts Γ (.str ss)) (h : Sgs ss) : EvG K (bagM K p) (tCall (sp_l_some K) [] E (tCons tb (tCons ts tNil))) Γ (fun d => ∃ s : Tx, d = .str s ∧ Rising s ∧ ∀ c ∈ s, c ∈ ss) :=
  er_call (ea_cons hb (ea_cons hs ea_nil)) fun ds e => ⟨(p, ss), e, h, rfl, fun _ q => q⟩
def sp_l_test (K : PySem.W.Frag) : Sp := Fn K (fun a : Addr × List Tx × Tx => [.raw (.ref a.1), .tupN (txs a.2.1), .str a.2.2]) (fun a => bagM K a.1) (fun a => Plc a.2.1 ∧ Sgs a.2.2) (fun a d => ∃ t : Tst, d = tstD t ∧ t.ok a.2.1 a.2.2)
abbrev N_l_test : List Str := ["_law_bag_here", "_law_near_here", "_law_signs_here", "_law_low"]
theorem sc_l_test : FnScope N_l_test ["_law_bag_here", "_law_near_here", "_law_signs_here"] (defScope s_l_test) := ⟨rfl, rfl, rfl, by decide +kernel, rfl, by decide +kernel, by decide +kernel⟩
theorem ok_l_test {P : Program} {w : World} {K : PySem.W.Frag} {mg : Str → Option Value} {base : Heap} (T : Tp K mg)
    (o_l_some : Okd P w K mg base 2 "_law_some" ["_law_bag_here", "_law_signs_here"] (sp_l_some K))
    (o_l_take : Okd P w K mg base 1 "_law_take" ["_law_bag_here", "_law_many"] (sp_l_take K)) : Okd P w K mg base 3 "_law_test" ["_law_bag_here", "_law_near_here", "_law_signs_here"] (sp_l_test K) := by
  obtain ⟨f_l_some, fd_l_some, F_l_some, g_l_some, k_l_some, b_l_some⟩ := o_l_some
  obtain ⟨f_l_take, fd_l_take, F_l_take, g_l_take, k_l_take, b_l_take⟩ := o_l_take
  obtain ⟨fd, F⟩ := T.fn 41 d_l_test rfl
  refine ⟨_, fd, ?_, T.gl "_law_test" (by decide +kernel), F.kp, FunD.bindsN F fun _ _ _ _ _ _ us hl => match us, hl with | [_, _, _], _ => rfl⟩
  refine FunD.ok F sc_l_test (fun vs H Q E h => Fn.len (E := E) h) (fun cdv A outer s H vs Q E hr h => ?_)
  refine ⟨_, PSs.nox (pss_cons (ps_if (PW.pt (pw_and (pt_cmpR (op_neDK (K := K) hr.units) (pv 1) (pe_tup pa_nil) (nomark _)) (pw_and1 (pt_cmpR op_eq (pe_call F_l_take (hr.mono (by decide)) (by rfl) g_l_take k_l_take b_l_take .nil pass0 (pa_cons (pv 0) (pa_cons pe_int pa_nil))) pe_int (nomark _))))) (pss_one (ps_ret (pe_tup (pa_cons pe_str (pa_cons (pe_ix (ix_tupK (K := K)) (pv 1) (pe_call F_l_take (hr.mono (by decide)) (by rfl) g_l_take k_l_take b_l_take .nil pass0 (pa_cons (pv 0) (pa_cons (pe_callB (call_lenK (K := K)) (by rfl) T.len (by decide +kernel) (pa_cons (pv 1) pa_nil)) pa_nil))) (fun _ _ => rfl)) (pa_cons (pe_call F_l_some (hr.mono (by decide)) (by rfl) g_l_some k_l_some b_l_some .nil pass0 (pa_cons (pv 0) (pa_cons (pv 2) pa_nil))) pa_nil)))))) pss_nil)
    (pss_cons (ps_set (i := 3) sc_l_test.nd rfl (Or.inl rfl) (pe_call F_l_take (hr.mono (by decide)) (by rfl) g_l_take k_l_take b_l_take .nil pass0 (pa_cons (pv 0) (pa_cons pe_int pa_nil))))
    (pss_one (ps_ret (pe_tup (pa_cons pe_str (pa_cons (pv 3) (pa_cons (pe_op op_add (pv 3) (pe_call F_l_take (hr.mono (by decide)) (by rfl) g_l_take k_l_take b_l_take .nil pass0 (pa_cons (pv 0) (pa_cons pe_int pa_nil)))) (pa_cons (pe_call F_l_some (hr.mono (by decide)) (by rfl) g_l_some k_l_some b_l_some .nil pass0 (pa_cons (pv 0) (pa_cons (pv 2) pa_nil))) pa_nil))))))))), ?_⟩
  refine body (E := E) h fun ⟨p, l, ss⟩ σ G hp c D kr kn => ?_
  obtain ⟨hl, hs⟩ : Plc l ∧ Sgs ss := hp
  have c : Cf K (bagM K p) G H σ [some (.raw (.ref p)), some (.tupN (txs l)), some (.str ss), none] G H := c
  refine q_when c (er_and (B' := fun b => b = true → l ≠ []) (et_neNil (ev_var rfl) hl) (fun e => (et_take (n := 2) (ev_var rfl) ev_int (by decide) (by decide)).imp fun _ _ _ z => by rw [z] at e; cases e) (fun _ z => nomatch z)) (fun hb G1 H1 c1 g1 => ?_) (fun _ G1 H1 c1 g1 => ?_)
  · have hne : l ≠ [] := hb rfl
    have hpos : 0 < l.length := List.length_pos_iff.mpr hne
    have hl8 := hl.len
    refine c_ret c1 (er_tup (R := fun ds => ∃ q s, ds = [.str tAt, .str q, .str s] ∧ q ∈ l ∧ Rising s ∧ ∀ c ∈ s, c ∈ ss) (P := fun d => ∃ t : Tst, d = tstD t ∧ t.ok l ss) (er_cons (Pa := (· = .str tAt)) (R := fun ds => ∃ q s, ds = [.str q, .str s] ∧ q ∈ l ∧ Rising s ∧ ∀ c ∈ s, c ∈ ss) (ev_lit lit_at) (er_cons (Pa := fun d => ∃ q, d = .str q ∧ q ∈ l) (R := fun ds => ∃ s, ds = [.str s] ∧ Rising s ∧ ∀ c ∈ s, c ∈ ss) (er_op (Pa := (· = .tupW (txs l))) (ev_tupN (ev_var rfl)) (ev_take (n := l.length) (ev_var rfl) ((ev_cb1 (ev_tupN (ev_var rfl)) cg_lenW).to (by rw [txs_len])) hpos (by omega)) fun a b pa pb => ?_) (er_cons (P' := fun ds => ∃ s, ds = [.str s] ∧ Rising s ∧ ∀ c ∈ s, c ∈ ss) (ev_some (ev_var rfl) (ev_var rfl) hs) ea_nil fun a as pa e => ?_) fun a as pa e => ?_) fun a as pa e => ?_) fun ds hds => ?_) fun v d G2 H2 e c2 g2 r2 => kr v d G2 H2 e c2.gr c2.mm r2
    · obtain ⟨v, hv, rfl⟩ := pb
      subst pa
      refine (rg_ixW (j := v) (d := .str (l.getD v [])) ?_).imp fun d e => ⟨_, e, List.mem_of_getElem? (at_getD hv [])⟩
      rw [txs, List.getElem?_map, at_getD hv []]; rfl
    · obtain ⟨s, rfl, h1, h2⟩ := pa
      subst e
      exact ⟨s, rfl, h1, h2⟩
    · obtain ⟨q, rfl, h1⟩ := pa
      obtain ⟨s, rfl, h2, h3⟩ := e
      exact ⟨q, s, rfl, h1, h2, h3⟩
    · subst pa
      obtain ⟨q, s, rfl, h1, h2, h3⟩ := e
      exact ⟨q, s, rfl, h1, h2, h3⟩
    · obtain ⟨q, s, rfl, h1, h2, h3⟩ := hds
      exact ⟨(show 3 ≤ 100000 by decide), .at q s, rfl, h1, h2, h3⟩
  · refine q_asg c1 (ev_take (n := 4) (ev_var rfl) ev_int (by decide) (by decide)) fun d σ2 G2 H2 e c2 g2 => ?_
    obtain ⟨low, hlow, rfl⟩ := e
    have c2 : Cf K (bagM K p) G H σ2 [some (.raw (.ref p)), some (.tupN (txs l)), some (.str ss), some (.int (low : Nat))] G2 H2 := c2
    refine c_ret c2 (er_tup (R := fun ds => ∃ (hi : Nat) (s : Tx), ds = [.str tCount, .int (low : Nat), .int (hi : Nat), .str s] ∧ low ≤ hi ∧ hi ≤ 8 ∧ Rising s ∧ ∀ c ∈ s, c ∈ ss) (P := fun d => ∃ t : Tst, d = tstD t ∧ t.ok l ss) (er_cons (Pa := (· = .str tCount)) (R := fun ds => ∃ (hi : Nat) (s : Tx), ds = [.int (low : Nat), .int (hi : Nat), .str s] ∧ low ≤ hi ∧ hi ≤ 8 ∧ Rising s ∧ ∀ c ∈ s, c ∈ ss) (ev_lit lit_count) (er_cons (Pa := (· = .int (low : Nat))) (R := fun ds => ∃ (hi : Nat) (s : Tx), ds = [.int (hi : Nat), .str s] ∧ low ≤ hi ∧ hi ≤ 8 ∧ Rising s ∧ ∀ c ∈ s, c ∈ ss) (ev_var rfl) (er_cons (Pa := fun d => ∃ hi : Nat, d = .int (hi : Nat) ∧ low ≤ hi ∧ hi ≤ 8) (R := fun ds => ∃ s, ds = [.str s] ∧ Rising s ∧ ∀ c ∈ s, c ∈ ss) (er_op (ev_var rfl) (ev_take (n := 5) (ev_var rfl) ev_int (by decide) (by decide)) fun a b pa pb => ?_) (er_cons (P' := fun ds => ∃ s, ds = [.str s] ∧ Rising s ∧ ∀ c ∈ s, c ∈ ss) (ev_some (ev_var rfl) (ev_var rfl) hs) ea_nil fun a as pa e => ?_) fun a as pa e => ?_) fun a as pa e => ?_) fun a as pa e => ?_) fun ds hds => ?_) fun v d G3 H3 e c3 g3 r3 => kr v d G3 H3 e c3.gr c3.mm r3
    · obtain ⟨v, hv, rfl⟩ := pb
      subst pa
      refine rg_add.imp fun d e => ⟨low + v, by rw [e]; rfl, by omega, by omega⟩
    · obtain ⟨s, rfl, h1, h2⟩ := pa
      subst e
      exact ⟨s, rfl, h1, h2⟩
    · obtain ⟨hi, rfl, h1, h2⟩ := pa
      obtain ⟨s, rfl, h3, h4⟩ := e
      exact ⟨hi, s, rfl, h1, h2, h3, h4⟩
    · subst pa
      obtain ⟨hi, s, rfl, h1, h2, h3, h4⟩ := e
      exact ⟨hi, s, rfl, h1, h2, h3, h4⟩
    · subst pa
      obtain ⟨hi, s, rfl, h1, h2, h3, h4⟩ := e
      exact ⟨hi, s, rfl, h1, h2, h3, h4⟩
    · obtain ⟨hi, s, rfl, h1, h2, h3, h4⟩ := hds
      exact ⟨(show 4 ≤ 100000 by decide), .cnt low hi s, rfl, h1, h2, h3, h4⟩
/-! ### _law_row -/
theorem Dt.map_tst (l : List Tst) : Dt.tup (l.map tstD) = .tup (l.map tstD) := rfl
theorem sr_takeRange {K : PySem.W.Frag} {p : Addr} {Γ : Ga} {E : XK} {tb tn : TE} {n : Nat} (hb : Ev K (bagM K p) tb Γ (.raw (.ref p))) (hn : Ev K (bagM K p) tn Γ (.int (n : Nat))) (h0 : 0 < n) (h1 : n ≤ 1000) : SrcG K (bagM K p) (iRng1 (tCons (tCall (sp_l_take K) [] E (tCons tb (tCons tn tNil))) tNil)) Γ (fun ds => ds.length < n) :=
  sr_range1 (er_cons (P' := fun ds => ∃ v : Nat, v < n ∧ ds = [.int (v : Nat)]) (ev_take hb hn h0 (by omega)) ea_nil fun a as pa e => by
    obtain ⟨v, hv, rfl⟩ := pa
    subst e
    exact ⟨v, hv, rfl⟩) fun ds ⟨v, hv, e⟩ => ⟨(v : Nat), e, by omega, by omega, by rw [rngD_len]; exact hv⟩
theorem ev_test {K : PySem.W.Frag} {p : Addr} {Γ : Ga} {E : XK} {tb tl ts : TE} {l : List Tx} {ss : Tx} (hb : Ev K (bagM K p) tb Γ (.raw (.ref p))) (h1 : Ev K (bagM K p) tl Γ (.tupN (txs l))) (h2 : Ev K (bagM K p) ts Γ (.str ss)) (hl : Plc l) (hs : Sgs ss) : EvG K (bagM K p) (tCall (sp_l_test K) [] E (tCons tb (tCons tl (tCons ts tNil)))) Γ (fun d => ∃ t : Tst, d = tstD t ∧ t.ok l ss) :=
  er_call (ea_cons hb (ea_cons h1 (ea_cons h2 ea_nil))) fun ds e => ⟨(p, l, ss), e, ⟨hl, hs⟩, rfl, fun _ q => q⟩
def sp_l_row (K : PySem.W.Frag) : Sp := Fn K (fun a : Addr × List Tx × Tx => [.raw (.ref a.1), .tupN (txs a.2.1), .str a.2.2]) (fun a => bagM K a.1) (fun a => Plc a.2.1 ∧ Sgs a.2.2) (fun a d => ∃ q : Rw, d = rwD q ∧ q.ok a.2.1 a.2.2)
abbrev N_l_row : List Str := ["_law_bag_here", "_law_near_here", "_law_signs_here", "_law_own", "_law_tests", "_law_k"]
theorem sc_l_row : FnScope N_l_row ["_law_bag_here", "_law_near_here", "_law_signs_here"] (defScope s_l_row) := ⟨rfl, rfl, rfl, by decide +kernel, rfl, by decide +kernel, by decide +kernel⟩
theorem ok_l_row {P : Program} {w : World} {K : PySem.W.Frag} {mg : Str → Option Value} {base : Heap} (T : Tp K mg)
    (o_l_some : Okd P w K mg base 2 "_law_some" ["_law_bag_here", "_law_signs_here"] (sp_l_some K))
    (o_l_take : Okd P w K mg base 1 "_law_take" ["_law_bag_here", "_law_many"] (sp_l_take K))
    (o_l_test : Okd P w K mg base 3 "_law_test" ["_law_bag_here", "_law_near_here", "_law_signs_here"] (sp_l_test K)) : Okd P w K mg base 4 "_law_row" ["_law_bag_here", "_law_near_here", "_law_signs_here"] (sp_l_row K) := by
  obtain ⟨f_l_some, fd_l_some, F_l_some, g_l_some, k_l_some, b_l_some⟩ := o_l_some
  obtain ⟨f_l_take, fd_l_take, F_l_take, g_l_take, k_l_take, b_l_take⟩ := o_l_take
  obtain ⟨f_l_test, fd_l_test, F_l_test, g_l_test, k_l_test, b_l_test⟩ := o_l_test
  obtain ⟨fd, F⟩ := T.fn 42 d_l_row rfl
  refine ⟨_, fd, ?_, T.gl "_law_row" (by decide +kernel), F.kp, FunD.bindsN F fun _ _ _ _ _ _ us hl => match us, hl with | [_, _, _], _ => rfl⟩
  refine FunD.ok F sc_l_row (fun vs H Q E h => Fn.len (E := E) h) (fun cdv A outer s H vs Q E hr h => ?_)
  refine ⟨_, PSs.nox (pss_cons (ps_set (i := 3) sc_l_row.nd rfl (Or.inl rfl) (pe_call F_l_some (hr.mono (by decide)) (by rfl) g_l_some k_l_some b_l_some .nil pass0 (pa_cons (pv 0) (pa_cons (pv 2) pa_nil))))
    (pss_cons (ps_set (i := 4) sc_l_row.nd rfl (Or.inl rfl) (pe_callTy (call_tupleK (K := K)) (by rfl) T.tuple (by decide +kernel) (pa_cons (pe_lc (own := [("_law_k", 5)]) rfl sc_l_row.nd (pi_range1 (by rfl) T.range (pa_cons (pe_call F_l_take (hr.mono (by decide)) (by rfl) g_l_take k_l_take b_l_take .nil pass0 (pa_cons (pv 0) (pa_cons pe_int pa_nil))) pa_nil)) (blkOk_by (N := N_l_row) (own := [("_law_k", 5)]) (by kernel_rfl)) (fun _ _ _ _ _ => (pg_name (i := 5) sc_l_row.nd rfl (Or.inl rfl))) (fun _ _ _ _ _ => pts_nil) (fun _ _ _ _ _ => (pe_call F_l_test (hr.mono (by decide)) (by rfl) g_l_test k_l_test b_l_test .nil pass0 (pa_cons (pv 0) (pa_cons (pv 1) (pa_cons (pv 2) pa_nil)))))) pa_nil)))
    (pss_one (ps_ret (pe_tup (pa_cons (pv 3) (pa_cons (pv 4) (pa_cons (pe_ix ix_str (pv 2) (pe_call F_l_take (hr.mono (by decide)) (by rfl) g_l_take k_l_take b_l_take .nil pass0 (pa_cons (pv 0) (pa_cons (pe_callB call_lenS (by rfl) T.len (by decide +kernel) (pa_cons (pv 2) pa_nil)) pa_nil))) (fun _ _ => rfl)) pa_nil)))))))), ?_⟩
  refine body (E := E) h fun ⟨p, l, ss⟩ σ G hp c D kr kn => ?_
  obtain ⟨hl, hs⟩ : Plc l ∧ Sgs ss := hp
  have c : Cf K (bagM K p) G H σ [some (.raw (.ref p)), some (.tupN (txs l)), some (.str ss), none, none, none] G H := c
  refine q_asg c (ev_some (ev_var rfl) (ev_var rfl) hs) fun d σ1 G1 H1 e c1 g1 => ?_
  obtain ⟨own, rfl, ho1, ho2⟩ := e
  have c1 : Cf K (bagM K p) G H σ1 [some (.raw (.ref p)), some (.tupN (txs l)), some (.str ss), some (.str own), none, none] G1 H1 := c1
  refine q_asg (P := fun d => ∃ ts : List Tst, d = .tup (ts.map tstD) ∧ ts.length ≤ 8 ∧ ∀ t ∈ ts, t.ok l ss) c1 (er_cb1 (Pa := fun d => ∃ ts : List Tst, d = .lst (ts.map tstD) ∧ ts.length ≤ 8 ∧ ∀ t ∈ ts, t.ok l ss) (er_mapN (β := Tst) (f := tstD) (R := fun t => t.ok l ss) (sr_takeRange (n := 3) (ev_var rfl) ev_int (by decide) (by decide)) (fun ds h => by omega) (fun ds bs h1 h2 h3 => ⟨bs, rfl, by omega, h3⟩) fun ds d h1 h2 => ⟨_, [5], by decide, tg_name, ev_test (ev_var rfl) (ev_var rfl) (ev_var rfl) hl hs⟩) fun a pa => ?_) fun d σ2 G2 H2 e c2 g2 => ?_
  · obtain ⟨ts, rfl, h1, h2⟩ := pa
    exact cg_tupleL.imp fun d e => ⟨ts, e, h1, h2⟩
  · obtain ⟨ts, rfl, h1, h2⟩ := e
    have c2 : Cf K (bagM K p) G H σ2 [some (.raw (.ref p)), some (.tupN (txs l)), some (.str ss), some (.str own), some (.tup (ts.map tstD)), none] G2 H2 := c2
    refine c_ret c2 (er_tup (R := fun ds => ∃ c, ds = [.str own, .tup (ts.map tstD), .str [c]] ∧ c ∈ ss) (P := fun d => ∃ q : Rw, d = rwD q ∧ q.ok l ss) (er_cons (Pa := (· = .str own)) (R := fun ds => ∃ c, ds = [.tup (ts.map tstD), .str [c]] ∧ c ∈ ss) (ev_var rfl) (er_cons (Pa := (· = .tup (ts.map tstD))) (R := fun ds => ∃ c, ds = [.str [c]] ∧ c ∈ ss) (ev_var rfl) (er_cons (P' := fun ds => ∃ c, ds = [.str [c]] ∧ c ∈ ss) (ev_signAt (n := ss.length) (ev_var rfl) (ev_var rfl) (ev_lenSgs (ev_var rfl) hs.len) hs.pos rfl hs.len) ea_nil fun a as pa e => ?_) fun a as pa e => ?_) fun a as pa e => ?_) fun ds hds => ?_) fun v d G3 H3 e c3 g3 r3 => kr v d G3 H3 e c3.gr c3.mm r3
    · obtain ⟨s, rfl, q1⟩ := pa
      subst e
      exact ⟨s, rfl, q1⟩
    · subst pa
      obtain ⟨s, rfl, q1⟩ := e
      exact ⟨s, rfl, q1⟩
    · subst pa
      obtain ⟨s, rfl, q1⟩ := e
      exact ⟨s, rfl, q1⟩
    · obtain ⟨s, rfl, q1⟩ := hds
      exact ⟨(show 3 ≤ 100000 by decide), ⟨own, ts, s⟩, rfl, ho1, ho2, h1, h2, q1⟩
end K70
namespace K70
open PySem PySem.Spec PyProof.Rows L2
/-! ### _law_rule -/
theorem sg_sgs {n : Nat} (h0 : 0 < n) : Sgs (sg.take n) := ⟨fun e => by
    have h := congrArg List.length e
    rw [List.length_take, sg_len] at h
    have : ([] : Tx).length = 0 := rfl
    omega, List.Pairwise.sublist (List.take_sublist _ _) sg_sorted, by rw [List.length_take, sg_len]; omega⟩
theorem sg_rising {n : Nat} (h0 : 0 < n) : Rising (sg.take n) := ⟨(sg_sgs h0).ne, (sg_sgs h0).ris⟩
theorem one_rising (c : Nat) : Rising [c] := ⟨by simp, List.pairwise_singleton _ _⟩
theorem dot_in {n : Nat} (h : 2 ≤ n) : 46 ∈ sg.take n := by
  have : sg.take n = 46 :: (sg.drop 1).take (n - 1) := by
    obtain ⟨k, rfl⟩ : ∃ k, n = k + 1 := ⟨n - 1, by omega⟩
    rfl
  rw [this]; exact List.mem_cons_self
/-- rows that are as told -/
def Rws (l : List Tx) (ss : Tx) (qs : List Rw) : Prop := qs.length ≤ 30 ∧ ∀ q ∈ qs, q.ok l ss
def firstRw (l : List Tx) : Rw := ⟨[46], [.cnt l.length 8 [46]], 46⟩
theorem first_ok {l : List Tx} {n : Nat} (hl : Plc l) (h : 2 ≤ n) : (firstRw l).ok l (sg.take n) := by
  have hl8 := hl.len
  refine ⟨one_rising 46, fun c hc => by rw [List.mem_singleton.mp hc]; exact dot_in h, (show 1 ≤ 8 by decide), fun t ht => ?_, dot_in h⟩
  rw [List.mem_singleton.mp ht]
  exact ⟨hl8, Nat.le_refl _, one_rising 46, fun c hc => by rw [List.mem_singleton.mp hc]; exact dot_in h⟩
def sp_l_rule (K : PySem.W.Frag) : Sp := Fn K (fun a : Addr × Nat => [.raw (.ref a.1), .str tAround, .int (a.2 : Nat)]) (fun a => bagM K a.1) (fun a => 2 ≤ a.2 ∧ a.2 ≤ 27) (fun a d => ∃ r : Rl, d = ruD r ∧ r.ok ∧ r.many = a.2)
abbrev N_l_rule : List Str := ["_law_bag_here", "_law_sort", "_law_many", "_law_signs_here", "_law_near_here", "_law_way", "_law_size", "_law_rows_here", "_law_k", "_law_sign"]
theorem sc_l_rule : FnScope N_l_rule ["_law_bag_here", "_law_sort", "_law_many"] (defScope s_l_rule) := ⟨rfl, rfl, rfl, by decide +kernel, rfl, by decide +kernel, by decide +kernel⟩
theorem ok_l_rule {P : Program} {w : World} {K : PySem.W.Frag} {mg : Str → Option Value} {base : Heap} (T : Tp K mg)
    (o_l_signs : Okd P w K mg base 1 "_law_signs" ["_law_many"] (sp_l_signs K))
    (o_l_near : Okd P w K mg base 2 "_law_near" ["_law_bag_here", "_law_sort"] (sp_l_near K))
    (o_l_take : Okd P w K mg base 1 "_law_take" ["_law_bag_here", "_law_many"] (sp_l_take K))
    (o_l_row : Okd P w K mg base 4 "_law_row" ["_law_bag_here", "_law_near_here", "_law_signs_here"] (sp_l_row K)) : Okd P w K mg base 5 "_law_rule" ["_law_bag_here", "_law_sort", "_law_many"] (sp_l_rule K) := by
  obtain ⟨f_l_signs, fd_l_signs, F_l_signs, g_l_signs, k_l_signs, b_l_signs⟩ := o_l_signs
  obtain ⟨f_l_near, fd_l_near, F_l_near, g_l_near, k_l_near, b_l_near⟩ := o_l_near
  obtain ⟨f_l_take, fd_l_take, F_l_take, g_l_take, k_l_take, b_l_take⟩ := o_l_take
  obtain ⟨f_l_row, fd_l_row, F_l_row, g_l_row, k_l_row, b_l_row⟩ := o_l_row
  obtain ⟨fd, F⟩ := T.fn 43 d_l_rule rfl
  refine ⟨_, fd, ?_, T.gl "_law_rule" (by decide +kernel), F.kp, FunD.bindsN F fun _ _ _ _ _ _ us hl => match us, hl with | [_, _, _], _ => rfl⟩
  refine FunD.ok F sc_l_rule (fun vs H Q E h => Fn.len (E := E) h) (fun cdv A outer s H vs Q E hr h => ?_)
  refine ⟨_, PSs.nox (pss_cons (ps_set (i := 3) sc_l_rule.nd rfl (Or.inr rfl) (pe_call F_l_signs (hr.mono (by decide)) (by rfl) g_l_signs k_l_signs b_l_signs .nil pass0 (pa_cons (pv 2) pa_nil)))
    (pss_cons (ps_set (i := 4) sc_l_rule.nd rfl (Or.inr rfl) (pe_call F_l_near (hr.mono (by decide)) (by rfl) g_l_near k_l_near b_l_near .nil pass0 (pa_cons (pv 0) (pa_cons (pv 1) pa_nil))))
    (pss_cons (ps_set (i := 5) sc_l_rule.nd rfl (Or.inl rfl) (pe_call F_l_take (hr.mono (by decide)) (by rfl) g_l_take k_l_take b_l_take .nil pass0 (pa_cons (pv 0) (pa_cons pe_int pa_nil))))
    (pss_cons (ps_set (i := 6) sc_l_rule.nd rfl (Or.inl rfl) (pe_call F_l_take (hr.mono (by decide)) (by rfl) g_l_take k_l_take b_l_take .nil pass0 (pa_cons (pv 0) (pa_cons pe_int pa_nil))))
    (pss_cons (ps_if (pt_cmpR op_eq (pv 1) pe_str (nomark _)) pss_never pss_nil)
    (pss_cons (ps_setLc (i := 7) (own := [("_law_k", 8)]) rfl sc_l_rule.nd rfl rfl (sw_true rfl rfl rfl (by decide +kernel)) (pi_range1 (by rfl) T.range (pa_cons (pv 6) pa_nil)) (blkOk_by (N := N_l_rule) (own := [("_law_k", 8)]) (by kernel_rfl)) (fun _ _ _ _ _ => (pg_name (i := 8) sc_l_rule.nd rfl (Or.inl rfl))) (fun _ _ _ _ _ => pts_nil) (fun _ _ _ _ _ => (pe_call F_l_row (hr.mono (by decide)) (by rfl) g_l_row k_l_row b_l_row .nil pass0 (pa_cons (pv 0) (pa_cons (pv 4) (pa_cons (pv 3) pa_nil))))))
    (pss_cons (ps_if (PW.pt (pw_and (pt_cmpR op_eq (pv 5) pe_int (nomark _)) (pw_and1 (pt_cmpR (op_neDK (K := K) hr.units) (pv 4) (pe_tup pa_nil) (nomark _))))) (pss_one (ps_setLc (i := 7) (own := [("_law_sign", 9)]) rfl sc_l_rule.nd rfl rfl (sw_true rfl rfl rfl (by decide +kernel)) (pi_str (pv 3)) (blkOk_by (N := N_l_rule) (own := [("_law_sign", 9)]) (by kernel_rfl)) (fun _ _ _ _ _ => (pg_name (i := 9) sc_l_rule.nd rfl (Or.inl rfl))) (fun _ _ _ _ _ => pts_nil) (fun _ _ _ _ _ => (pe_tup (pa_cons (pv 3) (pa_cons (pe_tup (pa_cons (pe_tup (pa_cons pe_str (pa_cons (pe_ix (ix_tupK (K := K)) (pv 4) pe_int (fun _ _ => rfl)) (pa_cons (pv 9) pa_nil)))) pa_nil)) (pa_cons (pv 9) pa_nil))))))) pss_nil)
    (pss_cons (ps_if (pt_cmpR op_eq (pv 5) pe_int (nomark _)) (pss_one (ps_setLc (i := 7) (own := [("_law_k", 8)]) rfl sc_l_rule.nd rfl rfl (sw_true rfl rfl rfl (by decide +kernel)) (pi_range2 (by rfl) T.range (pa_cons pe_int (pa_cons (pv 2) pa_nil))) (blkOk_by (N := N_l_rule) (own := [("_law_k", 8)]) (by kernel_rfl)) (fun _ _ _ _ _ => (pg_name (i := 8) sc_l_rule.nd rfl (Or.inl rfl))) (fun _ _ _ _ _ => pts_nil) (fun _ _ _ _ _ => (pe_tup (pa_cons (pe_ix ix_str (pv 3) (pv 8) (fun _ _ => rfl)) (pa_cons (pe_tup pa_nil) (pa_cons (pe_ix ix_str (pv 3) (pe_op op_add pe_int (pe_op op_mod (pv 8) (pe_op op_sub (pv 2) pe_int))) (fun _ _ => rfl)) pa_nil))))))) pss_nil)
    (pss_one (ps_ret (pe_tup (pa_cons (pv 1) (pa_cons (pv 2) (pa_cons (pv 4) (pa_cons (pe_op op_cat (pe_lst (pa_cons (pe_tup (pa_cons pe_str (pa_cons (pe_tup (pa_cons (pe_tup (pa_cons pe_str (pa_cons (pe_callB (call_lenK (K := K)) (by rfl) T.len (by decide +kernel) (pa_cons (pv 4) pa_nil)) (pa_cons pe_int (pa_cons pe_str pa_nil))))) pa_nil)) (pa_cons pe_str pa_nil)))) pa_nil)) (pv 7)) pa_nil))))))))))))))), ?_⟩
  refine body (E := E) h fun ⟨p, n⟩ σ G hp c D kr kn => ?_
  obtain ⟨h2, h27⟩ : 2 ≤ n ∧ n ≤ 27 := hp
  have c : Cf K (bagM K p) G H σ [some (.raw (.ref p)), some (.str tAround), some (.int (n : Nat)), none, none, none, none, none, none, none] G H := c
  have hs : Sgs (sg.take n) := sg_sgs (by omega)
  have hsl : (sg.take n).length = n := by rw [List.length_take, sg_len]; omega
  refine q_setV (d := .str (sg.take n)) c (ev_call n (ea_cons (ev_var rfl) ea_nil) trivial) fun σ1 G1 H1 c1 g1 => ?_
  refine q_asg (P := fun d => ∃ l : List Tx, d = .tupN (txs l) ∧ Plc l) c1 (er_call (ea_cons (ev_var rfl) (ea_cons (ev_var rfl) ea_nil)) fun ds e => ⟨p, e, trivial, rfl, fun _ q => q⟩) fun d σ2 G2 H2 e c2 g2 => ?_
  obtain ⟨l, rfl, hl⟩ := e
  have hl8 := hl.len
  refine q_asg c2 (ev_take (n := 5) (ev_var rfl) ev_int (by decide) (by decide)) fun d σ3 G3 H3 e c3 g3 => ?_
  obtain ⟨way, hway, rfl⟩ := e
  refine q_asg c3 (ev_take (n := 5) (ev_var rfl) ev_int (by decide) (by decide)) fun d σ4 G4 H4 e c4 g4 => ?_
  obtain ⟨size, hsize, rfl⟩ := e
  generalize hss : sg.take n = ss at hs hsl c1 c2 c3 c4
  have c4 : Cf K (bagM K p) G H σ4 [some (.raw (.ref p)), some (.str tAround), some (.int (n : Nat)), some (.str ss), some (.tupN (txs l)), some (.int (way : Nat)), some (.int (size : Nat)), none, none, none] G4 H4 := c4
  refine q_skip c4 ((et_test (ev_op (ev_var rfl) (ev_lit (l := [98, 108, 111, 99, 107, 115]) (by decide +kernel)) rg_eqS)).to (by decide)) fun G5 H5 c5 g5 => ?_
  have src : ∀ {Γ : Ga}, Γ[6]? = some (some (.int (size : Nat))) → SrcG K (bagM K p) (iRng1 (tCons (tVar 6) tNil)) Γ (fun ds => ds.length < 5) := fun h => sr_range1 (ea_cons (ev_var h) ea_nil) fun ds e => ⟨(size : Nat), e, by omega, by omega, by rw [rngD_len]; exact hsize⟩
  refine q_asg (P := fun d => ∃ qs : List Rw, d = .lst (qs.map rwD) ∧ Rws l ss qs) c5 (er_mapN (β := Rw) (f := rwD) (R := fun q => q.ok l ss) (src rfl) (fun ds h => by omega) (fun ds bs h1 h2 h3 => ⟨bs, rfl, by omega, h3⟩) fun ds d h1 h2 => ⟨_, [8], by decide, tg_name, er_call (ea_cons (ev_var rfl) (ea_cons (ev_var rfl) (ea_cons (ev_var rfl) ea_nil))) fun ds e => ⟨(p, l, ss), e, ⟨hl, hs⟩, rfl, fun _ q => q⟩⟩) fun d σ6 G6 H6 e c6 g6 => ?_
  obtain ⟨qs, rfl, hq⟩ := e
  have c6 : Cf K (bagM K p) G H σ6 [some (.raw (.ref p)), some (.str tAround), some (.int (n : Nat)), some (.str ss), some (.tupN (txs l)), some (.int (way : Nat)), some (.int (size : Nat)), some (.lst (qs.map rwD)), none, none] G6 H6 := c6
  have hrs : Rising ss := ⟨hs.ne, hs.ris⟩
  have hsub : ∀ c ∈ ss, c ∈ ss := fun c hc => hc
  -- all goes on to a place
  refine q_whenM (R := fun σ' H' => ∃ (qs : List Rw) (G' : Hp), Rws l ss qs ∧ Cf K (bagM K p) G H σ' [some (.raw (.ref p)), some (.str tAround), some (.int (n : Nat)), some (.str ss), some (.tupN (txs l)), some (.int (way : Nat)), some (.int (size : Nat)), some (.lst (qs.map rwD)), none, none] G' H') c6 (er_and (B' := fun b => b = true → l ≠ []) (et_test (ev_op (ev_var rfl) ev_int rg_eqI)) (fun _ => (et_neNil (ev_var rfl) hl).imp fun b e z => by rw [z] at e; intro w; rw [w] at e; cases e) (fun _ z => nomatch z)) (fun hb G7 H7 D7 c7 g7 hrt7 k7 => ?_) (fun _ G7 H7 c7 g7 => ⟨qs, G7, hq, c7⟩) ?_
  · have hne : l ≠ [] := hb rfl
    have hpos : 0 < l.length := List.length_pos_iff.mpr hne
    have h0 : l[0]? = some (l.getD 0 []) := at_getD hpos []
    refine c_setV (d := .lst ((ss.map fun c => (⟨ss, [.at (l.getD 0 []) [c]], c⟩ : Rw)).map rwD)) c7 ((ev_mapA (l := ss) (enc := fun c => .str [c]) (fun c => rwD ⟨ss, [.at (l.getD 0 []) [c]], c⟩) (sv_str (ev_var rfl)) (by have := hs.len; omega) fun a ha => ⟨_, [9], by decide, tg_name, ev_tup (ea_cons (ev_var rfl) (ea_cons (ev_tup (ea_cons (ev_tup (ea_cons (ev_lit lit_at) (ea_cons (ev_op (ev_tupN (ev_var rfl)) ev_int (rg_ixW (j := 0) (by rw [txs, List.getElem?_map, h0]; rfl))) (ea_cons (ev_var rfl) ea_nil))) (show 3 ≤ 100000 by decide)) ea_nil) (show 1 ≤ 100000 by decide)) (ea_cons (ev_var rfl) ea_nil))) (show 3 ≤ 100000 by decide)⟩).to (by rw [List.map_map]; rfl)) fun σ8 G8 H8 c8 g8 => k7 _ _ ⟨_, G8, ⟨by rw [List.length_map]; have := hs.len; omega, fun q hq => ?_⟩, c8⟩
    obtain ⟨c, hc, rfl⟩ := List.mem_map.mp hq
    refine ⟨hrs, hsub, (by decide : 1 ≤ 8), fun t ht => ?_, hc⟩
    rw [List.mem_singleton.mp ht]
    exact ⟨List.mem_of_getElem? h0, one_rising c, fun d hd => by rw [List.mem_singleton.mp hd]; exact hc⟩
  · rintro σ7 H7 ⟨qs7, G7, hq7, c7⟩
    -- all goes round the signs
    refine q_whenM (R := fun σ' H' => ∃ (qs : List Rw) (G' : Hp), Rws l ss qs ∧ Cf K (bagM K p) G H σ' [some (.raw (.ref p)), some (.str tAround), some (.int (n : Nat)), some (.str ss), some (.tupN (txs l)), some (.int (way : Nat)), some (.int (size : Nat)), some (.lst (qs.map rwD)), none, none] G' H') c7 (et_test (ev_op (ev_var rfl) ev_int rg_eqI)) (fun _ G8 H8 D8 c8 g8 hrt8 k8 => ?_) (fun _ G8 H8 c8 g8 => ⟨qs7, G8, hq7, c8⟩) ?_
    · have e1 : rngD 1 ((n : Int) - 1).toNat = (List.range (n - 1)).map fun i => Dt.int ((i + 1 : Nat) : Int) := by
        have : ((n : Int) - 1).toNat = n - 1 := by omega
        rw [this]; unfold rngD
        apply List.map_congr_left
        intro i _
        congr 1; omega
      refine c_setV (d := .lst (((List.range (n - 1)).map fun i => (⟨[ss.getD (i + 1) 0], [], ss.getD (1 + (i + 1) % (n - 1)) 0⟩ : Rw)).map rwD)) c8 ((ev_mapA (l := List.range (n - 1)) (enc := fun i => .int ((i + 1 : Nat) : Int)) (fun i => rwD ⟨[ss.getD (i + 1) 0], [], ss.getD (1 + (i + 1) % (n - 1)) 0⟩) ((sr_range2 (ea_cons ev_int (ea_cons (ev_var rfl) ea_nil)) fun ds e => ⟨1, (n : Nat), e, by omega, by omega, by omega, by omega, e1⟩)) (by rw [List.length_range]; omega) fun i hi => ?_).to (by rw [List.map_map]; rfl)) fun σ9 G9 H9 c9 g9 => k8 _ _ ⟨_, G9, ⟨by rw [List.length_map, List.length_range]; omega, fun q hq => ?_⟩, c9⟩
      · have hi2 : i < n - 1 := List.mem_range.mp hi
        have hm : (i + 1) % (n - 1) < n - 1 := Nat.mod_lt _ (by omega)
        have em : (1 : Int) + ((i + 1 : Nat) : Int) % ((n : Int) - 1) = ((1 + (i + 1) % (n - 1) : Nat) : Int) := by
          have : ((n : Int) - 1) = ((n - 1 : Nat) : Int) := by omega
          rw [this]
          omega
        refine ⟨_, [8], by decide, tg_name, ev_tup (ea_cons (ev_op (ev_var rfl) (ev_var rfl) (rg_ixS (j := i + 1) (c := ss.getD (i + 1) 0) (at_getD (by omega) 0) (by omega))) (ea_cons (ev_tup ea_nil (show 0 ≤ 100000 by decide)) (ea_cons (ev_op (ev_var rfl) ((ev_op ev_int (ev_op (ev_var rfl) (ev_op (ev_var rfl) ev_int rg_sub) (rg_mod (by omega))) rg_add).to (congrArg Dt.int em)) (rg_ixS (j := 1 + (i + 1) % (n - 1)) (c := ss.getD (1 + (i + 1) % (n - 1)) 0) (at_getD (by omega) 0) (by omega))) ea_nil))) (show 3 ≤ 100000 by decide)⟩
      · obtain ⟨i, hi, rfl⟩ := List.mem_map.mp hq
        have hi2 : i < n - 1 := List.mem_range.mp hi
        have hm : (i + 1) % (n - 1) < n - 1 := Nat.mod_lt _ (by omega)
        exact ⟨one_rising _, fun c hc => by rw [List.mem_singleton.mp hc]; exact List.mem_of_getElem? (at_getD (by omega) 0), (show 0 ≤ 8 by decide), fun t ht => (nomatch ht), List.mem_of_getElem? (at_getD (by omega) 0)⟩
    · rintro σ8 H8 ⟨qs8, G8, hq8, c8⟩
      refine c_ret c8 (ev_tup (ea_cons (ev_var rfl) (ea_cons (ev_var rfl) (ea_cons (ev_var rfl) (ea_cons ((ev_op (ev_lst (ea_cons (ev_tup (ea_cons (ev_lit lit_dot) (ea_cons (ev_tup (ea_cons (ev_tup (ea_cons (ev_lit lit_count) (ea_cons (ev_cb1 (ev_tupN (ev_var rfl)) cg_lenW) (ea_cons ev_int (ea_cons (ev_lit lit_dot) ea_nil)))) (show 4 ≤ 100000 by decide)) ea_nil) (show 1 ≤ 100000 by decide)) (ea_cons (ev_lit lit_dot) ea_nil))) (show 3 ≤ 100000 by decide)) ea_nil) (show 1 ≤ 100000 by decide)) (ev_var rfl) (rg_cat (by rw [List.length_map]; have := hq8.1; simp; omega))).to (e := .lst ((firstRw l :: qs8).map rwD)) (by rw [txs_len]; rfl)) ea_nil)))) (show 4 ≤ 100000 by decide)) fun v d G9 H9 e c9 g9 r9 => kr v d G9 H9 ⟨⟨n, l, firstRw l :: qs8⟩, e, ⟨h2, h27, hl.mem, hl.nd, by rw [List.length_cons]; have := hq8.1; omega, fun q hq => ?_⟩, rfl⟩ c9.gr c9.mm r9
      show q.ok l (sg.take n)
      rw [hss]
      rcases List.mem_cons.mp hq with e | hq
      · rw [e, ← hss]; exact first_ok hl h2
      · exact hq8.2 q hq
end K70
namespace K70
open PySem PySem.Spec PyProof.Rows L2
/-! ### _law_strip -/
/-- the sizes that may be drawn -/
def sizesM : List (Nat × Nat) := [(2, 1), (2, 2), (3, 1), (2, 1), (4, 1), (2, 3), (8, 1)]
def sp_l_strip (K : PySem.W.Frag) : Sp := Fn K (fun p : Addr => [.raw (.ref p), .int 7]) (fun p => bagM K p) (fun _ => True) (fun _ d => ∃ (r : Rl) (edge high : Nat), d = .tup [ruD r, .str [edge], .int (high : Nat)] ∧ Zok r edge high ∧ edge ∈ r.signs ∧ (r.many, high) ∈ sizesM)
theorem sizes_ok : ∀ q ∈ sizesM, 2 ≤ q.1 ∧ q.1 ≤ 8 ∧ 1 ≤ q.2 ∧ q.2 ≤ 3 ∧ q.1 ^ q.2 ≤ 8 := by decide
abbrev N_l_strip : List Str := ["_law_bag_here", "_law_greatest", "_law_many", "_law_high", "_law_rule_here", "_law_signs_here"]
theorem sc_l_strip : FnScope N_l_strip ["_law_bag_here", "_law_greatest"] (defScope s_l_strip) := ⟨rfl, rfl, rfl, by decide +kernel, rfl, by decide +kernel, by decide +kernel⟩
theorem ok_l_strip {P : Program} {w : World} {K : PySem.W.Frag} {mg : Str → Option Value} {base : Heap} (T : Tp K mg)
    (o_l_take : Okd P w K mg base 1 "_law_take" ["_law_bag_here", "_law_many"] (sp_l_take K))
    (o_l_rule : Okd P w K mg base 5 "_law_rule" ["_law_bag_here", "_law_sort", "_law_many"] (sp_l_rule K))
    (o_l_signs : Okd P w K mg base 1 "_law_signs" ["_law_many"] (sp_l_signs K)) : Okd P w K mg base 6 "_law_strip" ["_law_bag_here", "_law_greatest"] (sp_l_strip K) := by
  obtain ⟨f_l_take, fd_l_take, F_l_take, g_l_take, k_l_take, b_l_take⟩ := o_l_take
  obtain ⟨f_l_rule, fd_l_rule, F_l_rule, g_l_rule, k_l_rule, b_l_rule⟩ := o_l_rule
  obtain ⟨f_l_signs, fd_l_signs, F_l_signs, g_l_signs, k_l_signs, b_l_signs⟩ := o_l_signs
  obtain ⟨fd, F⟩ := T.fn 52 d_l_strip rfl
  refine ⟨_, fd, ?_, T.gl "_law_strip" (by decide +kernel), F.kp, FunD.bindsN F fun _ _ _ _ _ _ us hl => match us, hl with | [_, _], _ => rfl⟩
  refine FunD.ok F sc_l_strip (fun vs H Q E h => Fn.len (E := E) h) (fun cdv A outer s H vs Q E hr h => ?_)
  refine ⟨_, PSs.nox (pss_cons (ps_asg (pe_ix (ix_listK (K := K)) (pe_lst (pa_cons (pe_tup (pa_cons pe_int (pa_cons pe_int pa_nil))) (pa_cons (pe_tup (pa_cons pe_int (pa_cons pe_int pa_nil))) (pa_cons (pe_tup (pa_cons pe_int (pa_cons pe_int pa_nil))) (pa_cons (pe_tup (pa_cons pe_int (pa_cons pe_int pa_nil))) (pa_cons (pe_tup (pa_cons pe_int (pa_cons pe_int pa_nil))) (pa_cons (pe_tup (pa_cons pe_int (pa_cons pe_int pa_nil))) (pa_cons (pe_tup (pa_cons pe_int (pa_cons pe_int pa_nil))) pa_nil)))))))) (pe_call F_l_take (hr.mono (by decide)) (by rfl) g_l_take k_l_take b_l_take .nil pass0 (pa_cons (pv 0) (pa_cons (pv 1) pa_nil))) (fun _ _ => rfl)) (pg_tupK (K := K) (n := 2) rfl (pgs_cons (pg_name (i := 2) sc_l_strip.nd rfl (Or.inl rfl)) (pgs_cons (pg_name (i := 3) sc_l_strip.nd rfl (Or.inl rfl)) pgs_nil))))
    (pss_cons (ps_set (i := 4) sc_l_strip.nd rfl (Or.inl rfl) (pe_call F_l_rule (hr.mono (by decide)) (by rfl) g_l_rule k_l_rule b_l_rule .nil pass0 (pa_cons (pv 0) (pa_cons pe_str (pa_cons (pv 2) pa_nil)))))
    (pss_cons (ps_if (pt_cmpR op_eq (pe_call F_l_take (hr.mono (by decide)) (by rfl) g_l_take k_l_take b_l_take .nil pass0 (pa_cons (pv 0) (pa_cons pe_int pa_nil))) pe_int (nomark _)) (pss_one (ps_set (i := 4) sc_l_strip.nd rfl (Or.inl rfl) (pe_op (op_catTK (K := K)) (pe_slice (sl_tupK (K := K)) (pv 4) po_none (po_some pe_int)) (pe_tup (pa_cons (pe_slice (sl_listK (K := K)) (pe_ix (ix_tupK (K := K)) (pv 4) pe_int (fun _ _ => rfl)) (po_some pe_int) po_none) pa_nil))))) pss_nil)
    (pss_cons (ps_set (i := 5) sc_l_strip.nd rfl (Or.inl rfl) (pe_call F_l_signs (hr.mono (by decide)) (by rfl) g_l_signs k_l_signs b_l_signs .nil pass0 (pa_cons (pv 2) pa_nil)))
    (pss_one (ps_ret (pe_tup (pa_cons (pv 4) (pa_cons (pe_ix ix_str (pv 5) (pe_call F_l_take (hr.mono (by decide)) (by rfl) g_l_take k_l_take b_l_take .nil pass0 (pa_cons (pv 0) (pa_cons (pv 2) pa_nil))) (fun _ _ => rfl)) (pa_cons (pv 3) pa_nil)))))))))), ?_⟩
  refine body (E := E) h fun p σ G _ c D kr kn => ?_
  have c : Cf K (bagM K p) G H σ [some (.raw (.ref p)), some (.int 7), none, none, none, none] G H := c
  have pr : ∀ {Γ : Ga} {i j : Int}, Ev K (bagM K p) (tTup (tCons (tC (.int i)) (tCons (tC (.int j)) tNil))) Γ (.tup [.int i, .int j]) := ev_tup (ea_cons ev_int (ea_cons ev_int ea_nil)) (show 2 ≤ 100000 by decide)
  refine q_asgT (P := fun d => ∃ q ∈ sizesM, d = .tup [.int (q.1 : Nat), .int (q.2 : Nat)]) (js := [2, 3]) (Γd := fun d => match d with
    | .tup [a, b] => [some (.raw (.ref p)), some (.int 7), some a, some b, none, none]
    | _ => []) c (er_op (Pa := (· = .lst (sizesM.map fun q => .tup [.int (q.1 : Nat), .int (q.2 : Nat)]))) (ev_lst (ea_cons pr (ea_cons pr (ea_cons pr (ea_cons pr (ea_cons pr (ea_cons pr (ea_cons pr ea_nil))))))) (show 7 ≤ 100000 by decide)) (ev_take (n := 7) (ev_var rfl) (ev_var rfl) (by decide) (by decide)) fun a b pa pb => ?_) (fun d hd => ?_) fun d σ1 G1 H1 e c1 g1 => ?_
  · obtain ⟨v, hv, rfl⟩ := pb
    subst pa
    have hv2 : v < sizesM.length := hv
    refine (rg_ixL (j := v) (d := .tup [.int ((sizesM.getD v (0, 0)).1 : Nat), .int ((sizesM.getD v (0, 0)).2 : Nat)]) ?_).imp fun d e => ⟨_, List.mem_of_getElem? (at_getD hv2 (0, 0)), e⟩
    rw [List.getElem?_map, at_getD hv2 (0, 0)]; rfl
  · obtain ⟨q, _, rfl⟩ := hd
    exact tg_two
  · obtain ⟨⟨n, high⟩, hq, rfl⟩ := e
    obtain ⟨n2, n8, h1, h3, hp⟩ := sizes_ok _ hq
    have n2 : 2 ≤ n := n2
    have n8 : n ≤ 8 := n8
    have c1 : Cf K (bagM K p) G H σ1 [some (.raw (.ref p)), some (.int 7), some (.int (n : Nat)), some (.int (high : Nat)), none, none] G1 H1 := c1
    refine q_asg (P := fun d => ∃ r : Rl, d = ruD r ∧ r.ok ∧ r.many = n) c1 (er_call (ea_cons (ev_var rfl) (ea_cons (ev_lit lit_around) (ea_cons (ev_var rfl) ea_nil))) fun ds e => ⟨(p, n), e, ⟨n2, by show n ≤ 27; omega⟩, rfl, fun _ q => q⟩) fun d σ2 G2 H2 e c2 g2 => ?_
    obtain ⟨r, rfl, ok, hmany⟩ := e
    have c2 : Cf K (bagM K p) G H σ2 [some (.raw (.ref p)), some (.int 7), some (.int (n : Nat)), some (.int (high : Nat)), some (ruD r), none] G2 H2 := c2
    refine q_whenM (R := fun σ' H' => ∃ (r : Rl) (G' : Hp), r.ok ∧ r.many = n ∧ Cf K (bagM K p) G H σ' [some (.raw (.ref p)), some (.int 7), some (.int (n : Nat)), some (.int (high : Nat)), some (ruD r), none] G' H') c2 (et_take (n := 2) (ev_var rfl) ev_int (by decide) (by decide)) (fun _ G3 H3 D3 c3 g3 hrt3 k3 => ?_) (fun _ G3 H3 c3 g3 => ⟨r, G3, ok, hmany, c3⟩) ?_
    · refine c_setV (d := ruD ⟨r.many, r.near, r.rows.drop 1⟩) c3 ((ev_op (ev_sl (ev_var rfl) eo_none (eo_some (i := ((3 : Nat) : Int)) ev_int) (lg_tup (ds := [.str tAround, .int r.many, .tupN (txs r.near), .lst (r.rows.map rwD)]) (show ¬ (HT.sIx 4 0 none = 0 ∧ HT.sIx 4 4 (some ((3 : Nat) : Int)) = 4) by decide))) (ev_tup (ea_cons (ev_sl (ev_op (ev_var rfl) ev_int (rg_ixT (j := 3) rfl)) (eo_some (i := ((1 : Nat) : Int)) ev_int) eo_none lg_list) ea_nil) (show 1 ≤ 100000 by decide)) (rg_catT (by rw [cut_take]; exact fun z => nomatch z) (fun z => nomatch z) (by rw [cut_take]; exact (by decide : 3 + 1 ≤ 1000000)))).to ?_) fun σ4 G4 H4 c4 g4 => k3 _ _ ⟨⟨r.many, r.near, r.rows.drop 1⟩, G4, ⟨ok.lo, ok.hi, ok.nearIn, ok.nearND, by rw [List.length_drop]; have := ok.few; omega, fun q hq => ok.rows q (List.mem_of_mem_drop hq)⟩, hmany, c4⟩
      rw [cut_take, cut_drop, ← List.map_drop]; rfl
    · rintro σ3 H3 ⟨r, G3, ok, hmany, c3⟩
      refine q_setV (d := .str r.signs) c3 ((ev_call n (ea_cons (ev_var rfl) ea_nil) trivial).to (by rw [← hmany]; rfl)) fun σ4 G4 H4 c4 g4 => ?_
      have c4 : Cf K (bagM K p) G H σ4 [some (.raw (.ref p)), some (.int 7), some (.int (n : Nat)), some (.int (high : Nat)), some (ruD r), some (.str r.signs)] G4 H4 := c4
      have hlen : r.signs.length = n := by rw [Rl.signs_len ok, hmany]
      refine c_ret c4 (er_tup (R := fun ds => ∃ edge, ds = [ruD r, .str [edge], .int (high : Nat)] ∧ edge ∈ r.signs) (P := fun d => ∃ (r : Rl) (edge high : Nat), d = .tup [ruD r, .str [edge], .int (high : Nat)] ∧ Zok r edge high ∧ edge ∈ r.signs ∧ (r.many, high) ∈ sizesM) (er_cons (Pa := (· = ruD r)) (R := fun ds => ∃ edge, ds = [.str [edge], .int (high : Nat)] ∧ edge ∈ r.signs) (ev_var rfl) (er_cons (Pa := fun d => ∃ edge, d = .str [edge] ∧ edge ∈ r.signs) (R := (· = [.int (high : Nat)])) (ev_signAt (n := n) (ss := r.signs) (ev_var rfl) (ev_var rfl) (ev_var rfl) (by omega) hlen.symm (by omega)) (ea_cons (ev_var rfl) ea_nil) fun a as pa e => ?_) fun a as pa e => ?_) fun ds hds => ?_) fun v d G5 H5 e c5 g5 r5 => kr v d G5 H5 e c5.gr c5.mm r5
      · obtain ⟨s, rfl, q1⟩ := pa
        subst e
        exact ⟨s, rfl, q1⟩
      · subst pa
        obtain ⟨s, rfl, q1⟩ := e
        exact ⟨s, rfl, q1⟩
      · obtain ⟨s, rfl, q1⟩ := hds
        exact ⟨(show 3 ≤ 100000 by decide), r, s, high, rfl, ⟨ok, h1, h3, by rw [hmany]; exact hp⟩, q1, by rw [hmany]; exact hq⟩
end K70
namespace K70
open PySem PySem.Spec PyProof.Rows L2
/-! ### _law_drawn -/
def sp_l_drawn (K : PySem.W.Frag) : Sp := Fn K (fun a : Addr × Tx × Nat × Nat => [.raw (.ref a.1), .str a.2.1, .int (a.2.2.1 : Nat), .int (a.2.2.2 : Nat)]) (fun a => bagM K a.1) (fun a => Sgs a.2.1 ∧ a.2.2.1 ≤ 3 ∧ a.2.2.2 ≤ 900) (fun a d => ∃ rows : List Tx, d = .lst (txs rows) ∧ rows.length = a.2.2.1 ∧ ∀ row ∈ rows, row.length = a.2.2.2 ∧ ∀ c ∈ row, c ∈ a.2.1)
theorem sgn_len' (s : Tx) : (sgn s).length = s.length := List.length_map ..
theorem sgn_get' {s : Tx} {i : Nat} (h : i < s.length) : (sgn s)[i]? = some (.str [s.getD i 0]) := by
  unfold sgn
  rw [List.getElem?_map, at_getD h 0]; rfl
abbrev N_l_drawn : List Str := ["_law_bag_here", "_law_signs_here", "_law_high", "_law_size", "_law_way", "_law_one", "_law_rows_here", "_law_y", "_law_row_here", "_law_k"]
theorem sc_l_drawn : FnScope N_l_drawn ["_law_bag_here", "_law_signs_here", "_law_high", "_law_size"] (defScope s_l_drawn) := ⟨rfl, rfl, rfl, by decide +kernel, rfl, by decide +kernel, by decide +kernel⟩
theorem ok_l_drawn {P : Program} {w : World} {K : PySem.W.Frag} {mg : Str → Option Value} {base : Heap} (T : Tp K mg)
    (o_l_take : Okd P w K mg base 1 "_law_take" ["_law_bag_here", "_law_many"] (sp_l_take K)) : Okd P w K mg base 2 "_law_drawn" ["_law_bag_here", "_law_signs_here", "_law_high", "_law_size"] (sp_l_drawn K) := by
  obtain ⟨f_l_take, fd_l_take, F_l_take, g_l_take, k_l_take, b_l_take⟩ := o_l_take
  obtain ⟨fd, F⟩ := T.fn 53 d_l_drawn rfl
  refine ⟨_, fd, ?_, T.gl "_law_drawn" (by decide +kernel), F.kp, FunD.bindsN F fun _ _ _ _ _ _ us hl => match us, hl with | [_, _, _, _], _ => rfl⟩
  refine FunD.ok F sc_l_drawn (fun vs H Q E h => Fn.len (E := E) h) (fun cdv A outer s H vs Q E hr h => ?_)
  refine ⟨_, PSs.nox (pss_cons (ps_set (i := 4) sc_l_drawn.nd rfl (Or.inl rfl) (pe_call F_l_take (hr.mono (by decide)) (by rfl) g_l_take k_l_take b_l_take .nil pass0 (pa_cons (pv 0) (pa_cons pe_int pa_nil))))
    (pss_cons (ps_setLc (i := 5) (own := [("_law_y", 7)]) rfl sc_l_drawn.nd rfl rfl (sw_true rfl rfl rfl (by decide +kernel)) (pi_range1 (by rfl) T.range (pa_cons (pv 2) pa_nil)) (blkOk_by (N := N_l_drawn) (own := [("_law_y", 7)]) (by kernel_rfl)) (fun _ _ _ _ _ => (pg_name (i := 7) sc_l_drawn.nd rfl (Or.inl rfl))) (fun _ _ _ _ _ => pts_nil) (fun _ _ _ _ _ => (pe_ix ix_str (pv 1) (pe_call F_l_take (hr.mono (by decide)) (by rfl) g_l_take k_l_take b_l_take .nil pass0 (pa_cons (pv 0) (pa_cons (pe_callB call_lenS (by rfl) T.len (by decide +kernel) (pa_cons (pv 1) pa_nil)) pa_nil))) (fun _ _ => rfl))))
    (pss_cons (ps_set (i := 6) sc_l_drawn.nd rfl (Or.inl rfl) (pe_lst pa_nil))
    (pss_cons (ps_for PassesOwn.never rfl (pi_range1 (by rfl) T.range (pa_cons (pv 2) pa_nil)) (pg_name (i := 7) sc_l_drawn.nd rfl (Or.inl rfl))
      (pss_cons (ps_set (i := 8) sc_l_drawn.nd rfl (Or.inl rfl) (pe_joinK (K := K) pe_str (pe_lc (own := [("_law_k", 9)]) rfl sc_l_drawn.nd (pi_range1 (by rfl) T.range (pa_cons (pv 3) pa_nil)) (blkOk_by (N := N_l_drawn) (own := [("_law_k", 9)]) (by kernel_rfl)) (fun _ _ _ _ _ => (pg_name (i := 9) sc_l_drawn.nd rfl (Or.inl rfl))) (fun _ _ _ _ _ => pts_nil) (fun _ _ _ _ _ => (pe_ix ix_str (pv 1) (pe_call F_l_take (hr.mono (by decide)) (by rfl) g_l_take k_l_take b_l_take .nil pass0 (pa_cons (pv 0) (pa_cons (pe_callB call_lenS (by rfl) T.len (by decide +kernel) (pa_cons (pv 1) pa_nil)) pa_nil))) (fun _ _ => rfl))))))
      (pss_one (ps_expr (pe_bmK (K := K) PySem.F.plainAttrs_list PySem.F.slot_list_append PySem.F.type_list_append mt_append (pv 6) (pa_cons (pe_ix (ix_listK (K := K)) (pe_lst (pa_cons (pv 8) (pa_cons (pe_op op_mulS (pe_ix (ix_listK (K := K)) (pv 5) (pv 7) (fun _ _ => rfl)) (pv 3)) (pa_cons (pe_op op_addS (pe_op op_mulS (pe_ix (ix_listK (K := K)) (pv 5) (pv 7) (fun _ _ => rfl)) (pe_op op_fdivW (pv 3) pe_int)) (pe_slice sl_str (pv 8) (po_some (pe_op op_fdivW (pv 3) pe_int)) po_none)) pa_nil)))) (pv 4) (fun _ _ => rfl)) pa_nil))))))
    (pss_one (ps_ret (pv 6))))))), ?_⟩
  refine body (E := E) h fun ⟨p, ss, high, size⟩ σ G hp c D kr kn => ?_
  obtain ⟨hs, hh, hz⟩ : Sgs ss ∧ high ≤ 3 ∧ size ≤ 900 := hp
  have c : Cf K (bagM K p) G H σ [some (.raw (.ref p)), some (.str ss), some (.int (high : Nat)), some (.int (size : Nat)), none, none, none, none, none, none] G H := c
  refine q_asg c (ev_take (n := 3) (ev_var rfl) ev_int (by decide) (by decide)) fun d σ1 G1 H1 e c1 g1 => ?_
  obtain ⟨way, hway, rfl⟩ := e
  have c1 : Cf K (bagM K p) G H σ1 [some (.raw (.ref p)), some (.str ss), some (.int (high : Nat)), some (.int (size : Nat)), some (.int (way : Nat)), none, none, none, none, none] G1 H1 := c1
  have draws : ∀ {Γ : Ga} {E : XK} {n i j : Nat} {vs : List Nat}, n ≤ 900 → (wipeG Γ vs).length = 10 → i ∈ vs → (∀ d, ((wipeG Γ vs).set i (some d))[0]? = some (some (.raw (.ref p))) ∧ ((wipeG Γ vs).set i (some d))[1]? = some (some (.str ss))) → Γ[j]? = some (some (.int (n : Nat))) →
      EvG K (bagM K p) (tLc (iRng1 (tCons (tVar j) tNil)) (gName i) tYes (tOp rIxS (tVar 1) (tCall (sp_l_take K) [] E (tCons (tVar 0) (tCons (tCB rLenStr (tCons (tVar 1) tNil)) tNil)))) vs) Γ (fun d => ∃ s : Tx, d = .lst (sgn s) ∧ s.length = n ∧ ∀ c ∈ s, c ∈ ss) := by
    intro Γ E n i j vs hn hlen hi hget hj
    refine er_mapN (β := Nat) (f := fun c => .str [c]) (R := fun c => c ∈ ss) (sv_range1 (ev_var hj) ⟨by omega, by omega⟩) (fun ds e => by rw [e, rngD_len]; omega) (fun ds bs h1 h2 h3 => ⟨bs, rfl, by rw [h2, h1, rngD_len]; rfl, h3⟩) fun ds d h1 h2 => ⟨_, [i], fun k hk => by rw [List.mem_singleton.mp hk]; exact hi, tg_name, ev_signAt (n := ss.length) (ev_var (hget d).2) (ev_var (hget d).1) (ev_lenSgs (ev_var (hget d).2) hs.len) hs.pos rfl hs.len⟩
  refine q_asg c1 (draws (n := high) (i := 7) (j := 2) (vs := [7]) (by omega) rfl (by decide) (fun d => ⟨rfl, rfl⟩) rfl) fun d σ2 G2 H2 e c2 g2 => ?_
  obtain ⟨one, rfl, ho1, ho2⟩ := e
  have c2 : Cf K (bagM K p) G H σ2 [some (.raw (.ref p)), some (.str ss), some (.int (high : Nat)), some (.int (size : Nat)), some (.int (way : Nat)), some (.lst (sgn one)), none, none, none, none] G2 H2 := c2
  refine q_nil c2 fun q σ3 H3 hq hq0 nq a3 c3 e3 => ?_
  have c3 : Cf K (bagM K p) G H σ3 [some (.raw (.ref p)), some (.str ss), some (.int (high : Nat)), some (.int (size : Nat)), some (.int (way : Nat)), some (.lst (sgn one)), some (.raw (.ref q)), none, none, none] G2 H3 := c3
  refine q_forL (l := List.range high) (enc := fun i => .int (i : Nat)) c3 a3 nq (sv_rangeN (ev_var rfl) (by omega)) (fun _ => [some (.raw (.ref p)), some (.str ss), some (.int (high : Nat)), some (.int (size : Nat)), some (.int (way : Nat)), some (.lst (sgn one)), some (.raw (.ref q)), none, none, none]) (fun i b => ∃ rows : List Tx, b = txs rows ∧ rows.length = i ∧ ∀ row ∈ rows, row.length = size ∧ ∀ c ∈ row, c ∈ ss) rfl ⟨[], rfl, rfl, fun _ h => nomatch h⟩ (fun i a ha => tg_name) (fun i a b σ' G' H' D' ha hb s4 c4 a4 hrt kn' => ?_) fun b σ' G' H' hb s4 c4 a4 => ?_
  · obtain ⟨rows, rfl, hr1, hr2⟩ := hb
    have hi : i < high := by have := (List.getElem?_eq_some_iff.mp ha).1; rw [List.length_range] at this; exact this
    rw [List.getElem?_range hi] at ha
    cases ha
    have c4 : Cf K (bagM K p) G H σ' [some (.raw (.ref p)), some (.str ss), some (.int (high : Nat)), some (.int (size : Nat)), some (.int (way : Nat)), some (.lst (sgn one)), some (.raw (.ref q)), some (.int (i : Nat)), none, none] G' H' := c4
    refine q_asg (P := fun d => ∃ s : Tx, d = .str s ∧ s.length = size ∧ ∀ c ∈ s, c ∈ ss) c4 (er_m1 (Pa := (· = .str [])) (ev_lit lit_nil) (draws (n := size) (i := 9) (j := 3) (vs := [9]) hz rfl (by decide) (fun d => ⟨rfl, rfl⟩) rfl) (fun a e => ⟨[], e⟩) fun a b e1 e2 => ?_) fun d σ5 G5 H5 e c5 g5 => ?_
    · subst e1
      obtain ⟨s, rfl, h1, h2⟩ := e2
      have qq := mg_join (K := K) (l := s.map fun c => [c]) (by rw [flat_one]; omega)
      rw [flat_one, ← sgn_txs] at qq
      exact qq.imp fun d e => ⟨s, e, h1, h2⟩
    · obtain ⟨row, rfl, h1, h2⟩ := e
      have a5 := a4.grow g5 nq
      have c5 : Cf K (bagM K p) G H σ5 [some (.raw (.ref p)), some (.str ss), some (.int (high : Nat)), some (.int (size : Nat)), some (.int (way : Nat)), some (.lst (sgn one)), some (.raw (.ref q)), some (.int (i : Nat)), some (.str row), none] G5 H5 := c5
      have hio : i < one.length := by omega
      have hoc : one.getD i 0 ∈ ss := ho2 _ (List.mem_of_getElem? (at_getD hio 0))
      have half : ((size : Nat) : Int) / 2 = ((size / 2 : Nat) : Int) := by omega
      have oneAt : Ev K (bagM K p) (tOp (rIxL K) (tVar 5) (tVar 7)) [some (.raw (.ref p)), some (.str ss), some (.int (high : Nat)), some (.int (size : Nat)), some (.int (way : Nat)), some (.lst (sgn one)), some (.raw (.ref q)), some (.int (i : Nat)), some (.str row), none] (.str [one.getD i 0]) := ev_op (ev_var rfl) (ev_var rfl) (rg_ixL (sgn_get' hio))
      refine c_app (P := fun d => ∃ row : Tx, d = .str row ∧ row.length = size ∧ ∀ c ∈ row, c ∈ ss) c5 rfl a5 hq0 nq (by rw [txs_len]; omega) ((ev_op (ev_lst (ds := txs [row, List.replicate size (one.getD i 0), List.replicate (size / 2) (one.getD i 0) ++ row.drop (size / 2)]) (ea_cons (ev_var rfl) (ea_cons ((ev_op oneAt (ev_var rfl) (rg_mulS ⟨by omega, by omega⟩)).to (by rfl)) (ea_cons ((ev_op (ev_op oneAt ((ev_op (ev_var rfl) ev_int (rg_fdivW ⟨by decide, by decide⟩)).to (congrArg Dt.int half)) (rg_mulS ⟨by omega, by omega⟩)) (ev_sl (ev_var rfl) (eo_some ((ev_op (ev_var rfl) ev_int (rg_fdivW ⟨by decide, by decide⟩)).to (congrArg Dt.int half))) eo_none (lg_str (by omega))) (rg_addS (by have := cutD_le row (some ((size / 2 : Nat) : Int)) none; rw [List.length_replicate]; omega))).to (by rw [cut_drop]; rfl)) ea_nil))) (show 3 ≤ 100000 by decide)) (ev_var rfl) (rg_ixL (j := way) (d := .str ([row, List.replicate size (one.getD i 0), List.replicate (size / 2) (one.getD i 0) ++ row.drop (size / 2)].getD way [])) (by rw [txs, List.getElem?_map, at_getD (by simp; omega) []]; rfl))).imp fun d e => ⟨_, e, ?_⟩) fun d G6 H6 H7 e g6 c7 a7 _ => ?_
      · have h3 : way = 0 ∨ way = 1 ∨ way = 2 := by omega
        rcases h3 with rfl | rfl | rfl
        · exact ⟨h1, h2⟩
        · refine ⟨List.length_replicate .., fun c hc => ?_⟩
          rw [(List.mem_replicate.mp hc).2]; exact hoc
        · refine ⟨?_, fun c hc => ?_⟩
          · show (List.replicate (size / 2) (one.getD i 0) ++ row.drop (size / 2)).length = size
            rw [List.length_append, List.length_replicate, List.length_drop]; omega
          · rcases List.mem_append.mp hc with w | w
            · rw [(List.mem_replicate.mp w).2]; exact hoc
            · exact h2 c (List.mem_of_mem_drop w)
      · obtain ⟨row', rfl, q1, q2⟩ := e
        have e8 : txs rows ++ [.str row'] = txs (rows ++ [row']) := by rw [← txs_cat]; rfl
        rw [e8] at a7
        refine kn' _ _ _ _ ⟨_, rfl, by rw [List.length_append, hr1]; rfl, fun w hw => ?_⟩ (g5.g.trans g6.g) (((c7.lose 7).lose 8).to rfl) a7
        rcases List.mem_append.mp hw with z | z
        · exact hr2 w z
        · rw [List.mem_singleton.mp z]; exact ⟨q1, q2⟩
  · obtain ⟨rows, rfl, hr1, hr2⟩ := hb
    rw [List.length_range] at hr1
    obtain ⟨G5, s5, c5, _⟩ := c4.done (i := 6) rfl a4 hq0 nq
    refine c_ret c5 (ev_var rfl) fun v d G6 H6 e c6 g6 r6 => kr v d G6 H6 ⟨rows, e, hr1, hr2⟩ c6.gr c6.mm r6
/-! ### _law_numbers -/
def sp_l_numbers (K : PySem.W.Frag) : Sp := Fn K (fun a : Addr × Nat => [.raw (.ref a.1), .int (a.2 : Nat)]) (fun a => bagM K a.1) (fun a => 0 < a.2) (fun a d => ∃ i j : Nat, d = .lst [.int (i : Nat), .int (j : Nat)] ∧ i < a.2 ∧ j < a.2)
def natsD (l : List Nat) : List Dt := l.map fun (i : Nat) => .int (i : Nat)
theorem spin_two (l : List Nat) {a b c d s : Nat} (hl : l = [a, b, c, d]) (hs : s < 4) : ∃ i ∈ l, ∃ j ∈ l, (l.drop s ++ l.take s).take 2 = [i, j] := by
  subst hl
  have : s = 0 ∨ s = 1 ∨ s = 2 ∨ s = 3 := by omega
  rcases this with rfl | rfl | rfl | rfl
  · exact ⟨a, by simp, b, by simp, rfl⟩
  · exact ⟨b, by simp, c, by simp, rfl⟩
  · exact ⟨c, by simp, d, by simp, rfl⟩
  · exact ⟨d, by simp, a, by simp, rfl⟩
abbrev N_l_numbers : List Str := ["_law_bag_here", "_law_many", "_law_some_here", "_law_start"]
theorem sc_l_numbers : FnScope N_l_numbers ["_law_bag_here", "_law_many"] (defScope s_l_numbers) := ⟨rfl, rfl, rfl, by decide +kernel, rfl, by decide +kernel, by decide +kernel⟩
theorem ok_l_numbers {P : Program} {w : World} {K : PySem.W.Frag} {mg : Str → Option Value} {base : Heap} (T : Tp K mg)
    (o_l_take : Okd P w K mg base 1 "_law_take" ["_law_bag_here", "_law_many"] (sp_l_take K)) : Okd P w K mg base 2 "_law_numbers" ["_law_bag_here", "_law_many"] (sp_l_numbers K) := by
  obtain ⟨f_l_take, fd_l_take, F_l_take, g_l_take, k_l_take, b_l_take⟩ := o_l_take
  obtain ⟨fd, F⟩ := T.fn 59 d_l_numbers rfl
  refine ⟨_, fd, ?_, T.gl "_law_numbers" (by decide +kernel), F.kp, FunD.bindsN F fun _ _ _ _ _ _ us hl => match us, hl with | [_, _], _ => rfl⟩
  refine FunD.ok F sc_l_numbers (fun vs H Q E h => Fn.len (E := E) h) (fun cdv A outer s H vs Q E hr h => ?_)
  refine ⟨_, PSs.nox (pss_cons (ps_set (i := 2) sc_l_numbers.nd rfl (Or.inl rfl) (pe_lst (pa_cons (pe_op op_sub (pv 1) pe_int) (pa_cons (pe_op op_sub (pe_op op_sub (pv 1) pe_int) (pe_call F_l_take (hr.mono (by decide)) (by rfl) g_l_take k_l_take b_l_take .nil pass0 (pa_cons (pv 0) (pa_cons (pe_callB (call_min2 rfl) (by rfl) T.min (by decide +kernel) (pa_cons (pv 1) (pa_cons pe_int pa_nil))) pa_nil)))) (pa_cons (pe_call F_l_take (hr.mono (by decide)) (by rfl) g_l_take k_l_take b_l_take .nil pass0 (pa_cons (pv 0) (pa_cons (pe_callB (call_min2 rfl) (by rfl) T.min (by decide +kernel) (pa_cons (pv 1) (pa_cons (pe_op op_pow pe_int pe_int) pa_nil))) pa_nil))) (pa_cons (pe_op op_fdivW (pv 1) pe_int) pa_nil))))))
    (pss_cons (ps_set (i := 3) sc_l_numbers.nd rfl (Or.inl rfl) (pe_call F_l_take (hr.mono (by decide)) (by rfl) g_l_take k_l_take b_l_take .nil pass0 (pa_cons (pv 0) (pa_cons pe_int pa_nil))))
    (pss_one (ps_ret (pe_slice (sl_listK (K := K)) (pe_op op_cat (pe_slice (sl_listK (K := K)) (pv 2) (po_some (pv 3)) po_none) (pe_slice (sl_listK (K := K)) (pv 2) po_none (po_some (pv 3)))) po_none (po_some pe_int)))))), ?_⟩
  refine body (E := E) h fun ⟨p, n⟩ σ G hp c D kr kn => ?_
  have hn : 0 < n := hp
  have c : Cf K (bagM K p) G H σ [some (.raw (.ref p)), some (.int (n : Nat)), none, none] G H := c
  have mn : ∀ k : Nat, (if ((k : Nat) : Int) < ((n : Nat) : Int) then ((k : Nat) : Int) else (n : Nat)) = ((min n k : Nat) : Int) := fun k => by
    split <;> omega
  refine q_asg (P := fun d => ∃ a b : Nat, d = .lst (natsD [n - 1, a, b, n / 3]) ∧ a < n ∧ b < n) c (er_lst (R := fun ds => ∃ a b : Nat, ds = natsD [n - 1, a, b, n / 3] ∧ a < n ∧ b < n) (er_cons (Pa := (· = .int ((n - 1 : Nat) : Int))) (R := fun ds => ∃ a b : Nat, ds = natsD [a, b, n / 3] ∧ a < n ∧ b < n) ((ev_op (ev_var rfl) ev_int rg_sub).to (congrArg Dt.int (by omega))) (er_cons (Pa := fun d => ∃ a : Nat, d = .int (a : Nat) ∧ a < n) (R := fun ds => ∃ b : Nat, ds = natsD [b, n / 3] ∧ b < n) (er_op (Pa := (· = .int ((n - 1 : Nat) : Int))) ((ev_op (ev_var rfl) ev_int rg_sub).to (congrArg Dt.int (by omega))) (ev_take (n := min n 1000) (ev_var rfl) ((ev_cb (ea_cons (ev_var rfl) (ea_cons ev_int ea_nil)) cg_min2).to (congrArg Dt.int (mn 1000))) (by omega) (by omega)) fun a b pa pb => ?_) (er_cons (Pa := fun d => ∃ a : Nat, d = .int (a : Nat) ∧ a < n) (R := (· = [.int ((n / 3 : Nat) : Int)])) ((ev_take (n := min n 1000000000000000000) (ev_var rfl) ((ev_cb (ea_cons (ev_var rfl) (ea_cons ((ev_op ev_int ev_int (rg_pow ⟨by decide, by decide, by decide⟩)).to (congrArg Dt.int (show (10 : Int) ^ (18 : Int).toNat = ((1000000000000000000 : Nat) : Int) by decide +kernel))) ea_nil)) cg_min2).to (congrArg Dt.int (mn 1000000000000000000))) (by omega) (by omega)).imp fun d hd => ?_) (ea_cons ((ev_op (ev_var rfl) ev_int (rg_fdivW ⟨by decide, by decide⟩)).to (congrArg Dt.int (by omega))) ea_nil) fun a as pa e => ?_) fun a as pa e => ?_) fun a as pa e => ?_) fun ds hds => ?_) fun d σ1 G1 H1 e c1 g1 => ?_
  · obtain ⟨v, hv, rfl⟩ := pb
    subst pa
    exact rg_sub.imp fun d e => ⟨n - 1 - v, by rw [e]; congr 1; omega, by omega⟩
  · obtain ⟨v, hv, rfl⟩ := hd
    exact ⟨v, rfl, by omega⟩
  · obtain ⟨a, rfl, h1⟩ := pa
    subst e
    exact ⟨a, rfl, h1⟩
  · obtain ⟨a, rfl, h1⟩ := pa
    obtain ⟨b, rfl, h2⟩ := e
    exact ⟨a, b, rfl, h1, h2⟩
  · subst pa
    obtain ⟨a, b, rfl, h1, h2⟩ := e
    exact ⟨a, b, rfl, h1, h2⟩
  · obtain ⟨a, b, rfl, h1, h2⟩ := hds
    exact ⟨(show 4 ≤ 100000 by decide), a, b, rfl, h1, h2⟩
  · obtain ⟨a, b, rfl, ha, hb⟩ := e
    have c1 : Cf K (bagM K p) G H σ1 [some (.raw (.ref p)), some (.int (n : Nat)), some (.lst (natsD [n - 1, a, b, n / 3])), none] G1 H1 := c1
    have each : ∀ i ∈ [n - 1, a, b, n / 3], i < n := by
      intro i hi
      simp only [List.mem_cons, List.not_mem_nil, or_false] at hi
      rcases hi with rfl | rfl | rfl | rfl <;> omega
    refine q_asg c1 (ev_take (n := 4) (ev_var rfl) ev_int (by decide) (by decide)) fun d σ2 G2 H2 e c2 g2 => ?_
    obtain ⟨s, hs, rfl⟩ := e
    have c2 : Cf K (bagM K p) G H σ2 [some (.raw (.ref p)), some (.int (n : Nat)), some (.lst (natsD [n - 1, a, b, n / 3])), some (.int (s : Nat))] G2 H2 := c2
    obtain ⟨i, hi, j, hj, e2⟩ := spin_two [n - 1, a, b, n / 3] rfl hs
    have hlen : [n - 1, a, b, n / 3].length = 4 := rfl
    generalize [n - 1, a, b, n / 3] = l at c2 each hi hj e2 hlen
    have hll : ∀ lo hi, (cutD (natsD l) lo hi).length ≤ (natsD l).length := fun lo hi => cutD_le _ lo hi
    refine c_ret c2 ((ev_sl (ev_op (ev_sl (ev_var rfl) (eo_some (ev_var rfl)) eo_none lg_list) (ev_sl (ev_var rfl) eo_none (eo_some (ev_var rfl)) lg_list) (rg_cat ?_)) eo_none (eo_some (i := ((2 : Nat) : Int)) ev_int) lg_list).to (e := .lst [.int (i : Nat), .int (j : Nat)]) ?_) fun v d G3 H3 e c3 g3 r3 => kr v d G3 H3 ⟨i, j, e, each i hi, each j hj⟩ c3.gr c3.mm r3
    · have h1 := hll (some ((s : Nat) : Int)) none
      have h2 := hll none (some ((s : Nat) : Int))
      have h3 : (natsD l).length = 4 := by rw [← hlen]; exact List.length_map ..
      omega
    · rw [cut_take, cut_drop, cut_take]
      unfold natsD
      rw [← List.map_drop, ← List.map_take, ← List.map_append, ← List.map_take, e2]; rfl
end K70
namespace K70
open PySem PySem.Spec PyProof.Rows L2
/-! ### is_near -/
theorem ev_isT {K : PySem.W.Frag} {m : Mu} {Γ : Ga} {te : TE} {d : Dt} (h : Ev K m te Γ d) (e : tyN d = "tuple") : Ev K m (tCB (rIsi K) (tCons te (tCons (tC (.ty "tuple")) tNil))) Γ (.bl true) := ev_isi (t := "tuple") h e (by decide +kernel) (by decide)
theorem ev_isL {K : PySem.W.Frag} {m : Mu} {Γ : Ga} {te : TE} {ds : List Dt} (h : Ev K m te Γ (.lst ds)) : Ev K m (tCB (rIsi K) (tCons te (tCons (tC (.ty "list")) tNil))) Γ (.bl true) := ev_isi (t := "list") h rfl (by decide +kernel) (by decide)
theorem all_true {α : Type} (l : List α) : (l.map fun _ => true).all id = true := by
  rw [all_map]
  exact List.all_eq_true.mpr fun _ _ => rfl
def sp_is_near (K : PySem.W.Frag) : Sp := Fs K (fun l : List Tx => [.str tAround, .tupN (txs l)]) (fun l => Plc l) (fun _ d => d = .bl true)
abbrev N_is_near : List Str := ["sort", "thing", "place"]
theorem sc_is_near : FnScope N_is_near ["sort", "thing"] (defScope s_is_near) := ⟨rfl, rfl, rfl, by decide +kernel, rfl, by decide +kernel, by decide +kernel⟩
theorem ok_is_near {P : Program} {w : World} {K : PySem.W.Frag} {mg : Str → Option Value} {base : Heap} (T : Tp K mg)
    (o_is_place : Okd P w K mg base 1 "is_place" ["thing"] (sp_is_place K)) : Okd P w K mg base 2 "is_near" ["sort", "thing"] (sp_is_near K) := by
  obtain ⟨f_is_place, fd_is_place, F_is_place, g_is_place, k_is_place, b_is_place⟩ := o_is_place
  obtain ⟨fd, F⟩ := T.fn 24 d_is_near rfl
  refine ⟨_, fd, ?_, T.gl "is_near" (by decide +kernel), F.kp, FunD.bindsN F fun _ _ _ _ _ _ us hl => match us, hl with | [_, _], _ => rfl⟩
  refine FunD.ok F sc_is_near (fun vs H Q E h => Fn.len (E := E) h) (fun cdv A outer s H vs Q E hr h => ?_)
  refine ⟨_, PSs.nox (pss_cons (ps_if (PW.pt (pw_or (pt_not (pt_val (pe_callB (call_isiK (K := K)) (by rfl) T.isinstance (by decide +kernel) (pa_cons (pv 1) (pa_cons (pe_bltn (v := .ty "tuple") (by rfl) T.tuple (by decide +kernel) rfl) pa_nil))))) (pw_or (pt_not (pt_val (pe_callB (cr_allK (K := K) rfl) (by rfl) T.all (by decide +kernel) (pa_cons (pe_lc (own := [("place", 2)]) rfl sc_is_near.nd (pi_tupK (K := K) (pv 1)) (blkOk_by (N := N_is_near) (own := [("place", 2)]) (by kernel_rfl)) (fun _ _ _ _ _ => (pg_name (i := 2) sc_is_near.nd rfl (Or.inl rfl))) (fun _ _ _ _ _ => pts_nil) (fun _ _ _ _ _ => (pe_call F_is_place (hr.mono (by decide)) (by rfl) g_is_place k_is_place b_is_place .nil pass0 (pa_cons (pv 2) pa_nil)))) pa_nil)))) (pw_or1 (pt_cmpR op_ne (pe_callB (cr_lenSetK (P := P) (w := w)) (by rfl) T.len (by decide +kernel) (pa_cons (pe_callTy (cr_setTxK (K := K) (P := P) (w := w) rfl) (by rfl) T.set (by decide +kernel) (pa_cons (pv 1) pa_nil)) pa_nil)) (pe_callB (call_lenK (K := K)) (by rfl) T.len (by decide +kernel) (pa_cons (pv 1) pa_nil)) (nomark _)))))) (pss_one (ps_ret pe_bl)) pss_nil)
    (pss_cons (ps_if (pt_cmpR op_eq (pv 0) pe_str (nomark _)) pss_never pss_nil)
    (pss_one (ps_ret (pe_or (pe_cmpR op_eq (pv 0) pe_str (nomark _)) (pe_one (pe_cmpR (op_eqDK (K := K) hr.units) (pv 1) (pe_tup pa_nil) (nomark _)))))))), ?_⟩
  refine bodyS (E := E) h fun l σ G hp c D kr kn => ?_
  have hl : Plc l := hp
  have hl8 := hl.len
  refine q_skip c ((et_or (et_not (et_B (ev_isT (ev_var rfl) rfl))) fun _ => et_or (et_not (et_B (b := true) ((ev_cb1 ((ev_mapA (l := l) (enc := .str) (fun _ => .bl true) (sv_tupW (ev_tupN (ev_var rfl))) (by omega) fun q hq => ⟨_, [2], by decide, tg_name, ev_call q (ea_cons (ev_var rfl) ea_nil) (hl.mem q hq)⟩).to (bls_map l fun _ => true)) cg_all).to (by rw [all_true])))) fun _ => et_test (ev_op (ev_lenSet (ev_tupN (ev_var rfl)) hl.nd (by omega)) (ev_cb1 (ev_tupN (ev_var rfl)) cg_lenW) rg_neI)).to (by rw [txs_len, decide_eq_true rfl]; rfl)) fun G1 H1 c1 g1 => ?_
  refine q_skip c1 ((et_test (ev_op (ev_var rfl) (ev_lit (l := [104, 97, 108, 118, 101, 115]) (by decide +kernel)) rg_eqS)).to (by decide)) fun G2 H2 c2 g2 => ?_
  exact c_ret c2 (ev_orV (a := true) (b := true) ((ev_op (ev_var rfl) (ev_lit lit_around) rg_eqS).to (by rw [decide_eq_true rfl])) fun z => nomatch z) fun v d G3 H3 e c3 g3 r3 => kr _ _ _ _ _ _ r3 e c3
/-! ### is_test -/
theorem Fit.tst {l : List Tx} {ss : Tx} {t : Tst} (h : t.ok l ss) (hl : Plc l) (hs : ∀ c ∈ ss, c ∈ sg) : Fit (tstD t) 1 := by
  have sm : ∀ {s : Tx}, (∀ c ∈ s, c ∈ ss) → Fit (.str s) 0 := fun h => Fit.str fun c hc => sg_small c (hs c (h c hc))
  cases t with
  | «at» p s =>
    refine Fit.tup fun d hd => ?_
    simp only [List.mem_cons, List.not_mem_nil, or_false] at hd
    rcases hd with rfl | rfl | rfl
    · exact Fit.str (by decide)
    · exact Fit.str (places_small p (hl.mem p h.1))
    · exact sm h.2.2
  | cnt lo hi s =>
    refine Fit.tup fun d hd => ?_
    simp only [List.mem_cons, List.not_mem_nil, or_false] at hd
    rcases hd with rfl | rfl | rfl | rfl
    · exact Fit.str (by decide)
    · exact Fit.int _
    · exact Fit.int _
    · exact sm h.2.2.2
theorem fit_nilT : Fit (.tup []) 1 := Fit.tup (k := 0) fun d hd => nomatch hd
def sp_is_test (K : PySem.W.Frag) : Sp := Fs K (fun a : Tst × List Tx × Tx => [tstD a.1, .tupN (txs a.2.1), .str a.2.2]) (fun a => a.1.ok a.2.1 a.2.2 ∧ Plc a.2.1 ∧ ∀ c ∈ a.2.2, c ∈ sg) (fun _ d => d = .bl true)
abbrev N_is_test : List Str := ["thing", "near", "signs", "word", "rest", "low", "high", "counted"]
theorem sc_is_test : FnScope N_is_test ["thing", "near", "signs"] (defScope s_is_test) := ⟨rfl, rfl, rfl, by decide +kernel, rfl, by decide +kernel, by decide +kernel⟩
theorem ok_is_test {P : Program} {w : World} {K : PySem.W.Frag} {mg : Str → Option Value} {base : Heap} (T : Tp K mg)
    (o_are_of : Okd P w K mg base 2 "are_of" ["thing", "signs"] (sp_are_of K))
    (o_is_place : Okd P w K mg base 1 "is_place" ["thing"] (sp_is_place K))
    (o_is_from_to : Okd P w K mg base 2 "is_from_to" ["thing", "least", "most"] (sp_is_from_to K)) : Okd P w K mg base 3 "is_test" ["thing", "near", "signs"] (sp_is_test K) := by
  obtain ⟨f_are_of, fd_are_of, F_are_of, g_are_of, k_are_of, b_are_of⟩ := o_are_of
  obtain ⟨f_is_place, fd_is_place, F_is_place, g_is_place, k_is_place, b_is_place⟩ := o_is_place
  obtain ⟨f_is_from_to, fd_is_from_to, F_is_from_to, g_is_from_to, k_is_from_to, b_is_from_to⟩ := o_is_from_to
  obtain ⟨_, hTESTS⟩ := T.iTests
  obtain ⟨fd, F⟩ := T.fn 26 d_is_test rfl
  refine ⟨_, fd, ?_, T.gl "is_test" (by decide +kernel), F.kp, FunD.bindsN F fun _ _ _ _ _ _ us hl => match us, hl with | [_, _, _], _ => rfl⟩
  refine FunD.ok F sc_is_test (fun vs H Q E h => Fn.len (E := E) h) (fun cdv A outer s H vs Q E hr h => ?_)
  refine ⟨_, PSs.nox (pss_cons (ps_if (PW.pt (pw_or (pt_not (pt_val (pe_callB (call_isiK (K := K)) (by rfl) T.isinstance (by decide +kernel) (pa_cons (pv 0) (pa_cons (pe_bltn (v := .ty "tuple") (by rfl) T.tuple (by decide +kernel) rfl) pa_nil))))) (pw_or (pt_cmpR (op_eqDK (K := K) hr.units) (pv 0) (pe_tup pa_nil) (nomark _)) (pw_or1 (pt_not (pt_val (pe_callB (call_isiK (K := K)) (by rfl) T.isinstance (by decide +kernel) (pa_cons (pe_ix (ix_tupK (K := K)) (pv 0) pe_int (fun _ _ => rfl)) (pa_cons (pe_bltn (v := .ty "str") (by rfl) T.str (by decide +kernel) rfl) pa_nil))))))))) (pss_one (ps_ret pe_bl)) pss_nil)
    (pss_cons (ps_asg (pv 0) (pg_star (K := K) (tup := true) (n := 2) (i := 1) rfl (pgs_cons (pg_name (i := 3) sc_is_test.nd rfl (Or.inl rfl)) (pgs_consS (pg_name (i := 4) sc_is_test.nd rfl (Or.inl rfl)) pgs_nil)) (by decide)))
    (pss_cons (ps_if (PW.pt (pw_and (pt_cmpR op_eq (pv 3) pe_str (nomark _)) (pw_and1 (pt_cmpR op_eq (pe_callB (call_lenK (K := K)) (by rfl) T.len (by decide +kernel) (pa_cons (pv 4) pa_nil)) pe_int (nomark _))))) (pss_one (ps_ret (pe_and (pe_call F_is_place (hr.mono (by decide)) (by rfl) g_is_place k_is_place b_is_place .nil pass0 (pa_cons (pe_ix (ix_listK (K := K)) (pv 4) pe_int (fun _ _ => rfl)) pa_nil)) (pe_and (pe_cmpR (op_in_seqK (K := K)) (pe_ix (ix_listK (K := K)) (pv 4) pe_int (fun _ _ => rfl)) (pv 1) rfl) (pe_one (pe_call F_are_of (hr.mono (by decide)) (by rfl) g_are_of k_are_of b_are_of .nil pass0 (pa_cons (pe_ix (ix_listK (K := K)) (pv 4) pe_int (fun _ _ => rfl)) (pa_cons (pv 2) pa_nil)))))))) pss_nil)
    (pss_cons (ps_if (PW.pt (pw_or (pt_cmpR op_ne (pv 3) pe_str (nomark _)) (pw_or1 (pt_cmpR op_ne (pe_callB (call_lenK (K := K)) (by rfl) T.len (by decide +kernel) (pa_cons (pv 4) pa_nil)) pe_int (nomark _))))) (pss_one (ps_ret pe_bl)) pss_nil)
    (pss_cons (ps_asg (pv 4) (pg_lstK (K := K) (n := 3) rfl (pgs_cons (pg_name (i := 5) sc_is_test.nd rfl (Or.inl rfl)) (pgs_cons (pg_name (i := 6) sc_is_test.nd rfl (Or.inl rfl)) (pgs_cons (pg_name (i := 7) sc_is_test.nd rfl (Or.inl rfl)) pgs_nil)))))
    (pss_one (ps_ret (pe_and (pe_call F_is_from_to (hr.mono (by decide)) (by rfl) g_is_from_to k_is_from_to b_is_from_to .nil pass0 (pa_cons (pv 5) (pa_cons pe_int (pa_cons (pe_glob (v := .int 8) (by rfl) hTESTS ⟨_, rfl⟩) pa_nil)))) (pe_and (pe_call F_is_from_to (hr.mono (by decide)) (by rfl) g_is_from_to k_is_from_to b_is_from_to .nil pass0 (pa_cons (pv 6) (pa_cons (pv 5) (pa_cons (pe_glob (v := .int 8) (by rfl) hTESTS ⟨_, rfl⟩) pa_nil)))) (pe_one (pe_call F_are_of (hr.mono (by decide)) (by rfl) g_are_of k_are_of b_are_of .nil pass0 (pa_cons (pv 7) (pa_cons (pv 2) pa_nil))))))))))))), ?_⟩
  refine bodyS (E := E) h fun ⟨t, l, ss⟩ σ G hp c D kr kn => ?_
  obtain ⟨ok, hl, hs⟩ : t.ok l ss ∧ Plc l ∧ ∀ c ∈ ss, c ∈ sg := hp
  have fit := Fit.tst ok hl hs
  cases t with
  | «at» p s =>
    obtain ⟨h1, h2, h3⟩ : p ∈ l ∧ Rising s ∧ ∀ c ∈ s, c ∈ ss := ok
    have c : Cf K still G _ σ [some (.tup [.str tAt, .str p, .str s]), some (.tupN (txs l)), some (.str ss), none, none, none, none, none] G _ := c
    refine q_skip c ((et_or (et_not (et_B (ev_isT (ev_var rfl) rfl))) fun _ => et_or (et_test (ev_op (ev_var rfl) (ev_tup ea_nil (by decide)) (rg_eqF (c := false) fit fit_nilT (by decide) (by decide) ⟨(fun z => nomatch z), (fun z => nomatch z)⟩))) fun _ => et_not (et_B (ev_isS (ev_op (ev_var rfl) ev_int (rg_ixT (j := 0) rfl))))).to rfl) fun G1 H1 c1 g1 => ?_
    refine q_starT (d0 := .str tAt) (ds := [.str p, .str s]) c1 (ev_var rfl) (show 2 ≤ 1000 by decide) fun σ2 G2 H2 c2 => ?_
    refine q_when c2 ((et_and (et_test (ev_op (ev_var rfl) (ev_lit lit_at) rg_eqS)) fun _ => et_test (ev_op (ev_cb1 (ev_var rfl) cg_lenL) ev_int rg_eqI)).to (e := true) (by rw [decide_eq_true rfl]; rfl)) (fun _ G3 H3 c3 g3 => ?_) (fun b G3 H3 c3 g3 => nomatch b)
    exact c_ret c3 (ev_andV (a := true) (b := true) (ev_call p (ea_cons (ev_op (ev_var rfl) ev_int (rg_ixL (j := 0) rfl)) ea_nil) (hl.mem p h1)) fun _ => ev_andV (a := true) (b := true) ((ev_op (ev_op (ev_var rfl) ev_int (rg_ixL (j := 0) rfl)) (ev_tupN (ev_var rfl)) rg_inW).to (by rw [decide_eq_true h1])) fun _ => ev_call (s, ss) (ea_cons (ev_op (ev_var rfl) ev_int (rg_ixL (j := 1) rfl)) (ea_cons (ev_var rfl) ea_nil)) ⟨h2, h3, hs⟩) fun v d G4 H4 e c4 g4 r4 => kr _ _ _ _ _ _ r4 e c4
  | cnt lo hi s =>
    obtain ⟨h0, h1, h2, h3⟩ : lo ≤ hi ∧ hi ≤ 8 ∧ Rising s ∧ ∀ c ∈ s, c ∈ ss := ok
    have c : Cf K still G _ σ [some (.tup [.str tCount, .int lo, .int hi, .str s]), some (.tupN (txs l)), some (.str ss), none, none, none, none, none] G _ := c
    refine q_skip c ((et_or (et_not (et_B (ev_isT (ev_var rfl) rfl))) fun _ => et_or (et_test (ev_op (ev_var rfl) (ev_tup ea_nil (by decide)) (rg_eqF (c := false) fit fit_nilT (by decide) (by decide) ⟨(fun z => nomatch z), (fun z => nomatch z)⟩))) fun _ => et_not (et_B (ev_isS (ev_op (ev_var rfl) ev_int (rg_ixT (j := 0) rfl))))).to rfl) fun G1 H1 c1 g1 => ?_
    refine q_starT (d0 := .str tCount) (ds := [.int lo, .int hi, .str s]) c1 (ev_var rfl) (show 3 ≤ 1000 by decide) fun σ2 G2 H2 c2 => ?_
    refine q_skip c2 ((et_and (b := true) (et_test (ev_op (ev_var rfl) (ev_lit lit_at) rg_eqS)) fun z => absurd z (by decide)).to (by decide)) fun G3 H3 c3 g3 => ?_
    refine q_skip c3 ((et_or (et_test (ev_op (ev_var rfl) (ev_lit lit_count) rg_neS)) fun _ => et_test (ev_op (ev_cb1 (ev_var rfl) cg_lenL) ev_int rg_neI)).to (e := false) (by rw [decide_eq_true rfl]; rfl)) fun G4 H4 c4 g4 => ?_
    refine q_asgV c4 (ev_var rfl) tg_threeL fun σ5 G5 H5 c5 g5 => ?_
    exact c_ret c5 (ev_andV (a := true) (b := true) (ev_call ((lo : Int), 0, 8) (ea_cons (ev_var rfl) (ea_cons ev_int (ea_cons ev_int ea_nil))) ⟨by show (0 : Int) ≤ lo; omega, by show (lo : Int) ≤ 8; omega⟩) fun _ => ev_andV (a := true) (b := true) (ev_call ((hi : Int), (lo : Int), 8) (ea_cons (ev_var rfl) (ea_cons (ev_var rfl) (ea_cons ev_int ea_nil))) ⟨by show (lo : Int) ≤ hi; omega, by show (hi : Int) ≤ 8; omega⟩) fun _ => ev_call (s, ss) (ea_cons (ev_var rfl) (ea_cons (ev_var rfl) ea_nil)) ⟨h2, h3, hs⟩) fun v d G6 H6 e c6 g6 r6 => kr _ _ _ _ _ _ r6 e c6
end K70
namespace K70
open PySem PySem.Spec PyProof.Rows L2
/-! ### is_cell_row -/
def sp_is_cell_row (K : PySem.W.Frag) : Sp := Fs K (fun a : Rw × List Tx × Tx => [rwD a.1, .tupN (txs a.2.1), .str a.2.2]) (fun a => a.1.ok a.2.1 a.2.2 ∧ Plc a.2.1 ∧ ∀ c ∈ a.2.2, c ∈ sg) (fun _ d => d = .bl true)
abbrev N_is_cell_row : List Str := ["thing", "near", "signs", "own", "tests", "sign", "test"]
theorem sc_is_cell_row : FnScope N_is_cell_row ["thing", "near", "signs"] (defScope s_is_cell_row) := ⟨rfl, rfl, rfl, by decide +kernel, rfl, by decide +kernel, by decide +kernel⟩
theorem ok_is_cell_row {P : Program} {w : World} {K : PySem.W.Frag} {mg : Str → Option Value} {base : Heap} (T : Tp K mg)
    (o_is_sign : Okd P w K mg base 1 "is_sign" ["thing"] (sp_is_sign K))
    (o_are_of : Okd P w K mg base 2 "are_of" ["thing", "signs"] (sp_are_of K))
    (o_is_test : Okd P w K mg base 3 "is_test" ["thing", "near", "signs"] (sp_is_test K)) : Okd P w K mg base 4 "is_cell_row" ["thing", "near", "signs"] (sp_is_cell_row K) := by
  obtain ⟨f_is_sign, fd_is_sign, F_is_sign, g_is_sign, k_is_sign, b_is_sign⟩ := o_is_sign
  obtain ⟨f_are_of, fd_are_of, F_are_of, g_are_of, k_are_of, b_are_of⟩ := o_are_of
  obtain ⟨f_is_test, fd_is_test, F_is_test, g_is_test, k_is_test, b_is_test⟩ := o_is_test
  obtain ⟨_, hTESTS⟩ := T.iTests
  obtain ⟨fd, F⟩ := T.fn 27 d_is_cell_row rfl
  refine ⟨_, fd, ?_, T.gl "is_cell_row" (by decide +kernel), F.kp, FunD.bindsN F fun _ _ _ _ _ _ us hl => match us, hl with | [_, _, _], _ => rfl⟩
  refine FunD.ok F sc_is_cell_row (fun vs H Q E h => Fn.len (E := E) h) (fun cdv A outer s H vs Q E hr h => ?_)
  refine ⟨_, PSs.nox (pss_cons (ps_if (PW.pt (pw_or (pt_not (pt_val (pe_callB (call_isiK (K := K)) (by rfl) T.isinstance (by decide +kernel) (pa_cons (pv 0) (pa_cons (pe_bltn (v := .ty "tuple") (by rfl) T.tuple (by decide +kernel) rfl) pa_nil))))) (pw_or1 (pt_cmpR op_ne (pe_callB (call_lenK (K := K)) (by rfl) T.len (by decide +kernel) (pa_cons (pv 0) pa_nil)) pe_int (nomark _))))) (pss_one (ps_ret pe_bl)) pss_nil)
    (pss_cons (ps_asg (pv 0) (pg_tupK (K := K) (n := 3) rfl (pgs_cons (pg_name (i := 3) sc_is_cell_row.nd rfl (Or.inl rfl)) (pgs_cons (pg_name (i := 4) sc_is_cell_row.nd rfl (Or.inl rfl)) (pgs_cons (pg_name (i := 5) sc_is_cell_row.nd rfl (Or.inl rfl)) pgs_nil)))))
    (pss_cons (ps_if (PW.pt (pw_or (pt_not (pt_val (pe_call F_are_of (hr.mono (by decide)) (by rfl) g_are_of k_are_of b_are_of .nil pass0 (pa_cons (pv 3) (pa_cons (pv 2) pa_nil))))) (pw_or (pt_not (pt_val (pe_call F_is_sign (hr.mono (by decide)) (by rfl) g_is_sign k_is_sign b_is_sign .nil pass0 (pa_cons (pv 5) pa_nil)))) (pw_or1 (pt_cmpR op_notInSg (pv 5) (pv 2) rfl))))) (pss_one (ps_ret pe_bl)) pss_nil)
    (pss_cons (ps_if (PW.pt (pw_or (pt_not (pt_val (pe_callB (call_isiK (K := K)) (by rfl) T.isinstance (by decide +kernel) (pa_cons (pv 4) (pa_cons (pe_bltn (v := .ty "tuple") (by rfl) T.tuple (by decide +kernel) rfl) pa_nil))))) (pw_or1 (pt_cmpR op_gt (pe_callB (call_lenK (K := K)) (by rfl) T.len (by decide +kernel) (pa_cons (pv 4) pa_nil)) (pe_glob (v := .int 8) (by rfl) hTESTS ⟨_, rfl⟩) (nomark _))))) (pss_one (ps_ret pe_bl)) pss_nil)
    (pss_one (ps_ret (pe_callB (cr_allK (K := K) rfl) (by rfl) T.all (by decide +kernel) (pa_cons (pe_lc (own := [("test", 6)]) rfl sc_is_cell_row.nd (pi_tupK (K := K) (pv 4)) (blkOk_by (N := N_is_cell_row) (own := [("test", 6)]) (by kernel_rfl)) (fun _ _ _ _ _ => (pg_name (i := 6) sc_is_cell_row.nd rfl (Or.inl rfl))) (fun _ _ _ _ _ => pts_nil) (fun _ _ _ _ _ => (pe_call F_is_test (hr.mono (by decide)) (by rfl) g_is_test k_is_test b_is_test .nil pass0 (pa_cons (pv 6) (pa_cons (pv 1) (pa_cons (pv 2) pa_nil)))))) pa_nil)))))))), ?_⟩
  refine bodyS (E := E) h fun ⟨q, l, ss⟩ σ G hp c D kr kn => ?_
  obtain ⟨ok, hl, hs⟩ : q.ok l ss ∧ Plc l ∧ ∀ c ∈ ss, c ∈ sg := hp
  have few := ok.few
  have ht : (q.tests.map tstD).length = q.tests.length := List.length_map ..
  have c : Cf K still G _ σ [some (.tup [.str q.own, .tup (q.tests.map tstD), .str [q.sign]]), some (.tupN (txs l)), some (.str ss), none, none, none, none] G _ := c
  refine q_skip c ((et_or (et_not (et_B (ev_isT (ev_var rfl) rfl))) fun _ => et_test (ev_op (ev_cb1 (ev_var rfl) cg_lenT) ev_int rg_neI)).to (e := false) rfl) fun G1 H1 c1 g1 => ?_
  refine q_asgV c1 (ev_var rfl) tg_three fun σ2 G2 H2 c2 g2 => ?_
  refine q_skip c2 ((et_or (et_not (et_B (b := true) (ev_call (q.own, ss) (ea_cons (ev_var rfl) (ea_cons (ev_var rfl) ea_nil)) ⟨ok.own, ok.ownIn, hs⟩))) fun _ => et_or (et_not (et_B (b := true) (ev_call q.sign (ea_cons (ev_var rfl) ea_nil) (hs _ ok.sign)))) fun _ => et_test (ev_op (ev_var rfl) (ev_var rfl) rg_notInS)).to (e := false) (by rw [decide_eq_true ok.sign]; rfl)) fun G3 H3 c3 g3 => ?_
  refine q_skip c3 ((et_or (et_not (et_B (ev_isT (ev_var rfl) rfl))) fun _ => et_test (ev_op (ev_cb1 (ev_var rfl) cg_lenT) ev_int rg_gt)).to (e := false) (by rw [ht, decide_eq_false (by omega)]; rfl)) fun G4 H4 c4 g4 => ?_
  exact c_ret c4 ((ev_cb1 ((ev_mapA (l := q.tests) (enc := tstD) (fun _ => .bl true) (sv_tup (ev_var rfl)) (by omega) fun t ht => ⟨_, [6], by decide, tg_name, ev_call (t, l, ss) (ea_cons (ev_var rfl) (ea_cons (ev_var rfl) (ea_cons (ev_var rfl) ea_nil))) ⟨ok.tests t ht, hl, hs⟩⟩).to (bls_map q.tests fun _ => true)) cg_all).to (by rw [all_true])) fun v d G5 H5 e c5 g5 r5 => kr _ _ _ _ _ _ r5 e c5
/-! ### Rule.is_row -/
theorem Rl.ok.plc {r : Rl} (h : r.ok) : Plc r.near := ⟨h.nearIn, h.nearND⟩
theorem Rl.signs_in (r : Rl) : ∀ c ∈ r.signs, c ∈ sg := fun c hc => List.mem_of_mem_take hc
def sp_Rule_is_row (K : PySem.W.Frag) : Sp := Fs K (fun a : Rl × Rw => [rlD (cR K) a.1, rwD a.2]) (fun a => a.1.ok ∧ a.2 ∈ a.1.rows) (fun _ d => d = .bl true)
abbrev N_Rule_is_row : List Str := ["self", "thing"]
theorem sc_Rule_is_row : FnScope N_Rule_is_row ["self", "thing"] (defScope s_Rule_is_row) := ⟨rfl, rfl, rfl, by decide +kernel, rfl, by decide +kernel, by decide +kernel⟩
theorem ok_Rule_is_row {P : Program} {w : World} {K : PySem.W.Frag} {mg : Str → Option Value} {base : Heap} (T : Tp K mg)
    (o_is_cell_row : Okd P w K mg base 4 "is_cell_row" ["thing", "near", "signs"] (sp_is_cell_row K))
    (o_Rule_signs : Okm P w K mg base 1 (cR K) "signs" ["self"] (sp_Rule_signs K)) : Okm P w K mg base 5 (cR K) "is_row" ["self", "thing"] (sp_Rule_is_row K) := by
  obtain ⟨f_is_cell_row, fd_is_cell_row, F_is_cell_row, g_is_cell_row, k_is_cell_row, b_is_cell_row⟩ := o_is_cell_row
  obtain ⟨f_Rule_signs, fd_Rule_signs, F_Rule_signs, M_Rule_signs, b_Rule_signs⟩ := o_Rule_signs
  obtain ⟨fd, F⟩ := T.fn 29 d_Rule_is_row rfl
  refine ⟨_, fd, ?_, T.mR "is_row" (by decide +kernel), FunD.bindsN F fun _ _ _ _ _ _ us hl => match us, hl with | [_, _], _ => rfl⟩
  refine FunD.ok F sc_Rule_is_row (fun vs H Q E h => Fn.len (E := E) h) (fun cdv A outer s H vs Q E hr h => ?_)
  refine ⟨_, PSs.nox (pss_cons (ps_if (pt_cmpR op_eq (pe_fldK (K := K) (pv 0) rfl) pe_str (nomark _)) (pss_one (ps_ret pe_no)) pss_nil)
    (pss_one (ps_ret (pe_call F_is_cell_row (hr.mono (by decide)) (by rfl) g_is_cell_row k_is_cell_row b_is_cell_row .nil pass0 (pa_cons (pv 1) (pa_cons (pe_fldK (K := K) (pv 0) rfl) (pa_cons (pe_meth0 (pv 0) T.clR M_Rule_signs F_Rule_signs (hr.mono (by decide)) b_Rule_signs .nil pass0) pa_nil))))))), ?_⟩
  refine bodyS (E := E) h fun ⟨r, q⟩ σ G hp c D kr kn => ?_
  obtain ⟨ok, hq⟩ : r.ok ∧ q ∈ r.rows := hp
  refine q_skip c ((et_test (ev_op (ev_fld (ev_var rfl) T.clR (T.nR _ (by decide +kernel)) rfl) (ev_lit (l := [98, 108, 111, 99, 107, 115]) (by decide +kernel)) rg_eqS)).to (by decide)) fun G1 H1 c1 g1 => ?_
  exact c_ret c1 (ev_call (q, r.near, r.signs) (ea_cons (ev_var rfl) (ea_cons (ev_fld (ev_var rfl) T.clR (T.nR _ (by decide +kernel)) rfl) (ea_cons (ev_meth r (ev_var rfl) ea_nil (by rfl) rfl trivial) ea_nil))) ⟨ok.rows q hq, ok.plc, r.signs_in⟩) fun v d G2 H2 e c2 g2 r2 => kr _ _ _ _ _ _ r2 e c2
end K70
namespace K70
open PySem PySem.Spec PyProof.Rows L2
/-! ### Rule.__init__ -/
theorem sorts_V : (["around", "halves", "blocks"] : List Str).map (fun x : Str => V.str x) = ([[97, 114, 111, 117, 110, 100], [104, 97, 108, 118, 101, 115], [98, 108, 111, 99, 107, 115]] : List Tx).map fun x => V.str (tx x) := by decide +kernel
def sortsM : List Tx := [[97, 114, 111, 117, 110, 100], [104, 97, 108, 118, 101, 115], [98, 108, 111, 99, 107, 115]]
theorem ev_sorts {K : PySem.W.Frag} {mg : Str → Option Value} {m : Mu} {Γ : Ga} (T : Tp K mg) : Ev K m (tC (.ref (He.ga K "SORTS"))) Γ (.tupW (txs sortsM)) := ev_c fun G => .tupW (T.tSorts G) (by rw [sorts_V]; exact dvs_txs')
def sp_Rule_init (K : PySem.W.Frag) : Sp := Ini K (cR K) (fun r : Rl => [.str tAround, .int (r.many : Nat), .tupN (txs r.near), .lst (r.rows.map rwD)]) (fun r => r.ok) (fun r => [("sort_told", .str tAround), ("count", .int r.many), ("looked_at", .tupN (txs r.near)), ("listed", .lst (r.rows.map rwD))])
abbrev N_Rule_init : List Str := ["self", "sort", "many", "near", "rows", "at", "row"]
theorem sc_Rule_init : FnScope N_Rule_init ["self", "sort", "many", "near", "rows"] (defScope s_Rule_init) := ⟨rfl, rfl, rfl, by decide +kernel, rfl, by decide +kernel, by decide +kernel⟩
theorem ok_Rule_init {P : Program} {w : World} {K : PySem.W.Frag} {mg : Str → Option Value} {base : Heap} (T : Tp K mg)
    (o_is_from_to : Okd P w K mg base 2 "is_from_to" ["thing", "least", "most"] (sp_is_from_to K))
    (o_is_near : Okd P w K mg base 2 "is_near" ["sort", "thing"] (sp_is_near K))
    (o_Rule_is_row : Okm P w K mg base 5 (cR K) "is_row" ["self", "thing"] (sp_Rule_is_row K)) : Okc P w K mg base 6 (cR K) "Rule" ["self", "sort", "many", "near", "rows"] (sp_Rule_init K) := by
  obtain ⟨f_is_from_to, fd_is_from_to, F_is_from_to, g_is_from_to, k_is_from_to, b_is_from_to⟩ := o_is_from_to
  obtain ⟨f_is_near, fd_is_near, F_is_near, g_is_near, k_is_near, b_is_near⟩ := o_is_near
  obtain ⟨f_Rule_is_row, fd_Rule_is_row, F_Rule_is_row, M_Rule_is_row, b_Rule_is_row⟩ := o_Rule_is_row
  obtain ⟨_, hSIGNS⟩ := T.tSigns
  obtain ⟨_, hROWS⟩ := T.iRows
  obtain ⟨fd, F⟩ := T.fn 28 d_Rule_init rfl
  refine ⟨_, fd, ?_, T.kR, T.gl "Rule" (by decide +kernel), FunD.bindsN F fun _ _ _ _ _ _ us hl => match us, hl with | [_, _, _, _, _], _ => rfl⟩
  refine FunD.ok F sc_Rule_init (fun vs H Q E h => Ini.len (E := E) h) (fun cdv A outer s H vs Q E hr h => ?_)
  refine ⟨_, PSs.nox (pss_cons (ps_if (PW.pt (pw_or (pt_not (pt_val (pe_callB (call_isiK (K := K)) (by rfl) T.isinstance (by decide +kernel) (pa_cons (pv 1) (pa_cons (pe_bltn (v := .ty "str") (by rfl) T.str (by decide +kernel) rfl) pa_nil))))) (pw_or1 (pt_cmpR (op_notIn_seqK (K := K)) (pv 1) (pe_glob (v := .ref _) (by rfl) T.gSorts rfl) rfl)))) pss_never pss_nil)
    (pss_cons (ps_if (pt_not (pt_val (pe_call F_is_from_to (hr.mono (by decide)) (by rfl) g_is_from_to k_is_from_to b_is_from_to .nil pass0 (pa_cons (pv 2) (pa_cons pe_int (pa_cons (pe_callB call_lenS (by rfl) T.len (by decide +kernel) (pa_cons (pe_glob (v := .str ".abcdefghijklmnopqrstuvwxyz") (by rfl) hSIGNS ⟨_, rfl⟩) pa_nil)) pa_nil)))))) pss_never pss_nil)
    (pss_cons (ps_if (pt_not (pt_val (pe_call F_is_near (hr.mono (by decide)) (by rfl) g_is_near k_is_near b_is_near .nil pass0 (pa_cons (pv 1) (pa_cons (pv 3) pa_nil))))) pss_never pss_nil)
    (pss_cons (ps_if (PW.pt (pw_or (pt_not (pt_val (pe_callB (call_isiK (K := K)) (by rfl) T.isinstance (by decide +kernel) (pa_cons (pv 4) (pa_cons (pe_bltn (v := .ty "list") (by rfl) T.list (by decide +kernel) rfl) pa_nil))))) (pw_or1 (pt_cmpR op_gt (pe_callB (call_lenK (K := K)) (by rfl) T.len (by decide +kernel) (pa_cons (pv 4) pa_nil)) (pe_glob (v := .int 80) (by rfl) hROWS ⟨_, rfl⟩) (nomark _))))) pss_never pss_nil)
    (pss_cons (ps_fld (pv 0) (pv 1) rfl)
    (pss_cons (ps_fld (pv 0) (pv 2) rfl)
    (pss_cons (ps_fld (pv 0) (pv 3) rfl)
    (pss_cons (ps_fld (pv 0) (pe_callTy (call_listK (K := K)) (by rfl) T.list (by decide +kernel) (pa_cons (pv 4) pa_nil)) rfl)
    (pss_one (ps_for PassesOwn.never rfl (pi_enumK (K := K) (by rfl) T.enumerate (pa_cons (pv 4) pa_nil)) (pg_tupK (K := K) (n := 2) rfl (pgs_cons (pg_name (i := 5) sc_Rule_init.nd rfl (Or.inl rfl)) (pgs_cons (pg_name (i := 6) sc_Rule_init.nd rfl (Or.inl rfl)) pgs_nil)))
      (pss_one (ps_if (pt_not (pt_val (pe_meth (pv 0) T.clR M_Rule_is_row F_Rule_is_row (hr.mono (by decide)) b_Rule_is_row .nil pass0 (pa_cons (pv 6) pa_nil)))) pss_never pss_nil)))))))))))), ?_⟩
  refine bodyI (E := E) h fun r x dx σ G H0 H ok hx c a0 D kn => ?_
  have ok : r.ok := ok
  have lo := ok.lo
  have hi := ok.hi
  have few := ok.few
  have hrl : (r.rows.map rwD).length = r.rows.length := List.length_map ..
  have c : Cf K still G H0 σ [some (.raw (.ref x)), some (.str tAround), some (.int (r.many : Nat)), some (.tupN (txs r.near)), some (.lst (r.rows.map rwD)), none, none] G H := c
  refine q_skip c ((et_or (et_not (et_B (ev_isS (ev_var rfl)))) fun _ => et_test (ev_op (ev_var rfl) (ev_sorts T) rg_notInW)).to (e := false) (by decide)) fun G1 H1 c1 g1 => ?_
  refine q_skip c1 ((et_not (et_B (b := true) (ev_call (((r.many : Nat) : Int), (2 : Int), (27 : Int)) (ea_cons (ev_var rfl) (ea_cons ev_int (ea_cons ((ev_cb1 ev_SIGNS (cg_lenS (by rw [sg_len]; decide))).to (e := .int 27) (by rw [sg_len]; rfl)) ea_nil))) ⟨by show (2 : Int) ≤ (r.many : Nat); omega, by show ((r.many : Nat) : Int) ≤ 27; omega⟩))).to (e := false) rfl) fun G2 H2 c2 g2 => ?_
  refine q_skip c2 ((et_not (et_B (b := true) (ev_call r.near (ea_cons (ev_var rfl) (ea_cons (ev_var rfl) ea_nil)) ok.plc))).to (e := false) rfl) fun G3 H3 c3 g3 => ?_
  refine q_skip c3 ((et_or (et_not (et_B (ev_isL (ev_var rfl)))) fun _ => et_test (ev_op (ev_cb1 (ev_var rfl) cg_lenL) ev_int rg_gt)).to (e := false) (by rw [hrl, decide_eq_false (by omega)]; rfl)) fun G4 H4 c4 g4 => ?_
  have a4 := (((a0.grow g1 (fun z => z)).grow g2 (fun z => z)).grow g3 (fun z => z)).grow g4 (fun z => z)
  refine q_fldA c4 rfl a4 hx T.clR (T.nR _ (by decide +kernel)) (show 0 < 1000 by decide) (ev_var rfl) fun d G5 H5 e c5 a5 => ?_
  subst e
  refine q_fldA c5 rfl a5 hx T.clR (T.nR _ (by decide +kernel)) (show 1 < 1000 by decide) (ev_var rfl) fun d G6 H6 e c6 a6 => ?_
  subst e
  refine q_fldA c6 rfl a6 hx T.clR (T.nR _ (by decide +kernel)) (show 2 < 1000 by decide) (ev_var rfl) fun d G7 H7 e c7 a7 => ?_
  subst e
  refine q_fldA c7 rfl a7 hx T.clR (T.nR _ (by decide +kernel)) (show 3 < 1000 by decide) (ev_cb1 (ev_var rfl) cg_listL) fun d G8 H8 e c8 a8 => ?_
  subst e
  have a8 : AccI K G8 H8 x (cR K) dx [("sort_told", .str tAround), ("count", .int r.many), ("looked_at", .tupN (txs r.near)), ("listed", .lst (r.rows.map rwD))] := a8
  obtain ⟨G9, s9, c9, d9⟩ := c8.doneI rfl a8 hx
  have c9' : Cf K still G9 H8 σ [some (rlD (cR K) r), some (.str tAround), some (.int (r.many : Nat)), some (.tupN (txs r.near)), some (.lst (r.rows.map rwD)), none, none] G9 H8 := c9.rebase
  refine c_forA (l := (List.range r.rows.length).zip r.rows) (enc := fun p => .tup [.int (p.1 : Nat), rwD p.2]) c9' (((sv_enumL (ev_var rfl))).to' (enum_B r.rows rwD)) (fun _ => [some (rlD (cR K) r), some (.str tAround), some (.int (r.many : Nat)), some (.tupN (txs r.near)), some (.lst (r.rows.map rwD)), none, none]) (fun _ => True) rfl trivial (fun i a ha => tg_two) (fun G1 H1 g1 i a σ' G' H' D' ha _ c10 hrt kn' => ?_) fun _ σ' G' H' c10 => kn _ _ _ _ (c10.base c9.gr) (d9.mono c10.gr.g)
  have hq : a.2 ∈ r.rows := (List.of_mem_zip (List.mem_of_getElem? ha)).2
  refine c_if c10 ((et_not (et_B (b := true) (ev_meth (r, a.2) (ev_var rfl) (ea_cons (ev_var rfl) ea_nil) (by rfl) rfl ⟨ok, hq⟩))).to (e := false) rfl) (fun b _ _ _ _ => nomatch b) fun _ G11 H11 c11 g11 => kn' trivial _ _ _ (((c11.lose 5).lose 6).to rfl)
/-! ### _law_made_rule -/
def sp_l_made_rule (K : PySem.W.Frag) : Sp := Fs K (fun r : Rl => [ruD r]) (fun r => r.ok) (fun r d => d = rlD (cR K) r)
abbrev N_l_made_rule : List Str := ["_law_rule_here"]
theorem sc_l_made_rule : FnScope N_l_made_rule ["_law_rule_here"] (defScope s_l_made_rule) := ⟨rfl, rfl, rfl, by decide +kernel, rfl, by decide +kernel, by decide +kernel⟩
theorem ok_l_made_rule {P : Program} {w : World} {K : PySem.W.Frag} {mg : Str → Option Value} {base : Heap} (T : Tp K mg)
    (o_Rule : Okc P w K mg base 6 (cR K) "Rule" ["self", "sort", "many", "near", "rows"] (sp_Rule_init K)) : Okd P w K mg base 8 "_law_made_rule" ["_law_rule_here"] (sp_l_made_rule K) := by
  obtain ⟨f_Rule, fd_Rule, F_Rule, M_Rule, g_Rule, b_Rule⟩ := o_Rule
  obtain ⟨fd, F⟩ := T.fn 55 d_l_made_rule rfl
  refine ⟨_, fd, ?_, T.gl "_law_made_rule" (by decide +kernel), F.kp, FunD.bindsN F fun _ _ _ _ _ _ us hl => match us, hl with | [_], _ => rfl⟩
  refine FunD.ok F sc_l_made_rule (fun vs H Q E h => Fn.len (E := E) h) (fun cdv A outer s H vs Q E hr h => ?_)
  refine ⟨_, PSs.nox (pss_one (ps_ret (pe_make M_Rule F_Rule (hr.mono (by decide)) (by rfl) g_Rule b_Rule .nil pass0 (pa_cons (pe_ix (ix_tupK (K := K)) (pv 0) pe_int (fun _ _ => rfl)) (pa_cons (pe_ix (ix_tupK (K := K)) (pv 0) pe_int (fun _ _ => rfl)) (pa_cons (pe_ix (ix_tupK (K := K)) (pv 0) pe_int (fun _ _ => rfl)) (pa_cons (pe_callTy (call_listK (K := K)) (by rfl) T.list (by decide +kernel) (pa_cons (pe_ix (ix_tupK (K := K)) (pv 0) pe_int (fun _ _ => rfl)) pa_nil)) pa_nil))))))), ?_⟩
  refine bodyS (E := E) h fun r σ G ok c D kr kn => ?_
  have ok : r.ok := ok
  exact c_ret c (er_make r (ea_cons (ev_op (ev_var rfl) ev_int (rg_ixT (j := 0) rfl)) (ea_cons (ev_op (ev_var rfl) ev_int (rg_ixT (j := 1) rfl)) (ea_cons (ev_op (ev_var rfl) ev_int (rg_ixT (j := 2) rfl)) (ea_cons (ev_cb1 (ev_op (ev_var rfl) ev_int (rg_ixT (j := 3) rfl)) cg_listL) ea_nil)))) ok) fun v d G1 H1 e c1 g1 r1 => kr _ _ _ _ _ _ r1 e c1
end K70
namespace K70
open PySem PySem.Spec PyProof.Rows L2
/-! ### Strip.set_behind -/
def sp_Strip_set_behind (K : PySem.W.Frag) : Sp := Fs K (fun a : Rl × Nat × Nat × List (Tx × Tx) × Tx => [zD K a.1 a.2.1 a.2.2.1, .lst (a.2.2.2.1.map stD), .str a.2.2.2.2]) (fun a => Zok a.1 a.2.1 a.2.2.1 ∧ a.2.2.2.1.length ≤ 1000 ∧ ∀ s ∈ a.2.2.2.1, s ∈ statesM (lettersM a.1 a.2.2.1)) (fun a d => d = .lst ((setM a.1 a.2.1 (lettersM a.1 a.2.2.1) a.2.2.2.1 a.2.2.2.2).map stD))
abbrev N_Strip_set_behind : List Str := ["self", "some", "column", "other", "state"]
theorem sc_Strip_set_behind : FnScope N_Strip_set_behind ["self", "some", "column"] (defScope s_Strip_set_behind) := ⟨rfl, rfl, rfl, by decide +kernel, rfl, by decide +kernel, by decide +kernel⟩
theorem ok_Strip_set_behind {P : Program} {w : World} {K : PySem.W.Frag} {mg : Str → Option Value} {base : Heap} (T : Tp K mg)
    (o_Strip_behind : Okm P w K mg base 1 (cS K) "behind" ["self", "state", "column"] (sp_Strip_behind K)) : Okm P w K mg base 2 (cS K) "set_behind" ["self", "some", "column"] (sp_Strip_set_behind K) := by
  obtain ⟨f_Strip_behind, fd_Strip_behind, F_Strip_behind, M_Strip_behind, b_Strip_behind⟩ := o_Strip_behind
  obtain ⟨fd, F⟩ := T.fn 13 d_Strip_set_behind rfl
  refine ⟨_, fd, ?_, T.mS "set_behind" (by decide +kernel), FunD.bindsN F fun _ _ _ _ _ _ us hl => match us, hl with | [_, _, _], _ => rfl⟩
  refine FunD.ok F sc_Strip_set_behind (fun vs H Q E h => Fn.len (E := E) h) (fun cdv A outer s H vs Q E hr h => ?_)
  refine ⟨_, PSs.nox (pss_one (ps_ret (pe_callB (cr_sortedTsK (P := P) (w := w) rfl) (by rfl) T.sorted (by decide +kernel) (pa_cons (pe_sc2K (K := K) (P := P) (w := w) (own := [("state", 4), ("other", 3)]) (vs1 := [3]) hr.units rfl sc_Strip_set_behind.nd (pi_listK (K := K) (pv 1)) (blkOk_by (N := N_Strip_set_behind) (own := [("state", 4), ("other", 3)]) (by kernel_rfl)) (by decide) (fun _ _ _ _ _ => (pg_name (i := 4) sc_Strip_set_behind.nd rfl (Or.inl rfl))) (fun _ _ _ _ _ => pts_nil) (fun _ _ _ _ _ => (pi_listK (K := K) (pe_meth (pv 0) T.clS M_Strip_behind F_Strip_behind (hr.mono (by decide)) b_Strip_behind .nil pass0 (pa_cons (pv 4) (pa_cons (pv 2) pa_nil))))) (fun _ _ _ _ _ => (pg_name (i := 3) sc_Strip_set_behind.nd rfl (Or.inl rfl))) (fun _ _ _ _ _ => pts_nil) (fun _ _ _ _ _ => (pv 3))) pa_nil)))), ?_⟩
  refine bodyS (E := E) h fun ⟨r, edge, n, som, co⟩ σ G hp c D kr kn => ?_
  obtain ⟨z, hl, hs⟩ : Zok r edge n ∧ som.length ≤ 1000 ∧ ∀ s ∈ som, s ∈ statesM (lettersM r n) := hp
  refine c_ret c (ev_sortedSc2 (K := K) (P := P) (w := w) (l := som) (enc := stD) (f := fun s => behindM r edge (lettersM r n) s co) (U := statesM (lettersM r n)) (sv_list (ev_var rfl)) (fun a ha x hx => behind_mem (hs a ha) hx) (by have := z.states; omega) fun s hsm => ⟨_, [4], by decide, tg_name, sv_list (ev_meth (r, edge, n, s, co) (ev_var rfl) (ea_cons (ev_var rfl) (ea_cons (ev_var rfl) ea_nil)) (by rfl) rfl ⟨z, hs s hsm⟩), fun x hx => ⟨_, [3], by decide, tg_name, ev_var rfl⟩⟩) fun v d G1 H1 e c1 g1 r1 => ?_
  obtain ⟨S, rfl, h1, h2⟩ := e
  refine kr _ _ _ _ _ _ r1 ?_ c1
  show Dt.lst (S.map stD) = _
  rw [setM_is hs h1 h2]
/-! ### Strip.are_states -/
theorem ltS_next : ∀ {S : List (Tx × Tx)}, S.Pairwise (fun p q => ltS p q = true) → ∀ p ∈ S.zip (S.drop 1), ltS p.1 p.2 = true
  | [], _, p, hp => by simp at hp
  | [a], _, p, hp => by simp at hp
  | a :: b :: s, h, p, hp => by
    obtain ⟨h1, h2⟩ := List.pairwise_cons.mp h
    rw [List.drop_succ_cons, List.drop_zero, List.zip_cons_cons] at hp
    rcases List.mem_cons.mp hp with e | hp
    · rw [e]; exact h1 b List.mem_cons_self
    · exact ltS_next h2 p (by rw [List.drop_succ_cons, List.drop_zero]; exact hp)
def sp_Strip_are_states (K : PySem.W.Frag) : Sp := Fs K (fun a : Rl × Nat × Nat × List (Tx × Tx) => [zD K a.1 a.2.1 a.2.2.1, .lst (a.2.2.2.map stD)]) (fun a => Zok a.1 a.2.1 a.2.2.1 ∧ a.2.2.2.length ≤ 1000 ∧ (∀ s ∈ a.2.2.2, s ∈ statesM (lettersM a.1 a.2.2.1)) ∧ a.2.2.2.Pairwise (fun p q => ltS p q = true)) (fun _ d => d = .bl true)
abbrev N_Strip_are_states : List Str := ["self", "thing", "state", "one", "other", "part"]
theorem sc_Strip_are_states : FnScope N_Strip_are_states ["self", "thing"] (defScope s_Strip_are_states) := ⟨rfl, rfl, rfl, by decide +kernel, rfl, by decide +kernel, by decide +kernel⟩
theorem ok_Strip_are_states {P : Program} {w : World} {K : PySem.W.Frag} {mg : Str → Option Value} {base : Heap} (T : Tp K mg) : Okm P w K mg base 1 (cS K) "are_states" ["self", "thing"] (sp_Strip_are_states K) := by
  obtain ⟨fd, F⟩ := T.fn 14 d_Strip_are_states rfl
  refine ⟨_, fd, ?_, T.mS "are_states" (by decide +kernel), FunD.bindsN F fun _ _ _ _ _ _ us hl => match us, hl with | [_, _], _ => rfl⟩
  refine FunD.ok F sc_Strip_are_states (fun vs H Q E h => Fn.len (E := E) h) (fun cdv A outer s H vs Q E hr h => ?_)
  refine ⟨_, PSs.nox (pss_cons (ps_if (pt_not (pt_val (pe_callB (call_isiK (K := K)) (by rfl) T.isinstance (by decide +kernel) (pa_cons (pv 1) (pa_cons (pe_bltn (v := .ty "list") (by rfl) T.list (by decide +kernel) rfl) pa_nil))))) (pss_one (ps_ret pe_bl)) pss_nil)
    (pss_cons (ps_for PassesOwn.never rfl (pi_listK (K := K) (pv 1)) (pg_name (i := 2) sc_Strip_are_states.nd rfl (Or.inl rfl))
      (pss_one (ps_if (PW.pt (pw_or (pt_not (pt_val (pe_callB (call_isiK (K := K)) (by rfl) T.isinstance (by decide +kernel) (pa_cons (pv 2) (pa_cons (pe_bltn (v := .ty "tuple") (by rfl) T.tuple (by decide +kernel) rfl) pa_nil))))) (pw_or1 (pt_not (pt_val (pe_callB (cr_allK (K := K) rfl) (by rfl) T.all (by decide +kernel) (pa_cons (pe_lc (own := [("part", 5)]) rfl sc_Strip_are_states.nd (pi_tupK (K := K) (pv 2)) (blkOk_by (N := N_Strip_are_states) (own := [("part", 5)]) (by kernel_rfl)) (fun _ _ _ _ _ => (pg_name (i := 5) sc_Strip_are_states.nd rfl (Or.inl rfl))) (fun _ _ _ _ _ => pts_nil) (fun _ _ _ _ _ => (pe_callB (call_isiK (K := K)) (by rfl) T.isinstance (by decide +kernel) (pa_cons (pv 5) (pa_cons (pe_bltn (v := .ty "str") (by rfl) T.str (by decide +kernel) rfl) pa_nil))))) pa_nil))))))) (pss_one (ps_ret pe_bl)) pss_nil)))
    (pss_cons (ps_if (pt_not (pt_val (pe_callB (cr_allK (K := K) rfl) (by rfl) T.all (by decide +kernel) (pa_cons (pe_lc (own := [("state", 2)]) rfl sc_Strip_are_states.nd (pi_listK (K := K) (pv 1)) (blkOk_by (N := N_Strip_are_states) (own := [("state", 2)]) (by kernel_rfl)) (fun _ _ _ _ _ => (pg_name (i := 2) sc_Strip_are_states.nd rfl (Or.inl rfl))) (fun _ _ _ _ _ => pts_nil) (fun _ _ _ _ _ => (pe_cmp (pc_din (hu_of hr) (pv 2) (pe_fldK (K := K) (pv 0) rfl)) rfl))) pa_nil)))) (pss_one (ps_ret pe_bl)) pss_nil)
    (pss_one (ps_ret (pe_callB (cr_allK (K := K) rfl) (by rfl) T.all (by decide +kernel) (pa_cons (pe_lc (own := [("one", 3), ("other", 4)]) rfl sc_Strip_are_states.nd (pi_zipK (K := K) (by rfl) T.zip (pa_cons (pv 1) (pa_cons (pe_slice (sl_listK (K := K)) (pv 1) (po_some pe_int) po_none) pa_nil))) (blkOk_by (N := N_Strip_are_states) (own := [("one", 3), ("other", 4)]) (by kernel_rfl)) (fun _ _ _ _ _ => (pg_tupK (K := K) (n := 2) rfl (pgs_cons (pg_name (i := 3) sc_Strip_are_states.nd rfl (Or.inl rfl)) (pgs_cons (pg_name (i := 4) sc_Strip_are_states.nd rfl (Or.inl rfl)) pgs_nil)))) (fun _ _ _ _ _ => pts_nil) (fun _ _ _ _ _ => (pe_cmpR (op_ltTxK (K := K) hr.units) (pv 3) (pv 4) (nomark _)))) pa_nil))))))), ?_⟩
  refine bodyS (E := E) h fun ⟨r, edge, n, S⟩ σ G hp c D kr kn => ?_
  obtain ⟨z, hl, hs, hso⟩ : Zok r edge n ∧ S.length ≤ 1000 ∧ (∀ s ∈ S, s ∈ statesM (lettersM r n)) ∧ S.Pairwise (fun p q => ltS p q = true) := hp
  have c : Cf K still G _ σ [some (zD K r edge n), some (.lst (S.map stD)), none, none, none, none] G _ := c
  refine q_skip c ((et_not (et_B (ev_isL (ev_var rfl)))).to (e := false) rfl) fun G1 H1 c1 g1 => ?_
  refine q_forA (l := S) (enc := stD) c1 (sv_list (ev_var rfl)) (fun _ => [some (zD K r edge n), some (.lst (S.map stD)), none, none, none, none]) (fun _ => True) rfl trivial (fun i a ha => tg_name) (fun G2 H2 g2 i a σ' G' H' D' ha _ c2 hrt kn' => ?_) fun _ σ' G' H' c2 => ?_
  · have c2 : Cf K still G2 H2 σ' [some (zD K r edge n), some (.lst (S.map stD)), some (.tup ([a.1, a.2].map .str)), none, none, none] G' H' := c2
    refine c_if c2 ((et_or (et_not (et_B (ev_isT (ev_var rfl) rfl))) fun _ => et_not (et_B (b := true) ((ev_cb1 ((ev_mapA (l := [a.1, a.2]) (enc := .str) (fun _ => .bl true) (sv_tup (ev_var rfl)) (show 2 ≤ 100000 by decide) fun q hq => ⟨_, [5], by decide, tg_name, ev_isS (ev_var rfl)⟩).to (bls_map [a.1, a.2] fun _ => true)) cg_all).to (by rw [all_true])))).to (e := false) rfl) (fun b _ _ _ _ => nomatch b) fun _ G3 H3 c3 g3 => kn' trivial _ _ _ ((c3.lose 2).to rfl)
  · refine q_skip c2 ((et_not (et_B (b := true) ((ev_cb1 ((ev_mapA (l := S) (enc := stD) (fun _ => .bl true) (sv_list (ev_var rfl)) (by omega) fun s hsm => ⟨_, [2], by decide, tg_name, (ev_dinT (q := s) (ev_var rfl) (ev_fld (ev_var rfl) T.clS (T.nS _ (by decide +kernel)) rfl)).to (by rw [lk_mapT (hs s hsm)]; rfl)⟩).to (bls_map S fun _ => true)) cg_all).to (by rw [all_true])))).to (e := false) rfl) fun G3 H3 c3 g3 => ?_
    have hall : ((S.zip (S.drop 1)).all fun p => ltS p.1 p.2) = true := List.all_eq_true.mpr fun p hp => ltS_next hso p hp
    exact c_ret c3 ((ev_cb1 ((ev_mapA (l := S.zip (S.drop 1)) (enc := fun p => .tup [stD p.1, stD p.2]) (fun p => .bl (ltS p.1 p.2)) ((sv_zipL (as := S.map stD) (bs := (S.drop 1).map stD) (ev_var rfl) ((ev_sl (ev_var rfl) (eo_some (i := ((1 : Nat) : Int)) ev_int) eo_none lg_list).to (by rw [cut_drop, List.map_drop]))).to' (by rw [zip_A])) (by rw [List.length_zip]; omega) fun p hp => ⟨_, [3, 4], by decide, tg_two, ev_op (ev_var rfl) (ev_var rfl) rg_ltTx⟩).to (bls_map _ _)) cg_all).to (by rw [all_map, hall])) fun v d G4 H4 e c4 g4 r4 => kr _ _ _ _ _ _ r4 e c4
end K70
namespace K70
open PySem PySem.Spec PyProof.Rows L2
/-! ### none_of -/
theorem cur_sorted (r : Rl) (edge n : Nat) (cols : List Tx) : ∀ i, (curM r edge (lettersM r n) cols i).Pairwise (fun p q => ltS p q = true)
  | 0 => states_sorted r n
  | i + 1 => List.Pairwise.sublist List.filter_sublist (states_sorted r n)
theorem cur_nodup {r : Rl} {edge n : Nat} {cols : List Tx} (i : Nat) : (curM r edge (lettersM r n) cols i).Nodup :=
  (cur_sorted r edge n cols i).imp fun {a b} h e => by rw [e, ltS_irrefl] at h; cases h
def sp_none_of (K : PySem.W.Frag) : Sp := Fs K (fun a : Rl × Nat × List Tx × Nat => [rlD (cR K) a.1, .str [a.2.1], .lst (txs a.2.2.1)]) (fun a => Zok a.1 a.2.1 a.2.2.1.length ∧ a.2.1 ∈ a.1.signs ∧ PicS a.1 a.2.2.1 a.2.2.2) (fun a d => d = noneD (noneM a.1 a.2.1 (lettersM a.1 a.2.2.1.length) (colsM a.2.2.1)))
abbrev N_none_of : List Str := ["rule", "edge", "rows", "strip", "sets", "column"]
theorem sc_none_of : FnScope N_none_of ["rule", "edge", "rows"] (defScope s_none_of) := ⟨rfl, rfl, rfl, by decide +kernel, rfl, by decide +kernel, by decide +kernel⟩
theorem ok_none_of {P : Program} {w : World} {K : PySem.W.Frag} {mg : Str → Option Value} {base : Heap} (T : Tp K mg)
    (o_strip_for : Okd P w K mg base 7 "strip_for" ["rule", "edge", "rows"] (sp_strip_for K))
    (o_columns_of : Okd P w K mg base 1 "columns_of" ["rows"] (sp_columns_of K))
    (o_Strip_set_behind : Okm P w K mg base 2 (cS K) "set_behind" ["self", "some", "column"] (sp_Strip_set_behind K)) : Okd P w K mg base 8 "none_of" ["rule", "edge", "rows"] (sp_none_of K) := by
  obtain ⟨f_strip_for, fd_strip_for, F_strip_for, g_strip_for, k_strip_for, b_strip_for⟩ := o_strip_for
  obtain ⟨f_columns_of, fd_columns_of, F_columns_of, g_columns_of, k_columns_of, b_columns_of⟩ := o_columns_of
  obtain ⟨f_Strip_set_behind, fd_Strip_set_behind, F_Strip_set_behind, M_Strip_set_behind, b_Strip_set_behind⟩ := o_Strip_set_behind
  obtain ⟨fd, F⟩ := T.fn 22 d_none_of rfl
  refine ⟨_, fd, ?_, T.gl "none_of" (by decide +kernel), F.kp, FunD.bindsN F fun _ _ _ _ _ _ us hl => match us, hl with | [_, _, _], _ => rfl⟩
  refine FunD.ok F sc_none_of (fun vs H Q E h => Fn.len (E := E) h) (fun cdv A outer s H vs Q E hr h => ?_)
  refine ⟨_, PSs.nox (pss_cons (ps_set (i := 3) sc_none_of.nd rfl (Or.inl rfl) (pe_call F_strip_for (hr.mono (by decide)) (by rfl) g_strip_for k_strip_for b_strip_for .nil pass0 (pa_cons (pv 0) (pa_cons (pv 1) (pa_cons (pv 2) pa_nil)))))
    (pss_cons (ps_set (i := 4) sc_none_of.nd rfl (Or.inl rfl) (pe_lst (pa_cons (pe_callTy (call_listK (K := K)) (by rfl) T.list (by decide +kernel) (pa_cons (pe_fldK (K := K) (pv 3) rfl) pa_nil)) pa_nil)))
    (pss_cons (ps_for PassesOwn.never rfl (pi_listK (K := K) (pe_call F_columns_of (hr.mono (by decide)) (by rfl) g_columns_of k_columns_of b_columns_of .nil pass0 (pa_cons (pv 2) pa_nil))) (pg_name (i := 5) sc_none_of.nd rfl (Or.inl rfl))
      (pss_cons (ps_expr (pe_bmK (K := K) PySem.F.plainAttrs_list PySem.F.slot_list_append PySem.F.type_list_append mt_append (pv 4) (pa_cons (pe_meth (pv 3) T.clS M_Strip_set_behind F_Strip_set_behind (hr.mono (by decide)) b_Strip_set_behind .nil pass0 (pa_cons (pe_ix (ix_listK (K := K)) (pv 4) (pe_un un_neg pe_int) (fun _ _ => rfl)) (pa_cons (pv 5) pa_nil))) pa_nil)))
      (pss_one (ps_if (pt_cmpR (op_eqDK (K := K) hr.units) (pe_ix (ix_listK (K := K)) (pv 4) (pe_un un_neg pe_int) (fun _ _ => rfl)) (pe_lst pa_nil) (nomark _)) (pss_one (ps_ret (pv 4))) pss_nil))))
    (pss_one (ps_ret pe_non))))), ?_⟩
  refine bodyS (E := E) h fun ⟨r, edge, rows, w9⟩ σ G hp c D kr kn => ?_
  obtain ⟨z, he, p9⟩ : Zok r edge rows.length ∧ edge ∈ r.signs ∧ PicS r rows w9 := hp
  refine q_setV c (ev_call (r, edge, rows, w9) (ea_cons (ev_var rfl) (ea_cons (ev_var rfl) (ea_cons (ev_var rfl) ea_nil))) ⟨z, he, p9⟩) fun σ1 G1 H1 c1 g1 => ?_
  have hc : (colsM rows).length ≤ 1000 := by rw [colsM_len p9.pic]; exact p9.pic.wide
  have z64 := z.states
  generalize hn : rows.length = n at z c1 z64
  generalize hL : lettersM r n = L at z64
  have c1 : Cf K still G _ σ1 [some (rlD (cR K) r), some (.str [edge]), some (.lst (txs rows)), some (zD K r edge n), none, none] G1 H1 := c1
  have e0 : Dt.lst ((statesM (lettersM r n)).map stD) = setD (statesM L) := by rw [hL]; rfl
  refine q_lstH c1 (ea_cons ((ev_cb1 (ev_fld (ev_var rfl) T.clS (T.nS _ (by decide +kernel)) rfl) cg_listL).to e0) ea_nil) (show 1 ≤ 100000 by decide) fun p σ2 G2 H2 hp n1 a1 c2 g2 => ?_
  refine q_forL (l := colsM rows) (enc := .str) c2 a1 n1 (sv_list (ev_call (rows, w9) (ea_cons (ev_var rfl) ea_nil) p9.pic)) (fun _ => [some (rlD (cR K) r), some (.str [edge]), some (.lst (txs rows)), some (zD K r edge n), some (.raw (.ref p)), none]) (fun i b => b = (List.range (i + 1)).map (fun j => setD (curM r edge L (colsM rows) j)) ∧ ∀ j, j < i → ¬ (curM r edge L (colsM rows) (j + 1)).isEmpty = true) rfl ⟨rfl, fun j hj => absurd hj (Nat.not_lt_zero _)⟩ (fun i a ha => tg_name) (fun i co b σ' G' H' D' ha hb s c3 a3 hrt kn' => ?_) fun b σ' G' H' hb s c3 a3 => ?_
  · obtain ⟨rfl, hne⟩ := hb
    have hi : i < (colsM rows).length := (List.getElem?_eq_some_iff.mp ha).1
    have hco : (colsM rows).getD i [] = co := by rw [List.getD_eq_getElem?_getD, ha]; rfl
    have sub : ∀ s ∈ curM r edge L (colsM rows) i, s ∈ statesM (lettersM r n) := by rw [hL]; exact cur_sub r edge L (colsM rows) i
    have sub1 : ∀ s ∈ curM r edge L (colsM rows) (i + 1), s ∈ statesM (lettersM r n) := by rw [hL]; exact cur_sub r edge L (colsM rows) (i + 1)
    have short : (curM r edge L (colsM rows) i).length ≤ 1000 := by
      have := nodup_len (cur_nodup (r := r) (edge := edge) (n := n) (cols := colsM rows) i) (cur_sub r edge (lettersM r n) (colsM rows) i)
      rw [hL] at this; omega
    refine q_appL (P := fun d => d = setD (curM r edge L (colsM rows) (i + 1))) c3 rfl a3 hp (by rw [List.length_map, List.length_range]; omega) (fun vs _ => (ev_meth (r, edge, n, curM r edge L (colsM rows) i, co) (ev_var rfl) (ea_cons (ev_lastAcc rfl (last_range i) (ev_un ev_int ug_neg)) (ea_cons (ev_var rfl) ea_nil)) (by rfl) rfl ⟨z, short, sub⟩).imp fun d e => by
      rw [e, hL]
      show _ = setD (setM r edge L (curM r edge L (colsM rows) i) ((colsM rows).getD i []))
      rw [hco]; rfl) fun d G4 H4 e s4 c4 a4 => ?_
    subst e
    have e3 : (List.range (i + 1)).map (fun j => setD (curM r edge L (colsM rows) j)) ++ [setD (curM r edge L (colsM rows) (i + 1))] = (List.range (i + 2)).map (fun j => setD (curM r edge L (colsM rows) j)) := by
      rw [List.range_succ (n := i + 1), List.map_append]; rfl
    rw [e3] at a4
    refine c_ifL (B := (· = (curM r edge L (colsM rows) (i + 1)).isEmpty)) c4 a4 (fun vs _ => et_test (ev_op (ev_lastAcc rfl (last_range (i + 1)) (ev_un ev_int ug_neg)) (ev_lst ea_nil (by decide)) (rg_eqF (fit_states sub1) fit_nil (by decide) (by decide) set_nil))) (fun b G5 H5 s5 c5 a5 => ?_) fun b G5 H5 s5 c5 a5 => ?_
    · obtain ⟨G6, s6, c6, _⟩ := c5.done (i := 4) rfl a5 hp n1
      refine c_ret c6 (ev_var rfl) fun v d G7 H7 e c7 g7 r7 => ?_
      rw [hrt]
      refine kr _ _ _ _ _ _ r7 ?_ c7
      show d = noneD (noneM r edge (lettersM r rows.length) (colsM rows))
      rw [hn, hL, none_found hi hne b.symm, e]
      show _ = Dt.lst (((List.range (i + 2)).map (curM r edge L (colsM rows))).map setD)
      rw [List.map_map]; rfl
    · refine kn' _ _ _ _ ⟨rfl, fun j hj => ?_⟩ (s4.trans s5) ((c5.lose 5).to rfl) a5
      by_cases e : j = i
      · subst e; rw [← b]; decide
      · exact hne j (by omega)
  · obtain ⟨rfl, hne⟩ := hb
    refine c_ret c3 ev_non fun v d G4 H4 e c4 g4 r4 => kr _ _ _ _ _ _ r4 ?_ c4
    show d = noneD (noneM r edge (lettersM r rows.length) (colsM rows))
    rw [hn, hL, none_not hne, e]; rfl
end K70
namespace K70
open PySem PySem.Spec PyProof.Rows L2
/-! ### none_holds -/
theorem none_some {r : Rl} {edge : Nat} {L : List Tx} {cols : List Tx} {l : List (List (Tx × Tx))} (h : noneM r edge L cols = some l) : ∃ i, i < cols.length ∧ l = (List.range (i + 2)).map (curM r edge L cols) ∧ curM r edge L cols (i + 1) = [] ∧ ∀ j, j < i → curM r edge L cols (j + 1) ≠ [] := by
  unfold noneM at h
  cases hf : (List.range cols.length).find? fun i => (curM r edge L cols (i + 1)).isEmpty with
  | none => rw [hf] at h; cases h
  | some i =>
    rw [hf] at h
    obtain rfl := (Option.some.inj h).symm
    have h1 := List.find?_some hf
    have h2 := List.mem_of_find?_eq_some hf
    rw [List.mem_range] at h2
    refine ⟨i, h2, rfl, List.isEmpty_iff.mp h1, fun j hj e => ?_⟩
    have h3 := (List.find?_eq_some_iff_append.mp hf).2
    obtain ⟨as, bs, h4, h5⟩ := h3
    have hlen : as.length = i := by
      have h6 : (List.range cols.length)[as.length]? = some i := by rw [h4, List.getElem?_append_right (Nat.le_refl _), Nat.sub_self]; rfl
      have h7 := (List.getElem?_eq_some_iff.mp h6).1
      rw [List.length_range] at h7
      rw [List.getElem?_range h7] at h6
      exact Option.some.inj h6
    have h8 : j ∈ as := by
      have h9 : (List.range cols.length)[j]? = some j := List.getElem?_range (by omega)
      rw [h4, List.getElem?_append_left (by omega)] at h9
      exact List.mem_of_getElem? h9
    have := h5 j h8
    rw [e] at this
    simp at this
theorem zip3_eq {as bs cs : List Dt} {n : Nat} {f : Nat → Dt} (hl : min as.length (min bs.length cs.length) = n) (h : ∀ j, j < n → ∃ a b c, as[j]? = some a ∧ bs[j]? = some b ∧ cs[j]? = some c ∧ f j = .tup [a, b, c]) : zip3D as bs cs = (List.range n).map f := by
  apply List.ext_getElem?
  intro j
  by_cases hj : j < n
  · have hz : j < (zip3D as bs cs).length := by rw [zip3D_len, hl]; exact hj
    obtain ⟨a, b, c, h1, h2, h3, h4⟩ := h j hj
    obtain ⟨a', b', c', q1, q2, q3, q4⟩ := zip3D_get (List.getElem?_eq_getElem hz)
    rw [List.getElem?_eq_getElem hz, q4, List.getElem?_map, List.getElem?_range hj]
    rw [h1] at q1; rw [h2] at q2; rw [h3] at q3
    cases q1; cases q2; cases q3
    show _ = some (f j)
    rw [h4]
  · rw [List.getElem?_eq_none (by rw [zip3D_len, hl]; omega), List.getElem?_eq_none (by rw [List.length_map, List.length_range]; omega)]
theorem setD_inj_nil {S : List (Tx × Tx)} : setD S = .lst [] ↔ S = [] := by
  rw [← set_nil, List.isEmpty_iff]
theorem states_ne {r : Rl} {edge n : Nat} (z : Zok r edge n) : statesM (lettersM r n) ≠ [] := fun e => by
  have h := statesM_len (lettersM r n)
  rw [e, z.len] at h
  have h0 : ([] : List (Tx × Tx)).length = 0 := rfl
  rw [h0] at h
  have := Nat.pow_pos (n := n) (show 0 < r.many by have := z.ok.lo; omega)
  have := Nat.mul_pos this this
  omega
def sp_none_holds (K : PySem.W.Frag) : Sp := Fs K (fun a : Rl × Nat × List Tx × Nat × List (List (Tx × Tx)) => [rlD (cR K) a.1, .str [a.2.1], .lst (txs a.2.2.1), .lst (a.2.2.2.2.map setD)]) (fun a => Zok a.1 a.2.1 a.2.2.1.length ∧ a.2.1 ∈ a.1.signs ∧ PicS a.1 a.2.2.1 a.2.2.2.1 ∧ noneM a.1 a.2.1 (lettersM a.1 a.2.2.1.length) (colsM a.2.2.1) = some a.2.2.2.2) (fun a d => d = .bl true)
abbrev N_none_holds : List Str := ["rule", "edge", "rows", "paper", "strip", "columns", "full", "last", "some", "other", "column", "there", "state"]
theorem sc_none_holds : FnScope N_none_holds ["rule", "edge", "rows", "paper"] (defScope s_none_holds) := ⟨rfl, rfl, rfl, by decide +kernel, rfl, by decide +kernel, by decide +kernel⟩
theorem ok_none_holds {P : Program} {w : World} {K : PySem.W.Frag} {mg : Str → Option Value} {base : Heap} (T : Tp K mg)
    (o_strip_for : Okd P w K mg base 7 "strip_for" ["rule", "edge", "rows"] (sp_strip_for K))
    (o_columns_of : Okd P w K mg base 1 "columns_of" ["rows"] (sp_columns_of K))
    (o_Strip_are_states : Okm P w K mg base 1 (cS K) "are_states" ["self", "thing"] (sp_Strip_are_states K))
    (o_Strip_set_behind : Okm P w K mg base 2 (cS K) "set_behind" ["self", "some", "column"] (sp_Strip_set_behind K)) : Okd P w K mg base 8 "none_holds" ["rule", "edge", "rows", "paper"] (sp_none_holds K) := by
  obtain ⟨f_strip_for, fd_strip_for, F_strip_for, g_strip_for, k_strip_for, b_strip_for⟩ := o_strip_for
  obtain ⟨f_columns_of, fd_columns_of, F_columns_of, g_columns_of, k_columns_of, b_columns_of⟩ := o_columns_of
  obtain ⟨f_Strip_are_states, fd_Strip_are_states, F_Strip_are_states, M_Strip_are_states, b_Strip_are_states⟩ := o_Strip_are_states
  obtain ⟨f_Strip_set_behind, fd_Strip_set_behind, F_Strip_set_behind, M_Strip_set_behind, b_Strip_set_behind⟩ := o_Strip_set_behind
  obtain ⟨fd, F⟩ := T.fn 23 d_none_holds rfl
  refine ⟨_, fd, ?_, T.gl "none_holds" (by decide +kernel), F.kp, FunD.bindsN F fun _ _ _ _ _ _ us hl => match us, hl with | [_, _, _, _], _ => rfl⟩
  refine FunD.ok F sc_none_holds (fun vs H Q E h => Fn.len (E := E) h) (fun cdv A outer s H vs Q E hr h => ?_)
  refine ⟨_, PSs.nox (pss_cons (ps_set (i := 4) sc_none_holds.nd rfl (Or.inr rfl) (pe_call F_strip_for (hr.mono (by decide)) (by rfl) g_strip_for k_strip_for b_strip_for .nil pass0 (pa_cons (pv 0) (pa_cons (pv 1) (pa_cons (pv 2) pa_nil)))))
    (pss_cons (ps_set (i := 5) sc_none_holds.nd rfl (Or.inl rfl) (pe_call F_columns_of (hr.mono (by decide)) (by rfl) g_columns_of k_columns_of b_columns_of .nil pass0 (pa_cons (pv 2) pa_nil)))
    (pss_cons (ps_if (PW.pt (pw_or (pt_not (pt_val (pe_callB (call_isiK (K := K)) (by rfl) T.isinstance (by decide +kernel) (pa_cons (pv 3) (pa_cons (pe_bltn (v := .ty "list") (by rfl) T.list (by decide +kernel) rfl) pa_nil))))) (pw_or1 (pt_not (pt_chain op_le op_le pe_int (pe_callB (call_lenK (K := K)) (by rfl) T.len (by decide +kernel) (pa_cons (pv 3) pa_nil)) (pe_op op_add (pe_callB (call_lenK (K := K)) (by rfl) T.len (by decide +kernel) (pa_cons (pv 5) pa_nil)) pe_int)))))) (pss_one (ps_ret pe_bl)) pss_nil)
    (pss_cons (ps_if (PW.pt (pw_or (pt_not (pt_val (pe_callB (cr_allK (K := K) rfl) (by rfl) T.all (by decide +kernel) (pa_cons (pe_lc (own := [("some", 8)]) rfl sc_none_holds.nd (pi_listK (K := K) (pv 3)) (blkOk_by (N := N_none_holds) (own := [("some", 8)]) (by kernel_rfl)) (fun _ _ _ _ _ => (pg_name (i := 8) sc_none_holds.nd rfl (Or.inl rfl))) (fun _ _ _ _ _ => pts_nil) (fun _ _ _ _ _ => (pe_meth (pv 4) T.clS M_Strip_are_states F_Strip_are_states (hr.mono (by decide)) b_Strip_are_states .nil pass0 (pa_cons (pv 8) pa_nil)))) pa_nil)))) (pw_or1 (pt_cmpR (op_neDK (K := K) hr.units) (pe_ix (ix_listK (K := K)) (pv 3) pe_int (fun _ _ => rfl)) (pe_fldK (K := K) (pv 4) rfl) (nomark _))))) (pss_one (ps_ret pe_bl)) pss_nil)
    (pss_cons (ps_asg (pv 3) (pg_star (K := K) (tup := false) (n := 2) (i := 0) rfl (pgs_consS (pg_name (i := 6) sc_none_holds.nd rfl (Or.inl rfl)) (pgs_cons (pg_name (i := 7) sc_none_holds.nd rfl (Or.inl rfl)) pgs_nil)) (by decide)))
    (pss_cons (ps_if (PW.pt (pw_or (pt_cmpR (op_neDK (K := K) hr.units) (pv 7) (pe_lst pa_nil) (nomark _)) (pw_or1 (pt_cmpR (op_inDK (K := K) (Room.units65 hr)) (pe_lst pa_nil) (pv 6) rfl)))) (pss_one (ps_ret pe_bl)) pss_nil)
    (pss_cons (ps_for PassesOwn.never rfl (pi_zip3 (by rfl) T.zip (pa_cons (pv 3) (pa_cons (pe_slice (sl_listK (K := K)) (pv 3) (po_some pe_int) po_none) (pa_cons (pv 5) pa_nil)))) (pg_tupK (K := K) (n := 3) rfl (pgs_cons (pg_name (i := 8) sc_none_holds.nd rfl (Or.inl rfl)) (pgs_cons (pg_name (i := 9) sc_none_holds.nd rfl (Or.inl rfl)) (pgs_cons (pg_name (i := 10) sc_none_holds.nd rfl (Or.inl rfl)) pgs_nil))))
      (pss_cons (ps_set (i := 11) sc_none_holds.nd rfl (Or.inr rfl) (pe_callTy (cr_setSK (K := K) (P := P) (w := w) rfl hr.units) (by rfl) T.set (by decide +kernel) (pa_cons (pv 9) pa_nil)))
      (pss_one (ps_if (pt_not (pt_val (pe_callB (cr_allK (K := K) rfl) (by rfl) T.all (by decide +kernel) (pa_cons (pe_lc (own := [("state", 12)]) rfl sc_none_holds.nd (pi_listK (K := K) (pe_meth (pv 4) T.clS M_Strip_set_behind F_Strip_set_behind (hr.mono (by decide)) b_Strip_set_behind .nil pass0 (pa_cons (pv 8) (pa_cons (pv 10) pa_nil)))) (blkOk_by (N := N_none_holds) (own := [("state", 12)]) (by kernel_rfl)) (fun _ _ _ _ _ => (pg_name (i := 12) sc_none_holds.nd rfl (Or.inl rfl))) (fun _ _ _ _ _ => pts_nil) (fun _ _ _ _ _ => (pe_cmpR (or_inSK (K := K) (P := P) (w := w) hr.units) (pv 12) (pv 11) rfl))) pa_nil)))) (pss_one (ps_ret pe_bl)) pss_nil))))
    (pss_one (ps_ret pe_bl))))))))), ?_⟩
  refine bodyS (E := E) h fun ⟨r, edge, rows, w9, l⟩ σ G hp c D kr kn => ?_
  obtain ⟨z, he, p9, hnone⟩ : Zok r edge rows.length ∧ edge ∈ r.signs ∧ PicS r rows w9 ∧ noneM r edge (lettersM r rows.length) (colsM rows) = some l := hp
  refine q_setV c (ev_call (r, edge, rows, w9) (ea_cons (ev_var rfl) (ea_cons (ev_var rfl) (ea_cons (ev_var rfl) ea_nil))) ⟨z, he, p9⟩) fun σ1 G1 H1 c1 g1 => ?_
  have hc : (colsM rows).length ≤ 1000 := by rw [colsM_len p9.pic]; exact p9.pic.wide
  refine q_setV c1 (ev_call (rows, w9) (ea_cons (ev_var rfl) ea_nil) p9.pic) fun σ2 G2 H2 c2 g2 => ?_
  have z64 := z.states
  have hst := states_ne z
  generalize hn : rows.length = n at z hnone z64 hst c1 c2
  generalize hco : colsM rows = cols at hnone hc c2
  obtain ⟨i, hi, hl, hemp, hne⟩ := none_some hnone
  subst hl
  have sub : ∀ j, ∀ s ∈ curM r edge (lettersM r n) cols j, s ∈ statesM (lettersM r n) := cur_sub r edge (lettersM r n) cols
  have short : ∀ j, (curM r edge (lettersM r n) cols j).length ≤ 70 := fun j => by
    have := nodup_len (cur_nodup (r := r) (edge := edge) (n := n) (cols := cols) j) (sub j)
    omega
  have hsort := cur_sorted r edge n cols
  have hcs : ∀ j, j < cols.length → curM r edge (lettersM r n) cols (j + 1) = setM r edge (lettersM r n) (curM r edge (lettersM r n) cols j) (cols.getD j []) := fun j _ => rfl
  have h0 : curM r edge (lettersM r n) cols 0 = statesM (lettersM r n) := rfl
  have fits : ∀ j, Fit (setD (curM r edge (lettersM r n) cols j)) 2 := fun j => fit_states (sub j)
  generalize hC : curM r edge (lettersM r n) cols = C at hemp hne sub short hsort hcs h0 fits c2 hnone
  have hlen : (((List.range (i + 2)).map C).map setD).length = i + 2 := by rw [List.length_map, List.length_map, List.length_range]
  have hcl : (txs cols).length = cols.length := txs_len cols
  have c2 : Cf K still G _ σ2 [some (rlD (cR K) r), some (.str [edge]), some (.lst (txs rows)), some (.lst (((List.range (i + 2)).map C).map setD)), some (zD K r edge n), some (.lst (txs cols)), none, none, none, none, none, none, none] G2 H2 := c2
  refine q_skip c2 ((et_or (et_not (et_B (ev_isL (ev_var rfl)))) fun _ => et_not (et_test (ev_chain (c := true) (c' := true) ev_int (ev_cb1 (ev_var rfl) cg_lenL) (by rw [hlen]; exact rg_le.imp fun d e => by rw [e, decide_eq_true (by omega)]) (fun _ => ev_op (ev_cb1 (ev_var rfl) cg_lenL) ev_int rg_add) fun _ => (by rw [hlen, hcl]; exact rg_le.imp fun d e => by rw [e, decide_eq_true (by omega)])))).to (e := false) rfl) fun G3 H3 c3 g3 => ?_
  have at0 : (((List.range (i + 2)).map C).map setD)[0]? = some (setD (C 0)) := by rw [List.getElem?_map, List.getElem?_map, List.getElem?_range (by omega)]; rfl
  refine q_skip c3 ((et_or (et_not (et_B (b := true) ((ev_cb1 ((ev_mapA (l := (List.range (i + 2)).map C) (enc := setD) (fun _ => .bl true) (sv_list (ev_var rfl)) (by rw [List.length_map, List.length_range]; omega) fun S hS => ⟨_, [8], by decide, tg_name, ?_⟩).to (bls_map _ fun _ => true)) cg_all).to (by rw [all_true])))) fun _ => et_test (ev_op (ev_op (ev_var rfl) ev_int (rg_ixL (j := 0) at0)) ((ev_fld (d := .lst ((statesM (lettersM r n)).map stD)) (ev_var rfl) T.clS (T.nS _ (by decide +kernel)) rfl).to (e := setD (C 0)) (by rw [h0]; rfl)) (rg_neF (c := false) (fits 0) (fits 0) (by decide) (by decide) ⟨(fun q => nomatch q), fun q => absurd rfl q⟩))).to (e := false) rfl) fun G4 H4 c4 g4 => ?_
  · obtain ⟨j, hj, rfl⟩ := List.mem_map.mp hS
    exact ev_meth (r, edge, n, C j) (ev_var rfl) (ea_cons (ev_var rfl) ea_nil) (by rfl) rfl ⟨z, Nat.le_trans (short j) (by decide), sub j, hsort j⟩
  have split : ((List.range (i + 2)).map C).map setD = ((List.range (i + 1)).map C).map setD ++ [setD (C (i + 1))] := by
    rw [List.range_succ (n := i + 1), List.map_append, List.map_append]; rfl
  refine q_starL (ds := ((List.range (i + 1)).map C).map setD) (dl := setD (C (i + 1))) c4 ((ev_var rfl).to (by rw [split])) (by rw [List.length_map, List.length_map, List.length_range]; omega) fun σ5 G5 H5 c5 => ?_
  have elast : setD (C (i + 1)) = .lst [] := by rw [hemp]; rfl
  refine q_skip c5 ((et_or (et_test (ev_op (ev_var rfl) (ev_lst ea_nil (by decide)) (rg_neF (c := false) (fits (i + 1)) fit_nil (by decide) (by decide) ⟨(fun q => nomatch q), fun q => absurd elast q⟩))) fun _ => et_test (ev_op (ev_lst ea_nil (by decide)) (ev_var rfl) (rg_inF (c := false) (k := 1) (j := 3) fit_nil (Fit.lst fun d hd => ?_) (by decide) (by decide) ⟨(fun q => nomatch q), fun q => ?_⟩))).to (e := false) rfl) fun G6 H6 c6 g6 => ?_
  · obtain ⟨S, hS, rfl⟩ := List.mem_map.mp hd
    obtain ⟨j, hj, rfl⟩ := List.mem_map.mp hS
    exact fits j
  · exfalso
    obtain ⟨S, hS, e⟩ := List.mem_map.mp q
    obtain ⟨j, hj, rfl⟩ := List.mem_map.mp hS
    rw [List.mem_range] at hj
    have e2 := setD_inj_nil.mp e
    cases j with
    | zero => rw [h0] at e2; exact hst e2
    | succ j => exact hne j (by omega) e2
  have c6 : Cf K still G _ σ5 [some (rlD (cR K) r), some (.str [edge]), some (.lst (txs rows)), some (.lst (((List.range (i + 2)).map C).map setD)), some (zD K r edge n), some (.lst (txs cols)), none, none, none, none, none, none, none] G6 H6 := ((c6.lose 6).lose 7).to rfl
  have zipE : zip3D (((List.range (i + 2)).map C).map setD) ((((List.range (i + 2)).map C).map setD).drop 1) (txs cols) = (List.range (i + 1)).map fun j => .tup [setD (C j), setD (C (j + 1)), .str (cols.getD j [])] := by
    refine zip3_eq (by rw [List.length_drop, hlen, hcl]; omega) fun j hj => ⟨setD (C j), setD (C (j + 1)), .str (cols.getD j []), ?_, ?_, ?_, rfl⟩
    · rw [List.getElem?_map, List.getElem?_map, List.getElem?_range (by omega)]; rfl
    · rw [List.getElem?_drop, List.getElem?_map, List.getElem?_map, show 1 + j = j + 1 by omega, List.getElem?_range (by omega)]; rfl
    · rw [txs, List.getElem?_map, at_getD (show j < cols.length by omega) []]; rfl
  refine q_forA (l := List.range (i + 1)) (enc := fun j => .tup [setD (C j), setD (C (j + 1)), .str (cols.getD j [])]) c6 ((sv_zip3 (ev_var rfl) ((ev_sl (ev_var rfl) (eo_some (i := ((1 : Nat) : Int)) ev_int) eo_none lg_list).to (by rw [cut_drop])) (ev_var rfl)).to' zipE) (fun _ => [some (rlD (cR K) r), some (.str [edge]), some (.lst (txs rows)), some (.lst (((List.range (i + 2)).map C).map setD)), some (zD K r edge n), some (.lst (txs cols)), none, none, none, none, none, none, none]) (fun _ => True) rfl trivial (fun j a ha => tg_three) (fun G7 H7 g7 j a σ' G' H' D' ha _ c7 hrt kn' => ?_) fun _ σ' G' H' c7 => ?_
  · have haj : a < i + 1 := List.mem_range.mp (List.mem_of_getElem? ha)
    have c7 : Cf K still G7 H7 σ' [some (rlD (cR K) r), some (.str [edge]), some (.lst (txs rows)), some (.lst (((List.range (i + 2)).map C).map setD)), some (zD K r edge n), some (.lst (txs cols)), none, none, some (.lst ((C a).map stD)), some (.lst ((C (a + 1)).map stD)), some (.str (cols.getD a [])), none, none] G' H' := c7
    refine q_setS (K := K) (P := P) (w := w) (S := C (a + 1)) c7 (ev_var rfl) (Nat.le_trans (short _) (by decide)) fun ad LL σ8 G8 H8 c8 hLL => ?_
    have hall : ((C (a + 1)).all fun s => decide (s ∈ C (a + 1))) = true := List.all_eq_true.mpr fun x hx => decide_eq_true hx
    refine c_if c8 ((et_not (et_B (b := true) ((ev_cb1 ((ev_mapA (l := C (a + 1)) (enc := stD) (fun s => .bl (decide (s ∈ C (a + 1)))) (sv_list ((ev_meth (r, edge, n, C a, cols.getD a []) (ev_var rfl) (ea_cons (ev_var rfl) (ea_cons (ev_var rfl) ea_nil)) (by rfl) rfl ⟨z, Nat.le_trans (short a) (by decide), sub a⟩).imp fun d e => by rw [e, ← hcs a (by omega)])) (Nat.le_trans (short _) (by decide)) fun s hsm => ⟨_, [12], by decide, tg_name, ev_inTs (ev_var rfl) rfl hLL⟩).to (bls_map _ _)) cg_all).to (by rw [all_map, hall])))).to (e := false) rfl) (fun b _ _ _ _ => nomatch b) fun _ G9 H9 c9 g9 => kn' trivial _ _ _ (((((Cf.still_of rfl c9).lose 8).lose 9).lose 10).lose 11 |>.to rfl)
  · exact c_ret c7 ev_bl fun v d G8 H8 e c8 g8 r8 => kr _ _ _ _ _ _ r8 e c8
end K70
/-! The exception NoForebear: its class, its __init__, forebear's raise. -/
namespace K70
open PySem PySem.Spec PyProof.Rows L2
theorem oexB_ok {K : PySem.W.Frag} {C : Addr} (q : oexB K C = true) : ∃ nm q N bs bm sn sub ab col dd k0 k1 k2 k3 k5, K.lookup C = some (excClassObj nm q C N bs bm true sn sub ab col dd k0 k1 k2 k3 k5 "ValueError.__new__") ∧ PySem.HandSPX.refsVE bm = true := by
  unfold oexB at q
  split at q
  · rename_i dd cd sl ho
    split at q
    · rename_i C' bm k0 k1 k2 k3 n k5 hm hs
      simp only [Bool.and_eq_true, beq_iff_eq, Bool.not_eq_true'] at q
      obtain ⟨⟨⟨⟨rfl, rfl⟩, hdel⟩, hdic⟩, ht⟩ := q
      obtain ⟨nm, bs, mro, ns, qn, hd, sn, sub, ab, col, del⟩ := cd
      dsimp only at hm hdel hdic
      subst hm hdel hdic
      have hsl : sl = #[k0, k1, k2, k3, some (.builtin "ValueError.__new__"), k5] := by
        obtain ⟨l⟩ := sl
        simp only at hs
        rw [hs]
      subst hsl
      exact ⟨nm, qn, ns, bs, bm, sn, sub, ab, col, dd, k0, k1, k2, k3, k5, ho, ht⟩
    · cases q
  · cases q
theorem isVal_ok {o : Option PySem.W.CFound} {v : Value} (h : isVal o v = true) : o = some (.val v) := by
  unfold isVal at h
  split at h
  · rw [of_decide_eq_true h]
  · cases h
structure NfC (K : PySem.W.Frag) : Prop where
  oex : OexC K (cN K)
  iC : PySem.W.findIn K (.ref (cN K)) "__init__" = some (some (.ref (iN K)))
  tI : PySem.W.typeIn K (.ref (iN K)) = some (.type "function")
  nN : PySem.W.findIn K (.ref (cN K)) "number" = some none
  nT : PySem.W.findIn K (.ref (cN K)) "total" = some none
  xf : XfC K (cN K)
  one : PySem.W.exmOne K (.ref (cN K)) (.ref (cN K)) = some true
  ga : PySem.W.specialIn K (.ref (cE K)) "__getattribute__" = some (some (.builtin "type.__getattribute__"))
  rd : PySem.W.readsIn K (cE K) (.type "type") = true
  fi : PySem.W.findCls K (.ref (cE K)) (.type "type") "__init__" = some (.val (.builtin "ValueError.__init__"))
theorem nfB_ok {K : PySem.W.Frag} (h : nfB K = true) : NfC K := by
  obtain ⟨h1, h⟩ := Bool.and_eq_true_iff.mp h
  obtain ⟨h2, h⟩ := Bool.and_eq_true_iff.mp h
  obtain ⟨h3, h⟩ := Bool.and_eq_true_iff.mp h
  obtain ⟨h4, h⟩ := Bool.and_eq_true_iff.mp h
  obtain ⟨h5, h⟩ := Bool.and_eq_true_iff.mp h
  obtain ⟨h6, h⟩ := Bool.and_eq_true_iff.mp h
  obtain ⟨h7, h⟩ := Bool.and_eq_true_iff.mp h
  obtain ⟨h8, h⟩ := Bool.and_eq_true_iff.mp h
  obtain ⟨h9, h⟩ := Bool.and_eq_true_iff.mp h
  obtain ⟨h10, h⟩ := Bool.and_eq_true_iff.mp h
  obtain ⟨h11, h⟩ := Bool.and_eq_true_iff.mp h
  obtain ⟨h12, h⟩ := Bool.and_eq_true_iff.mp h
  obtain ⟨h13, h14⟩ := Bool.and_eq_true_iff.mp h
  exact ⟨⟨oexB_ok h1, of_decide_eq_true h2, of_decide_eq_true h3, of_decide_eq_true h4, h5⟩, of_decide_eq_true h6, of_decide_eq_true h7, of_decide_eq_true h8, of_decide_eq_true h9, xfB_ok h10, of_decide_eq_true h11, of_decide_eq_true h12, h13, isVal_ok h14⟩
section
variable {X : Cx} {e : Expr} {es : List Expr} {ta : TA} {p1 p2 pos : Pos}
/-- B.__init__(self, ..), B a class of the text whose __init__ is ValueError's -/
theorem pe_baseinit {B : Str} {CB : Addr} {pl : Sem Bool} (hg : Gl X B) (hm : X.mg B = some (.ref CB)) (ga : PySem.W.specialIn X.K (.ref CB) "__getattribute__" = some (some (.builtin "type.__getattribute__"))) (rd : PySem.W.readsIn X.K CB (.type "type") = true)
    (fi : PySem.W.findCls X.K (.ref CB) (.type "type") "__init__" = some (.val (.builtin "ValueError.__init__"))) (ha : PA X (e :: es) ta)
    (hd : (B == ("__debug__" : Str)) = false := by decide)
    (hc : eval (.Call (.Attribute (.Name B p1) "__init__" p2) (e :: es) [] pos) X.env = (do
      let ov ← eval (.Name B p1) X.env
      standAt p2.atName
      let (f, first) ← holding [ov] (getMethod ov "__init__" pl)
      callWith pos f first (backTo pos (starEach (e :: es) X.env)) (backToKw pos (keywordEach [] X.env))) := by rfl)
    (he : starEach (e :: es) X.env = (false, eval e X.env) :: starEach es X.env := by rfl) (hpl : (backTo pos (starEach es X.env)).any (·.1) = false := by rfl) :
    PE X (.Call (.Attribute (.Name B p1) "__init__" p2) (e :: es) [] pos) (tVeI X.K ta) := by
  refine ⟨fun pins s σ H Q I h => ?_⟩
  refine PySem.W.methodCall_KW (ld_glob I hg hm ?_ hd) hc
  refine PySem.W.method_cls I.kIn ga ?_
  refine PySem.W.cls_value I.kIn rd fi (by decide +kernel) ?_
  show wpAny _ _ (callWith pos (Value.builtin "ValueError.__init__") [] (backTo pos (starEach (e :: es) X.env)) []) _ _ _
  refine PyProof.Rows.callWith_method1 (thn (ha.run pos pins _ σ H _ (I.tok _) h) fun us s1 ⟨vs, H1, I1, r1, a, C, ws, ev, hl, T, ea, q⟩ => ?_) he hpl
  subst ev
  cases r1 with
  | @cons _ u0 _ ur ra rw' =>
    obtain rfl : u0 = Value.ref a := ra
    have hlen : ur.length ≤ sizeLine := by
      rw [← Paired.length rw', sizeLine_eq]
      omega
    exact oinit_ok T I1 ea hlen fun s' J => ⟨.non, H1, J, rfl, q⟩
end
/-! ### NoForebear.__init__ -/
def sp_NF (K : PySem.W.Frag) : Sp := fun vs H Q _ => ∃ (a : Addr) (n t : V), vs = [.ref a, n, t] ∧ H a = some (exo a (cN K) none) ∧
  ∀ d, H d = none → d ≠ a → Q .non (upd (upd (upd H d (exd d [("number", n)])) a (exo a (cN K) (some d))) d (exd d [("total", t), ("number", n)]))
abbrev N_NF : List Str := ["self", "number", "total"]
theorem sc_NF : FnScope N_NF ["self", "number", "total"] (defScope s_NoForebear_init) := ⟨rfl, rfl, rfl, by decide +kernel, rfl, by decide +kernel, by decide +kernel⟩
theorem ok_NF {P : Program} {w : World} {K : PySem.W.Frag} {mg : Str → Option Value} {base : Heap} (T : Tp K mg) (NF : NfC K) : ∃ fd, FnOk P w K mg base CX0 1 (iN K) fd ["self", "number", "total"] (sp_NF K) ∧ Binds K fd ["self", "number", "total"] [] := by
  obtain ⟨fd, F⟩ := T.fn 0 d_NoForebear_init rfl
  refine ⟨fd, ?_, FunD.bindsN F fun _ _ _ _ _ _ us hl => match us, hl with | [_, _, _], _ => rfl⟩
  refine FunD.ok F sc_NF (fun vs H Q E h => by obtain ⟨a, n, t, rfl, _⟩ := h; rfl) (fun cdv A outer s H vs Q E hr h => ?_)
  refine ⟨_, PSs.nox (pss_cons (ps_expr (pe_baseinit (B := "CellError") (by rfl) (T.gl "CellError" (by decide +kernel)) NF.ga NF.rd NF.fi (pa_cons (pv 0) (pa_cons pe_str pa_nil))))
    (pss_cons (ps_ost (pv 0) (pv 1)) (pss_one (ps_ost (pv 0) (pv 2))))), ?_⟩
  obtain ⟨a, n, t, rfl, ha, k⟩ := h
  refine ⟨_, rfl, a, cN K, [_], rfl, (by show 1 ≤ 1000; decide), NF.oex, ha, ?_⟩
  refine ⟨_, rfl, _, rfl, a, cN K, rfl, NF.oex, NF.nN, .inl ⟨ha, fun d hd hn => ?_⟩⟩
  refine ⟨_, rfl, _, rfl, a, cN K, rfl, NF.oex, NF.nT, .inr ⟨d, _, upd_same, ?_, (by show 1 ≤ 900; decide), k d hd hn⟩⟩
  rw [upd_ne hn, upd_same]
end K70
/-! forebear of a number that is too great; _law_refused. -/
namespace K70
open PySem PySem.Spec PyProof.Rows L2
/-- the fields of the error -/
def xdF (t n : V) : List (Str × V) := [("total", t), ("number", n)]
def manyR (r : Rl) (edge : Nat) (rows : List Tx) : Nat := manyM r edge (lettersM r rows.length) (colsM rows)
def sp_forebearX (K : PySem.W.Frag) : Sp := fun vs H _ E => ∃ (r : Rl) (edge : Nat) (rows : List Tx) (n : Nat) (G : Hp), Fok r edge rows n ∧ Dvs K G vs [rlD (cR K) r, .str [edge], .lst (txs rows), .int (manyR r edge rows : Nat)] ∧ Same G H ∧
  ∀ G' H' d, Grow Pure G H G' H' → H' d = none → E (.ref (cN K)) (some d) (upd H' d (.xd (xdF (.int (manyR r edge rows : Nat)) (.int (manyR r edge rows : Nat)))))
theorem xd_heap {H : Hp} {a d C : Addr} {fs gs : List (Str × V)} (ha : H a = none) (hd : d ≠ a) {o : HO} : upd (del (upd (upd (upd (upd H a (exo a C none)) d (exd d fs)) a (exo a C (some d))) d (exd d gs)) a) d o = upd H d o := by
  funext b
  by_cases hb : b = d
  · subst hb; rw [upd_same, upd_same]
  · rw [upd_ne hb, upd_ne hb]
    by_cases h2 : b = a
    · subst h2; rw [del_same, ha]
    · rw [del_ne h2, upd_ne hb, upd_ne h2, upd_ne hb, upd_ne h2]
theorem ok_forebearX {P : Program} {w : World} {K : PySem.W.Frag} {mg : Str → Option Value} {base : Heap} (T : Tp K mg) (NF : NfC K)
    (o_strip_for : Okd P w K mg base 7 "strip_for" ["rule", "edge", "rows"] (sp_strip_for K))
    (o_columns_of : Okd P w K mg base 1 "columns_of" ["rows"] (sp_columns_of K))
    (o_counts_on : Okd P w K mg base 2 "counts_on" ["strip", "columns", "last"] (sp_counts_on K)) :
    ∃ f fd, FnOk P w K mg base (L2.CX P w) 8 f fd ["rule", "edge", "rows", "number"] (sp_forebearX K) ∧ mg "forebear" = some (.ref f) ∧ PySem.W.keepIn K (.ref f) = true ∧ Binds K fd ["rule", "edge", "rows", "number"] [] := by
  obtain ⟨f_strip_for, fd_strip_for, F_strip_for, g_strip_for, k_strip_for, b_strip_for⟩ := o_strip_for
  obtain ⟨f_columns_of, fd_columns_of, F_columns_of, g_columns_of, k_columns_of, b_columns_of⟩ := o_columns_of
  obtain ⟨f_counts_on, fd_counts_on, F_counts_on, g_counts_on, k_counts_on, b_counts_on⟩ := o_counts_on
  obtain ⟨fd_NF, F_NF, b_NF⟩ := ok_NF (P := P) (w := w) (base := base) T NF
  obtain ⟨fd, F⟩ := T.fn 21 d_forebear rfl
  refine ⟨_, fd, ?_, T.gl "forebear" (by decide +kernel), F.kp, FunD.bindsN F fun _ _ _ _ _ _ us hl => match us, hl with | [_, _, _, _], _ => rfl⟩
  refine FunD.ok F sc_forebear (fun vs H Q E h => by obtain ⟨r, edge, rows, n, G, _, hv, _⟩ := h; exact hv.length) (fun cdv A outer s H vs Q E hr h => ?_)
  refine ⟨_, (pss_cons (ps_set (i := 4) sc_forebear.nd rfl (Or.inl rfl) (pe_call F_strip_for (hr.mono (by decide)) (by rfl) g_strip_for k_strip_for b_strip_for .nil pass0 (pa_cons (pv 0) (pa_cons (pv 1) (pa_cons (pv 2) pa_nil)))))
    (pss_cons (ps_set (i := 5) sc_forebear.nd rfl (Or.inl rfl) (pe_call F_columns_of (hr.mono (by decide)) (by rfl) g_columns_of k_columns_of b_columns_of .nil pass0 (pa_cons (pv 2) pa_nil)))
    (pss_cons (ps_set (i := 6) sc_forebear.nd rfl (Or.inl rfl) (pe_call F_counts_on (hr.mono (by decide)) (by rfl) g_counts_on k_counts_on b_counts_on .nil pass0 (pa_cons (pv 4) (pa_cons (pv 5) (pa_cons (pe_dcT (own := [("state", 8)]) (Nat.lt_of_succ_lt (hu_of hr)) rfl sc_forebear.nd (pi_listK (K := K) (pe_fldK (K := K) (pv 4) rfl)) (blkOk_by (N := N_forebear) (own := [("state", 8)]) (by kernel_rfl)) (fun _ _ _ _ _ => (pg_name (i := 8) sc_forebear.nd rfl (Or.inl rfl))) (fun _ _ _ _ _ => pts_nil) (fun _ _ _ _ _ => (pv 8)) (fun _ _ _ _ _ => pe_int)) pa_nil)))))
    (pss_cons (ps_set (i := 7) sc_forebear.nd rfl (Or.inl rfl) (pe_callB (cr_sumV rfl) (by rfl) T.sum (by decide +kernel) (pa_cons (pe_vals (pe_ix (ix_listK (K := K)) (pv 6) pe_int (fun _ _ => rfl))) pa_nil)))
    (pss_cons (ps_if (pt_cmpR op_ge (pv 3) (pv 7) (nomark _)) (pss_one (ps_raise rfl (takes_of rfl rfl rfl rfl) (pmk_oex (x := "NoForebear") NF.oex NF.iC NF.tI F_NF (hr.mono (by decide)) b_NF .nil pass0 (by rfl) (T.gl "NoForebear" (by decide +kernel)) (pa_cons (pv 3) (pa_cons (pv 7) pa_nil))))) pss_nil)
    pss_never))))), ?_⟩
  obtain ⟨r, edge, rows, n, G, ⟨z, he, p, hw⟩, hv, sg, kx⟩ := h
  have c := Cf.refl (K := K) (m := still) (N := N_forebear) hv sg trivial
  refine q_setV c (ev_call (r, edge, rows, n) (ea_cons (ev_var rfl) (ea_cons (ev_var rfl) (ea_cons (ev_var rfl) ea_nil))) ⟨z, he, p⟩) fun σ1 G1 H1 c1 g1 => ?_
  have hcl : (colsM rows).length = n := colsM_len p.pic
  have hc : (colsM rows).length ≤ 1000 := by omega
  refine q_setV c1 (ev_call (rows, n) (ea_cons (ev_var rfl) ea_nil) p.pic) fun σ2 G2 H2 c2 g2 => ?_
  refine q_setV (d := .lst ((tabsM r edge (lettersM r rows.length) (colsM rows)).map tabD)) c2 (ev_call (r, edge, rows.length, colsM rows, onesT (lettersM r rows.length)) (ea_cons (ev_var rfl) (ea_cons (ev_var rfl) (ea_cons ((ev_dcT (l := statesM (lettersM r rows.length)) (fun s => .int 1) (sv_list (ev_fld (ev_var rfl) T.clS (T.nS _ (by decide +kernel)) rfl)) (Nat.le_trans z.states (by decide)) (states_nodup r _) fun s hs => ⟨_, [8], by decide, tg_name, ev_var rfl, ev_int⟩).to (ones_D _)) ea_nil))) ⟨z, hc⟩) fun σ3 G3 H3 c3 g3 => ?_
  have t0 : ((tabsM r edge (lettersM r rows.length) (colsM rows)).map tabD)[0]? = some (tabD (tabAt r edge (lettersM r rows.length) (colsM rows) 0)) := by
    rw [List.getElem?_map, tabs_get r edge (lettersM r rows.length) (colsM rows) 0 (Nat.zero_le _)]; rfl
  refine q_setV c3 (ev_total (t := tabAt r edge (lettersM r rows.length) (colsM rows) 0) (ev_op (ev_var rfl) ev_int (rg_ixL (j := 0) t0))) fun σ4 G4 H4 c4 g4 => ?_
  have htot : totM (tabAt r edge (lettersM r rows.length) (colsM rows) 0) = manyR r edge rows := rfl
  refine q_if c4 ((et_test (ev_op (ev_var rfl) (ev_var rfl) rg_ge)).to (decide_eq_true (by
    rw [htot]; exact Int.le_refl _))) (fun _ G5 H5 c5 g5 => ?_) (fun e => nomatch e)
  obtain ⟨v3, e3, r3⟩ := c5.sl.at_ 3 (.int (manyR r edge rows : Nat)) rfl
  obtain ⟨v7, e7, r7⟩ := c5.sl.at_ 7 (.int (totM (tabAt r edge (lettersM r rows.length) (colsM rows) 0) : Nat)) rfl
  obtain rfl := r3.int_inv
  obtain rfl := r7.int_inv
  refine ⟨_, e3, _, e7, (by show 2 ≤ 1000; decide), fun a ha => ⟨a, _, _, rfl, upd_same, fun d hd hda => ⟨rfl, d, _, ?_, upd_same, ?_, ?_⟩⟩⟩
  · rw [upd_ne (Ne.symm hda), upd_same]
  · rw [upd_ne hda] at hd; exact hd
  · rw [upd_ne hda] at hd
    rw [xd_heap ha hda]
    exact kx G5 H5 d c5.gr hd
end K70
namespace K70
open PySem PySem.Spec PyProof.Rows L2
/-! ### _law_refused -/
def sp_l_refused (K : PySem.W.Frag) : Sp := Fs K (fun a : Rl × Nat × List Tx × Nat => [rlD (cR K) a.1, .str [a.2.1], .lst (txs a.2.2.1), .int (manyR a.1 a.2.1 a.2.2.1 : Nat)]) (fun a => Fok a.1 a.2.1 a.2.2.1 a.2.2.2) (fun _ d => d = .bl true)
abbrev N_l_refused : List Str := ["_law_rule_here", "_law_edge", "_law_rows_here", "_law_many", "e"]
theorem sc_l_refused : FnScope N_l_refused ["_law_rule_here", "_law_edge", "_law_rows_here", "_law_many"] (defScope s_l_refused) := ⟨rfl, rfl, rfl, by decide +kernel, rfl, by decide +kernel, by decide +kernel⟩
/-- return (e.number, e.total) == (many, many) -/
def t_told (K : PySem.W.Frag) (a : Addr) (cls : Value) (d : Option Addr) : TS := tRet (tOp (rEqD K) (tTup (tCons (tXf a cls d (cN K) "number" (tVar 4)) (tCons (tXf a cls d (cN K) "total" (tVar 4)) tNil))) (tTup (tCons (tVar 3) (tCons (tVar 3) tNil))))
theorem ok_l_refused {P : Program} {w : World} {K : PySem.W.Frag} {mg : Str → Option Value} {base : Heap} (T : Tp K mg) (NF : NfC K)
    (o_forebear : ∃ f fd, FnOk P w K mg base (L2.CX P w) 8 f fd ["rule", "edge", "rows", "number"] (sp_forebearX K) ∧ mg "forebear" = some (.ref f) ∧ PySem.W.keepIn K (.ref f) = true ∧ Binds K fd ["rule", "edge", "rows", "number"] []) :
    Okd P w K mg base 9 "_law_refused" ["_law_rule_here", "_law_edge", "_law_rows_here", "_law_many"] (sp_l_refused K) := by
  obtain ⟨f_forebear, fd_forebear, F_forebear, g_forebear, k_forebear, b_forebear⟩ := o_forebear
  obtain ⟨fd, F⟩ := T.fn 60 d_l_refused rfl
  refine ⟨_, fd, ?_, T.gl "_law_refused" (by decide +kernel), F.kp, FunD.bindsN F fun _ _ _ _ _ _ us hl => match us, hl with | [_, _, _, _], _ => rfl⟩
  refine FunD.ok F sc_l_refused (fun vs H Q E h => Fn.len (E := E) h) (fun cdv A outer s H vs Q E hr h => ?_)
  refine ⟨_, PSs.nox (pss_cons (ps_try_as (i := 4) (tb := fun W => tDrop (tCallS (sp_forebearX K) (WE W) (tCons (tVar 0) (tCons (tVar 1) (tCons (tVar 2) (tCons (tVar 3) tNil)))))) (ts := t_told K) (Wout := fun _ _ _ _ => False) rfl rfl sc_l_refused.nd rfl rfl ⟨rfl, by decide, Or.inl (T.gl "NoForebear" (by decide +kernel))⟩ takes0
      (fun W pn xe tk _ => pss_one (ps_expr (pe_callS F_forebear (hr.mono (by decide)) (by rfl) g_forebear k_forebear b_forebear (fun σ => passAt tk σ) (pa_cons (pv 0) (pa_cons (pv 1) (pa_cons (pv 2) (pa_cons (pv 3) pa_nil)))))))
      (fun a oe cls d pn hz hf => pss_one (ps_ret (pe_cmpR (op_eqDK (K := K) hr.units) (pe_tup (pa_cons (pe_xf NF.xf NF.nN hz hf (pv 4)) (pa_cons (pe_xf NF.xf NF.nT hz hf (pv 4)) pa_nil))) (pe_tup (pa_cons (pv 3) (pa_cons (pv 3) pa_nil))) (nomark _)))))
    pss_never), ?_⟩
  refine bodyS (E := E) h fun ⟨r, edge, rows, n⟩ σ G hp c D kr kn => ?_
  have hp : Fok r edge rows n := hp
  obtain ⟨v0, e0, r0⟩ := c.sl.at_ 0 (rlD (cR K) r) rfl
  obtain ⟨v1, e1, r1⟩ := c.sl.at_ 1 (.str [edge]) rfl
  obtain ⟨v2, e2, r2⟩ := c.sl.at_ 2 (.lst (txs rows)) rfl
  obtain ⟨v3, e3, r3⟩ := c.sl.at_ 3 (.int (manyR r edge rows : Nat)) rfl
  have e4 : 4 < σ.length := by rw [c.sl.len]; show 4 < 5; decide
  refine ⟨_, e0, _, e1, _, e2, _, e3, r, edge, rows, n, G, hp, .cons r0 (.cons r1 (.cons r2 (.cons r3 .nil))), c.gh, fun G1 H1 d g1 hd => ⟨true, NF.one, fun _ a ha => ?_, fun q => nomatch q⟩⟩
  have c1 : Cf K still G H σ (startG N_l_refused.length [rlD (cR K) r, .str [edge], .lst (txs rows), .int (manyR r edge rows : Nat)]) G1 H1 := c.step g1
  have c2 := (c1.new (o := .xd (xdF (.int (manyR r edge rows : Nat)) (.int (manyR r edge rows : Nat)))) hd).put 4 (.raw (.ref a))
  have s4 : (σ.set 4 (some (V.ref a)))[4]? = some (some (.ref a)) := List.getElem?_set_self e4
  refine ⟨_, s4, rfl, rfl, d, _, .int (manyR r edge rows : Nat), rfl, upd_same, rfl, _, s4, rfl, rfl, d, _, .int (manyR r edge rows : Nat), rfl, upd_same, rfl, (by show 2 ≤ sizeLine; decide), fun p hp1 => ?_⟩
  have c3 := c2.new (o := .tup [.int (manyR r edge rows : Nat), .int (manyR r edge rows : Nat)]) hp1
  have rp : ∀ G', Same (upd (upd G1 d (.xd (xdF (.int (manyR r edge rows : Nat)) (.int (manyR r edge rows : Nat))))) p (.tup [.int (manyR r edge rows : Nat), .int (manyR r edge rows : Nat)])) G' → Dv K G' (.ref p) (.tup [.int (manyR r edge rows : Nat), .int (manyR r edge rows : Nat)]) := fun G' s =>
    .tup (s _ _ upd_same) (.cons (.int _) (.cons (.int _) .nil))
  refine c3.ev (P := fun e => e = .tup [.int (manyR r edge rows : Nat), .int (manyR r edge rows : Nat)]) (ev_tup (ea_cons (ev_var rfl) (ea_cons (ev_var rfl) ea_nil)) (show 2 ≤ 100000 by decide)) fun y dd G4 H4 ed c4 g4 ry => ?_
  subst ed
  have ft : Fit (.tup [.int (manyR r edge rows : Nat), .int (manyR r edge rows : Nat)]) 1 := Fit.tup fun d hd => by
    rcases List.mem_cons.mp hd with e | hd
    · rw [e]; exact .int _
    · rcases List.mem_cons.mp hd with e | hd
      · rw [e]; exact .int _
      · cases hd
  refine rg_eqF (K := K) ft ft (by decide) (by decide) (c := true) ⟨fun _ => rfl, fun _ => rfl⟩ G4 H4 _ _ c4.gh (rp G4 g4.g) ry _ fun v d5 G5 H5 e5 g5 r5 => ?_
  exact kr _ _ _ _ _ _ r5 e5 (c4.step g5)
end K70
set_option maxHeartbeats 2000000
/-! repr of a list of texts; setdefault. -/
namespace K70
open PySem PySem.Spec PyProof.Rows L2
def rpD (ts : List Tx) : PyData := .list (ts.map fun x => .str (tx x))
/-- what repr makes of a list of texts -/
def txR (ts : List Tx) : Str := (rpD ts).shown
theorem txR_eq (ts : List Tx) : txR ts = listText (ts.map fun x => reprText (tx x)) := by
  show listText (PyData.shownAll _) = _
  have h := PyData.shownAll_strs (ts.map tx)
  rw [List.map_map, List.map_map] at h
  exact congrArg listText h
def rReprTx : List V → Hp → VK → Prop := fun xs H Q => ∃ (a : Addr) (ts : List Tx), xs = [.ref a] ∧ H a = some (.lst (ts.map fun x => V.str (tx x))) ∧ (txR ts).length ≤ sizeLine ∧ Q (.str (txR ts)) H
theorem rp_reads (h : Heap) : ∀ {ts : List Tx} {its : List Value}, Vals (ts.map fun x => V.str (tx x)) its → ReadsAll h its (ts.map fun x => .str (tx x)) []
  | [], _, r => by cases r; exact .nil
  | x :: ts, _, r => by
    cases r with
    | cons r1 r2 =>
      obtain ⟨t, rfl⟩ := r1
      exact ReadsAll.cons (.str _ t) (rp_reads h r2)
theorem rp_show : ∀ ts : List Tx, PyData.showableAll (ts.map fun x => .str (tx x)) = true
  | [] => rfl
  | x :: ts => by
    show (PyData.showable (.str (tx x)) && PyData.showableAll _) = true
    rw [rp_show ts]; rfl
theorem rp_nodict : ∀ ts : List Tx, PyData.hasDictAll (ts.map fun x => .str (tx x)) = false
  | [] => rfl
  | x :: ts => by
    show (PyData.hasDict (.str (tx x)) || PyData.hasDictAll _) = false
    rw [rp_nodict ts]; rfl
theorem rp_depthAll : ∀ ts : List Tx, PyData.depthAll (ts.map fun x => .str (tx x)) = 0
  | [] => by simp [PyData.depthAll]
  | x :: ts => by
    have := rp_depthAll ts
    simp [PyData.depthAll, PyData.depth] at this ⊢
    exact this
theorem cr_reprTx {X : Cx} (hg : X.A.guards = some []) (hu : X.A.units + 200 < cLine) : CallR X (.builtin "repr") rReprTx := by
  intro pins s σ H xs us Q I r h
  obtain ⟨a, ts, rfl, ha, hz, q⟩ := h
  cases r with
  | cons r1 r2 =>
    cases r2
    obtain rfl := r1
    have x : ObjOk X.prog X.w H s.heap a (.lst (ts.map fun x => V.str (tx x))) := I.hok a _ ha
    obtain ⟨_, its, n, rv, e⟩ := x
    have R : Reads s.heap (.ref a) (rpD ts) [a] := .list e rfl rfl (by simpa using rp_reads s.heap rv)
    have hd : (rpD ts).depth ≤ 1 := by
      show PyData.depthAll _ + 1 ≤ 1
      rw [rp_depthAll]
      exact Nat.le_refl _
    obtain ⟨hp, g, d, t, os⟩ := s
    exact repr_of_reads' R (rp_show ts) (PyData.noDict_hsm (rp_nodict ts)) hg (by omega) (fun _ _ e => e) (fun h' u tk hk => ⟨.str (txR ts), H, I.kept hk, ⟨u, rfl⟩, q⟩) hz
section
variable {K : PySem.W.Frag} {m : Mu} {G0 H0 G H : Hp} {σ : L2.St} {Γ : Ga} {D : Ends} {t : TS} {ty : TE} {p : Addr}
theorem cg_reprTx {ts : List Tx} (hz : (txR ts).length ≤ sizeLine) : CG K rReprTx [.lst (txs ts)] (· = .str (txR ts).cps.toList) := fun G H xs s r Q k => by
  cases r with
  | cons r1 r2 =>
    cases r2
    obtain ⟨a, ys, rfl, e, ry⟩ := r1.lst_inv
    have ey : ys = ts.map fun x => V.str (tx x) := Dvs.map_inv (fun x v h => h.str_inv) ry
    subst ey
    refine ⟨a, ts, rfl, s _ _ e, hz, ?_⟩
    have h : Dv K G (.str (tx (txR ts).cps.toList)) (.str (txR ts).cps.toList) := .str _
    rw [tx_of] at h
    exact k _ _ G H rfl (Grow.refl s) h
/-- if d.setdefault(text, n) != n: .., where it isn't so -/
theorem c_setd {i j : Nat} {x : Tx} {n : Int} {ds : List (Key × Dt)} (c : Cf K m G0 H0 σ Γ G H) (hi : Γ[i]? = some (some (.raw (.ref p)))) (hj : Γ[j]? = some (some (.int n))) (a : AccK K G H p ds) (hp : H0 p = none) (nm : ¬ m.μ p) (hl : ds.length ≤ 1000)
    (hk : Ev K m ty Γ (.str x)) (hd : ∀ d, lk ds (.inr (tx x)) = some d → d = .int n)
    (k : ∀ G' H' ds', Same G G' → Cf K m G0 H0 σ Γ G' H' → AccK K G' H' p ds' → (∀ q ∈ ds', q ∈ ds ∨ q = (.inr (tx x), .int n)) → ds'.length ≤ ds.length + 1 → D.nx σ H') :
    tIfS (tTest (tOp rNe (tDSetd (tVar i) ty (tVar j)) (tVar j))) t tNext D σ H := by
  obtain ⟨v, e1, e2⟩ := c.sl.at_ i _ hi
  obtain rfl := e2.raw_inv
  obtain ⟨kvs, hv, rv⟩ := a.at_
  refine ⟨_, e1, p, rfl, .inl ⟨kvs, .inl hv⟩, c.ev hk fun y d G1 H1 ed c1 g1 r1 => ?_⟩
  subst ed
  obtain rfl := r1.str_inv
  have a1 := a.grow g1 nm
  obtain ⟨kvs1, hv1, rv1⟩ := a1.at_
  obtain ⟨u, e3, e4⟩ := c1.sl.at_ j _ hj
  obtain rfl := e4.int_inv
  have fin : ∀ G2 H2 ds', Same G1 G2 → Cf K m G0 H0 σ Γ G2 H2 → AccK K G2 H2 p ds' → (∀ q ∈ ds', q ∈ ds ∨ q = (.inr (tx x), .int n)) → ds'.length ≤ ds.length + 1 → tVar j σ H2 fun y H3 => rNe (.int n) y H3 fun x H' => ∃ k, x = .bl k ∧ (if k = true then t D σ H' else tNext D σ H') := by
    intro G2 H2 ds' s2 c2 a2 hq hn
    refine ⟨_, e3, rg_neI (K := K) (i := n) (j := n) G2 H2 _ _ c2.gh (.int n) (.int n) _ fun v d G3 H3 ed g3 r3 => ?_⟩
    subst ed
    exact ⟨false, by rw [r3.bl_inv, decide_eq_true rfl]; rfl, by rw [if_neg (by decide)]; exact k G3 H3 ds' (g1.g.trans (s2.trans g3.g)) (c2.step g3) (a2.grow g3 fun z => z) hq hn⟩
  refine ⟨_, e3, kvs1, .inr (tx x), hv1, rfl, ?_, fun v hv => ?_, fun hv => ?_⟩
  · rw [rv1.length]; exact Nat.lt_of_le_of_lt hl (by decide)
  · rcases DvM.look (.inr (tx x)) rv1 with ⟨z, _⟩ | ⟨w, d, z1, z2, z3⟩
    · rw [hv] at z; cases z
    · rw [hv] at z1
      obtain rfl := Option.some.inj z1
      obtain rfl := hd d z2
      obtain rfl := z3.int_inv
      exact fin G1 H1 ds (Same.refl _) c1 a1 (fun q h => .inl h) (Nat.le_succ _)
  · have c2 := c1.set (o := .dK (putK kvs1 (.inr (tx x)) (.int n))) hp a1.out nm
    have hno : (kvs1.any fun kv => decide (kv.1 = .inr (tx x))) = false := by
      rw [List.any_eq_false]
      intro q hq z
      rcases DvM.look (.inr (tx x)) rv1 with ⟨w, _⟩ | ⟨w, d, z1, _, _⟩
      · unfold valV at w
        rw [Option.map_eq_none_iff, List.find?_eq_none] at w
        exact w q hq z
      · rw [hv] at z1; cases z1
    have ep : putK kvs1 (.inr (tx x)) (.int n) = kvs1 ++ [(.inr (tx x), .int n)] := by
      unfold putK
      rw [if_neg (by rw [hno]; decide)]
    refine fin G1 _ (ds ++ [(.inr (tx x), .int n)]) (Same.refl _) c2 ⟨a1.out, _, upd_same, by rw [ep]; exact rv1.snoc (.int n)⟩ (fun q h => ?_) (by rw [List.length_append]; exact Nat.le_refl _)
    rcases List.mem_append.mp h with h | h
    · exact .inl h
    · exact .inr (List.mem_singleton.mp h)
/-- a loop whose source is told by its properties alone -/
theorem q_forR {S : List Dt → Prop} {wi : TI} {g : TG} {u : TS} (c : Cf K m G0 H0 σ Γ G H) (hs : SrcG K m wi Γ S)
    (k : ∀ J ds G1 H1, S ds → Cf K m G0 H0 σ Γ G1 H1 → Grow m.μ G H G1 H1 → Src K G1 J ds → tSeq (tFor (fun _ H R => R J H) g t) u D σ H1) : tSeq (tFor wi g t) u D σ H :=
  hs σ G H c.sl c.gh c.mm _ fun J ds G1 H1 p g1 M src => k J ds G1 H1 p ⟨c.sl.mono g1.g, g1.sub, M, c.gr.trans g1⟩ g1 src
end
end K70
/-! The plain law: forebears become the picture, unlike numbers unlike ones; none where none are counted. -/
namespace K70
/-! ### rows and columns -/
theorem map_getD_range {α β : Type} (l : List α) (f : α → β) (d : α) : (List.range l.length).map (fun i => f (l.getD i d)) = l.map f := by
  apply List.ext_getElem
  · simp
  · intro i h1 h2
    have hi : i < l.length := by simpa using h2
    simp [List.getD_eq_getElem?_getD, List.getElem?_eq_getElem hi]
theorem range_getD {α : Type} (l : List α) (d : α) : (List.range l.length).map (fun i => l.getD i d) = l := by
  have := map_getD_range l id d
  simpa using this
theorem getD_map_lt {α β : Type} {l : List α} {f : α → β} {i : Nat} (h : i < l.length) (d : α) (e : β) : (l.map f).getD i e = f (l.getD i d) := by
  rw [List.getD_eq_getElem?_getD, List.getElem?_map, at_getD h d]; rfl
theorem getD_range_map {β : Type} {n : Nat} {f : Nat → β} {i : Nat} (h : i < n) (e : β) : ((List.range n).map f).getD i e = f i := by
  rw [List.getD_eq_getElem?_getD, List.getElem?_map, List.getElem?_range h]; rfl
theorem getD_map0 (l : List Tx) (y i : Nat) : (l.map fun c => c.getD y 0).getD i 0 = (l.getD i []).getD y 0 := by
  by_cases h : i < l.length
  · exact getD_map_lt h [] 0
  · have h' : l.length ≤ i := by omega
    rw [List.getD_eq_getElem?_getD, List.getElem?_eq_none (by rw [List.length_map]; exact h'), List.getD_eq_getElem?_getD (l := l), List.getElem?_eq_none h']; rfl
/-- rows of columns of rows -/
theorem rows_cols {rows : List Tx} {n : Nat} (hl : ∀ x ∈ rows, x.length = n) (h0 : rows ≠ []) : rowsM (colsM rows) rows.length = rows := by
  have hn : (rows.getD 0 []).length = n := hl _ (getD_mem h0)
  unfold rowsM colsM
  rw [hn]
  refine Eq.trans (List.map_congr_left fun y hy => ?_) (range_getD rows [])
  have hy' := List.mem_range.mp hy
  have hr : (rows.getD y []).length = n := hl _ (getD_in hy')
  rw [List.map_map, ← hr]
  refine Eq.trans (List.map_congr_left fun a _ => ?_) (range_getD (rows.getD y []) 0)
  show (rows.map fun r => r.getD a 0).getD y 0 = (rows.getD y []).getD a 0
  exact getD_map0 rows a y
/-- columns of rows of columns -/
theorem cols_rows {X : List Tx} {h : Nat} (hl : ∀ c ∈ X, c.length = h) (h0 : 0 < h) : colsM (rowsM X h) = X := by
  have e0 : (rowsM X h).getD 0 [] = X.map fun c => c.getD 0 0 := by
    unfold rowsM
    exact getD_range_map h0 []
  unfold colsM
  rw [e0, List.length_map]
  refine Eq.trans (List.map_congr_left fun a ha => ?_) (range_getD X [])
  have ha' := List.mem_range.mp ha
  have hx : (X.getD a []).length = h := hl _ (getD_in ha')
  unfold rowsM
  rw [List.map_map, ← hx]
  refine Eq.trans (List.map_congr_left fun y _ => ?_) (range_getD (X.getD a []) 0)
  exact getD_map0 X y a
theorem rowsM_len (X : List Tx) (h : Nat) : (rowsM X h).length = h := by unfold rowsM; rw [List.length_map, List.length_range]
theorem rowsM_each (X : List Tx) (h : Nat) : ∀ x ∈ rowsM X h, x.length = X.length := by
  intro x hx
  obtain ⟨y, _, rfl⟩ := List.mem_map.mp hx
  exact List.length_map ..
theorem rowsM_in {X : List Tx} {h : Nat} {S : Tx} (hl : ∀ c ∈ X, c.length = h ∧ ∀ a ∈ c, a ∈ S) : ∀ x ∈ rowsM X h, ∀ a ∈ x, a ∈ S := by
  intro x hx a ha
  obtain ⟨y, hy, rfl⟩ := List.mem_map.mp hx
  obtain ⟨c, hc, rfl⟩ := List.mem_map.mp ha
  obtain ⟨h1, h2⟩ := hl c hc
  have hy' := List.mem_range.mp hy
  exact h2 _ (List.mem_of_getElem? (at_getD (by omega) 0))
/-! ### forebears -/
section
variable {r : Rl} {edge h k k' : Nat} {cols : List Tx}
theorem mem_behind {L : List Tx} {s t : Tx × Tx} {c : Tx} (q : t ∈ behindM r edge L s c) : t.1 = s.2 ∧ r.mid edge s.1 s.2 t.2 = c ∧ t.2 ∈ L := by
  obtain ⟨x, hx, rfl⟩ := List.mem_map.mp q
  obtain ⟨h1, h2⟩ := List.mem_filter.mp hx
  exact ⟨rfl, of_decide_eq_true h2, h1⟩
theorem seq_next (hk : k < manyM r edge (lettersM r h) cols) {i : Nat} (hi : i < cols.length) : (seqM r edge (lettersM r h) cols k (i + 1)).1 ∈ behindM r edge (lettersM r h) (seqM r edge (lettersM r h) cols k i).1 (cols.getD i []) ∧ (seqM r edge (lettersM r h) cols k i).2 < ((behindM r edge (lettersM r h) (seqM r edge (lettersM r h) cols k i).1 (cols.getD i [])).map (getT (tabAt r edge (lettersM r h) cols (i + 1)))).sum := by
  obtain ⟨h1, h2⟩ := seq_ok hk i (by omega)
  have hc : cols[i]? = some (cols.getD i []) := at_getD hi []
  rw [tabAt_step hc, getT_next (states_nodup r h) h1] at h2
  exact ⟨(pick_ok h2).1, h2⟩
theorem found_len : (foundM r edge (lettersM r h) cols k).length = cols.length + 2 := by
  unfold foundM
  rw [List.length_cons, List.length_map, List.length_range]
theorem found_get (hk : k < manyM r edge (lettersM r h) cols) : ∀ i, i ≤ cols.length → (foundM r edge (lettersM r h) cols k).getD i [] = (seqM r edge (lettersM r h) cols k i).1.1 ∧ (foundM r edge (lettersM r h) cols k).getD (i + 1) [] = (seqM r edge (lettersM r h) cols k i).1.2 := by
  have hs : ∀ i, i ≤ cols.length → (foundM r edge (lettersM r h) cols k).getD (i + 1) [] = (seqM r edge (lettersM r h) cols k i).1.2 := fun i hi => by
    unfold foundM
    show ((List.range (cols.length + 1)).map fun i => (seqM r edge (lettersM r h) cols k i).1.2).getD i [] = _
    exact getD_range_map (by omega) []
  intro i hi
  refine ⟨?_, hs i hi⟩
  cases i with
  | zero => rfl
  | succ i =>
    rw [hs i (by omega)]
    exact (mem_behind (seq_next hk (by omega)).1).1.symm
theorem found_mids (hk : k < manyM r edge (lettersM r h) cols) : midsM r edge (foundM r edge (lettersM r h) cols k) = cols := by
  unfold midsM
  rw [found_len]
  show (List.range cols.length).map _ = cols
  refine Eq.trans (List.map_congr_left fun i hi => ?_) (range_getD cols [])
  have hi' := List.mem_range.mp hi
  obtain ⟨e1, e2⟩ := found_get hk i (by omega)
  obtain ⟨e3, e4⟩ := found_get hk (i + 1) (by omega)
  obtain ⟨b1, b2, _⟩ := mem_behind (seq_next hk hi').1
  rw [e1, e2, e4]
  exact b2
theorem pick_inj {g : Tx × Tx → Nat} : ∀ {l : List (Tx × Tx)} {a b : Nat}, l.Nodup → a < (l.map g).sum → b < (l.map g).sum → pickM g l a = pickM g l b → a = b
  | [], a, b, _, ha, _, _ => absurd ha (Nat.not_lt_zero _)
  | s :: l, a, b, nd, ha, hb, e => by
    obtain ⟨n1, n2⟩ := List.nodup_cons.mp nd
    rw [List.map_cons, List.sum_cons] at ha hb
    unfold pickM at e
    by_cases qa : a < g s
    · rw [if_pos qa] at e
      by_cases qb : b < g s
      · rw [if_pos qb] at e
        exact congrArg Prod.snd e
      · rw [if_neg qb] at e
        have := (pick_ok (g := g) (l := l) (n := b - g s) (by omega)).1
        rw [← e] at this
        exact absurd this n1
    · rw [if_neg qa] at e
      by_cases qb : b < g s
      · rw [if_pos qb] at e
        have := (pick_ok (g := g) (l := l) (n := a - g s) (by omega)).1
        rw [e] at this
        exact absurd this n1
      · rw [if_neg qb] at e
        have := pick_inj n2 (a := a - g s) (b := b - g s) (by omega) (by omega) e
        omega
theorem behind_nodup {L : List Tx} {s : Tx × Tx} {c : Tx} (hL : L.Nodup) : (behindM r edge L s c).Nodup := by
  unfold behindM
  refine List.Pairwise.map _ ?_ (List.Pairwise.sublist List.filter_sublist hL)
  intro a b hab e
  exact hab (congrArg Prod.snd e)
theorem found_inj (hk : k < manyM r edge (lettersM r h) cols) (hk' : k' < manyM r edge (lettersM r h) cols) (e : foundM r edge (lettersM r h) cols k = foundM r edge (lettersM r h) cols k') : k = k' := by
  have st : ∀ i, i ≤ cols.length → (seqM r edge (lettersM r h) cols k i).1 = (seqM r edge (lettersM r h) cols k' i).1 := fun i hi => by
    obtain ⟨a1, a2⟩ := found_get hk i hi
    obtain ⟨b1, b2⟩ := found_get hk' i hi
    rw [e] at a1 a2
    exact Prod.ext (a1.symm.trans b1) (a2.symm.trans b2)
  have lf : ∀ j, j ≤ cols.length → (seqM r edge (lettersM r h) cols k (cols.length - j)).2 = (seqM r edge (lettersM r h) cols k' (cols.length - j)).2 := by
    intro j
    induction j with
    | zero =>
      intro _
      obtain ⟨a1, a2⟩ := seq_ok hk cols.length (Nat.le_refl _)
      obtain ⟨b1, b2⟩ := seq_ok hk' cols.length (Nat.le_refl _)
      rw [tabAt_end, getT_ones a1] at a2
      rw [tabAt_end, getT_ones b1] at b2
      rw [Nat.sub_zero]
      omega
    | succ j ih =>
      intro hj
      have ih' := ih (by omega)
      have hi : cols.length - (j + 1) < cols.length := by omega
      have es : cols.length - j = (cols.length - (j + 1)) + 1 := by omega
      rw [es] at ih'
      have s1 := st (cols.length - (j + 1)) (by omega)
      have s2 := st ((cols.length - (j + 1)) + 1) (by omega)
      have n1 := (seq_next hk hi).2
      have n2 := (seq_next hk' hi).2
      rw [← s1] at n2
      refine pick_inj (behind_nodup (letters_nodup r h)) n1 n2 ?_
      have e1 : seqM r edge (lettersM r h) cols k ((cols.length - (j + 1)) + 1) = seqM r edge (lettersM r h) cols k' ((cols.length - (j + 1)) + 1) := Prod.ext s2 ih'
      have u1 : seqM r edge (lettersM r h) cols k ((cols.length - (j + 1)) + 1) = pickM (getT (tabAt r edge (lettersM r h) cols ((cols.length - (j + 1)) + 1))) (behindM r edge (lettersM r h) (seqM r edge (lettersM r h) cols k (cols.length - (j + 1))).1 (cols.getD (cols.length - (j + 1)) [])) (seqM r edge (lettersM r h) cols k (cols.length - (j + 1))).2 := rfl
      have u2 : seqM r edge (lettersM r h) cols k' ((cols.length - (j + 1)) + 1) = pickM (getT (tabAt r edge (lettersM r h) cols ((cols.length - (j + 1)) + 1))) (behindM r edge (lettersM r h) (seqM r edge (lettersM r h) cols k' (cols.length - (j + 1))).1 (cols.getD (cols.length - (j + 1)) [])) (seqM r edge (lettersM r h) cols k' (cols.length - (j + 1))).2 := rfl
      rw [u1, u2, ← s1] at e1
      exact e1
  have l0 := lf cols.length (Nat.le_refl _)
  rw [Nat.sub_self] at l0
  have e0 : seqM r edge (lettersM r h) cols k 0 = seqM r edge (lettersM r h) cols k' 0 := Prod.ext (st 0 (Nat.zero_le _)) l0
  have h0 : manyM r edge (lettersM r h) cols = totM (tabAt r edge (lettersM r h) cols 0) := rfl
  rw [h0, tot_at r edge h cols (Nat.zero_le _)] at hk hk'
  exact pick_inj (states_nodup r h) hk hk' e0
end
/-! ### a picture and its forebear -/
/-- the forebear of that number -/
def elderM (r : Rl) (edge : Nat) (rows : List Tx) (k : Nat) : List Tx := rowsM (foundM r edge (lettersM r rows.length) (colsM rows) k) rows.length
section
variable {r : Rl} {edge n k k' : Nat} {rows : List Tx}
theorem elder_each (z : Zok r edge rows.length) (hk : k < manyM r edge (lettersM r rows.length) (colsM rows)) : ∀ c ∈ foundM r edge (lettersM r rows.length) (colsM rows) k, c.length = rows.length ∧ ∀ a ∈ c, a ∈ r.signs := fun c hc => wordsM_each _ _ c (found_each hk c hc)
theorem elder_cols (z : Zok r edge rows.length) (hk : k < manyM r edge (lettersM r rows.length) (colsM rows)) : colsM (elderM r edge rows k) = foundM r edge (lettersM r rows.length) (colsM rows) k := cols_rows (fun c hc => (elder_each z hk c hc).1) z.lo
theorem elder_next (z : Zok r edge rows.length) (p : PicS r rows n) (hk : k < manyM r edge (lettersM r rows.length) (colsM rows)) : nextRowsM r edge (elderM r edge rows k) = rows := by
  unfold nextRowsM
  rw [elder_cols z hk, found_mids hk]
  unfold elderM
  rw [rowsM_len]
  exact rows_cols p.pic.len p.pic.some
theorem elder_inj (z : Zok r edge rows.length) (hk : k < manyM r edge (lettersM r rows.length) (colsM rows)) (hk' : k' < manyM r edge (lettersM r rows.length) (colsM rows)) (e : elderM r edge rows k = elderM r edge rows k') : k = k' := by
  have := congrArg colsM e
  rw [elder_cols z hk, elder_cols z hk'] at this
  exact found_inj hk hk' this
theorem elder_pic (z : Zok r edge rows.length) (p : PicS r rows n) (hw : n ≤ 900) (hk : k < manyM r edge (lettersM r rows.length) (colsM rows)) : PicS r (elderM r edge rows k) (n + 2) := by
  have hl : (elderM r edge rows k).length = rows.length := rowsM_len _ _
  refine ⟨⟨fun e => ?_, by rw [hl]; exact p.pic.few, fun x hx => ?_, by omega⟩, by rw [hl]; exact p.low, rowsM_in (elder_each z hk)⟩
  · rw [e] at hl
    have := z.lo
    rw [← hl] at this
    exact absurd this (by decide)
  · rw [rowsM_each _ _ x hx, found_len, colsM_len p.pic]
end
/-! ### where none are -/
theorem le_sum_of : ∀ {l : List Nat} {x : Nat}, x ∈ l → x ≤ l.sum
  | a :: l, x, h => by
    rw [List.sum_cons]
    rcases List.mem_cons.mp h with e | h
    · omega
    · have := le_sum_of h
      omega
theorem cur_many {r : Rl} {edge h : Nat} {cols : List Tx} : ∀ i, i ≤ cols.length → ∀ s ∈ curM r edge (lettersM r h) cols i, 0 < getT (tabAt r edge (lettersM r h) cols i) s → 0 < manyM r edge (lettersM r h) cols
  | 0, _, s, hs, hp => by
    have h0 : manyM r edge (lettersM r h) cols = totM (tabAt r edge (lettersM r h) cols 0) := rfl
    rw [h0, tot_at r edge h cols (Nat.zero_le _)]
    exact Nat.lt_of_lt_of_le hp (le_sum_of (List.mem_map_of_mem hs))
  | i + 1, hi, s, hs, hp => by
    have hc : cols[i]? = some (cols.getD i []) := at_getD (by omega) []
    obtain ⟨s', h1, h2⟩ := (setM_mem (cur_sub r edge (lettersM r h) cols i)).mp hs
    refine cur_many i (by omega) s' h1 ?_
    rw [tabAt_step hc, getT_next (states_nodup r h) (cur_sub r edge (lettersM r h) cols i s' h1)]
    exact Nat.lt_of_lt_of_le hp (le_sum_of (List.mem_map_of_mem h2))
theorem none_of_many {r : Rl} {edge h : Nat} {cols : List Tx} (h0 : 0 < cols.length) (hm : manyM r edge (lettersM r h) cols = 0) : ∃ l, noneM r edge (lettersM r h) cols = some l := by
  unfold noneM
  cases e : (List.range cols.length).find? fun i => (curM r edge (lettersM r h) cols (i + 1)).isEmpty with
  | some i => exact ⟨_, rfl⟩
  | none =>
    rw [List.find?_eq_none] at e
    have := e (cols.length - 1) (List.mem_range.mpr (by omega))
    have el : cols.length - 1 + 1 = cols.length := by omega
    rw [el] at this
    obtain ⟨s, hs⟩ : ∃ s, s ∈ curM r edge (lettersM r h) cols cols.length := by
      cases q : curM r edge (lettersM r h) cols cols.length with
      | nil => rw [q] at this; exact absurd rfl this
      | cons a l => exact ⟨a, List.mem_cons_self⟩
    have := cur_many (r := r) (edge := edge) (h := h) (cols := cols) cols.length (Nat.le_refl _) s hs (by
      rw [tabAt_end, getT_ones (cur_sub r edge (lettersM r h) cols cols.length s hs)]; decide)
    omega
/-! ### what a picture becomes is one of the rule's signs -/
theorem fate_in {r : Rl} (ok : r.ok) {own : Nat} {around : Tx} (h : own ∈ r.signs) : r.fate own around ∈ r.signs := by
  unfold Rl.fate
  split
  · rename_i q e
    exact (ok.rows q (List.mem_of_find?_eq_some e)).sign
  · exact h
theorem cols_in {r : Rl} {n : Nat} {rows : List Tx} (p : PicS r rows n) : ∀ c ∈ colsM rows, ∀ a ∈ c, a ∈ r.signs := by
  intro c hc a ha
  obtain ⟨j, hj, rfl⟩ := List.mem_map.mp hc
  obtain ⟨row, hr, rfl⟩ := List.mem_map.mp ha
  have hj' := List.mem_range.mp hj
  have h0 : (rows.getD 0 []).length = n := p.pic.len _ (getD_mem p.pic.some)
  have hrl := p.pic.len row hr
  exact p.signs row hr _ (List.mem_of_getElem? (at_getD (by omega) 0))
theorem next_pic {r : Rl} {edge n : Nat} {rows : List Tx} (ok : r.ok) (p : PicS r rows (n + 2)) (hw : n + 2 ≤ 1000) : PicS r (nextRowsM r edge rows) n ∧ (nextRowsM r edge rows).length = rows.length := by
  have hl : (nextRowsM r edge rows).length = rows.length := rowsM_len _ _
  have hc : (colsM rows).length = n + 2 := colsM_len p.pic
  have hm : (midsM r edge (colsM rows)).length = n := by
    unfold midsM
    rw [List.length_map, List.length_range, hc]; omega
  refine ⟨⟨⟨fun e => ?_, by rw [hl]; exact p.pic.few, fun x hx => ?_, by omega⟩, by rw [hl]; exact p.low, rowsM_in fun c hcm => ?_⟩, hl⟩
  · rw [e] at hl
    exact p.pic.some (List.length_eq_zero_iff.mp hl.symm)
  · rw [rowsM_each _ _ x hx, hm]
  · obtain ⟨i, hi, rfl⟩ := List.mem_map.mp hcm
    have hi' := List.mem_range.mp hi
    have hi2 : i + 1 < (colsM rows).length := by omega
    have l2 : ((colsM rows).getD (i + 1) []).length = rows.length := colsM_each p.pic _ (getD_in hi2)
    refine ⟨by rw [mid_len, l2], fun a ha => ?_⟩
    obtain ⟨y, hy, rfl⟩ := List.mem_map.mp ha
    refine fate_in ok ?_
    have hy' := List.mem_range.mp hy
    have hmem := List.mem_of_getElem? (at_getD hy' 0)
    exact cols_in p _ (getD_in hi2) _ hmem
end K70
/-! repr of texts of signs: its length, and unlike lists have unlike ones. -/
namespace K70
open PySem
theorem rc_sg : ∀ c ∈ sg, Builtin.Str.reprChar 39 c = [c] := by decide +kernel
theorem cps_app (a b : Str) : (a ++ b).cps.toList = a.cps.toList ++ b.cps.toList := by
  show (a.cps ++ b.cps).toList = _
  rw [Array.toList_append]
theorem fold_repr : ∀ (l : List Nat) (acc : Array Nat), (∀ c ∈ l, c ∈ sg) → (l.foldl (fun out c => out ++ (Builtin.Str.reprChar 39 c).toArray) acc).toList = acc.toList ++ l
  | [], acc, _ => (List.append_nil _).symm
  | c :: l, acc, h => by
    rw [List.foldl_cons, fold_repr l _ fun x hx => h x (List.mem_cons_of_mem _ hx), Array.toList_append, rc_sg c (h c List.mem_cons_self), List.append_assoc]; rfl
theorem repr_cps {x : Tx} (h : ∀ c ∈ x, c ∈ sg) : (reprText (tx x)).cps.toList = 39 :: x ++ [39] := by
  have hq : reprQuote (tx x) = 39 := by
    unfold reprQuote
    have : (tx x).cps.contains 39 = false := by
      rw [Bool.eq_false_iff]
      intro z
      have z2 : (39 : Nat) ∈ x := by simpa [tx] using z
      exact absurd (h 39 z2) (by decide +kernel)
    rw [this]; rfl
  unfold reprText
  rw [hq, Array.toList_push, ← Array.foldl_toList]
  have e : (tx x).cps.toList = x := tx_list x
  rw [e, fold_repr x _ h]; rfl
theorem repr_len {x : Tx} (h : ∀ c ∈ x, c ∈ sg) : (reprText (tx x)).cps.toList.length = x.length + 2 := by
  rw [repr_cps h, List.length_append, List.length_cons]; rfl
theorem from_cps (n : Nat) : ∀ (ts us : List Tx) (k : Nat) (a b : Str), (∀ x ∈ ts, x.length = n ∧ ∀ c ∈ x, c ∈ sg) → (∀ x ∈ us, x.length = n ∧ ∀ c ∈ x, c ∈ sg) → ts.length = us.length → a.cps.toList.length = b.cps.toList.length →
    textFrom k a (ts.map fun x => reprText (tx x)) = textFrom k b (us.map fun x => reprText (tx x)) → a = b ∧ ts = us
  | [], [], _, _, _, _, _, _, _, e => ⟨e, rfl⟩
  | [], _ :: _, _, _, _, _, _, h, _, _ => nomatch h
  | _ :: _, [], _, _, _, _, _, h, _, _ => nomatch h
  | x :: ts, y :: us, k, a, b, ht, hu, hl, hab, e => by
    obtain ⟨x1, x2⟩ := ht x List.mem_cons_self
    obtain ⟨y1, y2⟩ := hu y List.mem_cons_self
    have e' : textFrom (k + 1) (a ++ (if k > 0 then ", " else "" : String) ++ reprText (tx x)) (ts.map fun x => reprText (tx x)) = textFrom (k + 1) (b ++ (if k > 0 then ", " else "" : String) ++ reprText (tx y)) (us.map fun x => reprText (tx x)) := e
    obtain ⟨h1, h2⟩ := from_cps n ts us (k + 1) _ _ (fun z hz => ht z (List.mem_cons_of_mem _ hz)) (fun z hz => hu z (List.mem_cons_of_mem _ hz)) (Nat.succ.inj hl) (by
      rw [cps_app, cps_app, cps_app, cps_app, List.length_append, List.length_append, List.length_append, List.length_append, repr_len x2, repr_len y2, hab, x1, y1]) e'
    have h3 := congrArg (fun s : Str => s.cps.toList) h1
    rw [cps_app, cps_app, cps_app, cps_app, List.append_assoc, List.append_assoc] at h3
    obtain ⟨h4, h5⟩ := List.append_inj h3 hab
    have h6 := List.append_cancel_left h5
    rw [repr_cps x2, repr_cps y2] at h6
    have h7 : x ++ [39] = y ++ [39] := (List.cons.inj h6).2
    have h8 := List.append_cancel_right h7
    refine ⟨?_, by rw [h8, h2]⟩
    cases a; cases b
    have h9 := congrArg List.toArray h4
    simpa using h9
theorem txR_inj {ts us : List Tx} {n : Nat} (ht : ∀ x ∈ ts, x.length = n ∧ ∀ c ∈ x, c ∈ sg) (hu : ∀ x ∈ us, x.length = n ∧ ∀ c ∈ x, c ∈ sg) (hl : ts.length = us.length) (e : (txR ts).cps.toList = (txR us).cps.toList) : ts = us := by
  rw [txR_eq, txR_eq] at e
  unfold listText at e
  rw [cps_app, cps_app] at e
  have e2 := List.append_cancel_right e
  have e3 : textFrom 0 "[" (ts.map fun x => reprText (tx x)) = textFrom 0 "[" (us.map fun x => reprText (tx x)) := by
    generalize textFrom 0 "[" (ts.map fun x => reprText (tx x)) = A at e2
    generalize textFrom 0 "[" (us.map fun x => reprText (tx x)) = B at e2
    cases A; cases B
    have h9 := congrArg List.toArray e2
    simpa using h9
  exact (from_cps n ts us 0 _ _ ht hu hl rfl e3).2
theorem txR_len {ts : List Tx} {n : Nat} (ht : ∀ x ∈ ts, x.length = n ∧ ∀ c ∈ x, c ∈ sg) (hn : n ≤ 1000) (hl : ts.length ≤ 1000) : (txR ts).length ≤ sizeLine := by
  have piles : ∀ l : List Tx, (∀ x ∈ l, x.length = n ∧ ∀ c ∈ x, c ∈ sg) → piled (l.map fun x => reprText (tx x)) = l.length * (n + 4) := by
    intro l
    induction l with
    | nil => intro _; simp [piled]
    | cons x l ih =>
      intro h
      obtain ⟨x1, x2⟩ := h x List.mem_cons_self
      rw [List.map_cons, piled_cons, ih fun z hz => h z (List.mem_cons_of_mem _ hz), List.length_cons, Nat.succ_mul]
      have : (reprText (tx x)).length = n + 2 := by
        have := repr_len x2
        rw [Array.length_toList, x1] at this
        exact this
      rw [this]; omega
  rw [txR_eq]
  cases ts with
  | nil =>
    show (2 : Nat) ≤ sizeLine
    rw [sizeLine_eq]; omega
  | cons x l =>
    have hp := piles (x :: l) ht
    have h := textFrom_length_pos (l.map fun x => reprText (tx x)) 1 (("[" : Str) ++ (if (0 : Nat) > 0 then ", " else "" : String) ++ reprText (tx x)) (Nat.succ_pos 0)
    have e1 : (("[" : Str) ++ (if (0 : Nat) > 0 then ", " else "" : String) ++ reprText (tx x)).length = 1 + (reprText (tx x)).length := by
      rw [strLen_append, strLen_append]; rfl
    have e2 : (listText ((x :: l).map fun x => reprText (tx x))).length = (textFrom 1 (("[" : Str) ++ (if (0 : Nat) > 0 then ", " else "" : String) ++ reprText (tx x)) (l.map fun x => reprText (tx x))).length + 1 := by
      show (textFrom 0 "[" ((x :: l).map fun x => reprText (tx x)) ++ "]").length = _
      rw [strLen_append]; rfl
    rw [List.map_cons, piled_cons] at hp
    rw [e2, h, e1, sizeLine_eq]
    have hm : (x :: l).length * (n + 4) ≤ 1000 * 1004 := Nat.mul_le_mul hl (by omega)
    omega
end K70
set_option maxHeartbeats 4000000
/-! The law is called by the claim itself: nothing is shown (no repr runs) when it is entered. -/
namespace K70
open PySem PySem.Spec PyProof.Rows L2
/-- what the law's def does when the claim calls it -/
def RunsG (P : Program) (w : World) (K : PySem.W.Frag) (mg : Str → Option Value) (base : Heap) (f : Addr) (fd : FuncData) (ps : List Str) (sp : Sp) : Prop :=
  ∀ (s : Shared) (H : Hp) (us : List Value) (vs : List V) (Q : VK) (E : XK), Env0 P w K mg base callerA [] s H → BindsTo s fd ⟨us, []⟩ (ps.zip us) → Vals vs us → sp vs H Q E →
    codeAny (model P w) callerA (.call (.ref f) ⟨us, []⟩) (CR CX0 [] P w H s Q E) s
section
variable {P : Program} {w : World} {K : PySem.W.Frag} {mg : Str → Option Value} {base : Heap} {x qual : Str} {params : Arguments} {code : List Stmt} {scope : Scope} {f : Addr} {fd : FuncData}
theorem runs_of {N ps : List Str} {k : Nat} {sp : Sp} (F : FunD K x qual params code scope [] [] f fd) (S : FnScope N ps scope) (hr : Room (k + 1) callerA) (hlen : ∀ vs H Q E, sp vs H Q E → vs.length = ps.length)
    (hb : ∀ (cdv : Value) (A : Around) (s : Shared) (H : Hp) (vs : List V) (Q : VK) (E : XK), A.guards = some [] → Room k (A.deeper (envOfC qual scope s.heap.objs.size f cdv)) → sp vs H Q E →
      ∃ t, PSs (cxOf CX0 P w K mg base N qual scope f cdv A [] s H E) code t ∧ t { nx := fun _ H' => Q .non H', rt := Q } (start N vs) H) : RunsG P w K mg base f fd ps sp := by
  obtain ⟨_, _, _, _, _, _, _, cdv, _, _, rfl, atK, isC, _, _⟩ := F.ex
  intro s H us vs Q E en bt rel told
  have kept : ∀ b o, base.get? b = some o → s.heap.get? b = some o := fun b o q => (en.bs b o q).1
  have inK : K.In s.heap := en.mod.kin.keeps kept
  have many := hlen vs H Q E told
  have params_in : ∀ y ∈ ps.zip us, scope.names.lookup y.1 = some .local ∨ scope.names.lookup y.1 = some .cell ∧ ((cellsFrom (s.heap.objs.size + 1) scope.names []).lookup y.1).isSome = true := by
    rintro ⟨y, u⟩ hy
    exact (S.par y (List.of_mem_zip hy).1).imp id fun c => ⟨c, PySem.W.cellsFrom_some _ _ _ (.inl c)⟩
  refine codeAny_call_function hr.depth (inK _ _ atK) rfl S.co S.gen rfl (PySem.W.codeRec_of inK isC) (bt _ _ _ _ (wpAny_newFunctionEnv_cells S.kind params_in fun en1 q1 s1 made => ?_))
  subst q1
  refine ⟨(en.mod.nolimit.keeps kept).keeps made.toInCall.keep, codeAny_func ?_⟩
  obtain ⟨t, run, holds⟩ := hb cdv callerA s H vs Q E rfl (hr.deeper _) told
  have inv := inv_start (CX := CX0) (E := E) S hr.hd en many rel made
  refine wpAny_mono (run.run [] s1 (start N vs) H _ inv holds) (fun flow s2 ends => ?_) fun _ _ out => out
  have back : ∀ σ2 H2 v u, Inv (cxOf CX0 P w K mg base N qual scope f cdv callerA [] s H E) [] σ2 H2 s2 → RelV v u → Q v H2 → CE [] P w H s Q u s2 :=
    fun _ H2 v _ J is q => ⟨v, H2, J.os, J.bare, J.base, J.hok, is, q⟩
  match flow, ends with
  | .ret u, ⟨v, σ2, H2, J, is, q⟩ => exact back σ2 H2 v u J is q
  | .next, ⟨σ2, H2, J, q⟩ => exact back σ2 H2 .non .none J rfl q
  | .brk, ⟨_, _, _, q⟩ => exact q.elim
  | .cont, ⟨_, _, _, q⟩ => exact q.elim
end
/-- the script's object -/
abbrev scrO (vs : List Value) : Obj := { cls := .type "list", data := .seq vs.toArray }
section
variable {P : Program} {w : World} {K : PySem.W.Frag} {mg mb : Str → Option Value} {fa a : Addr} {fd : FuncData} {x : Str} {sp : Sp} {s : Shared} {vs : List Value} {ns : List Int}
/-- T: what is tracked, the script or nothing -/
theorem from_T (inK : K.In s.heap) (gl : s.heap.Ns mainGlobals mg) (bl : s.heap.Ns builtinsNs mb) (bb : ∀ y : Str, y ≠ "__name__" → mb y = bootBuiltins y) (nl : s.heap.NoLimit) (ng : s.gens = #[]) (ha : s.heap.get? a = some (scrO vs))
    (F : ∀ base : Heap, K.In base → base.Ns mainGlobals mg → RunsG P w K mg base fa fd [x] sp) (bd : ∀ (s : Shared) (u : Value), BindsTo s fd ⟨[u], []⟩ [(x, u)])
    {T : Hp} (okT : HOk P w T s.heap) (only : Only T) (oneT : ∀ b u, T b = some u → b = a ∧ K.lookup a = none) (go : sp [.ref a] T (fun v _ => v = .bl true) fun _ _ _ => False) :
    codeAny (model P w) callerA (.call (.ref fa) ⟨[.ref a], []⟩) (fun r s' => r = .ok (.ret (.bool true)) ∧ OldK s.heap s'.heap ∧ s'.os = s.os ∧ AllBare s'.gens) s := by
  have free_dict : ∀ (b : Addr) (o : Obj) (es : Array DictEntry) (ep : Nat), s.heap.get? b = some o → o.data = .dict es ep → T b = none := fun b o es ep q d => by
    match e : T b with
    | none => rfl
    | some u =>
      obtain ⟨rfl, _⟩ := oneT b u e
      obtain rfl := Option.some.inj (ha.symm.trans q)
      exact nomatch d
  have nsT : ∀ (b : Addr) (mm : Str → Option Value), s.heap.Ns b mm → (hidT s.heap T).Ns b mm := fun b mm ⟨o, es, ep, q, d, r⟩ => ⟨o, es, ep, hidT_get q (free_dict b o es ep q d), d, r⟩
  have inT : K.In (hidT s.heap T) := fun b o q => hidT_get (inK b o q) (by
    match e : T b with
    | none => rfl
    | some u =>
      obtain ⟨rfl, z⟩ := oneT b u e
      exact nomatch z.symm.trans q)
  have noLim : (hidT s.heap T).NoLimit := by
    obtain ⟨ml, n1, n2⟩ := nl
    exact ⟨ml, nsT _ _ n1, n2⟩
  have en : Env0 P w K mg (hidT s.heap T) callerA [] s T := {
    frames := rfl
    mod := ⟨inT, nsT _ _ gl, ⟨mb, nsT _ _ bl, bb⟩, noLim⟩
    bs := fun _ _ q => of_hidT q
    bsz := by rw [hidT_size]; exact Nat.le_refl _
    funs := trivial
    frf := fun b hb => nomatch hb
    hok := okT
    bare := .of_eq ng }
  refine codeAny_mono (F (hidT s.heap T) inT (nsT _ _ gl) s T [.ref a] [.ref a] _ _ en (bd s (.ref a)) (.cons rfl .nil) go) fun r s' done => ?_
  match r, done with
  | .error _, z => exact False.elim z
  | .ok .next, z => exact False.elim z
  | .ok .brk, z => exact False.elim z
  | .ok .cont, z => exact False.elim z
  | .ok (.ret u), ⟨v, T', os, bare, un, ok', is, q⟩ =>
    obtain rfl : v = .bl true := q
    obtain rfl : u = Value.bool true := is
    refine ⟨rfl, OldK.of_keep fun b o q => ?_, os, bare⟩
    match e : T b with
    | none => exact un.keep b o q e (fun z => nomatch z) (fun z => nomatch z)
    | some u =>
      rcases only b with z | ⟨ob, xs, z⟩
      · exact nomatch z.symm.trans e
      · have before := (okT b _ z).1
        obtain rfl := Option.some.inj (before.symm.trans q)
        exact (ok' b _ (un.frzs b ob _ z)).1
theorem call_G (inK : K.In s.heap) (gl : s.heap.Ns mainGlobals mg) (bl : s.heap.Ns builtinsNs mb) (bb : ∀ y : Str, y ≠ "__name__" → mb y = bootBuiltins y) (nl : s.heap.NoLimit) (ng : s.gens = #[]) (ha : s.heap.get? a = some (scrO vs)) (hi : IntsAre vs ns) (hl : ns.length ≤ sizeLine)
    (F : ∀ base : Heap, K.In base → base.Ns mainGlobals mg → RunsG P w K mg base fa fd [x] sp) (bd : ∀ (s : Shared) (u : Value), BindsTo s fd ⟨[u], []⟩ [(x, u)])
    (go : ∀ T : Hp, Only T → SqL K T a (ns.map V.int) → sp [.ref a] T (fun v _ => v = .bl true) fun _ _ _ => False) :
    codeAny (model P w) callerA (.call (.ref fa) ⟨[.ref a], []⟩) (fun r s' => r = .ok (.ret (.bool true)) ∧ OldK s.heap s'.heap ∧ s'.os = s.os ∧ AllBare s'.gens) s := by
  have rel := vals_ints hi
  match known : K.lookup a with
  | some o =>
    obtain rfl := Option.some.inj (ha.symm.trans (inK a o known))
    have sq : SqL K (fun _ => none) a (ns.map V.int) := .inr ⟨_, vs.toArray, _, known, rfl, rfl, rfl, by rw [List.size_toArray, hi.length]; exact hl, by simpa using rel⟩
    exact from_T inK gl bl bb nl ng ha F bd (T := fun _ => none) (fun _ _ z => nomatch z) (fun _ => .inl rfl) (fun _ _ z => nomatch z) (go _ (fun _ => .inl rfl) sq)
  | none =>
    have self : upd (fun _ => none) a (.frz (scrO vs) (.lst (ns.map V.int))) a = some (.frz (scrO vs) (.lst (ns.map V.int))) := upd_same
    have one : ∀ b u, upd (fun _ => none) a (.frz (scrO vs) (.lst (ns.map V.int))) b = some u → b = a := fun b u z => by
      by_cases e : b = a
      · exact e
      · rw [upd_ne e] at z; exact nomatch z
    have only : Only (upd (fun _ => none) a (.frz (scrO vs) (.lst (ns.map V.int)))) := fun b => by
      by_cases e : b = a
      · subst e; exact .inr ⟨_, _, self⟩
      · exact .inl (upd_ne e)
    refine from_T inK gl bl bb nl ng ha F bd (T := upd (fun _ => none) a (.frz (scrO vs) (.lst (ns.map V.int)))) (fun b u z => ?_) only (fun b u z => ⟨one b u z, known⟩) (go _ only (.inl (.inr ⟨_, self⟩)))
    obtain rfl := one b u z
    obtain rfl := Option.some.inj (self.symm.trans z)
    exact ⟨ha, by rw [List.length_map]; exact hl, vs, _, rel, ha⟩
end
/-- the law over a head by facts -/
theorem walk_G {l : PySem.W.OpenLaw} {n : Nat} {q : Program} {loose : List Str} {XP : (Str → Option Value) → Heap → Prop} {YP : World → Heap → Prop} {d : DefRec} {x : Str}
    (most : l.most = some n) (few : n ≤ sizeLine) (plain : d.params.defaults = [])
    (F : ∀ (w : World) (mg : Str → Option Value) (fa : Addr) (h : Heap), YP w h → h.Ns mainGlobals mg → mg d.name = some (.ref fa) →
      ∃ (K : PySem.W.Frag) (fd : FuncData) (sp : Sp), K.In h ∧ (∀ (s : Shared) (u : Value), BindsTo s fd ⟨[u], []⟩ [(x, u)]) ∧
        (∀ (T : Hp) (a : Addr) (ns : List Int), ns.length ≤ n → Only T → SqL K T a (ns.map V.int) → sp [.ref a] T (fun v _ => v = .bl true) fun _ _ _ => False) ∧
        ∀ base : Heap, K.In base → base.Ns mainGlobals mg → RunsG l.prog w K mg base fa fd [x] sp) :
    PySem.W.WalkO q loose XP YP l.row.toRowW d [] (fun f vs => PySem.call f vs) := by
  refine Att.attach_call most plain fun w s0 s1 mg mb fa o pm cd doc a vs ns gr Y _ _ _ hmg hobj hints hlen ng => ?_
  obtain ⟨K, fd, sp, inK, bd, go, run⟩ := F w mg fa s1.heap Y gr.T.g hmg
  exact call_G inK gr.T.g gr.T.b gr.T.builtins gr.T.nolimit ng hobj hints (Nat.le_trans hlen few) run bd fun T o sq => go T a ns hlen o sq
end K70
namespace K70
open PySem PySem.Spec PyProof.Rows L2
/-! ### law -/
def sp_law (K : PySem.W.Frag) : Sp := fun vs H Q _ => ∃ (a : Addr) (ns : List Int), vs = [.ref a] ∧ SqL K H a (ns.map V.int) ∧ ∀ H', Q (.bl true) H'
/-- the slots, the first told -/
abbrev gaN (xs : List Dt) : Ga := xs.map some ++ List.replicate (18 - xs.length) none
/-- how many columns may be drawn -/
def mostM (n : Nat) : Nat := if n = 2 then 130 else if n = 3 then 60 else if n = 4 then 40 else 12
def mostsD : List (Key × Dt) := [(.inl 2, .int 130), (.inl 3, .int 60), (.inl 4, .int 40), (.inl 8, .int 12)]
theorem sizes_most : ∀ q ∈ sizesM, lk (mergeD [] mostsD) (.inl ((q.1 ^ q.2 : Nat) : Int)) = some (.int (mostM (q.1 ^ q.2) : Nat)) ∧ 0 < mostM (q.1 ^ q.2) ∧ mostM (q.1 ^ q.2) ≤ 130 := by
  intro q hq
  simp only [sizesM, List.mem_cons, List.not_mem_nil, or_false] at hq
  rcases hq with rfl | rfl | rfl | rfl | rfl | rfl | rfl <;> exact ⟨rfl, by decide, by decide⟩
theorem et_takeG {K : PySem.W.Frag} {p : Addr} {Γ : Ga} {E : XK} {tb tn : TE} {n : Nat} {z : Int} (hb : Ev K (bagM K p) tb Γ (.raw (.ref p))) (hn : Ev K (bagM K p) tn Γ (.int (n : Nat))) (h0 : 0 < n) (h1 : n ≤ 1000000000000000000) : EtG K (bagM K p) (tTest (tOp (rI0 fun i j => .bl (decide (j < i))) (tCall (sp_l_take K) [] E (tCons tb (tCons tn tNil))) (tC (.int z)))) Γ (fun _ => True) :=
  er_test (P := fun d => ∃ b, d = .bl b) (er_op (ev_take hb hn h0 h1) ev_int fun a b pa pb => by
    obtain ⟨v, _, rfl⟩ := pa
    subst pb
    exact rg_gt.imp fun d e => ⟨_, e⟩) fun d ⟨b, e⟩ => ⟨b, e, trivial⟩
/-- how a forebear is told -/
def keyM (r : Rl) (edge : Nat) (rows : List Tx) (n : Nat) : Tx := (txR (elderM r edge rows n)).cps.toList
theorem sg_of {r : Rl} {c : Nat} (h : c ∈ r.signs) : c ∈ sg := List.mem_of_mem_take h
theorem key_inj {r : Rl} {edge size i j : Nat} {rows : List Tx} (z : Zok r edge rows.length) (p : PicS r rows size) (hw : size ≤ 900) (hi : i < manyM r edge (lettersM r rows.length) (colsM rows)) (hj : j < manyM r edge (lettersM r rows.length) (colsM rows)) (e : keyM r edge rows i = keyM r edge rows j) : i = j := by
  have p1 := elder_pic z p hw hi
  have p2 := elder_pic z p hw hj
  refine elder_inj z hi hj (txR_inj (n := size + 2) (fun x hx => ⟨p1.pic.len x hx, fun c hc => sg_of (p1.signs x hx c hc)⟩) (fun x hx => ⟨p2.pic.len x hx, fun c hc => sg_of (p2.signs x hx c hc)⟩) ?_ e)
  unfold elderM
  rw [rowsM_len, rowsM_len]
theorem drop_int {l : List Nat} {b : Bool} : cutD (l.map fun (n : Nat) => Dt.int (n : Nat)) (some (if b then 1 else 0)) none = (l.drop (if b then 1 else 0)).map fun (n : Nat) => Dt.int (n : Nat) := by
  cases b with
  | true =>
    have h := cut_drop (n := 1) (l := l.map fun (n : Nat) => Dt.int (n : Nat))
    rw [List.map_drop]; exact h
  | false =>
    have h := cut_drop (n := 0) (l := l.map fun (n : Nat) => Dt.int (n : Nat))
    rw [List.map_drop]; exact h
theorem lens_rep {X : List Tx} {m : Nat} (h : ∀ x ∈ X, x.length = m) : (X.map fun x => Dt.int ((x.length : Nat) : Int)) = intsD (List.replicate X.length ((m : Nat) : Int)) := by
  induction X with
  | nil => rfl
  | cons x l ih =>
    rw [List.map_cons, ih fun y hy => h y (List.mem_cons_of_mem _ hy), h x List.mem_cons_self]; rfl
theorem rep_ints (n : Nat) (i : Int) : (List.replicate n [Dt.int i]).flatten = intsD (List.replicate n i) := by
  induction n with
  | zero => rfl
  | succ n ih =>
    rw [List.replicate_succ, List.flatten_cons, ih]; rfl
theorem lk_find {ds : List (Key × Dt)} {k : Key} {d : Dt} (h : lk ds k = some d) : (k, d) ∈ ds := by
  unfold lk at h
  obtain ⟨q, h1, rfl⟩ := Option.map_eq_some_iff.mp h
  have h2 : decide (q.1 = k) = true := List.find?_some (p := fun p : Key × Dt => decide (p.1 = k)) h1
  have h2 := of_decide_eq_true h2
  have h3 := List.mem_of_find?_eq_some h1
  obtain ⟨q1, q2⟩ := q
  have h2 : q1 = k := h2
  subst h2
  exact h3
abbrev N_law : List Str := ["_law_script", "_law_bag_here", "_law_plain", "_law_edge", "_law_high", "_law_rule_here", "_law_signs_here", "_law_letters_here", "_law_size", "_law_rows_here", "_law_steps_here", "_law_columns_here", "_law_many", "_law_paper", "_law_told", "_law_number", "_law_elder", "_law_row_here"]
theorem sc_law : FnScope N_law ["_law_script"] (defScope s_law) := ⟨rfl, rfl, rfl, by decide +kernel, rfl, by decide +kernel, by decide +kernel⟩
theorem ok_law {P : Program} {w : World} {K : PySem.W.Frag} {mg : Str → Option Value} {base : Heap} (T : Tp K mg)
    (o_l_bag : Okd P w K mg base 1 "_law_bag" ["_law_script"] (sp_l_bag K))
    (o_l_strip : Okd P w K mg base 6 "_law_strip" ["_law_bag_here", "_law_greatest"] (sp_l_strip K))
    (o_l_made_rule : Okd P w K mg base 8 "_law_made_rule" ["_law_rule_here"] (sp_l_made_rule K))
    (o_l_signs : Okd P w K mg base 1 "_law_signs" ["_law_many"] (sp_l_signs K))
    (o_l_letters : Okd P w K mg base 1 "_law_letters" ["_law_signs_here", "_law_high"] (sp_l_letters K))
    (o_l_take : Okd P w K mg base 1 "_law_take" ["_law_bag_here", "_law_many"] (sp_l_take K))
    (o_l_drawn : Okd P w K mg base 2 "_law_drawn" ["_law_bag_here", "_law_signs_here", "_law_high", "_law_size"] (sp_l_drawn K))
    (o_l_next_rows : Okd P w K mg base 4 "_law_next_rows" ["_law_rule_here", "_law_edge", "_law_rows_here"] (sp_l_next_rows K))
    (o_l_steps : Okd P w K mg base 4 "_law_steps" ["_law_rule_here", "_law_edge", "_law_high"] (sp_l_steps K))
    (o_l_columns : Okd P w K mg base 1 "_law_columns" ["_law_rows_here"] (sp_l_columns K))
    (o_how_many : Okd P w K mg base 8 "how_many" ["rule", "edge", "rows"] (sp_how_many K))
    (o_l_counted : Okd P w K mg base 1 "_law_counted" ["_law_steps_here", "_law_columns_here"] (sp_l_counted K))
    (o_none_of : Okd P w K mg base 8 "none_of" ["rule", "edge", "rows"] (sp_none_of K))
    (o_none_holds : Okd P w K mg base 8 "none_holds" ["rule", "edge", "rows", "paper"] (sp_none_holds K))
    (o_l_sets : Okd P w K mg base 2 "_law_sets" ["_law_steps_here", "_law_columns_here"] (sp_l_sets K))
    (o_l_numbers : Okd P w K mg base 2 "_law_numbers" ["_law_bag_here", "_law_many"] (sp_l_numbers K))
    (o_forebear : Okd P w K mg base 8 "forebear" ["rule", "edge", "rows", "number"] (sp_forebear K))
    (o_l_refused : Okd P w K mg base 9 "_law_refused" ["_law_rule_here", "_law_edge", "_law_rows_here", "_law_many"] (sp_l_refused K)) {fd : FuncData} (F : FunD K d_law.name d_law.qual d_law.params d_law.body d_law.scope [] [] (He.fAd K d_law.at_) fd) : RunsG P w K mg base (He.fAd K d_law.at_) fd ["_law_script"] (sp_law K) := by
  obtain ⟨f_l_bag, fd_l_bag, F_l_bag, g_l_bag, k_l_bag, b_l_bag⟩ := o_l_bag
  obtain ⟨f_l_strip, fd_l_strip, F_l_strip, g_l_strip, k_l_strip, b_l_strip⟩ := o_l_strip
  obtain ⟨f_l_made_rule, fd_l_made_rule, F_l_made_rule, g_l_made_rule, k_l_made_rule, b_l_made_rule⟩ := o_l_made_rule
  obtain ⟨f_l_signs, fd_l_signs, F_l_signs, g_l_signs, k_l_signs, b_l_signs⟩ := o_l_signs
  obtain ⟨f_l_letters, fd_l_letters, F_l_letters, g_l_letters, k_l_letters, b_l_letters⟩ := o_l_letters
  obtain ⟨f_l_take, fd_l_take, F_l_take, g_l_take, k_l_take, b_l_take⟩ := o_l_take
  obtain ⟨f_l_drawn, fd_l_drawn, F_l_drawn, g_l_drawn, k_l_drawn, b_l_drawn⟩ := o_l_drawn
  obtain ⟨f_l_next_rows, fd_l_next_rows, F_l_next_rows, g_l_next_rows, k_l_next_rows, b_l_next_rows⟩ := o_l_next_rows
  obtain ⟨f_l_steps, fd_l_steps, F_l_steps, g_l_steps, k_l_steps, b_l_steps⟩ := o_l_steps
  obtain ⟨f_l_columns, fd_l_columns, F_l_columns, g_l_columns, k_l_columns, b_l_columns⟩ := o_l_columns
  obtain ⟨f_how_many, fd_how_many, F_how_many, g_how_many, k_how_many, b_how_many⟩ := o_how_many
  obtain ⟨f_l_counted, fd_l_counted, F_l_counted, g_l_counted, k_l_counted, b_l_counted⟩ := o_l_counted
  obtain ⟨f_none_of, fd_none_of, F_none_of, g_none_of, k_none_of, b_none_of⟩ := o_none_of
  obtain ⟨f_none_holds, fd_none_holds, F_none_holds, g_none_holds, k_none_holds, b_none_holds⟩ := o_none_holds
  obtain ⟨f_l_sets, fd_l_sets, F_l_sets, g_l_sets, k_l_sets, b_l_sets⟩ := o_l_sets
  obtain ⟨f_l_numbers, fd_l_numbers, F_l_numbers, g_l_numbers, k_l_numbers, b_l_numbers⟩ := o_l_numbers
  obtain ⟨f_forebear, fd_forebear, F_forebear, g_forebear, k_forebear, b_forebear⟩ := o_forebear
  obtain ⟨f_l_refused, fd_l_refused, F_l_refused, g_l_refused, k_l_refused, b_l_refused⟩ := o_l_refused
  refine runs_of (k := 9) F sc_law ⟨rfl, by decide, by decide⟩ (fun vs H Q E h => by obtain ⟨a, ns, rfl, _⟩ := h; rfl) (fun cdv A s H vs Q E gA hr h => ?_)
  refine ⟨_, PSs.nox (pss_cons (ps_set (i := 1) sc_law.nd rfl (Or.inl rfl) (pe_call F_l_bag (hr.mono (by decide)) (by rfl) g_l_bag k_l_bag b_l_bag .nil pass0 (pa_cons (pv 0) pa_nil)))
    (pss_cons (ps_asg (pe_call F_l_strip (hr.mono (by decide)) (by rfl) g_l_strip k_l_strip b_l_strip .nil pass0 (pa_cons (pv 1) (pa_cons pe_int pa_nil))) (pg_tupK (K := K) (n := 3) rfl (pgs_cons (pg_name (i := 2) sc_law.nd rfl (Or.inl rfl)) (pgs_cons (pg_name (i := 3) sc_law.nd rfl (Or.inl rfl)) (pgs_cons (pg_name (i := 4) sc_law.nd rfl (Or.inl rfl)) pgs_nil)))))
    (pss_cons (ps_set (i := 5) sc_law.nd rfl (Or.inl rfl) (pe_call F_l_made_rule (hr.mono (by decide)) (by rfl) g_l_made_rule k_l_made_rule b_l_made_rule .nil pass0 (pa_cons (pv 2) pa_nil)))
    (pss_cons (ps_set (i := 6) sc_law.nd rfl (Or.inl rfl) (pe_call F_l_signs (hr.mono (by decide)) (by rfl) g_l_signs k_l_signs b_l_signs .nil pass0 (pa_cons (pe_ix (ix_tupK (K := K)) (pv 2) pe_int (fun _ _ => rfl)) pa_nil)))
    (pss_cons (ps_set (i := 7) sc_law.nd rfl (Or.inl rfl) (pe_callB (call_lenK (K := K)) (by rfl) T.len (by decide +kernel) (pa_cons (pe_call F_l_letters (hr.mono (by decide)) (by rfl) g_l_letters k_l_letters b_l_letters .nil pass0 (pa_cons (pv 6) (pa_cons (pv 4) pa_nil))) pa_nil)))
    (pss_cons (ps_set (i := 8) sc_law.nd rfl (Or.inl rfl) (pe_op op_add pe_int (pe_call F_l_take (hr.mono (by decide)) (by rfl) g_l_take k_l_take b_l_take .nil pass0 (pa_cons (pv 1) (pa_cons (pe_dget (hu_of hr) (pe_disp (pps_cons pe_int pe_int (pps_cons pe_int pe_int (pps_cons pe_int pe_int (pps_cons pe_int pe_int pps_nil)))) (by rfl) (by rfl) (fun z => by cases z) (by decide)) (pv 7) (fun _ _ => rfl)) pa_nil)))))
    (pss_cons (ps_set (i := 9) sc_law.nd rfl (Or.inl rfl) (pe_call F_l_drawn (hr.mono (by decide)) (by rfl) g_l_drawn k_l_drawn b_l_drawn .nil pass0 (pa_cons (pv 1) (pa_cons (pv 6) (pa_cons (pv 4) (pa_cons (pv 8) pa_nil))))))
    (pss_cons (ps_if (pt_cmpR op_gt (pe_call F_l_take (hr.mono (by decide)) (by rfl) g_l_take k_l_take b_l_take .nil pass0 (pa_cons (pv 1) (pa_cons pe_int pa_nil))) pe_int (nomark _)) (pss_one (ps_set (i := 9) sc_law.nd rfl (Or.inl rfl) (pe_call F_l_next_rows (hr.mono (by decide)) (by rfl) g_l_next_rows k_l_next_rows b_l_next_rows .nil pass0 (pa_cons (pv 2) (pa_cons (pv 3) (pa_cons (pe_call F_l_drawn (hr.mono (by decide)) (by rfl) g_l_drawn k_l_drawn b_l_drawn .nil pass0 (pa_cons (pv 1) (pa_cons (pv 6) (pa_cons (pv 4) (pa_cons (pe_op op_add (pv 8) pe_int) pa_nil))))) pa_nil)))))) pss_nil)
    (pss_cons (ps_set (i := 10) sc_law.nd rfl (Or.inl rfl) (pe_call F_l_steps (hr.mono (by decide)) (by rfl) g_l_steps k_l_steps b_l_steps .nil pass0 (pa_cons (pv 2) (pa_cons (pv 3) (pa_cons (pv 4) pa_nil)))))
    (pss_cons (ps_set (i := 11) sc_law.nd rfl (Or.inl rfl) (pe_call F_l_columns (hr.mono (by decide)) (by rfl) g_l_columns k_l_columns b_l_columns .nil pass0 (pa_cons (pv 9) pa_nil)))
    (pss_cons (ps_set (i := 12) sc_law.nd rfl (Or.inl rfl) (pe_call F_how_many (hr.mono (by decide)) (by rfl) g_how_many k_how_many b_how_many .nil pass0 (pa_cons (pv 5) (pa_cons (pv 3) (pa_cons (pv 9) pa_nil)))))
    (pss_cons (ps_if (PW.pt (pw_or (pt_cmpR op_ne (pv 12) (pe_call F_l_counted (hr.mono (by decide)) (by rfl) g_l_counted k_l_counted b_l_counted .nil pass0 (pa_cons (pv 10) (pa_cons (pv 11) pa_nil))) (nomark _)) (pw_or1 (pt_val (pe_callB (call_isiK (K := K)) (by rfl) T.isinstance (by decide +kernel) (pa_cons (pv 12) (pa_cons (pe_bltn (v := .ty "bool") (by rfl) T.bool (by decide +kernel) rfl) pa_nil))))))) (pss_one (ps_ret pe_bl)) pss_nil)
    (pss_cons (ps_if (pt_cmpR op_eq (pv 12) pe_int (nomark _)) (pss_cons (ps_set (i := 13) sc_law.nd rfl (Or.inl rfl) (pe_call F_none_of (hr.mono (by decide)) (by rfl) g_none_of k_none_of b_none_of .nil pass0 (pa_cons (pv 5) (pa_cons (pv 3) (pa_cons (pv 9) pa_nil)))))
    (pss_one (ps_ret (pe_and (pe_cmpR (op_eqDK (K := K) hr.units) (pv 13) (pe_call F_l_sets (hr.mono (by decide)) (by rfl) g_l_sets k_l_sets b_l_sets .nil pass0 (pa_cons (pv 10) (pa_cons (pv 11) pa_nil))) (nomark _)) (pe_one (pe_cmpR op_isBl (pe_call F_none_holds (hr.mono (by decide)) (by rfl) g_none_holds k_none_holds b_none_holds .nil pass0 (pa_cons (pv 5) (pa_cons (pv 3) (pa_cons (pv 9) (pa_cons (pv 13) pa_nil))))) pe_bl (nomark _))))))) pss_nil)
    (pss_cons (ps_set (i := 14) sc_law.nd rfl (Or.inl rfl) pe_dnewK)
    (pss_cons (ps_for PassesOwn.never rfl (pi_listK (K := K) (pe_slice (sl_listK (K := K)) (pe_call F_l_numbers (hr.mono (by decide)) (by rfl) g_l_numbers k_l_numbers b_l_numbers .nil pass0 (pa_cons (pv 1) (pa_cons (pv 12) pa_nil))) (po_some (pe_callTy call_int1 (by rfl) T.int (by decide +kernel) (pa_cons (pe_cmpR op_eq (pv 7) pe_int (nomark _)) pa_nil))) po_none)) (pg_name (i := 15) sc_law.nd rfl (Or.inl rfl))
      (pss_cons (ps_set (i := 16) sc_law.nd rfl (Or.inl rfl) (pe_call F_forebear (hr.mono (by decide)) (by rfl) g_forebear k_forebear b_forebear .nil pass0 (pa_cons (pv 5) (pa_cons (pv 3) (pa_cons (pe_callTy (call_listK (K := K)) (by rfl) T.list (by decide +kernel) (pa_cons (pv 9) pa_nil)) (pa_cons (pv 15) pa_nil))))))
      (pss_cons (ps_if (PW.pt (pw_or (pt_cmpR (op_neDK (K := K) hr.units) (pe_call F_l_next_rows (hr.mono (by decide)) (by rfl) g_l_next_rows k_l_next_rows b_l_next_rows .nil pass0 (pa_cons (pv 2) (pa_cons (pv 3) (pa_cons (pv 16) pa_nil)))) (pv 9) (nomark _)) (pw_or1 (pt_cmpR (op_neDK (K := K) hr.units) (pe_lc (own := [("_law_row_here", 17)]) rfl sc_law.nd (pi_listK (K := K) (pv 16)) (blkOk_by (N := N_law) (own := [("_law_row_here", 17)]) (by kernel_rfl)) (fun _ _ _ _ _ => (pg_name (i := 17) sc_law.nd rfl (Or.inl rfl))) (fun _ _ _ _ _ => pts_nil) (fun _ _ _ _ _ => (pe_callB call_lenS (by rfl) T.len (by decide +kernel) (pa_cons (pv 17) pa_nil)))) (pe_op op_rep (pe_lst (pa_cons (pe_op op_add (pv 8) pe_int) pa_nil)) (pv 4)) (nomark _))))) (pss_one (ps_ret pe_bl)) pss_nil)
      (pss_one (ps_if (pt_cmpR op_ne (pe_dsetd (pv 14) (pe_callB (cr_reprTx gA (Nat.lt_of_le_of_lt (Nat.add_le_add_right (Nat.le_add_right _ _) 200) hr.un)) (by rfl) T.repr (by decide +kernel) (pa_cons (pv 16) pa_nil)) (pv 15) ⟨by rfl, by rfl, by rfl, by rfl⟩) (pv 15) (nomark _)) (pss_one (ps_ret pe_bl)) pss_nil)))))
    (pss_one (ps_ret (pe_or (pe_cmpR op_eq (pv 7) pe_int (nomark _)) (pe_one (pe_call F_l_refused (hr.mono (by decide)) (by rfl) g_l_refused k_l_refused b_l_refused .nil pass0 (pa_cons (pv 5) (pa_cons (pv 3) (pa_cons (pv 9) (pa_cons (pv 12) pa_nil)))))))))))))))))))))))), ?_⟩
  obtain ⟨a, ns, rfl, hS, kr⟩ := h
  refine ⟨_, rfl, a, ns, rfl, hS, fun p x us G1 H1 ok g1 hp gp hb hus => ?_⟩
  have sl0 : Sl K H (L2.start N_law [.ref a]) (startG N_law.length [.raw (.ref a)]) := Sl.start (.cons (.raw _) .nil)
  have c : Cf K (bagM K p) H H ((L2.start N_law [.ref a]).set 1 (some (.ref p))) (gaN [.raw (.ref a), .raw (.ref p)]) G1 H1 := ⟨(sl0.mono g1.g).set 1 (.raw (.ref p)), g1.sub, ⟨gp, x, us, ok, hb, hus⟩, g1.lift⟩
  refine q_asgT (P := fun d => ∃ (r : Rl) (edge high : Nat), d = .tup [ruD r, .str [edge], .int (high : Nat)] ∧ Zok r edge high ∧ edge ∈ r.signs ∧ (r.many, high) ∈ sizesM) (js := [2, 3, 4]) (Γd := fun d => match d with
    | .tup [x, y, z] => gaN [.raw (.ref a), .raw (.ref p), x, y, z]
    | _ => []) c (er_call (ea_cons (ev_var rfl) (ea_cons ev_int ea_nil)) fun ds e => ⟨p, e, trivial, rfl, fun _ q => q⟩) (fun d hd => ?_) fun d σ1 G2 H2 e c1 g2 => ?_
  · obtain ⟨r, edge, high, rfl, _⟩ := hd
    exact tg_three
  obtain ⟨r, edge, high, rfl, z, he, hsz⟩ := e
  have c1 : Cf K (bagM K p) H H σ1 (gaN [.raw (.ref a), .raw (.ref p), ruD r, .str [edge], .int (high : Nat)]) G2 H2 := c1
  refine q_setV c1 (ev_call r (ea_cons (ev_var rfl) ea_nil) z.ok) fun σ2 G3 H3 c2 g3 => ?_
  have c2 : Cf K (bagM K p) H H σ2 (gaN [.raw (.ref a), .raw (.ref p), ruD r, .str [edge], .int (high : Nat), rlD (cR K) r]) G3 H3 := c2
  refine q_setV (d := .str r.signs) c2 (ev_call r.many (ea_cons (ev_op (ev_var rfl) ev_int (rg_ixT (j := 1) rfl)) ea_nil) trivial) fun σ3 G4 H4 c3 g4 => ?_
  have c3 : Cf K (bagM K p) H H σ3 (gaN [.raw (.ref a), .raw (.ref p), ruD r, .str [edge], .int (high : Nat), rlD (cR K) r, .str r.signs]) G4 H4 := c3
  have sgs : Sgs r.signs := sg_sgs (by have := z.ok.lo; omega)
  have slen : r.signs.length ≤ 27 := sgs.len
  have llen : (txs (wordsM r.signs high)).length = r.many ^ high := by rw [txs_len]; exact z.len
  refine q_setV (d := .int ((r.many ^ high : Nat) : Int)) c3 ((ev_cb1 (ev_call (r.signs, high) (ea_cons (ev_var rfl) (ea_cons (ev_var rfl) ea_nil)) ⟨slen, z.hi⟩) cg_lenL).to (by rw [llen])) fun σ4 G5 H5 c4 g5 => ?_
  have c4 : Cf K (bagM K p) H H σ4 (gaN [.raw (.ref a), .raw (.ref p), ruD r, .str [edge], .int (high : Nat), rlD (cR K) r, .str r.signs, .int ((r.many ^ high : Nat) : Int)]) G5 H5 := c4
  obtain ⟨m1, m2, m3⟩ := sizes_most _ hsz
  have m3 : mostM (r.many ^ high) ≤ 130 := m3
  refine q_asg (P := fun d => ∃ size : Nat, d = .int (size : Nat) ∧ 1 ≤ size ∧ size ≤ 130) c4 (er_op (Pa := (· = .int 1)) ev_int (ev_take (n := mostM (r.many ^ high)) (ev_var rfl) (er_dgetK (k := .inl ((r.many ^ high : Nat) : Int)) (ev_disp (ps := mostsD) (.cons ev_int ev_int (.cons ev_int ev_int (.cons ev_int ev_int (.cons ev_int ev_int .nil)))) (show 4 ≤ 15 by decide)) (ev_var rfl) m1) m2 (by omega)) fun a b pa pb => ?_) fun d σ5 G6 H6 e c5 g6 => ?_
  · obtain ⟨v, hv, rfl⟩ := pb
    subst pa
    exact rg_add.imp fun d e => ⟨1 + v, by rw [e]; congr 1, by omega, by omega⟩
  obtain ⟨size, rfl, s1, s130⟩ := e
  have c5 : Cf K (bagM K p) H H σ5 (gaN [.raw (.ref a), .raw (.ref p), ruD r, .str [edge], .int (high : Nat), rlD (cR K) r, .str r.signs, .int ((r.many ^ high : Nat) : Int), .int (size : Nat)]) G6 H6 := c5
  have pic_of : ∀ {n : Nat} {rows : List Tx}, n ≤ 1000 → rows.length = high → (∀ row ∈ rows, row.length = n ∧ ∀ c ∈ row, c ∈ r.signs) → PicS r rows n := fun {n rows} hn hl h => ⟨⟨fun e => by
      rw [e] at hl
      have := z.lo
      rw [← hl] at this
      exact absurd this (by decide), by rw [hl]; have := z.hi; omega, fun row hr => (h row hr).1, hn⟩, by rw [hl]; exact z.hi, fun row hr => (h row hr).2⟩
  refine q_asg (P := fun d => ∃ rows : List Tx, d = .lst (txs rows) ∧ rows.length = high ∧ ∀ row ∈ rows, row.length = size ∧ ∀ c ∈ row, c ∈ r.signs) c5 (er_call (ea_cons (ev_var rfl) (ea_cons (ev_var rfl) (ea_cons (ev_var rfl) (ea_cons (ev_var rfl) ea_nil)))) fun ds e => ⟨(p, r.signs, high, size), e, ⟨sgs, z.hi, by show size ≤ 900; omega⟩, rfl, fun _ q => q⟩) fun d σ6 G7 H7 e c6 g7 => ?_
  obtain ⟨rows0, rfl, hl0, hr0⟩ := e
  have c6 : Cf K (bagM K p) H H σ6 (gaN [.raw (.ref a), .raw (.ref p), ruD r, .str [edge], .int (high : Nat), rlD (cR K) r, .str r.signs, .int ((r.many ^ high : Nat) : Int), .int (size : Nat), .lst (txs rows0)]) G7 H7 := c6
  refine q_whenM (R := fun σ' H' => ∃ (rows : List Tx) (G' : Hp), PicS r rows size ∧ rows.length = high ∧ Cf K (bagM K p) H H σ' (gaN [.raw (.ref a), .raw (.ref p), ruD r, .str [edge], .int (high : Nat), rlD (cR K) r, .str r.signs, .int ((r.many ^ high : Nat) : Int), .int (size : Nat), .lst (txs rows)]) G' H') c6 (et_takeG (n := 3) (ev_var rfl) ev_int (by decide) (by decide)) (fun _ G8 H8 D8 c8 g8 hrt8 k8 => ?_) (fun _ G8 H8 c8 g8 => ⟨rows0, G8, pic_of (by omega) hl0 hr0, hl0, c8⟩) ?_
  · refine c_asg (P := fun d => ∃ rows : List Tx, d = .lst (txs rows) ∧ PicS r rows size ∧ rows.length = high) c8 (er_callS (R := fun ds => ∃ rows : List Tx, ds = [ruD r, .str [edge], .lst (txs rows)] ∧ rows.length = high ∧ ∀ row ∈ rows, row.length = size + 2 ∧ ∀ c ∈ row, c ∈ r.signs) (er_cons (Pa := (· = ruD r)) (R := fun ds => ∃ rows : List Tx, ds = [.str [edge], .lst (txs rows)] ∧ rows.length = high ∧ ∀ row ∈ rows, row.length = size + 2 ∧ ∀ c ∈ row, c ∈ r.signs) (ev_var rfl) (er_cons (Pa := (· = .str [edge])) (R := fun ds => ∃ rows : List Tx, ds = [.lst (txs rows)] ∧ rows.length = high ∧ ∀ row ∈ rows, row.length = size + 2 ∧ ∀ c ∈ row, c ∈ r.signs) (ev_var rfl) (er_cons (Pa := fun d => ∃ rows : List Tx, d = .lst (txs rows) ∧ rows.length = high ∧ ∀ row ∈ rows, row.length = size + 2 ∧ ∀ c ∈ row, c ∈ r.signs) (R := (· = [])) (er_call (ea_cons (ev_var rfl) (ea_cons (ev_var rfl) (ea_cons (ev_var rfl) (ea_cons ((ev_op (ev_var rfl) ev_int rg_add).to (e := .int ((size + 2 : Nat) : Int)) rfl) ea_nil)))) fun ds e => ⟨(p, r.signs, high, size + 2), e, ⟨sgs, z.hi, by show size + 2 ≤ 900; omega⟩, rfl, fun _ q => q⟩) ea_nil fun x xs pa e => ?_) fun x xs pa e => ?_) fun x xs pa e => ?_) fun ds hds => ?_) fun d σ9 G9 H9 e c9 g9 => ?_
    · obtain ⟨rows, rfl, q⟩ := pa
      subst e
      exact ⟨rows, rfl, q⟩
    · obtain ⟨rows, rfl, q⟩ := e
      subst pa
      exact ⟨rows, rfl, q⟩
    · obtain ⟨rows, rfl, q⟩ := e
      subst pa
      exact ⟨rows, rfl, q⟩
    · obtain ⟨rows, rfl, hl, hr⟩ := hds
      have pp := pic_of (n := size + 2) (by omega) hl hr
      obtain ⟨q1, q2⟩ := next_pic (edge := edge) z.ok pp (by omega)
      exact ⟨(r, edge, rows, size), rfl, ⟨z.ok, pp.pic, by rw [hl]; have := z.hi; show high ≤ 100; omega⟩, fun d e => ⟨_, e, q1, by rw [q2, hl]⟩⟩
    · obtain ⟨rows, rfl, q1, q2⟩ := e
      exact k8 _ _ ⟨rows, G9, q1, q2, c9⟩
  rintro σ7 H8 ⟨rows, G8, pic, hl, c7⟩
  subst hl
  have z3 := z.hi
  have fok : Fok r edge rows size := ⟨z, he, pic, by omega⟩
  have hcl : (colsM rows).length = size := colsM_len pic.pic
  refine q_setV c7 (ev_call (r, edge, rows.length) (ea_cons (ev_var rfl) (ea_cons (ev_var rfl) (ea_cons (ev_var rfl) ea_nil))) z) fun σ8 G9 H9 c8 g9 => ?_
  have c8 : Cf K (bagM K p) H H σ8 (gaN [.raw (.ref a), .raw (.ref p), ruD r, .str [edge], .int (rows.length : Nat), rlD (cR K) r, .str r.signs, .int ((r.many ^ rows.length : Nat) : Int), .int (size : Nat), .lst (txs rows), stepsD r edge rows.length]) G9 H9 := c8
  refine q_setV c8 (ev_call (rows, size) (ea_cons (ev_var rfl) ea_nil) pic.pic) fun σ9 G10 H10 c9 g10 => ?_
  have c9 : Cf K (bagM K p) H H σ9 (gaN [.raw (.ref a), .raw (.ref p), ruD r, .str [edge], .int (rows.length : Nat), rlD (cR K) r, .str r.signs, .int ((r.many ^ rows.length : Nat) : Int), .int (size : Nat), .lst (txs rows), stepsD r edge rows.length, .lst (txs (colsM rows))]) G10 H10 := c9
  refine q_setV (d := .int (manyR r edge rows : Nat)) c9 (ev_call (r, edge, rows, size) (ea_cons (ev_var rfl) (ea_cons (ev_var rfl) (ea_cons (ev_var rfl) ea_nil))) ⟨z, he, pic⟩) fun σ10 G11 H11 c10 g11 => ?_
  have c10 : Cf K (bagM K p) H H σ10 (gaN [.raw (.ref a), .raw (.ref p), ruD r, .str [edge], .int (rows.length : Nat), rlD (cR K) r, .str r.signs, .int ((r.many ^ rows.length : Nat) : Int), .int (size : Nat), .lst (txs rows), stepsD r edge rows.length, .lst (txs (colsM rows)), .int (manyR r edge rows : Nat)]) G11 H11 := c10
  refine q_skip c10 ((et_or (et_test (ev_op (ev_var rfl) (ev_call (r, edge, rows.length, colsM rows) (ea_cons (ev_var rfl) (ea_cons (ev_var rfl) ea_nil)) ⟨z, by show (colsM rows).length ≤ 1000; omega⟩) rg_neI)) fun _ => et_B (ev_isi (t := "int") (n := "bool") (b := false) (ev_var rfl) rfl (by decide +kernel) (by decide))).to (by
    show (!decide ((manyR r edge rows : Nat) = ((manyM r edge (lettersM r rows.length) (colsM rows) : Nat) : Int)) || false) = false
    rw [decide_eq_true (by rfl)]; rfl)) fun G12 H12 c11 g12 => ?_
  refine q_when c11 (et_test (ev_op (ev_var rfl) ev_int rg_eqI)) (fun hm G13 H13 c12 g13 => ?_) (fun hm G13 H13 c12 g13 => ?_)
  · -- none are counted
    have hm0 : manyR r edge rows = 0 := by
      have := of_decide_eq_true hm.symm
      omega
    obtain ⟨l, hn⟩ := none_of_many (r := r) (edge := edge) (h := rows.length) (cols := colsM rows) (by omega) hm0
    refine q_setV (d := .lst (l.map setD)) c12 ((ev_call (r, edge, rows, size) (ea_cons (ev_var rfl) (ea_cons (ev_var rfl) (ea_cons (ev_var rfl) ea_nil))) ⟨z, he, pic⟩).imp fun d e => by rw [e]; show noneD (noneM r edge (lettersM r rows.length) (colsM rows)) = _; rw [hn]; rfl) fun σ13 G14 H14 c13 g14 => ?_
    have c13 : Cf K (bagM K p) H H σ13 (gaN [.raw (.ref a), .raw (.ref p), ruD r, .str [edge], .int (rows.length : Nat), rlD (cR K) r, .str r.signs, .int ((r.many ^ rows.length : Nat) : Int), .int (size : Nat), .lst (txs rows), stepsD r edge rows.length, .lst (txs (colsM rows)), .int (manyR r edge rows : Nat), .lst (l.map setD)]) G14 H14 := c13
    have fl : Fit (.lst (l.map setD)) 3 := Fit.lst fun d hd => by
      obtain ⟨S, hS, rfl⟩ := List.mem_map.mp hd
      unfold noneM at hn
      obtain ⟨i, _, rfl⟩ := Option.map_eq_some_iff.mp hn
      obtain ⟨j, _, rfl⟩ := List.mem_map.mp hS
      exact fit_states (cur_sub r edge (lettersM r rows.length) (colsM rows) j)
    refine c_ret c13 (ev_andV (a := true) (b := true) (ev_op (ev_var rfl) ((ev_call (r, edge, rows.length, colsM rows) (ea_cons (ev_var rfl) (ea_cons (ev_var rfl) ea_nil)) ⟨z, by show (colsM rows).length ≤ 1000; omega⟩).imp fun d e => by rw [e]; show noneD (noneM r edge (lettersM r rows.length) (colsM rows)) = .lst (l.map setD); rw [hn]; rfl) (rg_eqF fl fl (by decide) (by decide) ⟨fun _ => rfl, fun _ => rfl⟩)) fun _ => (ev_op (ev_call (r, edge, rows, size, l) (ea_cons (ev_var rfl) (ea_cons (ev_var rfl) (ea_cons (ev_var rfl) (ea_cons (ev_var rfl) ea_nil)))) ⟨z, he, pic, hn⟩) ev_bl rg_isB).to rfl) fun v d G15 H15 e c14 g15 r15 => ?_
    subst e
    obtain rfl := r15.bl_inv
    exact kr H15
  · have hm0 : 0 < manyR r edge rows := by
      have := of_decide_eq_false hm.symm
      omega
    refine q_newK c12 fun q σ13 H14 hq hq0 nq a13 c13 e13 => ?_
    have c13 : Cf K (bagM K p) H H σ13 ((gaN [.raw (.ref a), .raw (.ref p), ruD r, .str [edge], .int (rows.length : Nat), rlD (cR K) r, .str r.signs, .int ((r.many ^ rows.length : Nat) : Int), .int (size : Nat), .lst (txs rows), stepsD r edge rows.length, .lst (txs (colsM rows)), .int (manyR r edge rows : Nat)]).set 14 (some (.raw (.ref q)))) G13 H14 := c13
    refine q_forR (S := fun ds => ∃ l : List Nat, (∀ n ∈ l, n < manyR r edge rows) ∧ l.length ≤ 2 ∧ ds = l.map fun (n : Nat) => .int (n : Nat)) c13 (sr_list (P := fun d => ∃ l : List Nat, (∀ n ∈ l, n < manyR r edge rows) ∧ l.length ≤ 2 ∧ d = .lst (l.map fun (n : Nat) => .int (n : Nat))) (er_sl (O1 := (· = some (if decide (((r.many ^ rows.length : Nat) : Int) = 8) then 1 else 0))) (O2 := (· = none)) (er_call (ea_cons (ev_var rfl) (ea_cons (ev_var rfl) ea_nil)) fun ds e => ⟨(p, manyR r edge rows), e, hm0, rfl, fun _ q => q⟩) (eo_some (ev_cb1 (ev_op (ev_var rfl) ev_int rg_eqI) cg_intB)) eo_none fun x lo hi pa e1 e2 => ?_) fun d hd => ?_) fun J ds G14 H15 hds c14 g14 src => ?_
    · obtain ⟨i, j, rfl, hi, hj⟩ := pa
      subst e1 e2
      refine lg_list.imp fun d e => ⟨[i, j].drop (if decide (((r.many ^ rows.length : Nat) : Int) = 8) then 1 else 0), fun n hn => ?_, by rw [List.length_drop]; exact Nat.sub_le _ _, by rw [e]; exact congrArg Dt.lst (drop_int (l := [i, j]))⟩
      rcases List.mem_cons.mp (List.mem_of_mem_drop hn) with e | e
      · rw [e]; exact hi
      · rw [List.mem_singleton.mp e]; exact hj
    · obtain ⟨l, h1, h2, rfl⟩ := hd
      exact ⟨_, rfl, l, h1, h2, rfl⟩
    obtain ⟨l, hlt, hl2, hds⟩ := hds
    have a14 := a13.grow g14 nq
    refine c_forXat (wi := fun _ H R => R J H) (l := l) (enc := fun (n : Nat) => .int (n : Nat)) (fun G H b => AccK K G H q b) (fun x g => x.grow g fun z => z) c14 (fun R h => h J ds G14 H15 hds (Grow.refl c14.gh) c14.mm src) (fun G1 H1 g1 => a14.grow g1 nq) (fun _ => (gaN [.raw (.ref a), .raw (.ref p), ruD r, .str [edge], .int (rows.length : Nat), rlD (cR K) r, .str r.signs, .int ((r.many ^ rows.length : Nat) : Int), .int (size : Nat), .lst (txs rows), stepsD r edge rows.length, .lst (txs (colsM rows)), .int (manyR r edge rows : Nat)]).set 14 (some (.raw (.ref q)))) (fun i b => b.length ≤ i ∧ ∀ t ∈ b, ∃ n, n < manyR r edge rows ∧ t = (.inr (tx (keyM r edge rows n)), .int (n : Nat))) rfl ⟨Nat.zero_le _, fun t h => nomatch h⟩ (fun i n hn => tg_name) (fun i n b σ' G' H' D' hn hb s c15 a15 hrt kn' => ?_) fun b σ' G' H' hb s c15 a15 => ?_
    · obtain ⟨hb1, hb2⟩ := hb
      have hnm : n < manyR r edge rows := hlt n (List.mem_of_getElem? hn)
      have hi2 : i < 2 := Nat.lt_of_lt_of_le (List.getElem?_eq_some_iff.mp hn).1 hl2
      have ep := elder_pic z pic (by omega) hnm
      have el : (elderM r edge rows n).length = rows.length := rowsM_len _ _
      have c15 : Cf K (bagM K p) H H σ' (((gaN [.raw (.ref a), .raw (.ref p), ruD r, .str [edge], .int (rows.length : Nat), rlD (cR K) r, .str r.signs, .int ((r.many ^ rows.length : Nat) : Int), .int (size : Nat), .lst (txs rows), stepsD r edge rows.length, .lst (txs (colsM rows)), .int (manyR r edge rows : Nat)]).set 14 (some (.raw (.ref q)))).set 15 (some (.int (n : Nat)))) G' H' := c15
      refine q_setV (d := .lst (txs (elderM r edge rows n))) c15 (ev_call (r, edge, rows, size, n) (ea_cons (ev_var rfl) (ea_cons (ev_var rfl) (ea_cons (ev_cb1 (ev_var rfl) cg_listL) (ea_cons (ev_var rfl) ea_nil)))) ⟨fok, hnm⟩) fun σ16 G16 H16 c16 g16 => ?_
      have a16 := a15.grow g16 nq
      have c16 : Cf K (bagM K p) H H σ16 ((((gaN [.raw (.ref a), .raw (.ref p), ruD r, .str [edge], .int (rows.length : Nat), rlD (cR K) r, .str r.signs, .int ((r.many ^ rows.length : Nat) : Int), .int (size : Nat), .lst (txs rows), stepsD r edge rows.length, .lst (txs (colsM rows)), .int (manyR r edge rows : Nat)]).set 14 (some (.raw (.ref q)))).set 15 (some (.int (n : Nat)))).set 16 (some (.lst (txs (elderM r edge rows n))))) G16 H16 := c16
      have frw : Fit (.lst (txs rows)) 1 := fit_txs fun x hx c hc => signs_small r c (pic.signs x hx c hc)
      have fin : Fit (.lst (intsD (List.replicate rows.length ((size + 2 : Nat) : Int)))) 1 := fit_ints
      have same : ∀ d : Dt, (false = true ↔ ¬ d = d) := fun d => ⟨(fun z => nomatch z), fun z => absurd rfl z⟩
      refine q_skip c16 ((et_or (et_test (ev_op ((ev_call (r, edge, elderM r edge rows n, size) (ea_cons (ev_var rfl) (ea_cons (ev_var rfl) (ea_cons (ev_var rfl) ea_nil))) ⟨z.ok, ep.pic, by show (elderM r edge rows n).length ≤ 100; omega⟩).imp fun d e => by rw [e]; show Dt.lst (txs (nextRowsM r edge (elderM r edge rows n))) = .lst (txs rows); rw [elder_next z pic hnm]) (ev_var rfl) (rg_neF frw frw (by decide) (by decide) (same _)))) fun _ => et_test (ev_op ((ev_mapA (l := elderM r edge rows n) (enc := .str) (fun x => .int ((x.length : Nat) : Int)) (sv_list (ev_var rfl)) (by omega) fun x hx => ⟨_, [17], by decide, tg_name, ev_cb1 (ev_var rfl) (cg_lenS (by rw [ep.pic.len x hx]; omega))⟩).to (e := .lst (intsD (List.replicate rows.length ((size + 2 : Nat) : Int)))) (by rw [lens_rep ep.pic.len, el])) ((ev_op (ev_lst (ea_cons ((ev_op (ev_var rfl) ev_int rg_add).to (e := .int ((size + 2 : Nat) : Int)) rfl) ea_nil) (show 1 ≤ 100000 by decide)) (ev_var rfl) (rg_rep ⟨by omega, by omega⟩ (by rw [Int.toNat_natCast]; show 1 * rows.length ≤ 1000000; omega))).to (e := .lst (intsD (List.replicate rows.length ((size + 2 : Nat) : Int)))) (by rw [Int.toNat_natCast, rep_ints])) (rg_neF fin fin (by decide) (by decide) (same _)))).to rfl) fun G17 H17 c17 g17 => ?_
      have a17 := a16.grow g17 nq
      refine c_setd (i := 14) (j := 15) (ty := tCB rReprTx (tCons (tVar 16) tNil)) (x := keyM r edge rows n) (n := ((n : Nat) : Int)) c17 rfl rfl a17 hq0 nq (by omega) (ev_cb1 (ev_var rfl) (cg_reprTx (txR_len (n := size + 2) (fun x hx => ⟨ep.pic.len x hx, fun c hc => sg_of (ep.signs x hx c hc)⟩) (by omega) (by omega)))) (fun d hd => ?_) fun G18 H18 ds' s18 c18 a18 hds' hlen => ?_
      · obtain ⟨n', hn', e⟩ := hb2 _ (lk_find hd)
        injection e with e1 e2
        injection e1 with e1
        have := key_inj z pic (by omega) hnm hn' (tx_inj e1)
        subst this
        exact e2
      · refine kn' ds' _ G18 H18 ⟨by omega, fun t ht => ?_⟩ ((g16.g.trans g17.g).trans s18) (((c18.lose 15).lose 16).to rfl) a18
        rcases hds' t ht with w | w
        · exact hb2 t w
        · exact ⟨n, hnm, w⟩
    · refine c_ret c15 ((ev_orV (b := true) (ev_op (ev_var rfl) ev_int rg_eqI) fun _ => ev_call (r, edge, rows, size) (ea_cons (ev_var rfl) (ea_cons (ev_var rfl) (ea_cons (ev_var rfl) (ea_cons (ev_var rfl) ea_nil)))) fok).to (by rw [Bool.or_true])) fun v d G16 H16 e c16 g16 r16 => ?_
      subst e
      obtain rfl := r16.bl_inv
      exact kr H16
end K70
set_option maxHeartbeats 0
/-! The head: what the top leaves. -/
namespace K70
open PySem PySem.Spec PyProof.Rows L2
theorem tupAt_ok {K : PySem.W.Frag} {a : Addr} {vs : List He.Dv} (h : tupAt K a vs = true) (G : Hp) : SqT K G a (vs.map (He.Dv.v K)) := by
  unfold tupAt at h
  split at h
  · rename_i c od its n sl q
    obtain ⟨h1, h2⟩ := Bool.and_eq_true_iff.mp h
    obtain ⟨h3, h4⟩ := Bool.and_eq_true_iff.mp h2
    exact .inr ⟨_, its, n, q, congrArg Value.type (of_decide_eq_true h1), rfl, of_decide_eq_true h3, He.relAll_ok h4⟩
  · cases h
section
variable {K : PySem.W.Frag} {w : World} {h : Heap} {mg : Str → Option Value}
theorem fns_bare : ∀ d ∈ fns, d.dfl = [] ∧ d.kwd = [] := by
  intro d hd
  have q : (fns.all fun d => d.dfl.isEmpty && d.kwd.isEmpty) = true := by rfl
  obtain ⟨h1, h2⟩ := Bool.and_eq_true_iff.mp (List.all_eq_true.mp q d hd)
  exact ⟨List.isEmpty_iff.mp h1, List.isEmpty_iff.mp h2⟩
theorem says_t (c : obK K = (He.valT fns ts w, true)) : He.SaysT fa fns ts w K := congrArg (fun z : He.AlT × Bool => z.1) c
theorem says_ex (c : obK K = (He.valT fns ts w, true)) : ex K = true := congrArg (fun z : He.AlT × Bool => z.2) c
theorem says_fact (c : obK K = (He.valT fns ts w, true)) {f : He.Fa} (hf : f ∈ fa) : f.ok K = true := by
  obtain ⟨i, hi⟩ := List.mem_iff_getElem?.mp hf
  exact He.SaysD.fact (says_t c).d i hi
theorem tp_of (X : K.In h) (N : h.Ns mainGlobals mg) (c : obK K = (He.valT fns ts w, true)) : Tp K mg ∧ NfC K ∧ OffsOk K w := by
  have fact : ∀ f ∈ fa, f.ok K = true := fun f hf => says_fact c hf
  have L1 : ∀ f ∈ frees.map He.Fa.free, f.ok K = true := fun f hf => fact f (List.mem_append_left _ hf)
  have F1 := fun f hf => fact f (List.mem_append_right (frees.map He.Fa.free) hf)
  have L2 : ∀ f ∈ globs1.map He.Fa.glo, f.ok K = true := fun f hf => F1 f (List.mem_append_left _ hf)
  have F2 := fun f hf => F1 f (List.mem_append_right (globs1.map He.Fa.glo) hf)
  have L3 : ∀ f ∈ globs2.map He.Fa.glo, f.ok K = true := fun f hf => F2 f (List.mem_append_left _ hf)
  have F3 := fun f hf => F2 f (List.mem_append_right (globs2.map He.Fa.glo) hf)
  have L4 : ∀ f ∈ methsS.map (He.Fa.meth "Strip"), f.ok K = true := fun f hf => F3 f (List.mem_append_left _ hf)
  have F4 := fun f hf => F3 f (List.mem_append_right (methsS.map (He.Fa.meth "Strip")) hf)
  have L5 : ∀ f ∈ methsR.map (He.Fa.meth "Rule"), f.ok K = true := fun f hf => F4 f (List.mem_append_left _ hf)
  have F5 := fun f hf => F4 f (List.mem_append_right (methsR.map (He.Fa.meth "Rule")) hf)
  have L6 : ∀ f ∈ ([.mkr "Strip", .mkr "Rule", .cls "Strip", .cls "Rule"] : List He.Fa), f.ok K = true := fun f hf => F5 f (List.mem_append_left _ hf)
  have F6 := fun f hf => F5 f (List.mem_append_right ([.mkr "Strip", .mkr "Rule", .cls "Strip", .cls "Rule"] : List He.Fa) hf)
  have L7 : ∀ f ∈ fieldsS.map (He.Fa.noat "Strip"), f.ok K = true := fun f hf => F6 f (List.mem_append_left _ hf)
  have F7 := fun f hf => F6 f (List.mem_append_right (fieldsS.map (He.Fa.noat "Strip")) hf)
  have L8 : ∀ f ∈ fieldsR.map (He.Fa.noat "Rule"), f.ok K = true := fun f hf => F7 f (List.mem_append_left _ hf)
  have F8 := fun f hf => F7 f (List.mem_append_right (fieldsR.map (He.Fa.noat "Rule")) hf)
  obtain ⟨x1, x⟩ := Bool.and_eq_true_iff.mp (says_ex c)
  obtain ⟨x2, x⟩ := Bool.and_eq_true_iff.mp x
  obtain ⟨x3, x⟩ := Bool.and_eq_true_iff.mp x
  obtain ⟨x4, x5⟩ := Bool.and_eq_true_iff.mp x
  refine ⟨{
    fr := fun x hx => He.free_ok X N (L1 _ (List.mem_map_of_mem hx))
    fn := fun i d hd => by
      obtain ⟨fd, F⟩ := He.SaysD.def_ (says_t c).d i hd
      obtain ⟨e1, e2⟩ := fns_bare d (List.mem_of_getElem? hd)
      unfold He.DefD.dvs He.DefD.kws at F
      rw [e1, e2] at F
      exact ⟨fd, F⟩
    gl := fun x hx => by
      rcases List.mem_append.mp hx with hx | hx
      · exact He.glo_ok X N (L2 _ (List.mem_map_of_mem hx))
      · exact He.glo_ok X N (L3 _ (List.mem_map_of_mem hx))
    mS := fun m hm => He.meth_ok (L4 _ (List.mem_map_of_mem hm))
    mR := fun m hm => He.meth_ok (L5 _ (List.mem_map_of_mem hm))
    kS := He.mkr_ok (L6 _ (by simp))
    kR := He.mkr_ok (L6 _ (by simp))
    clS := He.cls_ok (L6 _ (by simp))
    clR := He.cls_ok (L6 _ (by simp))
    nS := fun f hf => He.noat_ok (L7 _ (List.mem_map_of_mem hf))
    nR := fun f hf => He.noat_ok (L8 _ (List.mem_map_of_mem hf))
    tSigns := He.str_ok X N (F8 _ (by simp))
    tFolded := He.str_ok X N (F8 _ (by simp))
    iStates := He.int_ok X N (F8 _ (by simp))
    iRows := He.int_ok X N (F8 _ (by simp))
    iTests := He.int_ok X N (F8 _ (by simp))
    tPlaces := fun G => He.tupB_ok x2 G
    tSorts := fun G => He.tupB_ok x3 G }, nfB_ok x1, ⟨fun p hp => ?_⟩⟩
  obtain ⟨es, n, kd, kl, _⟩ := He.SaysT.tab (says_t c) 0 (t := ((fun K => He.ga K "OFFS"), offK)) rfl
  have one : ∀ q ∈ offL, ∃ b : Addr, KDct K w (He.ga K "OFFS") q.1 (.ref b) ∧ ∀ G : Hp, SqT K G b [.int q.2.1, .int q.2.2] := fun q hq => by
    have hk : q.1 ∈ offK := by
      simp only [offL, List.mem_cons, List.not_mem_nil, or_false] at hq
      rcases hq with rfl | rfl | rfl | rfl | rfl | rfl | rfl | rfl <;> simp [offK]
    obtain ⟨u, hu, ru⟩ := He.valsB_ok x4 (q := (q.1, .adr (offA q.1))) (List.mem_map.mpr ⟨q.1, hk, rfl⟩)
    exact ⟨offA q.1 K, ⟨es, n, u, kd, kl, hu, ru⟩, fun G => tupAt_ok (List.all_eq_true.mp x5 q hq) G⟩
  simp only [places, List.mem_cons, List.not_mem_nil, or_false] at hp
  rcases hp with rfl | rfl | rfl | rfl | rfl | rfl | rfl | rfl
  · exact one ("n", 0, -1) (by simp [offL])
  · exact one ("ne", 1, -1) (by simp [offL])
  · exact one ("e", 1, 0) (by simp [offL])
  · exact one ("se", 1, 1) (by simp [offL])
  · exact one ("s", 0, 1) (by simp [offL])
  · exact one ("sw", -1, 1) (by simp [offL])
  · exact one ("w", -1, 0) (by simp [offL])
  · exact one ("nw", -1, -1) (by simp [offL])
end
end K70
/-! The end: all promises in order, the run of the top, the law. -/
namespace K70
open PySem PySem.Spec PyProof.Rows L2
theorem law_runs {P : Program} {w : World} {K : PySem.W.Frag} {mg : Str → Option Value} {base : Heap} {fd : FuncData} (T : Tp K mg) (NF : NfC K) (O : OffsOk K w) (F : FunD K d_law.name d_law.qual d_law.params d_law.body d_law.scope [] [] (He.fAd K d_law.at_) fd) : RunsG P w K mg base (He.fAd K d_law.at_) fd ["_law_script"] (sp_law K) := by
  have o_l_bag : Okd P w K mg base 1 "_law_bag" ["_law_script"] (sp_l_bag K) := ok_l_bag T 
  have o_l_take : Okd P w K mg base 1 "_law_take" ["_law_bag_here", "_law_many"] (sp_l_take K) := ok_l_take T 
  have o_l_signs : Okd P w K mg base 1 "_law_signs" ["_law_many"] (sp_l_signs K) := ok_l_signs T 
  have o_l_near : Okd P w K mg base 2 "_law_near" ["_law_bag_here", "_law_sort"] (sp_l_near K) := ok_l_near T o_l_take
  have o_l_some : Okd P w K mg base 2 "_law_some" ["_law_bag_here", "_law_signs_here"] (sp_l_some K) := ok_l_some T o_l_take
  have o_l_test : Okd P w K mg base 3 "_law_test" ["_law_bag_here", "_law_near_here", "_law_signs_here"] (sp_l_test K) := ok_l_test T o_l_some o_l_take
  have o_l_row : Okd P w K mg base 4 "_law_row" ["_law_bag_here", "_law_near_here", "_law_signs_here"] (sp_l_row K) := ok_l_row T o_l_some o_l_take o_l_test
  have o_l_rule : Okd P w K mg base 5 "_law_rule" ["_law_bag_here", "_law_sort", "_law_many"] (sp_l_rule K) := ok_l_rule T o_l_signs o_l_near o_l_take o_l_row
  have o_l_strip : Okd P w K mg base 6 "_law_strip" ["_law_bag_here", "_law_greatest"] (sp_l_strip K) := ok_l_strip T o_l_take o_l_rule o_l_signs
  have o_is_whole : Okd P w K mg base 1 "is_whole" ["thing"] (sp_is_whole K) := ok_is_whole T 
  have o_is_from_to : Okd P w K mg base 2 "is_from_to" ["thing", "least", "most"] (sp_is_from_to K) := ok_is_from_to T o_is_whole
  have o_is_place : Okd P w K mg base 1 "is_place" ["thing"] (sp_is_place K) := ok_is_place T 
  have o_is_near : Okd P w K mg base 2 "is_near" ["sort", "thing"] (sp_is_near K) := ok_is_near T o_is_place
  have o_is_sign : Okd P w K mg base 1 "is_sign" ["thing"] (sp_is_sign K) := ok_is_sign T 
  have o_is_signs : Okd P w K mg base 1 "is_signs" ["thing"] (sp_is_signs K) := ok_is_signs T 
  have o_are_of : Okd P w K mg base 2 "are_of" ["thing", "signs"] (sp_are_of K) := ok_are_of T o_is_signs
  have o_is_test : Okd P w K mg base 3 "is_test" ["thing", "near", "signs"] (sp_is_test K) := ok_is_test T o_are_of o_is_place o_is_from_to
  have o_is_cell_row : Okd P w K mg base 4 "is_cell_row" ["thing", "near", "signs"] (sp_is_cell_row K) := ok_is_cell_row T o_is_sign o_are_of o_is_test
  have o_Rule_signs : Okm P w K mg base 1 (cR K) "signs" ["self"] (sp_Rule_signs K) := ok_Rule_signs T 
  have o_Rule_is_row : Okm P w K mg base 5 (cR K) "is_row" ["self", "thing"] (sp_Rule_is_row K) := ok_Rule_is_row T o_is_cell_row o_Rule_signs
  have o_Rule : Okc P w K mg base 6 (cR K) "Rule" ["self", "sort", "many", "near", "rows"] (sp_Rule_init K) := ok_Rule_init T o_is_from_to o_is_near o_Rule_is_row
  have o_l_made_rule : Okd P w K mg base 8 "_law_made_rule" ["_law_rule_here"] (sp_l_made_rule K) := ok_l_made_rule T o_Rule
  have o_l_letters : Okd P w K mg base 1 "_law_letters" ["_law_signs_here", "_law_high"] (sp_l_letters K) := ok_l_letters T 
  have o_l_drawn : Okd P w K mg base 2 "_law_drawn" ["_law_bag_here", "_law_signs_here", "_law_high", "_law_size"] (sp_l_drawn K) := ok_l_drawn T o_l_take
  have o_l_columns : Okd P w K mg base 1 "_law_columns" ["_law_rows_here"] (sp_l_columns K) := ok_l_columns T 
  have o_l_off : Okd P w K mg base 1 "_law_off" ["_law_place"] (sp_l_off K) := ok_l_off T 
  have o_l_holds : Okd P w K mg base 1 "_law_holds" ["_law_near_here", "_law_around", "_law_test_here"] (sp_l_holds K) := ok_l_holds T 
  have o_l_becomes : Okd P w K mg base 2 "_law_becomes" ["_law_rule_here", "_law_own", "_law_around"] (sp_l_becomes K) := ok_l_becomes T o_l_holds
  have o_l_middle : Okd P w K mg base 3 "_law_middle" ["_law_rule_here", "_law_edge", "_law_three"] (sp_l_middle K) := ok_l_middle T o_l_off o_l_becomes
  have o_l_rows : Okd P w K mg base 1 "_law_rows" ["_law_columns_here", "_law_high"] (sp_l_rows K) := ok_l_rows T 
  have o_l_next_rows : Okd P w K mg base 4 "_law_next_rows" ["_law_rule_here", "_law_edge", "_law_rows_here"] (sp_l_next_rows K) := ok_l_next_rows T o_l_columns o_l_middle o_l_rows
  have o_l_steps : Okd P w K mg base 4 "_law_steps" ["_law_rule_here", "_law_edge", "_law_high"] (sp_l_steps K) := ok_l_steps T o_l_letters o_l_signs o_l_middle
  have o_Rule_kind : Okm P w K mg base 1 (cR K) "kind" ["self"] (sp_Rule_kind K) := ok_Rule_kind T 
  have o_Rule_many : Okm P w K mg base 1 (cR K) "many" ["self"] (sp_Rule_many K) := ok_Rule_many T 
  have o_need_strip : Okd P w K mg base 2 "need_strip" ["rule", "signs", "high"] (sp_need_strip K) := ok_need_strip T o_Rule_kind o_Rule_signs o_Rule_many
  have o_Rule_near : Okm P w K mg base 1 (cR K) "near" ["self"] (sp_Rule_near K) := ok_Rule_near T 
  have o_words_of : Okd P w K mg base 1 "words_of" ["letters", "size"] (sp_words_of K) := ok_words_of T 
  have o_Strip_sign_in : Okm P w K mg base 1 (cS K) "sign_in" ["self", "column", "y"] (sp_Strip_sign_in K) := ok_Strip_sign_in T 
  have o_Rule_test_holds : Okm P w K mg base 1 (cR K) "test_holds" ["self", "test", "around"] (sp_Rule_test_holds K) := ok_Rule_test_holds T 
  have o_Rule_fate : Okm P w K mg base 2 (cR K) "fate" ["self", "own", "around"] (sp_Rule_fate K) := ok_Rule_fate T o_Rule_test_holds
  have o_Strip_made : Okm P w K mg base 3 (cS K) "made" ["self", "one", "two", "three"] (sp_Strip_made K) := ok_Strip_made T o_Strip_sign_in o_Rule_fate
  have o_Strip_ways_of : Okm P w K mg base 4 (cS K) "ways_of" ["self", "state"] (sp_Strip_ways_of K) := ok_Strip_ways_of T o_Strip_made
  have o_Strip : Okc P w K mg base 5 (cS K) "Strip" ["self", "rule", "edge", "high"] (sp_Strip_init K) := ok_Strip_init T o_Rule_near o_words_of o_Rule_signs o_Strip_ways_of O
  have o_strip_for : Okd P w K mg base 7 "strip_for" ["rule", "edge", "rows"] (sp_strip_for K) := ok_strip_for T o_need_strip o_Strip
  have o_Strip_behind : Okm P w K mg base 1 (cS K) "behind" ["self", "state", "column"] (sp_Strip_behind K) := ok_Strip_behind T 
  have o_counts_on : Okd P w K mg base 2 "counts_on" ["strip", "columns", "last"] (sp_counts_on K) := ok_counts_on T o_Strip_behind
  have o_columns_of : Okd P w K mg base 1 "columns_of" ["rows"] (sp_columns_of K) := ok_columns_of T 
  have o_how_many : Okd P w K mg base 8 "how_many" ["rule", "edge", "rows"] (sp_how_many K) := ok_how_many T o_strip_for o_counts_on o_columns_of
  have o_l_counted : Okd P w K mg base 1 "_law_counted" ["_law_steps_here", "_law_columns_here"] (sp_l_counted K) := ok_l_counted T 
  have o_Strip_set_behind : Okm P w K mg base 2 (cS K) "set_behind" ["self", "some", "column"] (sp_Strip_set_behind K) := ok_Strip_set_behind T o_Strip_behind
  have o_none_of : Okd P w K mg base 8 "none_of" ["rule", "edge", "rows"] (sp_none_of K) := ok_none_of T o_strip_for o_columns_of o_Strip_set_behind
  have o_Strip_are_states : Okm P w K mg base 1 (cS K) "are_states" ["self", "thing"] (sp_Strip_are_states K) := ok_Strip_are_states T 
  have o_none_holds : Okd P w K mg base 8 "none_holds" ["rule", "edge", "rows", "paper"] (sp_none_holds K) := ok_none_holds T o_strip_for o_columns_of o_Strip_are_states o_Strip_set_behind
  have o_l_set_behind : Okd P w K mg base 1 "_law_set_behind" ["_law_steps_here", "_law_some_here", "_law_column"] (sp_l_set_behind K) := ok_l_set_behind T 
  have o_l_sets : Okd P w K mg base 2 "_law_sets" ["_law_steps_here", "_law_columns_here"] (sp_l_sets K) := ok_l_sets T o_l_set_behind
  have o_l_numbers : Okd P w K mg base 2 "_law_numbers" ["_law_bag_here", "_law_many"] (sp_l_numbers K) := ok_l_numbers T o_l_take
  have o_picked : Okd P w K mg base 1 "picked" ["some", "table", "number"] (sp_picked K) := ok_picked T 
  have o_rows_of : Okd P w K mg base 1 "rows_of" ["columns", "high"] (sp_rows_of K) := ok_rows_of T 
  have o_forebear : Okd P w K mg base 8 "forebear" ["rule", "edge", "rows", "number"] (sp_forebear K) := ok_forebear T o_strip_for o_columns_of o_counts_on o_picked o_Strip_behind o_rows_of
  have o_X := ok_forebearX (P := P) (w := w) (base := base) T NF o_strip_for o_columns_of o_counts_on
  have o_l_refused : Okd P w K mg base 9 "_law_refused" ["_law_rule_here", "_law_edge", "_law_rows_here", "_law_many"] (sp_l_refused K) := ok_l_refused T NF o_X
  exact ok_law T o_l_bag o_l_strip o_l_made_rule o_l_signs o_l_letters o_l_take o_l_drawn o_l_next_rows o_l_steps o_l_columns o_how_many o_l_counted o_none_of o_none_holds o_l_sets o_l_numbers o_forebear o_l_refused F
theorem law_walk {n : Nat} {q : Program} {loose : List Str} {XP : (Str → Option Value) → Heap → Prop} {d : DefRec} (dn : d.name = "law") (dd : d.params.defaults = []) (most : PySem.Challenge.rw_cellscript_k70_whole_great_pictures.most = some n) (few : n ≤ sizeLine) :
    PySem.W.WalkO q loose XP hk.says (PySem.W.OpenLaw.row PySem.Challenge.rw_cellscript_k70_whole_great_pictures).toRowW d [] (fun f vs => PySem.call f vs) := by
  refine walk_G (x := "_law_script") most few dd fun w mg fa h Y N at_ => ?_
  obtain ⟨K, inK, says⟩ := Y
  obtain ⟨T, NF, O⟩ := tp_of inK N says
  obtain ⟨fd, F⟩ := T.fn 61 d_law rfl
  rw [dn] at at_
  obtain rfl : fa = He.fAd K d_law.at_ := by
    have e := at_.symm.trans (T.gl "law" (by decide +kernel))
    exact Value.ref.inj (Option.some.inj e)
  exact ⟨K, fd, sp_law K, inK, fun s u => FunD.bindsA (ps := ["_law_script"]) F (fun _ _ _ _ _ _ us hl => match us, hl with | [_], _ => rfl) s [u] rfl, fun _ a ns _ _ sq => ⟨a, ns, rfl, sq, fun _ => rfl⟩, fun base _ _ => law_runs T NF O F⟩
end K70
open PySem PySem.W PySem.Calls PyProof.Rows in
theorem PySem.Challenge.cw_cellscript_k70_whole_great_pictures_holds : PySem.Challenge.rw_cellscript_k70_whole_great_pictures.Holds := by
  w_on; o_law
  refine HandSHeadRun.head_any (r := K70.R) (q := view K70.R.prog [74]) (H := K70.hk) (ob := K70.ob) (M := 6000) (loose := K70.names) (d := HandSHeadRun.topDef K70.R.prog 74) (kwd := []) K70.ob_eq
    (by kernel_rfl) (fun s => by kernel_rfl) K70.run (by kernel_rfl) (by kernel_rfl) (by kernel_rfl) (by rfl) (by first | assumption | decide +kernel) (by decide +kernel) ⟨rfl, rfl, rfl, rfl, rfl, by decide +kernel⟩ ?hw ?hc
  case hw => w_witness2
  case hc => exact K70.law_walk (n := 63) (by kernel_rfl) (by kernel_rfl) rfl (by decide)
#print axioms PySem.Challenge.cw_cellscript_k70_whole_great_pictures_holds
