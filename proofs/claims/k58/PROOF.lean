import PyProof.Rows.All
import Wide.All
import OpenK.AllK
import Wide.FinOn
import HandS.Head0
import HandS.Head1
import HandS.Head2
import HandS.HeadEnd
import HandS.HeadHook1
import HandS.HeadHook2
import HandS.HeadHook3
import HandS.HeadHook4
import HandS.Words
import PySem.Challenge.RW_needpegs_k58_whole_nearest_stands_lie_be
import HandS.ForMost
import HandS.Exc
import HandS.Evl
import HandS.Walk
import HandS.Conv
import HandS.More
import HandS.Star
import HandS.Property
import HandS.OwnEq
import HandS.IsInst
import HandS.Defaults
import HandS.MakeKwOnly
import HandS.DictComp
import HandS.TupAny
import HandS.Style
import HandS.Flow
import HandS.Deep
import HandS.Lambda
import PyProof.InstNe
import KE.GoesEnum
import KE.GoesMore
import HandS.Set
import HandS.Strs
import HandS.SetFor
import HandS.SetTxt0
import HandS.SetKeys
import PyProof.Rows.SortShellAny
import HandS.ListItems
import KE.KDictList
import HandS.Zip0
import KE.KDictZip
import KE.KDictPairs
import KE.GoesEnumKw
import HandS.Dict
import PyProof.Rows.CallKwBuiltin
import KE.SortKeyHeap
import KE.SortData
import HandS.ExcValue
import HandS.HeadWalk
import HandS.NestedK
section
set_option Elab.async false
set_option linter.all false
set_option maxRecDepth 100000
set_option maxHeartbeats 0
/-! The head: where the defs stand, what they are. -/
namespace NP
open PySem PySem.Spec PyProof.Rows L2
def names0 : List PySem.Str := ["_wall", "PegError", "NoBoard", "NoText", "NoTurn", "Missing", "Needed", "Barred", "NoMatch", "Stuck", "Unmet", "NoPeg", "wish_words", "Wish", "LETTERS", "DIGITS", "LONGEST_NAME", "LONGEST_FIGURE", "MOST_COST", "is_integer", "is_name", "is_figure", "are_strings", "are_pairs", "MOST_PEGS", "BoardText", "board_parts", "check_form", "check_pegs", "check_pairs"]
def names1 : List PySem.Str := ["needed_rows", "longer_row", "barred_in", "check_dead", "clash_pairs", "Turn", "Put", "Take", "check_board", "stand_after", "turned", "Way", "can_turn", "member_rows", "can_join", "check_members", "Stand", "Board", "need_pairs", "part_of", "check_union", "united", "_law_box", "_law_take", "_law_mixed", "_law_names", "_law_rows", "_law_is_barred", "_law_parts", "_law_board"]
def names2 : List PySem.Str := ["_law_is_stand", "_law_some_stand", "_law_some_wish", "_law_meets", "_law_obstacles", "_law_good_wish", "_law_some_goal"]
def names : List PySem.Str := names0 ++ names1 ++ names2
def top (i : Nat) : Stmt := PySem.Challenge.pw_needpegs_k58_whole_nearest_stands_lie_be.main.body.getD i (.Pass ⟨0, 0, 0, 0⟩)
def clsBody (s : Stmt) : List Stmt := match s with
  | .ClassDef (body := b) .. => b
  | _ => []
def mth (i j : Nat) : Stmt := (clsBody (top i)).getD j (.Pass ⟨0, 0, 0, 0⟩)
abbrev R : PySem.W.OpenRow := PySem.W.OpenLaw.row PySem.Challenge.rw_needpegs_k58_whole_nearest_stands_lie_be
/-- a property's getter -/
def gAd (K : PySem.W.Frag) (p : Str × Option Str) : Addr := match PySem.W.recIn K (He.fAd K p) "property" with
  | some (.ref g :: _) => g
  | _ => 0
def fnA (K : PySem.W.Frag) (a : Addr) : He.FnW := match K.lookup a with
  | some ⟨_, _, .func fd, _⟩ => some (fd.name, fd.qualname, fd.params, fd.body, fd.scope, fd.globals, fd.closure, fd.builtins)
  | _ => none
def okA (K : PySem.W.Frag) (a : Addr) (d : He.DefD) : Bool := PySem.W.keepIn K (.ref a) && (match K.lookup a with
  | some ⟨_, _, .func fd, _⟩ => PySem.W.codeIn K fd.code d.qual && (He.dflB K fd.defaults (d.dvs K) && He.kwdB K fd.kwdefaults (d.kws K))
  | _ => false)
theorem funA {K : PySem.W.Frag} {a : Addr} {d : He.DefD} (e : fnA K a = d.val) (c : okA K a d = true) : ∃ fd, FunD K d.name d.qual d.params d.body d.scope (d.dvs K) (d.kws K) a fd := by
  obtain ⟨kp, c2⟩ := He.ba c
  unfold fnA at e
  cases q : K.lookup a with
  | none =>
    rw [q] at c2
    cases c2
  | some o =>
    obtain ⟨oc, od, dt, osl⟩ := o
    rw [q] at c2 e
    cases dt with
    | func fd =>
      obtain ⟨n1, n2, n3, n4, n5, n6, n7, n8, n9, n10, n11, n12, n13, n14, n15⟩ := fd
      have e2 : (some (n1, n2, n3, n4, n5, n6, n7, n15) : He.FnW) = some (d.name, d.qual, d.params, .stmts d.body, d.scope, mainGlobals, [], builtinsNs) := e
      simp only [Option.some.injEq, Prod.mk.injEq] at e2
      obtain ⟨h1, h2, h3, h4, h5, h6, h7, h8⟩ := e2
      subst h1 h2 h3 h4 h5 h6 h7 h8
      have c3 : (PySem.W.codeIn K n13 d.qual && (He.dflB K n8 (d.dvs K) && He.kwdB K n9 (d.kws K))) = true := c2
      obtain ⟨k1, k2⟩ := He.ba c3
      obtain ⟨k3, k4⟩ := He.ba k2
      exact ⟨_, ⟨oc, od, n8, n9, n10, n11, n12, n13, n14, osl, rfl, q, k1, He.dflB_ok k3, He.kwdB_ok k4⟩, kp⟩
    | _ => cases c2
def d_is_integer : He.DefD := ⟨("is_integer", none), "is_integer", "is_integer", defArgs (top 22), defBody (top 22), defScope (top 22), [], []⟩
def d_is_name : He.DefD := ⟨("is_name", none), "is_name", "is_name", defArgs (top 23), defBody (top 23), defScope (top 23), [], []⟩
def d_are_strings : He.DefD := ⟨("are_strings", none), "are_strings", "are_strings", defArgs (top 25), defBody (top 25), defScope (top 25), [], []⟩
def d_are_pairs : He.DefD := ⟨("are_pairs", none), "are_pairs", "are_pairs", defArgs (top 26), defBody (top 26), defScope (top 26), [], []⟩
def d_check_form : He.DefD := ⟨("check_form", none), "check_form", "check_form", defArgs (top 32), defBody (top 32), defScope (top 32), [], []⟩
def d_check_pegs : He.DefD := ⟨("check_pegs", none), "check_pegs", "check_pegs", defArgs (top 33), defBody (top 33), defScope (top 33), [], []⟩
def d_check_pairs : He.DefD := ⟨("check_pairs", none), "check_pairs", "check_pairs", defArgs (top 34), defBody (top 34), defScope (top 34), [], []⟩
def d_needed_rows : He.DefD := ⟨("needed_rows", none), "needed_rows", "needed_rows", defArgs (top 35), defBody (top 35), defScope (top 35), [], []⟩
def d_longer_row : He.DefD := ⟨("longer_row", none), "longer_row", "longer_row", defArgs (top 36), defBody (top 36), defScope (top 36), [], []⟩
def d_barred_in : He.DefD := ⟨("barred_in", none), "barred_in", "barred_in", defArgs (top 37), defBody (top 37), defScope (top 37), [], []⟩
def d_check_dead : He.DefD := ⟨("check_dead", none), "check_dead", "check_dead", defArgs (top 38), defBody (top 38), defScope (top 38), [], []⟩
def d_clash_pairs : He.DefD := ⟨("clash_pairs", none), "clash_pairs", "clash_pairs", defArgs (top 39), defBody (top 39), defScope (top 39), [], []⟩
def d_check_board : He.DefD := ⟨("check_board", none), "check_board", "check_board", defArgs (top 45), defBody (top 45), defScope (top 45), [], []⟩
def d_stand_after : He.DefD := ⟨("stand_after", none), "stand_after", "stand_after", defArgs (top 46), defBody (top 46), defScope (top 46), [], []⟩
def d_turned : He.DefD := ⟨("turned", none), "turned", "turned", defArgs (top 47), defBody (top 47), defScope (top 47), [], []⟩
def d_check_members : He.DefD := ⟨("check_members", none), "check_members", "check_members", defArgs (top 53), defBody (top 53), defScope (top 53), [], []⟩
def d__law_box : He.DefD := ⟨("_law_box", none), "_law_box", "_law_box", defArgs (top 62), defBody (top 62), defScope (top 62), [], []⟩
def d__law_take : He.DefD := ⟨("_law_take", none), "_law_take", "_law_take", defArgs (top 63), defBody (top 63), defScope (top 63), [], []⟩
def d__law_mixed : He.DefD := ⟨("_law_mixed", none), "_law_mixed", "_law_mixed", defArgs (top 64), defBody (top 64), defScope (top 64), [], []⟩
def d__law_names : He.DefD := ⟨("_law_names", none), "_law_names", "_law_names", defArgs (top 65), defBody (top 65), defScope (top 65), [], []⟩
def d__law_rows : He.DefD := ⟨("_law_rows", none), "_law_rows", "_law_rows", defArgs (top 66), defBody (top 66), defScope (top 66), [], []⟩
def d__law_is_barred : He.DefD := ⟨("_law_is_barred", none), "_law_is_barred", "_law_is_barred", defArgs (top 67), defBody (top 67), defScope (top 67), [], []⟩
def d__law_parts : He.DefD := ⟨("_law_parts", none), "_law_parts", "_law_parts", defArgs (top 68), defBody (top 68), defScope (top 68), [], []⟩
def d__law_board : He.DefD := ⟨("_law_board", none), "_law_board", "_law_board", defArgs (top 69), defBody (top 69), defScope (top 69), [], []⟩
def d__law_is_stand : He.DefD := ⟨("_law_is_stand", none), "_law_is_stand", "_law_is_stand", defArgs (top 70), defBody (top 70), defScope (top 70), [], []⟩
def d__law_some_stand : He.DefD := ⟨("_law_some_stand", none), "_law_some_stand", "_law_some_stand", defArgs (top 71), defBody (top 71), defScope (top 71), [], []⟩
def d__law_some_wish : He.DefD := ⟨("_law_some_wish", none), "_law_some_wish", "_law_some_wish", defArgs (top 72), defBody (top 72), defScope (top 72), [], []⟩
def d__law_meets : He.DefD := ⟨("_law_meets", none), "_law_meets", "_law_meets", defArgs (top 73), defBody (top 73), defScope (top 73), [], []⟩
def d__law_obstacles : He.DefD := ⟨("_law_obstacles", none), "_law_obstacles", "_law_obstacles", defArgs (top 74), defBody (top 74), defScope (top 74), [], []⟩
def d__law_good_wish : He.DefD := ⟨("_law_good_wish", none), "_law_good_wish", "_law_good_wish", defArgs (top 75), defBody (top 75), defScope (top 75), [], []⟩
def d__law_some_goal : He.DefD := ⟨("_law_some_goal", none), "_law_some_goal", "_law_some_goal", defArgs (top 76), defBody (top 76), defScope (top 76), [], []⟩
def d_law : He.DefD := ⟨("law", none), "law", "law", defArgs (top 77), defBody (top 77), defScope (top 77), [], []⟩
def d_Wish___init__ : He.DefD := ⟨("Wish", some "__init__"), "__init__", "Wish.__init__", defArgs (mth 15 0), defBody (mth 15 0), defScope (mth 15 0), [.adr (He.dflAt ("Wish", some "__init__") 0), .adr (He.dflAt ("Wish", some "__init__") 1)], []⟩
def d_Wish___call__ : He.DefD := ⟨("Wish", some "__call__"), "__call__", "Wish.__call__", defArgs (mth 15 6), defBody (mth 15 6), defScope (mth 15 6), [], []⟩
def d_Wish_check_pegs : He.DefD := ⟨("Wish", some "check_pegs"), "check_pegs", "Wish.check_pegs", defArgs (mth 15 9), defBody (mth 15 9), defScope (mth 15 9), [], []⟩
def d_Wish_obstacle : He.DefD := ⟨("Wish", some "obstacle"), "obstacle", "Wish.obstacle", defArgs (mth 15 10), defBody (mth 15 10), defScope (mth 15 10), [], []⟩
def d_Wish_check_possible : He.DefD := ⟨("Wish", some "check_possible"), "check_possible", "Wish.check_possible", defArgs (mth 15 12), defBody (mth 15 12), defScope (mth 15 12), [], []⟩
def d_Wish_forced : He.DefD := ⟨("Wish", some "forced"), "forced", "Wish.forced", defArgs (mth 15 13), defBody (mth 15 13), defScope (mth 15 13), [], []⟩
def d_Put___init__ : He.DefD := ⟨("Put", some "__init__"), "__init__", "Put.__init__", defArgs (mth 42 1), defBody (mth 42 1), defScope (mth 42 1), [], []⟩
def d_Take___init__ : He.DefD := ⟨("Take", some "__init__"), "__init__", "Take.__init__", defArgs (mth 43 1), defBody (mth 43 1), defScope (mth 43 1), [], []⟩
def d_Way___init__ : He.DefD := ⟨("Way", some "__init__"), "__init__", "Way.__init__", defArgs (mth 48 0), defBody (mth 48 0), defScope (mth 48 0), [.adr (He.dflAt ("Way", some "__init__") 0)], []⟩
def d_Way___add__ : He.DefD := ⟨("Way", some "__add__"), "__add__", "Way.__add__", defArgs (mth 48 7), defBody (mth 48 7), defScope (mth 48 7), [], []⟩
def d_Stand___init__ : He.DefD := ⟨("Stand", some "__init__"), "__init__", "Stand.__init__", defArgs (mth 54 0), defBody (mth 54 0), defScope (mth 54 0), [], []⟩
def d_Stand___eq__ : He.DefD := ⟨("Stand", some "__eq__"), "__eq__", "Stand.__eq__", defArgs (mth 54 4), defBody (mth 54 4), defScope (mth 54 4), [], []⟩
def d_Stand___sub__ : He.DefD := ⟨("Stand", some "__sub__"), "__sub__", "Stand.__sub__", defArgs (mth 54 9), defBody (mth 54 9), defScope (mth 54 9), [], []⟩
def d_Stand___add__ : He.DefD := ⟨("Stand", some "__add__"), "__add__", "Stand.__add__", defArgs (mth 54 10), defBody (mth 54 10), defScope (mth 54 10), [], []⟩
def d_Stand_needed_by : He.DefD := ⟨("Stand", some "needed_by"), "needed_by", "Stand.needed_by", defArgs (mth 54 16), defBody (mth 54 16), defScope (mth 54 16), [], []⟩
def d_Stand_with_peg : He.DefD := ⟨("Stand", some "with_peg"), "with_peg", "Stand.with_peg", defArgs (mth 54 19), defBody (mth 54 19), defScope (mth 54 19), [], []⟩
def d_Stand_without_peg : He.DefD := ⟨("Stand", some "without_peg"), "without_peg", "Stand.without_peg", defArgs (mth 54 20), defBody (mth 54 20), defScope (mth 54 20), [], []⟩
def d_Stand_distance : He.DefD := ⟨("Stand", some "distance"), "distance", "Stand.distance", defArgs (mth 54 22), defBody (mth 54 22), defScope (mth 54 22), [], []⟩
def d_Stand_is_between : He.DefD := ⟨("Stand", some "is_between"), "is_between", "Stand.is_between", defArgs (mth 54 24), defBody (mth 54 24), defScope (mth 54 24), [], []⟩
def d_Board___init__ : He.DefD := ⟨("Board", some "__init__"), "__init__", "Board.__init__", defArgs (mth 56 1), defBody (mth 56 1), defScope (mth 56 1), [], []⟩
def d_Board___contains__ : He.DefD := ⟨("Board", some "__contains__"), "__contains__", "Board.__contains__", defArgs (mth 56 3), defBody (mth 56 3), defScope (mth 56 3), [], []⟩
def d_Board___eq__ : He.DefD := ⟨("Board", some "__eq__"), "__eq__", "Board.__eq__", defArgs (mth 56 4), defBody (mth 56 4), defScope (mth 56 4), [], []⟩
def d_Board___call__ : He.DefD := ⟨("Board", some "__call__"), "__call__", "Board.__call__", defArgs (mth 56 6), defBody (mth 56 6), defScope (mth 56 6), [], []⟩
def d_Board_require : He.DefD := ⟨("Board", some "require"), "require", "Board.require", defArgs (mth 56 11), defBody (mth 56 11), defScope (mth 56 11), [], []⟩
def d_Board_cost_of : He.DefD := ⟨("Board", some "cost_of"), "cost_of", "Board.cost_of", defArgs (mth 56 12), defBody (mth 56 12), defScope (mth 56 12), [], []⟩
def d_Board_below : He.DefD := ⟨("Board", some "below"), "below", "Board.below", defArgs (mth 56 13), defBody (mth 56 13), defScope (mth 56 13), [], []⟩
def d_Board_above : He.DefD := ⟨("Board", some "above"), "above", "Board.above", defArgs (mth 56 14), defBody (mth 56 14), defScope (mth 56 14), [], []⟩
def d_Board_needs : He.DefD := ⟨("Board", some "needs"), "needs", "Board.needs", defArgs (mth 56 15), defBody (mth 56 15), defScope (mth 56 15), [], []⟩
def d_Board_clash : He.DefD := ⟨("Board", some "clash"), "clash", "Board.clash", defArgs (mth 56 16), defBody (mth 56 16), defScope (mth 56 16), [], []⟩
def d_Way_board : He.DefD := ⟨("Way", some "board"), "board", "Way.board", defArgs (mth 48 9), defBody (mth 48 9), defScope (mth 48 9), [], []⟩
def d_Way_turns : He.DefD := ⟨("Way", some "turns"), "turns", "Way.turns", defArgs (mth 48 10), defBody (mth 48 10), defScope (mth 48 10), [], []⟩
def d_Stand_board : He.DefD := ⟨("Stand", some "board"), "board", "Stand.board", defArgs (mth 54 11), defBody (mth 54 11), defScope (mth 54 11), [], []⟩
def d_Stand_pegs : He.DefD := ⟨("Stand", some "pegs"), "pegs", "Stand.pegs", defArgs (mth 54 12), defBody (mth 54 12), defScope (mth 54 12), [], []⟩
def d_Board_pegs : He.DefD := ⟨("Board", some "pegs"), "pegs", "Board.pegs", defArgs (mth 56 9), defBody (mth 56 9), defScope (mth 56 9), [], []⟩
def fn : List He.DefD := [d_is_integer, d_is_name, d_are_strings, d_are_pairs, d_check_form, d_check_pegs, d_check_pairs, d_needed_rows, d_longer_row, d_barred_in, d_check_dead, d_clash_pairs, d_check_board, d_stand_after, d_turned, d_check_members, d__law_box, d__law_take, d__law_mixed, d__law_names, d__law_rows, d__law_is_barred, d__law_parts, d__law_board, d__law_is_stand, d__law_some_stand, d__law_some_wish, d__law_meets, d__law_obstacles, d__law_good_wish, d__law_some_goal, d_law, d_Wish___init__, d_Wish___call__, d_Wish_check_pegs, d_Wish_obstacle, d_Wish_check_possible, d_Wish_forced, d_Put___init__, d_Take___init__, d_Way___init__, d_Way___add__, d_Stand___init__, d_Stand___eq__, d_Stand___sub__, d_Stand___add__, d_Stand_needed_by, d_Stand_with_peg, d_Stand_without_peg, d_Stand_distance, d_Stand_is_between, d_Board___init__, d_Board___contains__, d_Board___eq__, d_Board___call__, d_Board_require, d_Board_cost_of, d_Board_below, d_Board_above, d_Board_needs, d_Board_clash]
def gs : List He.DefD := [d_Way_board, d_Way_turns, d_Stand_board, d_Stand_pegs, d_Board_pegs]
def fa : List He.Fa := [.glo "is_integer", .glo "is_name", .glo "are_strings", .glo "are_pairs", .glo "check_form", .glo "check_pegs", .glo "check_pairs", .glo "needed_rows", .glo "longer_row", .glo "barred_in", .glo "check_dead", .glo "clash_pairs", .glo "check_board", .glo "stand_after", .glo "turned", .glo "check_members", .glo "_law_box", .glo "_law_take", .glo "_law_mixed", .glo "_law_names", .glo "_law_rows", .glo "_law_is_barred", .glo "_law_parts", .glo "_law_board", .glo "_law_is_stand", .glo "_law_some_stand", .glo "_law_some_wish", .glo "_law_meets", .glo "_law_obstacles", .glo "_law_good_wish", .glo "_law_some_goal", .glo "law", .glo "Wish", .glo "Put", .glo "Take", .glo "Way", .glo "Stand", .glo "Board", .free "len", .free "list", .free "tuple", .free "sorted", .free "set", .free "all", .free "any", .free "isinstance", .free "range", .free "enumerate", .free "max", .free "min", .free "int", .free "dict", .free "sum", .free "zip", .free "bool", .free "str", .int "LONGEST_NAME" 6, .int "MOST_COST" 1000, .str "LETTERS" "abcdefghijklmnopqrstuvwxyz", .cls "Wish", .cls "Put", .cls "Take", .cls "Way", .cls "Stand", .cls "Board", .mkr "Wish", .mkr "Put", .mkr "Take", .mkr "Way", .mkr "Stand", .mkr "Board", .noat "Wish" "wanted", .noat "Wish" "unwanted", .noat "Put" "peg", .noat "Take" "peg", .noat "Way" "ground", .noat "Way" "row", .noat "Stand" "ground", .noat "Stand" "members", .noat "Board" "order", .noat "Board" "prices", .noat "Board" "rows", .noat "Board" "clashes", .noat "Board" "key", .meth "Wish" "__init__", .meth "Wish" "__call__", .meth "Wish" "check_pegs", .meth "Wish" "obstacle", .meth "Wish" "check_possible", .meth "Wish" "forced", .meth "Put" "__init__", .meth "Take" "__init__", .meth "Way" "__init__", .meth "Way" "__add__", .meth "Stand" "__init__", .meth "Stand" "__eq__", .meth "Stand" "__sub__", .meth "Stand" "__add__", .meth "Stand" "needed_by", .meth "Stand" "with_peg", .meth "Stand" "without_peg", .meth "Stand" "distance", .meth "Stand" "is_between", .meth "Board" "__init__", .meth "Board" "__contains__", .meth "Board" "__eq__", .meth "Board" "__call__", .meth "Board" "require", .meth "Board" "cost_of", .meth "Board" "below", .meth "Board" "above", .meth "Board" "needs", .meth "Board" "clash"]
def exB : List (PySem.W.Frag → Bool) := [
  fun K => decide (PySem.W.findIn K (.ref (He.ga K "Way")) "board" = some (some (.ref (He.fAd K ("Way", some "board"))))),
  fun K => decide (PySem.W.specialIn K (.ref (He.fAd K ("Way", some "board"))) "__get__" = some (some (.builtin "property.__get__"))),
  fun K => decide (PySem.W.takesIn K (.ref (He.fAd K ("Way", some "board"))) = some true),
  fun K => (match PySem.W.recIn K (He.fAd K ("Way", some "board")) "property" with | some (.ref _ :: _) => true | _ => false),
  fun K => decide (PySem.W.findIn K (.ref (He.ga K "Way")) "turns" = some (some (.ref (He.fAd K ("Way", some "turns"))))),
  fun K => decide (PySem.W.specialIn K (.ref (He.fAd K ("Way", some "turns"))) "__get__" = some (some (.builtin "property.__get__"))),
  fun K => decide (PySem.W.takesIn K (.ref (He.fAd K ("Way", some "turns"))) = some true),
  fun K => (match PySem.W.recIn K (He.fAd K ("Way", some "turns")) "property" with | some (.ref _ :: _) => true | _ => false),
  fun K => decide (PySem.W.findIn K (.ref (He.ga K "Stand")) "board" = some (some (.ref (He.fAd K ("Stand", some "board"))))),
  fun K => decide (PySem.W.specialIn K (.ref (He.fAd K ("Stand", some "board"))) "__get__" = some (some (.builtin "property.__get__"))),
  fun K => decide (PySem.W.takesIn K (.ref (He.fAd K ("Stand", some "board"))) = some true),
  fun K => (match PySem.W.recIn K (He.fAd K ("Stand", some "board")) "property" with | some (.ref _ :: _) => true | _ => false),
  fun K => decide (PySem.W.findIn K (.ref (He.ga K "Stand")) "pegs" = some (some (.ref (He.fAd K ("Stand", some "pegs"))))),
  fun K => decide (PySem.W.specialIn K (.ref (He.fAd K ("Stand", some "pegs"))) "__get__" = some (some (.builtin "property.__get__"))),
  fun K => decide (PySem.W.takesIn K (.ref (He.fAd K ("Stand", some "pegs"))) = some true),
  fun K => (match PySem.W.recIn K (He.fAd K ("Stand", some "pegs")) "property" with | some (.ref _ :: _) => true | _ => false),
  fun K => decide (PySem.W.findIn K (.ref (He.ga K "Board")) "pegs" = some (some (.ref (He.fAd K ("Board", some "pegs"))))),
  fun K => decide (PySem.W.specialIn K (.ref (He.fAd K ("Board", some "pegs"))) "__get__" = some (some (.builtin "property.__get__"))),
  fun K => decide (PySem.W.takesIn K (.ref (He.fAd K ("Board", some "pegs"))) = some true),
  fun K => (match PySem.W.recIn K (He.fAd K ("Board", some "pegs")) "property" with | some (.ref _ :: _) => true | _ => false),
  fun K => okA K (gAd K d_Way_board.at_) d_Way_board,
  fun K => okA K (gAd K d_Way_turns.at_) d_Way_turns,
  fun K => okA K (gAd K d_Stand_board.at_) d_Stand_board,
  fun K => okA K (gAd K d_Stand_pegs.at_) d_Stand_pegs,
  fun K => okA K (gAd K d_Board_pegs.at_) d_Board_pegs,
  fun K => decide (PySem.W.findIn K (.ref (He.ga K "Wish")) "__call__" = some (some (.ref (He.fAd K ("Wish", some "__call__"))))),
  fun K => PySem.W.isFn K (.ref (He.fAd K ("Wish", some "__call__"))),
  fun K => PySem.W.fnIn K (He.fAd K ("Wish", some "__call__")),
  fun K => decide (PySem.W.findIn K (.ref (He.ga K "Board")) "__call__" = some (some (.ref (He.fAd K ("Board", some "__call__"))))),
  fun K => PySem.W.isFn K (.ref (He.fAd K ("Board", some "__call__"))),
  fun K => PySem.W.fnIn K (He.fAd K ("Board", some "__call__")),
  fun K => He.conB K "Put" "sign" (.str "+"),
  fun K => He.conB K "Take" "sign" (.str "-"),
  fun K => He.conB K "Board" "MOST" (.int 12),
  fun K => decide (PySem.W.findIn K (.ref (He.ga K "Stand")) "__ne__" = some (some (.builtin "object.__ne__"))),
  fun K => decide (PySem.W.subIn K (.ref (He.ga K "Stand")) (.type "object") = some true),
  fun K => decide (PySem.W.findIn K (.ref (He.ga K "Stand")) "__class__" = some (some (.builtin "object.__class__"))),
  fun K => decide (PySem.W.mroIn K (He.ga K "Stand") (.type "object") = some true),
  fun K => decide (PySem.W.kitOne K (.ref (He.ga K "Stand")) (.ref (He.ga K "Stand")) = some true),
  fun K => decide (PySem.W.findIn K (.ref (He.ga K "Board")) "__ne__" = some (some (.builtin "object.__ne__"))),
  fun K => decide (PySem.W.subIn K (.ref (He.ga K "Board")) (.type "object") = some true),
  fun K => decide (PySem.W.findIn K (.ref (He.ga K "Board")) "__class__" = some (some (.builtin "object.__class__"))),
  fun K => decide (PySem.W.mroIn K (He.ga K "Board") (.type "object") = some true),
  fun K => decide (PySem.W.kitOne K (.ref (He.ga K "Board")) (.ref (He.ga K "Board")) = some true),
  fun K => decide (PySem.W.specialIn K (.builtin "object.__class__") "__get__" = some (some (.builtin "getset_descriptor.__get__"))),
  fun K => decide (PySem.W.takesIn K (.builtin "object.__class__") = some true),
  fun K => PySem.W.selfFirst K (He.ga K "Stand"),
  fun K => decide (PySem.W.findIn K (.ref (He.ga K "Stand")) "__radd__" = some none),
  fun K => PySem.W.selfFirst K (He.ga K "Way"),
  fun K => decide (PySem.W.findIn K (.ref (He.ga K "Way")) "__radd__" = some none),
  fun K => decide (PySem.W.subIn K (.ref (He.ga K "Way")) (.ref (He.ga K "Stand")) = some false),
  fun K => decide (He.ga K "Stand" ≠ He.ga K "Way")]
def ex (K : PySem.W.Frag) : Bool := exB.all fun f => f K
def nmF : List Str := ["is_integer", "is_name", "are_strings", "are_pairs", "check_form", "check_pegs", "check_pairs", "needed_rows", "longer_row", "barred_in", "check_dead", "clash_pairs", "check_board", "stand_after", "turned", "check_members", "_law_box", "_law_take", "_law_mixed", "_law_names", "_law_rows", "_law_is_barred", "_law_parts", "_law_board", "_law_is_stand", "_law_some_stand", "_law_some_wish", "_law_meets", "_law_obstacles", "_law_good_wish", "_law_some_goal", "law"]
def nmC : List Str := ["Wish", "Put", "Take", "Way", "Stand", "Board"]
def refsAt (r : Obj → List Addr) (g : Addr → Option Obj) (as : List Addr) : List Addr := as.flatMap fun a => match g a with
  | some o => r o
  | none => []
def refsC (o : Obj) : List Addr := match o.data with
  | .cls cd => cd.ns :: cd.mro.flatMap He.refV
  | _ => []
def refsN (o : Obj) : List Addr := match o.data with
  | .dict es _ => es.toList.flatMap fun e => He.refV e.val
  | _ => []
def refsF (o : Obj) : List Addr := match o.data with
  | .func fd => He.refV fd.code ++ He.refV fd.defaults
  | .fields vs => (match o.cls with
    | .type "property" => vs.toList.flatMap He.refV
    | _ => [])
  | _ => []
/-- the objects looked at -/
def asP (g : Addr → Option Obj) : List Addr :=
  let K0 := He.frT g [mainGlobals]
  let cs := nmC.map (He.ga K0)
  let fs := nmF.map (He.ga K0)
  let ns := refsAt refsC g cs
  let ms := refsAt refsN g ns
  let m2 := refsAt refsF g ms
  mainGlobals :: cs ++ ns ++ refsAt refsC g ns ++ fs ++ ms ++ refsAt refsF g fs ++ m2 ++ refsAt refsF g m2
def tf : List He.Defn := [("Stand", some "__sub__")]
abbrev AlP : Type := He.AlX × List He.FnW
abbrev frP (g : Addr → Option Obj) : PySem.W.Frag := He.frT g (asP g)
def obsK (g : Addr → Option Obj) (K : PySem.W.Frag) : AlP := ((He.obsT fa fn [] K, ex K && He.tabsB g tf K), gs.map fun d => fnA K (gAd K d.at_))
def obsP (g : Addr → Option Obj) : AlP := obsK g (frP g)
def valP (w : World) : AlP := (He.valX fn [] w, gs.map He.DefD.val)
structure SaysP (w : World) (h : Heap) (K : PySem.W.Frag) : Prop where
  x : He.SaysX fa fn [] tf ex w h K
  g : (gs.map fun d => fnA K (gAd K d.at_)) = gs.map He.DefD.val
theorem saysP_of {w : World} {h : Heap} (e : obsP h.get? = valP w) : SaysP w h (frP h.get?) := by
  have e0 := congrArg (fun z : AlP => z.1) e
  have e1 : He.obsT fa fn [] (frP h.get?) = He.valT fn [] w := congrArg (fun z : He.AlX => z.1) e0
  have e2 : (ex (frP h.get?) && He.tabsB h.get? tf (frP h.get?)) = true := congrArg (fun z : He.AlX => z.2) e0
  obtain ⟨h1, h2⟩ := He.ba e2
  have key : ∀ p ∈ tf, PySem.W.codeHdIn (frP h.get?) (He.cT (frP h.get?) p).1 (He.cT (frP h.get?) p).2 = true ∧ ∃ o, h.get? (He.cT (frP h.get?) p).2 = some o ∧ He.emptyTab o = true := fun p hp => by
    obtain ⟨h3, h4⟩ := He.ba (List.all_eq_true.mp h2 p hp)
    refine ⟨h3, ?_⟩
    cases q : h.get? (He.cT (frP h.get?) p).2 with
    | none =>
      rw [q] at h4
      cases h4
    | some o =>
      rw [q] at h4
      exact ⟨o, rfl, h4⟩
  refine ⟨⟨e1, h1, fun p hp => (key p hp).1, fun p hp => ?_, fun p hp => ?_⟩, congrArg (fun z : AlP => z.2) e⟩
  · obtain ⟨_, o, q, z⟩ := key p hp
    exact He.frT_none q z
  · obtain ⟨_, o, q, z⟩ := key p hp
    rw [q, He.emptyTab_eq z]
def hk : PySem.W.Hook where
  α := AlP
  obs := fun s => obsP s.heap.get?
  val := fun w => valP w
  says := fun w h => ∃ K : PySem.W.Frag, K.In h ∧ SaysP w h K
  of := fun _ _ e => ⟨_, He.frT_in, saysP_of e⟩
  keeps := fun _ _ _ ⟨K, hK, c⟩ k => ⟨K, PySem.W.Frag.In.keeps hK k, ⟨⟨c.x.t, c.x.more, c.x.hd, c.x.out, fun p hp => k _ _ (c.x.empty p hp)⟩, c.g⟩⟩
def ob (s : PySem.W.SharedT) : AlP := obsP (HandSHeadRun.getT s)
theorem ob_eq (s : PySem.W.SharedT) : ob s = hk.obs s.abs := by
  have e : HandSHeadRun.getT s = s.abs.heap.get? := funext (HandSHeadRun.getT_eq s)
  unfold ob
  rw [e] <;> rfl
end NP
end
section
set_option Elab.async false
set_option linter.all false
set_option maxRecDepth 100000
set_option maxHeartbeats 0
namespace NP
open PySem PySem.Spec PyProof.Rows L2
theorem run (w : World) : HandSHeadRun.RunEq R (PySem.W.view R.prog [77]) hk ob 12000 names w := by
  intro os
  kernel_rfl
end NP
end
section
set_option Elab.async false
set_option linter.all false
set_option maxRecDepth 100000
set_option maxHeartbeats 4000000
/-! Further rules over the layer: calls by a positional promise, own operators, own `in`. -/
namespace NP
open PySem PySem.Spec PyProof.Rows L2
/-- no exception leaves any def here -/
abbrev OK (P : Program) (w : World) (K : PySem.W.Frag) (mg : Str → Option Value) (base : Heap) (k : Nat) (f : Addr) (sp : Sp) : Prop := FnR P w K mg base CX0 k f sp
section
variable {X : Cx} {j k : Nat} {f C g : Addr} {sp : Sp} {x m : Str} {p pos apos : Pos} {e o : Expr} {es : List Expr} {ta : TE} {t : TA}
/-- f(e, ..) -/
def tCl (sp : Sp) (t : TA) : TE := fun σ H Q => t σ H fun vs H1 => sp vs H1 Q E0
theorem pe_cl (F : OK X.prog X.w X.K X.mg X.base j f sp) (hr : Room k X.A) (hj : j ≤ k) (hg : Gl X x) (hm : X.mg x = some (.ref f)) (hk : PySem.W.keepIn X.K (.ref f) = true)
    (ha : PA X (e :: es) t) (hdb : (x == ("__debug__" : Str)) = false := by decide) (he : starEach (e :: es) X.env = (false, eval e X.env) :: starEach es X.env := by rfl) (hpl : (backTo pos (starEach es X.env)).any (·.1) = false := by rfl) :
    PE X (.Call (.Name x p) (e :: es) [] pos) (tCl sp t) := by
  refine ⟨fun pins s σ H Q I h => ?_⟩
  refine wpAny_Call_Name_kw (ld_glob I hg hm ?_ hdb)
  refine PySem.W.callWith_K (h₀ := X.base) I.ok.mod.kin hk (thn (ha.run pos pins s σ H _ I h) fun us s1 ⟨vs, H1, I1, r, q⟩ => ⟨I1.kIn, ?_⟩) he hpl
  exact wpAny_call (run_fnR (F.mono hj) hr pass0 I1 r q)
/-- o.m() -/
def tMt0 (C : Addr) (m : Str) (sp : Sp) (ta : TE) : TE := fun σ H Q => ta σ H fun x H1 => ∃ a dx fs, x = .ref a ∧ H1 a = some (.ins C dx fs) ∧ fs.lookup m = none ∧ sp [x] H1 Q E0
theorem pe_mt0R {pl : Sem Bool} (F : OK X.prog X.w X.K X.mg X.base j f sp) (hr : Room k X.A) (hj : j ≤ k) (c : Cls X.K C) (hm : Meth X.K C m f) (he : PE X o ta)
    (ht : eval (.Call (.Attribute o m apos) [] [] pos) X.env = (do
      let ov ← eval o X.env
      standAt apos.atName
      let (f, first) ← holding [ov] (getMethod ov m pl)
      callWith pos f first (backTo pos (starEach [] X.env)) (backToKw pos (keywordEach [] X.env))) := by rfl) :
    PE X (.Call (.Attribute o m apos) [] [] pos) (tMt0 C m sp ta) := by
  refine ⟨fun pins s σ H Q I h => ?_⟩
  refine PySem.W.methodCall_KW (pl := pl) (thn (he.run pins s σ H _ I h) fun u s1 ⟨x, H1, I1, rx, a, dx, fs, ex, ea, l, q⟩ => ?_) ht
  subst ex
  obtain rfl : u = Value.ref a := rx
  refine getmeth_ok I1 ea c hm l ?_
  exact PySem.W.callWith_K0 (first := [.ref a]) I1.kIn hm.kp (wpAny_call (run_fnR (us := [.ref a]) (vs := [.ref a]) (F.mono hj) hr pass0 I1 (.cons rfl .nil) q))
/-- o.m(e, ..) -/
theorem pe_mtR {pl : Sem Bool} (F : OK X.prog X.w X.K X.mg X.base j f sp) (hr : Room k X.A) (hj : j ≤ k) (c : Cls X.K C) (hm : Meth X.K C m f) (he : PE X o ta) (ha : PA X (e :: es) t)
    (hst : starEach (e :: es) X.env = (false, eval e X.env) :: starEach es X.env := by rfl) (hpl : (backTo pos (starEach es X.env)).any (·.1) = false := by rfl)
    (ht : eval (.Call (.Attribute o m apos) (e :: es) [] pos) X.env = (do
      let ov ← eval o X.env
      standAt apos.atName
      let (f, first) ← holding [ov] (getMethod ov m pl)
      callWith pos f first (backTo pos (starEach (e :: es) X.env)) (backToKw pos (keywordEach [] X.env))) := by rfl) :
    PE X (.Call (.Attribute o m apos) (e :: es) [] pos) (tMethR C m sp E0 ta t) :=
  pe_methR he c hm (F.mono hj) hr pass0 ha hst hpl ht
/-- e.f, a property -/
def tPr (C : Addr) (sp : Sp) (ta : TE) : TE := fun σ H Q => ta σ H fun x H1 => ∃ a dx fs, x = .ref a ∧ H1 a = some (.ins C dx fs) ∧ sp [.ref a] H1 Q E0
theorem pe_prR {pa : Addr} {f : Str} (F : OK X.prog X.w X.K X.mg X.base j g sp) (hr : Room k X.A) (hj : j + 1 ≤ k) (c : Cls X.K C) (hp : PropOf X.K C f pa g) (he : PE X e ta)
    (hab : attributeBase e f X.env (eval e X.env) = eval e X.env := by rfl) : PE X (.Attribute e f pos) (tPr C sp ta) := by
  refine ⟨fun pins s σ H Q I h => ?_⟩
  refine attr_of hab (thn (he.run pins s σ H _ I h) fun u s1 ⟨x, H1, I1, rx, a, dx, fs, ex, ea, q⟩ => ?_)
  subst ex
  obtain rfl : u = Value.ref a := rx
  obtain ⟨mA, O, _, _, _, _⟩ := ins_get I1.hok ea
  obtain ⟨od, J, _⟩ := O.look
  have hrec := hp.rec_.choose_spec
  have I2 := I1.tok (s1.toks + 1)
  have hc : (PySem.W.clsIn X.K C).isSome = true := Option.isSome_iff_exists.mpr ((PySem.W.any_some c.hd).imp fun _ z => z.1)
  refine PySem.W.get_bind I1.kIn J (PySem.W.plainGet_of (c.get f)).1 (PySem.W.findObj_data hc hp.at_ hp.get hp.tak) (PySem.W.plainGet_of (c.get f)).2 (wpAny_call (PySem.W.prop_get (s := { s1 with toks := s1.toks + 1 }) I1.kIn hrec ?_))
  have hr1 : Room j X.A.in1 := (hr.mono hj).in1
  refine codeAny_mono (F X.A.in1 X.stack { s1 with toks := s1.toks + 1 } H1 [.ref a] [.ref a] Q E0 hr1 I2.env0.in1 (.cons rfl .nil) q) fun r s' hq => ?_
  cases r with
  | error er => exact False.elim hq
  | ok fl =>
    cases fl with
    | ret u =>
      obtain ⟨y, H', J', ry, p⟩ := I2.after hq
      exact show wpAny _ _ (handedOut u) _ _ _ from (PySem.W.handedOut_of (handed_of ry)).symm ▸ wpAny_pure ⟨y, H', J', ry, p⟩
    | next => exact False.elim hq
    | brk => exact False.elim hq
    | cont => exact False.elim hq
/-- C(e, ..) -/
theorem pe_mkR (F : OK X.prog X.w X.K X.mg X.base j f sp) (hr : Room (k + 1) X.A) (hj : j ≤ k) (M : Mk X.K C f) (hg : Gl X x) (hm : X.mg x = some (.ref C)) (ha : PA X (e :: es) t) (hdb : (x == ("__debug__" : Str)) = false := by decide)
    (he : starEach (e :: es) X.env = (false, eval e X.env) :: starEach es X.env := by rfl) (hpl : (backTo pos (starEach es X.env)).any (·.1) = false := by rfl) : PE X (.Call (.Name x p) (e :: es) [] pos) (StX.tMakeR C sp E0 t) :=
  StX.pe_makeR M (F.mono hj) hr hg hm pass0 ha hdb he hpl
/-- o(e, ..), o an instance of C -/
theorem pe_coR {fe : Expr} {tf : TE} (F : OK X.prog X.w X.K X.mg X.base j g sp) (hr : Room k X.A) (hj : j ≤ k) (c : StX.CallO X.K C g) (hf : PE X fe tf) (ha : PA X (e :: es) t)
    (ht : eval (.Call fe (e :: es) [] pos) X.env = (do callWith pos (← eval fe X.env) [] (backTo pos (starEach (e :: es) X.env)) (backToKw pos (keywordEach [] X.env))) := by rfl)
    (he : starEach (e :: es) X.env = (false, eval e X.env) :: starEach es X.env := by rfl) (hpl : (backTo pos (starEach es X.env)).any (·.1) = false := by rfl) : PE X (.Call fe (e :: es) [] pos) (StX.tCallO X C sp E0 tf t) :=
  StX.pe_callO hf c (F.mono hj) hr pass0 ha ht he hpl

/-! ### in, not in by an own __contains__ -/
def rOwnIn (C : Addr) (neg : Bool) (sp : Sp) : R2 := fun x y H Q => ∃ a dx fs, y = .ref a ∧ H a = some (.ins C dx fs) ∧ sp [.ref a, x] H (fun v H' => ∃ b, v = .bl b ∧ Q (.bl (if neg then !b else b)) H') E0
theorem run_own {pins : List (Addr × Obj)} {σ : L2.St} {H : Hp} {s : Shared} {Q : VK} {us : List Value} {vs : List V} (F : OK X.prog X.w X.K X.mg X.base k f sp) (hr : Room k X.A) (I : Inv X pins σ H s) (r : Vals vs us) (h : sp vs H Q E0) :
    wpAny (model X.prog X.w) X.A (call (.ref f) us) (EP X pins σ Q) X.xe s := wpAny_call (run_fnR F hr pass0 I r h)
theorem op_ownIn (F : OK X.prog X.w X.K X.mg X.base j f sp) (hr : Room k X.A) (hj : j ≤ k) (hm : Meth X.K C "__contains__" f) : OpR X (compareOp .In) (rOwnIn C false sp) := by
  intro pins s σ H x y v u Q I rx ry h
  obtain ⟨a, dx, fs, rfl, ea, q⟩ := h
  cases ry
  obtain ⟨mA, J, _⟩ := ins_get I.hok ea
  obtain ⟨od, J, _⟩ := J.look
  obtain ⟨m, hF⟩ := I.fr
  refine PySem.W.in_K hF I.ok.mod.kin J hm.at_ hm.fn (thn (run_own (us := [.ref a, v]) (vs := [.ref a, x]) (F.mono hj) hr I (.cons rfl (.cons rx .nil)) q) fun r s' ⟨z, H', I', rz, b, ez, q'⟩ => ?_)
  subst ez
  cases rz
  exact wpAny_truthy_bool ⟨.bl b, H', I', rfl, q'⟩
theorem op_ownNotIn (F : OK X.prog X.w X.K X.mg X.base j f sp) (hr : Room k X.A) (hj : j ≤ k) (hm : Meth X.K C "__contains__" f) : OpR X (compareOp .NotIn) (rOwnIn C true sp) := by
  intro pins s σ H x y v u Q I rx ry h
  obtain ⟨a, dx, fs, rfl, ea, q⟩ := h
  cases ry
  obtain ⟨mA, J, _⟩ := ins_get I.hok ea
  obtain ⟨od, J, _⟩ := J.look
  obtain ⟨m, hF⟩ := I.fr
  refine PySem.W.notIn_K hF I.ok.mod.kin J hm.at_ hm.fn (thn (run_own (us := [.ref a, v]) (vs := [.ref a, x]) (F.mono hj) hr I (.cons rfl (.cons rx .nil)) q) fun r s' ⟨z, H', I', rz, b, ez, q'⟩ => ?_)
  subst ez
  cases rz
  exact wpAny_truthy_bool ⟨.bl (!b), H', I', rfl, q'⟩

/-! ### ==, != by an own __eq__ -/
def rOwnEq (C : Addr) (neg : Bool) (sp : Sp) : R2 := fun x y H Q => ∃ a b dx dy fs gs, x = .ref a ∧ y = .ref b ∧ H a = some (.ins C dx fs) ∧ H b = some (.ins C dy gs) ∧ sp [x, y] H (fun v H' => ∃ r, v = .bl r ∧ Q (.bl (if neg then !r else r)) H') E0
theorem op_ownEq (F : OK X.prog X.w X.K X.mg X.base j f sp) (hr : Room k X.A) (hj : j ≤ k) (hm : Meth X.K C "__eq__" f) : OpR X (compareOp .Eq) (rOwnEq C false sp) := by
  intro pins s σ H x y v u Q I rx ry h
  obtain ⟨a, b, dx, dy, fs, gs, rfl, rfl, ea, eb, q⟩ := h
  cases rx
  cases ry
  obtain ⟨mA, J, _⟩ := ins_get I.hok ea
  obtain ⟨mB, J', _⟩ := ins_get I.hok eb
  obtain ⟨od, J, _⟩ := J.look
  obtain ⟨od', J', _⟩ := J'.look
  obtain ⟨m, hF⟩ := I.fr
  show wpAny (model X.prog X.w) X.A (richCompare .Eq (.ref a) (.ref b)) (EP X pins σ Q) X.xe s
  refine PySem.W.cmp_K (op := .Eq) (tb := .ref C) hr.units0 hF I.ok.mod.kin J J'.type (by simp [PySem.W.notFirst]) hm.at_ hm.fn (thn (run_own (us := [.ref a, .ref b]) (vs := [.ref a, .ref b]) (F.mono hj) hr I (.cons rfl (.cons rfl .nil)) q) fun r s' ⟨z, H', I', rz, c, ez, q'⟩ => ?_)
  subst ez
  cases rz
  exact ⟨.bl c, H', I', rfl, q'⟩
end
end NP
end
section
set_option Elab.async false
set_option linter.all false
set_option maxRecDepth 100000
set_option maxHeartbeats 4000000
/-! != by an own __eq__; own binary operators. -/
namespace NP
open PySem PySem.Spec PyProof.Rows L2
/-- a class that leaves __ne__ to object -/
structure NeOk (K : PySem.W.Frag) (C : Addr) : Prop where
  ne : PySem.W.findIn K (.ref C) "__ne__" = some (some (.builtin "object.__ne__"))
  ob : PySem.W.subIn K (.ref C) (.type "object") = some true
section
variable {prog : Program} {w : World} {A : Around} {E : Value → Shared → Prop} {s : Shared} {K : PySem.W.Frag} {x C f L : Addr} {ox : Obj} {od : Option Obj} {h₀ : Heap} {m : Str → Option Value} {b : Value}
theorem ne_bind (self : Value) : bindSpecial (.builtin "object.__ne__") self = pure (.builtin "object.__ne__", [self]) := PySem.F.cmp_object.ne.bind self
theorem ne_builtin {Q : PySem.Fin → Shared → Prop} (X : K.In s.heap) (I : PySem.W.InstAt s.heap x ox C od) (hs : PySem.W.findIn K (.ref C) "__eq__" = some (some (.ref f))) (hf : PySem.W.isFn K (.ref f) = true) (hu : A.units < cLine)
    (h : wpAny (model prog w) A (call (.ref f) [.ref x, b]) (fun v s' => ∃ r, v = .bool r ∧ Q (.done (.ret (.bool (!r)))) s') E s) :
    wpAny (model prog w) A (Builtin.«object.__ne__» ⟨[.ref x, b], []⟩) Q E s := by
  unfold Builtin.«object.__ne__»
  refine wpAny_bind (m := slotArgs "__ne__" 1 _) (wpAny_pure ?_)
  dsimp only
  refine wpAny_bind (wpAny_cRoomFor hu ?_)
  refine wpAny_bind (PySem.W.ifBound_K (args := [b]) X I hs hf (wpAny_mono h (fun v s' hv => ?_) fun _ _ e => e))
  obtain ⟨r, rfl, q⟩ := hv
  dsimp only
  refine wpAny_bind (wpAny_truthy_bool ?_)
  exact wpAny_pure q
theorem ne_try {Q : Option Value → Shared → Prop} (X : K.In s.heap) (I : PySem.W.InstAt s.heap x ox C od) (N : NeOk K C) (hs : PySem.W.findIn K (.ref C) "__eq__" = some (some (.ref f))) (hf : PySem.W.isFn K (.ref f) = true) (hu : A.units + 1 < cLine)
    (h : wpAny (model prog w) A.in1 (call (.ref f) [.ref x, b]) (fun v s' => ∃ r, v = .bool r ∧ Q (some (.bool (!r))) s') E s) :
    wpAny (model prog w) A (tryCompare (.ref x) "__ne__" b) Q E s := by
  have t2 : PySem.W.Looks (model prog w) s.heap (isInstance (.ref x) (.type "object")) true := I.type.andThen (PySem.W.looks_subIn X N.ob)
  have hc : wpAny (model prog w) A (call (.builtin "object.__ne__") [.ref x, b]) (fun v s' => ∃ r, v = .bool r ∧ Q (some (.bool r)) s') E s := by
    refine wpAny_call (codeAny_call_builtin PySem.F.cmp_object.ne.plain PySem.F.cmpEntry_ne (PySem.W.check_slot PySem.F.cmpKind_ne PySem.F.cmpSplit_ne t2 (PySem.F.cmpArgs_ne _ _) ?_))
    refine ne_builtin X I hs hf hu (wpAny_mono h (fun v s' hv => ?_) fun _ _ e => e)
    obtain ⟨r, rfl, q⟩ := hv
    exact ⟨r, rfl, ⟨_, rfl, q⟩⟩
  unfold tryCompare
  simp only [callSpecialIfBound?, bindSpecialIfBound?]
  refine wpAny_bind (wpAny_holding (wpAny_bind (wpAny_bind (wpAny_bind (I.type.here ((PySem.W.looks_findIn X N.ne).here ?_))))))
  refine wpAny_bind (wpAny_askSetting (wpAny_ite ?_))
  have fin : wpAny (model prog w) A (call (.builtin "object.__ne__") ([.ref x] ++ [b]) >>= fun v => pure (some v)) (fun r s' => wpAny (model prog w) A (match r with | some .notImplemented | none => pure none | some v => pure (some v)) Q E s') E s := by
    refine wpAny_bind (wpAny_mono hc (fun v s' hv => ?_) fun _ _ e => e)
    obtain ⟨r, rfl, q⟩ := hv
    exact wpAny_pure (wpAny_pure q)
  rw [ne_bind]
  split
  · exact wpAny_bind (wpAny_pure (wpAny_pure (by exact fin)))
  · exact wpAny_tryCatch (wpAny_bind (wpAny_pure (wpAny_pure (by exact fin))))
theorem ne_rich {Q : Value → Shared → Prop} (X : K.In s.heap) (I : PySem.W.InstAt s.heap x ox C od) (hb : PySem.W.Looks (model prog w) s.heap (typeOf b) (.ref C)) (N : NeOk K C) (hs : PySem.W.findIn K (.ref C) "__eq__" = some (some (.ref f))) (hf : PySem.W.isFn K (.ref f) = true) (hu : A.units + 1 < cLine)
    (h : wpAny (model prog w) A.in1 (call (.ref f) [.ref x, b]) (fun v s' => ∃ r, v = .bool r ∧ Q (.bool (!r)) s') E s) :
    wpAny (model prog w) A (richCompare .NotEq (.ref x) b) Q E s := by
  unfold richCompare
  simp only [oneThing_ref]
  refine wpAny_holding (wpAny_bind (wpAny_cRoomFor (Nat.lt_of_succ_lt hu) ?_))
  refine wpAny_bind (I.type.here (wpAny_bind (hb.here ?_)))
  rw [if_neg (by simp)]
  refine wpAny_bind (wpAny_pure ?_)
  simp only [Bool.false_eq_true, if_false]
  refine wpAny_bind (m := tryCompare (.ref x) "__ne__" b) (ne_try X I N hs hf hu (wpAny_mono h (fun v s' hv => ?_) fun _ _ e => e))
  obtain ⟨r, rfl, q⟩ := hv
  exact ⟨r, rfl, wpAny_pure q⟩
/-- x op b, x and b of two classes, both with the operator -/
theorem bin_two {op : Operator} {D : Addr} {g : Addr} {Q : Value → Shared → Prop} (X : K.In s.heap) (I : PySem.W.InstAt s.heap x ox C od) (hb : PySem.W.Looks (model prog w) s.heap (typeOf b) (.ref D)) (hne : (Value.ref C == Value.ref D) = false)
    (hc : PySem.W.selfFirst K C = true) (hd : PySem.W.selfFirst K D = true)
    (hs : PySem.W.findIn K (.ref C) (PySem.dunder op.info.2) = some (some (.ref f))) (hf : PySem.W.isFn K (.ref f) = true) (hr : PySem.W.findIn K (.ref C) (dunderR op.info.2) = some none)
    (hs2 : PySem.W.findIn K (.ref D) (PySem.dunder op.info.2) = some (some (.ref g))) (hr2 : PySem.W.findIn K (.ref D) (dunderR op.info.2) = some none) (hsub : PySem.W.subIn K (.ref D) (.ref C) = some false)
    (h : wpAny (model prog w) A (call (.ref f) [.ref x, b]) (PySem.W.CmpBack Q) E s) : wpAny (model prog w) A (binaryOp op (.ref x) b) Q E s := by
  obtain ⟨cd, rest, hcd, hm⟩ := PySem.W.ksp_first hc
  obtain ⟨cd2, rest2, hcd2, hm2⟩ := PySem.W.ksp_first hd
  rcases hi : op.info with ⟨sym, nm'⟩
  rw [hi] at hs hr hs2 hr2
  dsimp only at hs hr hs2 hr2
  have one := PySem.W.ksp_try X I hs hf h
  have L1 : PySem.W.Looks (model prog w) s.heap (typeOf (.ref x)) (.ref C) := I.type
  have L3 : PySem.W.Looks (model prog w) s.heap (fillsNumberSlot (.ref C) nm') true := PySem.W.fills_K X hcd hm hs
  have L4 : PySem.W.Looks (model prog w) s.heap (fillsNumberSlot (.ref D) nm') true := PySem.W.fills_K X hcd2 hm2 hs2
  have L5 : PySem.W.Looks (model prog w) s.heap (isSubtype (.ref D) (.ref C)) false := PySem.W.looks_subIn X hsub
  have L6 : PySem.W.Looks (model prog w) s.heap (numberSlotInPython (.ref C) nm') true := PySem.W.ksp_inPy X hs hr (.inl rfl)
  have L7 : PySem.W.Looks (model prog w) s.heap (numberSlotInPython (.ref D) nm') true := PySem.W.ksp_inPy X hs2 hr2 (.inl rfl)
  simp only [binaryOp, hi]
  refine wpAny_holding (wpAny_bind ?_)
  unfold binaryOp1
  refine wpAny_bind (L1.here (wpAny_bind (hb.here (wpAny_bind (L3.here ?_)))))
  simp only [hne, Bool.false_eq_true, if_false, if_true, Bool.and_true, Bool.not_false, Bool.not_true]
  refine wpAny_bind (L4.here ?_)
  simp only [Bool.false_eq_true, if_false, if_true, Bool.and_true, Bool.not_false, Bool.not_true]
  refine wpAny_bind (L5.here ?_)
  simp only [Bool.false_eq_true, if_false, if_true, Bool.and_true, Bool.not_false, Bool.not_true]
  refine wpAny_bind (L6.here ?_)
  simp only [Bool.false_eq_true, if_false, if_true, Bool.and_true, Bool.not_false, Bool.not_true]
  refine wpAny_bind (L7.here ?_)
  simp only [Bool.false_eq_true, if_false, if_true, Bool.and_true, Bool.not_false, Bool.not_true]
  refine wpAny_bind (wpAny_mono one (fun r s' hr' => ?_) fun _ _ e => e)
  obtain ⟨v, rfl, hq⟩ := hr'
  exact wpAny_pure (wpAny_pure hq)
end
section
variable {X : Cx} {j k : Nat} {f g C D : Addr} {sp : Sp}
theorem cmpBack_of {Q : Value → Shared → Prop} {u : Value} {s : Shared} {v : V} (r : RelV v u) (q : Q u s) : PySem.W.CmpBack Q u s := by
  cases v with
  | non => cases r; exact q
  | bl _ => cases r; exact q
  | int _ => obtain ⟨t, rfl⟩ := r; exact q
  | str _ => obtain ⟨t, rfl⟩ := r; exact q
  | byt _ => obtain ⟨t, rfl⟩ := r; exact q
  | flt _ => obtain ⟨t, rfl⟩ := r; exact q
  | ref _ => cases r; exact q
  | ty _ => cases r; exact q
theorem op_ownNe (F : OK X.prog X.w X.K X.mg X.base j f sp) (hr : Room (k + 1) X.A) (hj : j ≤ k) (hm : Meth X.K C "__eq__" f) (N : NeOk X.K C) : OpR X (compareOp .NotEq) (rOwnEq C true sp) := by
  intro pins s σ H x y v u Q I rx ry h
  obtain ⟨a, b, dx, dy, fs, gs, rfl, rfl, ea, eb, q⟩ := h
  cases rx
  cases ry
  obtain ⟨mA, J, _⟩ := ins_get I.hok ea
  obtain ⟨mB, J', _⟩ := ins_get I.hok eb
  obtain ⟨od, J, _⟩ := J.look
  obtain ⟨od', J', _⟩ := J'.look
  show wpAny (model X.prog X.w) X.A (richCompare .NotEq (.ref a) (.ref b)) (EP X pins σ Q) X.xe s
  have hu : X.A.units + 1 < cLine := Nat.lt_of_le_of_lt (Nat.add_le_add_left (by decide : 1 ≤ 64) _) hr.units
  refine ne_rich I.kIn J J'.type N hm.at_ hm.fn hu ?_
  refine wpAny_call (codeAny_mono ((F.mono hj) X.A.in1 X.stack s H [.ref a, .ref b] [.ref a, .ref b] _ E0 hr.in1 I.env0.in1 (.cons rfl (.cons rfl .nil)) q) fun r s' hq => ?_)
  cases r with
  | error er => exact False.elim hq
  | ok fl =>
    cases fl with
    | ret u =>
      obtain ⟨v, H', I3, rv, c, ev, q3⟩ := I.after hq
      subst ev
      cases rv
      exact ⟨c, rfl, .bl (!c), H', I3, rfl, q3⟩
    | next => exact False.elim hq
    | brk => exact False.elim hq
    | cont => exact False.elim hq
/-- a op b, by a's own method -/
def rOwnBin (C D : Addr) (sp : Sp) : R2 := fun x y H Q => ∃ a b dx dy fs gs, x = .ref a ∧ y = .ref b ∧ H a = some (.ins C dx fs) ∧ H b = some (.ins D dy gs) ∧ sp [x, y] H Q E0
theorem op_ownBin1 {op : Operator} (F : OK X.prog X.w X.K X.mg X.base j f sp) (hr : Room k X.A) (hj : j ≤ k) (hc : PySem.W.selfFirst X.K C = true) (hm : Meth X.K C (PySem.dunder op.info.2) f) : OpR X (binaryOp op) (rOwnBin C C sp) := by
  intro pins s σ H x y v u Q I rx ry h
  obtain ⟨a, b, dx, dy, fs, gs, rfl, rfl, ea, eb, q⟩ := h
  cases rx
  cases ry
  obtain ⟨mA, J, _⟩ := ins_get I.hok ea
  obtain ⟨mB, J', _⟩ := ins_get I.hok eb
  obtain ⟨od, J, _⟩ := J.look
  obtain ⟨od', J', _⟩ := J'.look
  obtain ⟨m, hF⟩ := I.fr
  refine PySem.W.binop_K hF I.ok.mod.kin J J'.type hc hm.at_ hm.fn (thn (run_own (us := [.ref a, .ref b]) (vs := [.ref a, .ref b]) (F.mono hj) hr I (.cons rfl (.cons rfl .nil)) q) fun r s' ⟨z, H', I', rz, q'⟩ => ?_)
  exact cmpBack_of (v := z) rz ⟨z, H', I', rz, q'⟩
theorem op_ownBin2 {op : Operator} (F : OK X.prog X.w X.K X.mg X.base j f sp) (hr : Room k X.A) (hj : j ≤ k) (hne : C ≠ D) (hc : PySem.W.selfFirst X.K C = true) (hd : PySem.W.selfFirst X.K D = true) (hm : Meth X.K C (PySem.dunder op.info.2) f)
    (hr1 : PySem.W.findIn X.K (.ref C) (dunderR op.info.2) = some none) (hm2 : Meth X.K D (PySem.dunder op.info.2) g) (hr2 : PySem.W.findIn X.K (.ref D) (dunderR op.info.2) = some none) (hsub : PySem.W.subIn X.K (.ref D) (.ref C) = some false) : OpR X (binaryOp op) (rOwnBin C D sp) := by
  intro pins s σ H x y v u Q I rx ry h
  obtain ⟨a, b, dx, dy, fs, gs, rfl, rfl, ea, eb, q⟩ := h
  cases rx
  cases ry
  obtain ⟨mA, J, _⟩ := ins_get I.hok ea
  obtain ⟨mB, J', _⟩ := ins_get I.hok eb
  obtain ⟨od, J, _⟩ := J.look
  obtain ⟨od', J', _⟩ := J'.look
  have hn : (Value.ref C == Value.ref D) = false := Bool.eq_false_iff.mpr fun z => hne (by injection eq_of_beq z)
  refine bin_two I.kIn J J'.type hn hc hd hm.at_ hm.fn hr1 hm2.at_ hr2 hsub (thn (run_own (us := [.ref a, .ref b]) (vs := [.ref a, .ref b]) (F.mono hj) hr I (.cons rfl (.cons rfl .nil)) q) fun r s' ⟨z, H', I', rz, q'⟩ => ?_)
  exact cmpBack_of (v := z) rz ⟨z, H', I', rz, q'⟩
end
end NP
end
section
set_option Elab.async false
set_option linter.all false
set_option maxRecDepth 100000
set_option maxHeartbeats 4000000
/-! enumerate of a tuple. -/
namespace NP
open PySem PySem.Spec PyProof.Rows L2
/-- an enumerate at the start; n: its iterator -/
abbrev eObj (n : Addr) : Obj := { cls := .type "enumerate", data := .fields #[.none, .bool false, .ref n, rawInt 0, .none, .none] }
theorem en_new {v : Value} {o : Obj} {Hh : Heap → Prop} (B : Begins v o Hh) : Meets (Builtin.«enumerate.__new__» ⟨[.type "enumerate", v], []⟩) fun _ R s => Hh s.heap ∧ R (.ok (.ret (.ref (s.heap.push o).objs.size))) { s with heap := (s.heap.push o).push (eObj s.heap.objs.size) } :=
  .of_wp fun prog w A R s h => by
    obtain ⟨g, ge, dr, tk, os⟩ := s
    have sub := sub_enumerate
    have it : ∀ {A' : Around} {E : Value → Shared → Prop} {Q : Value → Shared → Prop}, Q (.ref g.objs.size) ⟨g.push o, ge, dr, tk, os⟩ → wpAny (model prog w) A' (pyIter v) Q E ⟨g, ge, dr, tk, os⟩ := fun q => B.iter prog w _ _ ⟨g, ge, dr, tk, os⟩ _ h.1 q
    have fin := h.2
    wp_walk using it
    refine wpAny_stack_any fun st => wpAny_pure ?_
    split
    · rename_i c _ _ _ _ _
      cases (c == Value.type "enumerate") <;> (wp_walk using it; exact ⟨_, rfl, fin⟩)
    · wp_walk using it
      exact ⟨_, rfl, fin⟩
section
variable {prog : Program} {w : World} {A : Around} {E : Value → Shared → Prop} {s : Shared}
theorem call_enumB {v : Value} {o : Obj} {Hh : Heap → Prop} {Q : Value → Shared → Prop} (B : Begins v o Hh) (h : Hh s.heap)
    (q : ∀ g, IsEnum g (s.heap.objs.size + 1) s.heap.objs.size 0 .none → g.get? s.heap.objs.size = some o → (∀ b u, s.heap.get? b = some u → g.get? b = some u) → Q (.ref (s.heap.objs.size + 1)) { s with heap := g }) : wpAny (model prog w) A (call (.type "enumerate") [v]) Q E s := by
  have n : (s.heap.push o).objs.size = s.heap.objs.size + 1 := Heap.size_push ..
  have at1 : IsEnum ((s.heap.push o).push (eObj s.heap.objs.size)) (s.heap.objs.size + 1) s.heap.objs.size 0 .none := n ▸ Heap.get?_push_size _ rfl
  refine callType_new F.called_enumerate (by decide) (F.typeCall_enumerate_1 _) (F.newCall_enumerate_1 _) (fun _ => F.args_object_init_2 _ _) F.entry_enumerate_new (en_new B) ⟨h, ?_⟩
  show _ ∧ _
  rw [n]
  exact ⟨⟨_, at1, rfl⟩, q _ at1 (Heap.get?_push_of_some _ (Heap.get?_push_size _ B.free)) fun b u x => Heap.get?_push_of_some _ (Heap.get?_push_of_some _ x)⟩
end
/-- the tuple at a, the items in new pairs with their places -/
def IteT (K : PySem.W.Frag) (a : Addr) : It where
  go := fun i H => ∃ xs x, SqT K H a xs ∧ xs[i]? = some x
  yld := fun i H v H' => ∃ T x, v = .ref T ∧ H T = none ∧ H' = upd H T (.tup [.int (i : Nat), x]) ∧ ∀ xs, SqT K H a xs → xs[i]? = some x
  stop := fun i H => ∃ xs, SqT K H a xs ∧ xs.length ≤ i
/-- at rest between two items -/
structure EnSt (a e it : Addr) (i : Nat) (h : Heap) : Prop where
  en : ∃ old, IsEnum h e it ((i : Nat) : Int) old
  ti : h.IsTupleIter it a i
  ne : e ≠ it
section
variable {a e it : Addr} {i : Nat} {h g : Heap}
theorem EnSt.two {b : Addr} (hb : b ∈ [e, it]) : b = e ∨ b = it := (List.mem_cons.mp hb).imp id List.mem_singleton.mp
theorem EnSt.ob (m : EnSt a e it i h) {b : Addr} (hb : b ∈ [e, it]) : ∃ o, h.get? b = some o ∧ ∀ v, o.data ≠ .cell v := by
  obtain ⟨⟨_, x⟩, ⟨_, y, _, yd⟩, _⟩ := m
  rcases EnSt.two hb with r | r <;> rw [r]
  · exact ⟨_, x, fun _ n => nomatch n⟩
  · exact ⟨_, y, fun _ n => by
      rw [yd] at n
      cases n⟩
theorem EnSt.lt (m : EnSt a e it i h) {b : Addr} (hb : b ∈ [e, it]) : b < h.objs.size := let ⟨_, x, _⟩ := m.ob hb; Heap.lt_size x
theorem EnSt.keep (m : EnSt a e it i h) (k : ∀ b ∈ [e, it], ∀ o, h.get? b = some o → g.get? b = some o) : EnSt a e it i g :=
  ⟨let ⟨_, x⟩ := m.en; ⟨_, k e List.mem_cons_self _ x⟩, m.ti.at (k it (List.mem_cons_of_mem _ List.mem_cons_self)), m.ne⟩
/-- a tuple is neither an iterator of tuples nor an enumerate -/
theorem EnSt.far (m : EnSt a e it i h) {its : Array Value} (t : h.IsTuple a its) : a ≠ it ∧ e ≠ a := by
  obtain ⟨⟨_, x⟩, ⟨_, y, yc, _⟩, _⟩ := m
  obtain ⟨u, tu, tc, _⟩ := t
  refine ⟨fun r => ?_, fun r => ?_⟩
  · rw [r, y] at tu
    rw [Option.some.inj tu, tc] at yc
    exact absurd yc (by decide)
  · rw [← r, x] at tu
    rw [← Option.some.inj tu] at tc
    exact absurd (show Value.type "enumerate" = Value.type "tuple" from tc) (by decide)
end
theorem turn_enumT {P : Program} {w : World} {K : PySem.W.Frag} {elts : List Expr} {kk : Nat} {tpos : Pos} (a e it : Addr) : Turn P w K (.Tuple elts kk tpos) (IteT K a) [e, it] e (EnSt a e it) where
  mem := List.mem_cons_self
  obj := fun _ _ m _ hb => m.ob hb
  keep := fun _ _ _ m k => m.keep k
  self := fun _ _ _ _ _ m q => let ⟨_, x⟩ := m.en; wpAny_pyIter_enum x q
  item := by
    rintro X rfl rfl rfl hc i pins s σ H E I hf m ⟨xs, x, sq, hx⟩
    obtain ⟨its, rv, t, _⟩ := I.tuple sq
    obtain ⟨u, hu, ru⟩ := rv.get hx
    obtain ⟨f1, f2⟩ := m.far t
    obtain ⟨old, en⟩ := m.en
    have lt := fun b => m.lt (b := b)
    refine wpAny_pyNext_enum_itemC (Draws.tuple (prog := X.prog) (w := X.w) (A := X.A.in1) (I.ok.hd hc) it a f1 its.toArray) en ⟨m.ti, t⟩ (Array.getElem?_eq_some_iff.mp (List.getElem?_toArray.trans hu)).1 m.ne (by simp [m.ne, f2]) fun y g tk hy ho mv hT _ hk => ?_
    obtain rfl : y = u := Option.some.inj ((show its.toArray[i]? = some y from hy).symm.trans (List.getElem?_toArray.trans hu))
    refine ⟨_, rfl, wpAny_letOwnedTupleGo_enum (s := { s with heap := g, toks := tk + 1 }) ho fun g2 en2 sb => ?_⟩
    have nw : H s.heap.objs.size = none := I.hok.fresh (Nat.le_refl _)
    have T2 : g2.get? s.heap.objs.size = some { cls := .type "tuple", data := .seq #[.int i tk, y] } := (sb.2 _ (Nat.ne_of_gt (lt e List.mem_cons_self))).trans hT
    have J : Inv X pins σ (upd H s.heap.objs.size (.tup [.int (i : Nat), x])) { s with heap := g2, toks := tk + 1 } := I.turnedNew (ch := [e, it]) (fun b o hb q => by
      have n1 : b ≠ e := fun z => hb (z ▸ List.mem_cons_self)
      have n2 : b ≠ it := fun z => hb (z ▸ List.mem_cons_of_mem _ List.mem_cons_self)
      exact (sb.2 b n1).trans (hk b o n1 n2 q)) hf (Nat.le_refl _) (show ObjOk X.prog X.w _ g2 _ (.tup _) from ⟨of_decide_eq_true rfl, _, .cons ⟨_, rfl⟩ (.cons ru .nil), ⟨_, T2, rfl, _, rfl⟩⟩)
    refine ⟨.ref s.heap.objs.size, _, J, rfl, ⟨_, x, rfl, nw, rfl, fun ys h => I.tuple_inj h sq ▸ hx⟩, ⟨⟨y, (Int.natCast_succ i ▸ en2 : IsEnum g2 e it ((i + 1 : Nat) : Int) y)⟩, mv.1.at fun o q => (sb.2 it m.ne.symm).trans q, m.ne⟩, fun b hb => ?_⟩
    rw [upd_ne (Nat.ne_of_lt (lt b hb))]
    exact (hf b hb).1
  done := by
    rintro X rfl rfl rfl hc i pins s σ H E I hf m ⟨xs, sq, hx⟩
    obtain ⟨its, rv, t, _⟩ := I.tuple sq
    obtain ⟨old, en⟩ := m.en
    obtain ⟨f0, f1, _, f3, f4, f5⟩ := hf it (List.mem_cons_of_mem _ List.mem_cons_self)
    have ty : s.TypeIs (.ref e) "enumerate" := ⟨_, en, rfl⟩
    have le : its.toArray.size ≤ i := by
      have := rv.length
      rw [List.size_toArray]
      omega
    refine wpAny_bind (wpAny_attempt (wpAny_callSpecial?_slot (name := Str.ofString "__next__") ty F.slot_enumerate_next (wpAny_call_entry F.slot_enumerate_next ty F.entry_enumerate_next ?_ (F.args_enumerate_next_1 _))))
    refine show wpAny _ _ (field (.ref e) 2 >>= _) _ _ _ from wpAny_bind (wpAny_field en rfl (x := .ref it) rfl (wpAny_bind (wpAny_nextOf_tuple_end (A := X.A.in1) (I.ok.hd hc) m.ti t (Array.getElem?_eq_none le) fun g x h1 ⟨o, h2, h3⟩ => ?_)))
    exact wpAny_bind (wpAny_isInstance (T := "StopIteration") (b := true) ⟨o, h2, h3⟩ isSubtype_stop (wpAny_pure ⟨rfl, I.turned (t' := s.toks) (fun b u => h1 b u) f0 f1 f3 f4 f5⟩))
def iEnumT (K : PySem.W.Frag) (ta : TA) : TI := fun σ H R => ta σ H fun vs H1 => ∃ a xs, vs = [.ref a] ∧ SqT K H1 a xs ∧ R (IteT K a) H1
theorem pi_enumT {X : Cx} {e : Expr} {ta : TA} {p pos tpos : Pos} {elts : List Expr} {kk : Nat} (hg : Gl X "enumerate") (hm : X.mg "enumerate" = none) (ha : PA X [e] ta) (hs : starEach [e] X.env = [(false, eval e X.env)] := by rfl) : PI X (.Tuple elts kk tpos) (.Call (.Name "enumerate" p) [e] [] pos) (iEnumT X.K ta) :=
  ⟨fun pins s σ H R I h => Call_ (ld_blt I hg hm boot_enumerate (PyProof.Rows.callWith_type1 (thn (ha.run pos pins s σ H _ I h) fun us t ⟨vs, H1, J, rv, a, xs, ev, sq, q⟩ => by
    subst ev
    obtain ⟨v, eu, r⟩ := vals1 rv
    subst eu
    obtain rfl : v = Value.ref a := r
    obtain ⟨its, _, tp, _⟩ := J.tuple sq
    refine call_enumB (begins_tuple a its.toArray) tp fun g en hit hk => wpAny_pyIter_enum en ?_
    refine ⟨t.heap.objs.size + 1, [t.heap.objs.size + 1, t.heap.objs.size], _, _, H1, rfl, J.kept (t' := t.toks) hk, turn_enumT a _ _, ⟨⟨.none, en⟩, ⟨_, hit, rfl, rfl⟩, Nat.succ_ne_self _⟩, fun b hb => ?_, q⟩
    have le : t.heap.objs.size ≤ b := (EnSt.two hb).elim (fun z => z ▸ Nat.le_succ _) fun z => z ▸ Nat.le_refl _
    exact J.fpOk le (J.hok.fresh le)) hs rfl))⟩
theorem walk_enumT {K : PySem.W.Frag} {a : Addr} {xs : List V} : Walk (IteT K a) xs.length (fun H => SqT K H a xs) (YPair (fun i => some (.int (i : Nat))) (fun i => xs[i]?)) :=
  ⟨fun i _ lt sq => ⟨xs, _, sq, List.getElem?_eq_getElem lt⟩, fun _ sq => ⟨xs, sq, Nat.le_refl _⟩, fun i _ _ _ _ sq ⟨T, x, h1, h2, h3, h4⟩ => ⟨T, _, x, h1, h2, h3, rfl, h4 xs sq⟩⟩
end NP
end
section
set_option Elab.async false
set_option linter.all false
set_option maxRecDepth 100000
set_option maxHeartbeats 4000000
/-! sets of texts made of a list, sorted. -/
namespace NP
open PySem PySem.Spec PyProof.Rows L2
/-- the text of an entry -/
def keyS (e : Int × Value) : Str := match e.2 with | .str k _ => k | _ => Str.empty
/-- a new set's object -/
abbrev nSet (w : World) : Obj := { cls := .type "set", dict := none, data := .set #[] 0 (.fresh 0 0 (!w.params.followText "set-order")) }
/-- at a stands a set of the texts l, each once; its table can be walked -/
structure TxAt (P : Program) (w : World) (h : Heap) (a : Addr) (l : List Str) : Prop where
  ex : ∃ D : Froz.SD, h.get? a = some (Froz.sObj "set" D) ∧ Froz.TxOk P w D l ∧ (D.1.toList.map keyS).Perm l ∧ Ris D.2.2.place.toList ∧ (w.params.followText "set-order" = true ∨ D.2.2.led = true)
  nd : l.Nodup
section
variable {P : Program} {w : World} {h g : Heap} {a : Addr} {l : List Str} {D : Froz.SD} {v : Value} {x : Int}
theorem TxAt.at (R : TxAt P w h a l) (k : ∀ o, h.get? a = some o → g.get? a = some o) : TxAt P w g a l := ⟨let ⟨D, e, r⟩ := R.ex; ⟨D, k _ e, r⟩, R.nd⟩
theorem TxAt.fresh {P : Program} {h : Heap} (w : World) : TxAt P w (h.push (nSet w)) h.objs.size [] :=
  ⟨⟨(#[], 0, .fresh 0 0 (!w.params.followText "set-order")), Heap.get?_push_size _ rfl, .nil rfl, .nil, .nil, by
    cases h : w.params.followText "set-order"
    · exact .inr rfl
    · exact .inl rfl⟩, .nil⟩
/-- an entry of texts: what it is -/
theorem entry_str {l : List (Int × Value)} (m : ElemsOf (strKind P w) l) {e : Int × Value} (he : e ∈ l) : ∃ t, e.2 = .str (keyS e) t := by
  obtain ⟨⟨k, q, _⟩, _⟩ := m e he
  obtain ⟨t, q⟩ := Value.isStrOf_shape (show Value.isStrOf k e.2 = true from q)
  exact ⟨t, by unfold keyS; rw [q]⟩
/-! a text more -/
section
variable {ep : Nat} {es : Array (Int × Value)} {t : SetTable} {b : Bool}
theorem tail_perm : (Froz.tailTx ep es t b).1.toList.Perm es.toList := by
  unfold Froz.tailTx
  split
  · exact relayAll_perm _ _ _
  · exact .rfl
theorem tail_ris (r : Ris t.place.toList) : Ris (Froz.tailTx ep es t b).2.2.place.toList := by
  unfold Froz.tailTx
  split
  · exact relayAll_ris _ _ _
  · exact r
theorem tail_led : (Froz.tailTx ep es t b).2.2.led = t.led := by
  unfold Froz.tailTx
  split
  · exact relayAll_led _ _ _
  · rfl
end
theorem addTx_perm : (Froz.addTx x v D).1.toList.Perm (D.1.toList ++ [(x, v)]) := by
  have p := layNew_perm D.2.2 D.1 x v
  rw [Array.toList_push] at p
  exact tail_perm.trans p
theorem addTx_ris (r : Ris D.2.2.place.toList) : Ris (Froz.addTx x v D).2.2.place.toList := by
  have q := layNew_ris D.2.2 D.1 x v r
  refine tail_ris ?_
  split <;> exact q
theorem addTx_led : (Froz.addTx x v D).2.2.led = D.2.2.led := by
  have q := layNew_led D.2.2 D.1 x v
  refine tail_led.trans ?_
  split <;> exact q
end
section
variable {P : Program} {w : World} {A : Around} {E : Value → Shared → Prop} {s : Shared} {a : Addr} {l : List Str} {k : Str} {tk : Tok} {Q : Bool → Shared → Prop}
/-- a text that is there already -/
theorem tx_old (R : TxAt P w s.heap a l) (hk : k ∈ l) (hb : l.length < scanBound) (q : Q false s) : wpAny (model P w) A (setAddHashed a (.str k tk) (hashStr w k)) Q E s := by
  obtain ⟨⟨es, ep, t⟩, ho, F, _⟩ := R.ex
  obtain ⟨e, he, ke⟩ := (F.mem k).mp hk
  have f : ∃ j, es.toList.findIdx? (fun e => (strKind P w).is k e.2) = some j := by
    cases c : es.toList.findIdx? (fun e => (strKind P w).is k e.2) with
    | some j => exact ⟨j, rfl⟩
    | none => exact absurd ke (by rw [List.findIdx?_eq_none_iff.mp c e he]; decide)
  obtain ⟨j, f⟩ := f
  have sz : es.size < scanBound := by rw [show es.size = l.length from F.sz]; exact hb
  unfold setAddHashed setAddHashedIn
  refine wpAny_holding (wpAny_bind (wpAny_setState_of ho rfl F.fit (?_ : wpAny _ _ _ _ _ _)))
  dsimp only
  rw [byScan_of rfl sz F.el, if_pos rfl]
  refine wpAny_bind (wpAny_bind (wpAny_rule (wpAny_bind (wpAny_setScan_of (knd := strKind P w) (k := k) (Froz.is_str k tk) ho rfl F.fit F.el ?_))))
  rw [f]
  exact wpAny_pure (wpAny_pure q)
/-- set.add of a text -/
theorem tx_add (R : TxAt P w s.heap a l) (hb : l.length + 1 < scanBound) (q : ∀ g r, Heap.SameBut a s.heap g → ∀ l', TxAt P w g a l' → l'.length ≤ l.length + 1 → (∀ x, x ∈ l' ↔ x ∈ l ∨ x = k) → Q r { s with heap := g }) : wpAny (model P w) A (setAddHashed a (.str k tk) (hashStr w k)) Q E s := by
  by_cases hk : k ∈ l
  · exact tx_old R hk (Nat.lt_of_succ_lt hb) (q _ false (.refl _ _) l R (Nat.le_succ _) fun x => ⟨.inl, fun h => h.elim id fun e => e ▸ hk⟩)
  · obtain ⟨D, ho, F, pm, r, ld⟩ := R.ex
    refine Froz.add_x ho F hk hb (q _ true (.update _ _ _) (k :: l) ⟨⟨_, Froz.get_upd _ ho rfl, Froz.add_ok tk F, ?_, addTx_ris r, ld.imp id fun z => addTx_led.trans z⟩, List.nodup_cons.mpr ⟨hk, R.nd⟩⟩ (Nat.le_refl _) fun x => by rw [List.mem_cons]; exact Or.comm)
    refine (addTx_perm.map keyS).trans ?_
    rw [List.map_append]
    exact (List.perm_append_singleton _ _).trans (.cons _ pm)
end
section
variable {prog : Program} {w : World} {A : Around} {R : Result → Shared → Prop} {I S : Addr} {fp wr : List Addr} {G : Array GenState → Array GenState → Prop} {n : Nat} {Pv : Nat → Value → Prop} {St : Nat → Shared → Prop} {xs : List Str}
/-- the set takes what a walk gives -/
theorem tx_loop (W : WalksS prog w A.in1 I fp wr G n Pv St) (off : S ∉ fp) (hn : xs.length = n) (hb : n + 1 < scanBound) (hv : ∀ i v, Pv i v → ∃ x t, xs[i]? = some x ∧ v = .str x t) : ∀ (k i : Nat) (s : Shared) (l : List Str), i + k = n → St i s → TxAt prog w s.heap S l → l.length ≤ i → (∀ x, x ∈ l ↔ x ∈ xs.take i) →
    (∀ s' l', Moved (S :: wr) G s s' → TxAt prog w s'.heap S l' → l'.length ≤ n → (∀ x, x ∈ l' ↔ x ∈ xs) → R (.ok (.ret .none)) s') → codeAny (model prog w) A (.builtin "set.update.loop" ⟨[.ref S, .ref I], []⟩) R s
  | 0, i, s, l, e, st, T, z, m, q => by
    obtain rfl : i = n := e
    refine codeAny_builtin PyProof.Rows.F.entry_set_update_loop ((Around.under_plainId PyProof.Rows.F.plain_set_update_loop _).symm ▸ show wpAny _ A.in1 (pyNext (.ref I) >>= _) _ _ s from wpAny_bind (W.done s _ _ st fun s' mv => show wpAny _ A.in1 (ret Value.none) _ _ s' from wpAny_pure (q s' l ?_ (T.at fun o => mv.heap S o fun h => off (W.sub _ h)) z fun x => ?_)))
    · exact mv.mono fun b => List.mem_cons_of_mem _
    · rw [m x, ← hn, List.take_length]
  | k + 1, i, s, l, e, st, T, z, m, q => by
    have lt : i < n := by omega
    refine codeAny_builtin PyProof.Rows.F.entry_set_update_loop ((Around.under_plainId PyProof.Rows.F.plain_set_update_loop _).symm ▸ show wpAny _ A.in1 (pyNext (.ref I) >>= _) _ _ s from wpAny_bind (W.item i s _ _ lt st fun v s' pv st' mv => ?_))
    obtain ⟨x, t, hx, rfl⟩ := hv i v pv
    show wpAny _ A.in1 (holding [Value.str x t] (setAdd S (.str x t)) >>= _) _ _ s'
    refine wpAny_bind (wpAny_holding (wpAny_holding (wpAny_bind ((PySem.strKind prog w).pyHash (k := x) (strKind_is _ _ _ _) ?_))))
    refine tx_add (s := { s' with toks := s'.toks + 1 }) (T.at fun o => mv.heap S o fun h => off (W.sub _ h)) (by omega) fun g r sb l' T' z' m' => ?_
    have keep : ∀ b o, b ≠ S → s'.heap.get? b = some o → g.get? b = some o := fun b o h e => (sb.2 b h).trans e
    refine wpAny_pure ⟨plainId_quiet PyProof.Rows.F.plain_set_update_loop _, tx_loop W off hn hb hv k (i + 1) _ l' (by omega) (W.frame _ s' _ _ st' (Nat.le_succ _) fun b hb' o => keep b o fun h => off (h ▸ hb')) T' (by omega) (fun y => ?_) fun s2 l2 mv2 => q s2 l2 (Moved.trans W.gtrans ((mv.mono fun b => List.mem_cons_of_mem _).then_heap (Nat.le_succ _) fun b o hb' => keep b o fun h => hb' (h ▸ List.mem_cons_self)) mv2)⟩
    rw [m' y, m y, List.take_add_one, hx]
    simp
end
section
variable {prog : Program} {w : World} {A : Around} {E : Value → Shared → Prop} {s : Shared} {Q : Value → Shared → Prop}
/-- set(v): a new object, then its __init__ -/
theorem set_call {v : Value} (q : codeAny (model prog w) A.in1 (.call (.builtin "set.__init__") ⟨[.ref s.heap.objs.size, v], []⟩) (wants (fun r t => r = .none ∧ Q (.ref s.heap.objs.size) t) E) { s with heap := s.heap.push (nSet w) }) : wpAny (model prog w) A (call (.type "set") [v]) Q E s := by
  obtain ⟨_, _, mro⟩ := PySem.F.called_set.mro
  have made := PySem.F.called_set.made
  have sub := PySem.F.called_set.sub
  have nt := PySem.F.called_set.notType
  have cc := PySem.F.called_set.canCreate
  have ct := PySem.F.typeCall_set_1 v
  refine wpAny_call (codeAny_of_tree (show wpAny _ _ (callAny (.type "set") _) _ _ _ from wpAny_pure ⟨Code.quiet_builtin _ (by decide +kernel), codeAny_builtin PySem.F.entry_type_call ((Around.under_plain (weight_type_call_type "set" [v] []) rfl).symm ▸ ?_)⟩))
  repeat (any_goals (first | assumption | wp_step))
  refine codeAny_mono (code_set_led1 v (E := E) (Q₁ := fun o t => o = .ref s.heap.objs.size ∧ t = { s with heap := s.heap.push (nSet w) }) ⟨rfl, rfl⟩) fun r t hr => ?_
  rcases r with e | (_ | _ | _ | o)
  · exact hr
  · exact hr.elim
  · exact hr.elim
  · exact hr.elim
  · obtain ⟨rfl, rfl⟩ := hr
    have ty : Shared.TypeIs { s with heap := s.heap.push (nSet w) } (.ref s.heap.objs.size) "set" := ⟨_, Heap.get?_push_size _ rfl, rfl⟩
    have lk := PySem.F.called_set.init.lookup
    have bd := PySem.F.called_set.init.bind (.ref s.heap.objs.size)
    repeat (any_goals (first | assumption | wp_step))
    refine codeAny_mono q fun r2 t2 h2 => ?_
    rcases r2 with e2 | (_ | _ | _ | o2)
    · exact h2
    · exact h2.elim
    · exact h2.elim
    · exact h2.elim
    · obtain ⟨rfl, h2⟩ := h2
      repeat (any_goals (first | assumption | wp_step))
/-- set(list of texts) -/
theorem call_set_listT {l : Addr} {its : Array Value} {xs : List Str} (na : A.handled = none) (hl : s.heap.IsList l its) (hi : PyProof.Rows.StrsAre its.toList xs) (hb : xs.length + 1 < scanBound)
    (q : ∀ g tk l', TxAt prog w g s.heap.objs.size l' → l'.length ≤ xs.length → (∀ x, x ∈ l' ↔ x ∈ xs) → (∀ b o, s.heap.get? b = some o → g.get? b = some o) → Q (.ref s.heap.objs.size) { s with heap := g, toks := tk }) : wpAny (model prog w) A (call (.type "set") [.ref l]) Q E s := by
  refine set_call (codeAny_call_builtin PySem.F.called_set.init.plain PySem.F.entry_set_init (check_set_init_1 ⟨_, Heap.get?_push_size _ rfl, rfl⟩ ?_))
  obtain ⟨⟨oc, od, dt, osl⟩, ol, rfl, nl, rfl⟩ := hl
  have ol2 : (s.heap.push (nSet w)).get? l = some { cls := .type "list", dict := od, data := .seq its nl, slots := osl } := Heap.get?_push_of_some _ ol
  have il : (s.heap.push (nSet w)).IsList l its := ⟨_, ol2, rfl, nl, rfl⟩
  have ll : l < s.heap.objs.size := Heap.lt_size ol
  have z : (s.heap.push (nSet w)).objs.size = s.heap.objs.size + 1 := Heap.size_push ..
  have ns := PySem.F.sub_list_set
  have nf := PySem.F.sub_list_frozenset
  have nd : (Value.type "list" == Value.type "dict") = false := by decide
  unfold Builtin.«set.__init__» noKeywords Builtin.Frozenset.updateFrom
  generalize e : pyIter = it
  wp_walk
  subst e
  refine wpAny_pyIter_list il (wpAny_bind (wpAny_runValue ?_))
  have hn : xs.length = its.size := (StrsAre.len_eq hi).symm.trans Array.length_toList
  have far : l ≠ (s.heap.push (nSet w)).objs.size := by
    rw [z]
    exact Nat.ne_of_lt (Nat.lt_succ_of_lt ll)
  refine tx_loop ((Walks.list (show A.in1.in1.in1.handled = none by simp [na]) _ l far its).toS) (S := s.heap.objs.size) (by
    rw [z]
    simpa using Nat.ne_of_gt ll) hn (hn ▸ hb) (fun i v hv => ?_) its.size 0 _ [] (Nat.zero_add _) ⟨⟨_, Heap.get?_push_size _ rfl, rfl, rfl⟩, il.push _⟩ ((TxAt.fresh w).at fun o => Heap.get?_push_of_some _) (Nat.le_refl _) (fun x => by simp) fun t l' mv T zl m => ?_
  · obtain ⟨y, u, e1, e2⟩ := hi.item i v (by rw [Array.getElem?_toList]; exact hv)
    exact ⟨y, u, e2, e1⟩
  · obtain ⟨h1, h2, h3, h4, h5⟩ := t
    obtain rfl : h2 = s.gens := mv.gens
    obtain rfl : h3 = s.drawn := mv.drawn
    obtain rfl : h5 = s.os := mv.os
    refine wpAny_pure (show wpAny _ _ (ret Value.none) _ _ _ from wpAny_pure ⟨rfl, q h1 h4 l' T (hn ▸ zl) m fun b o hb => mv.heap b o ?_ (Heap.get?_push_of_some _ (Heap.get?_push_of_some _ hb))⟩)
    have lt : b < s.heap.objs.size := Heap.lt_size hb
    rw [z]
    simpa using ⟨Nat.ne_of_lt lt, Nat.ne_of_lt (Nat.lt_succ_of_lt lt)⟩
end
section
variable {prog : Program} {w : World} {A : Around} {E : Value → Shared → Prop} {s : Shared} {Q : Value → Shared → Prop}
theorem strs_of : ∀ (l : List Value), (∀ v ∈ l, ∃ t, v = Value.str (keyS (0, v)) t) → StrsAre l (l.map fun v => keyS (0, v))
  | [], _ => .nil
  | v :: l, h => by
    obtain ⟨t, e⟩ := h v List.mem_cons_self
    have r := strs_of l fun u m => h u (List.mem_cons_of_mem _ m)
    rw [List.map_cons, e]
    exact .cons _ t r
/-- sorted(such a set) -/
theorem sorted_tx {a : Addr} {l : List Str} (R : TxAt prog w s.heap a l) (na : A.handled = none) (hb : l.length < 64)
    (q : ∀ t p out c ys, (∀ b o, s.heap.get? b = some o → t.heap.get? b = some o) → t.gens = s.gens → t.os = s.os → s.heap.objs.size ≤ p → t.heap.get? p = some (seqObj "list" out c) → StrsAre out.toList ys → sortedS ys = true → ys.Perm l → Q (.ref p) t) :
    wpAny (model prog w) A (call (.builtin "sorted") [.ref a]) Q E s := by
  obtain ⟨⟨es, ep, tb⟩, ho, F, pk, r, ld⟩ := R.ex
  have sz : es.size = l.length := F.sz
  refine Calls.call_function_entry kind_sorted plain_sorted entry_sorted (args_sorted1 _) (show wpAny _ _ (Builtin.«sorted» _) _ _ _ from ?_)
  unfold Builtin.«sorted»
  refine wpAny_bind (m := checkCount "sorted" 1 1 _) (wpAny_pure (wpAny_bind (collect_set (A := A.in1) na ⟨_, ho, rfl, rfl⟩ F.fit (show es.size < scanBound by
    have : (64 : Nat) < scanBound := by decide
    omega) r ld fun t vs k1 z1 g1 o1 pm => ?_)))
  have nv : vs.length = l.length := by
    rw [pm.length_eq, List.length_map, Array.length_toList]
    exact sz
  have zv : vs.length ≤ sizeLine := nv ▸ Nat.le_trans (Nat.le_of_lt hb) (by decide)
  have tx : StrsAre vs (vs.map fun v => keyS (0, v)) := strs_of vs fun v hv => by
    obtain ⟨e, he, rfl⟩ := List.mem_map.mp (pm.mem_iff.mp hv)
    exact entry_str F.el he
  have pv : (vs.map fun v => keyS (0, v)).Perm l := by
    have p := pm.map fun v => keyS (0, v)
    rw [List.map_map] at p
    exact p.trans pk
  have at1 : (t.heap.push (seqObj "list" vs.toArray 0)).get? t.heap.objs.size = some (seqObj "list" vs.toArray 0) := Heap.get?_push_size _ rfl
  refine wpAny_bind (wpAny_newList (wpAny_bind (wpAny_holding (wpAny_call_entry slot_list_sort ⟨_, at1, rfl⟩ entry_list_sort (list_sort_treeKAny strKind_oneLt at1 tx.keysOf (fun _ _ _ e => keyKind_strs (by rw [← e]; exact tx)) zv fun st p1 s1 => ⟨_, rfl, ?_⟩) (args_list_sort _)))) zv)
  obtain ⟨ys, a1, a2, a3⟩ := sorted_out_str tx p1 s1
  obtain ⟨c, hc⟩ := sortedHeap_at (vs := vs) (out := (arrOf st).map (·.2)) at1
  refine wpAny_pure ⟨_, rfl, q _ _ _ c ys (fun b o e => ?_) g1 o1 z1 hc a1 a3 (a2.trans pv)⟩
  have e1 := k1 b o e
  have lt := Heap.lt_size e1
  show (sortedHeap (t.heap.push (seqObj "list" vs.toArray 0)) t.heap.objs.size vs ((arrOf st).map (·.2))).get? b = some o
  exact (sortedHeap_old (Nat.ne_of_lt lt) ((size_push' ..).symm ▸ Nat.lt_succ_of_lt lt)).trans (Heap.get?_push_of_some _ e1)
end
/-- the set of texts at a, tracked -/
def SetTx (P : Program) (w : World) (a : Addr) (xs : List Str) : HO := .ext fun h => ∃ l, TxAt P w h a l ∧ l.length ≤ xs.length ∧ ∀ x, x ∈ l ↔ x ∈ xs
section
variable {X : Cx}
theorem setTx_new {w : World} {P : Program} {H : Hp} {h : Heap} {a : Addr} {xs : List Str} (R : ∃ l, TxAt P w h a l ∧ l.length ≤ xs.length ∧ ∀ x, x ∈ l ↔ x ∈ xs) : ObjOk P w H h a (SetTx P w a xs) :=
  ⟨R, (let ⟨_, T, _⟩ := R; let ⟨_, e, _⟩ := T.ex; ⟨_, e⟩), fun _ _ ⟨l, T, r⟩ k => ⟨l, T.at k, r⟩⟩
/-- set(list of texts) -/
def rSetOfS (K : PySem.W.Frag) (P : Program) (w : World) : List V → Hp → VK → Prop := fun vs H Q => ∃ (l : Addr) (xs : List Str), vs = [V.ref l] ∧ SqL K H l (xs.map V.str) ∧ xs.length < 64 ∧ ∀ a, H a = none → Q (.ref a) (upd H a (SetTx P w a xs))
theorem cr_setOfS (hc : X.calm = true) : CallR X (.type "set") (rSetOfS X.K X.prog X.w) := by
  intro pins s σ H vs us Q I r ⟨l, xs, e, sq, z, q⟩
  subst e
  obtain ⟨its, rv, hl, _⟩ := I.list sq
  rw [Vals.ref1 r]
  exact call_set_listT (I.ok.hd hc) hl.isList (by simpa using rv.strs) (Nat.lt_trans (Nat.succ_lt_succ z) (by decide)) fun g tk l' T zl m k => ⟨.ref _, _, I.laid (t' := tk) k (Nat.le_refl _) (setTx_new ⟨l', T, zl, m⟩), rfl, q _ (I.hok.fresh (Nat.le_refl _))⟩
/-- sorted(such a set) -/
def rSortedSetS (P : Program) (w : World) : List V → Hp → VK → Prop := fun vs H Q => ∃ (a : Addr) (xs : List Str), vs = [V.ref a] ∧ H a = some (SetTx P w a xs) ∧ xs.length < 64 ∧
  ∀ (ys : List Str) (p : Addr), sortedS ys = true → ys.Nodup → (∀ k, k ∈ ys ↔ k ∈ xs) → ys.length ≤ xs.length → H p = none → Q (.ref p) (upd H p (.lst (ys.map V.str)))
theorem cr_sortedSetS (hc : X.calm = true) : CallR X (.builtin "sorted") (rSortedSetS X.prog X.w) := by
  intro pins s σ H vs us Q I r ⟨a, xs, e, ha, z, q⟩
  subst e
  obtain ⟨l, T, zl, m⟩ := (I.hok a _ ha).1
  rw [Vals.ref1 r]
  refine sorted_tx T (I.ok.hd hc) (Nat.lt_of_le_of_lt zl z) fun t p out c ys k g o hp hg hi hs pl => ?_
  have np : H p = none := I.hok.fresh hp
  have zy : ys.length ≤ xs.length := pl.length_eq ▸ zl
  have okL : ObjOk X.prog X.w (upd H p (.lst (ys.map V.str))) t.heap p (.lst (ys.map V.str)) := ⟨by
    rw [List.length_map]
    exact Nat.le_trans (Nat.le_of_lt (Nat.lt_of_le_of_lt zy z)) (by decide), out.toList, c, vals_of_strs hi, hg⟩
  have J : Inv X pins σ (upd H p (.lst (ys.map V.str))) { s with heap := t.heap, gens := t.gens, drawn := t.drawn, toks := t.toks } := I.call (ch := []) (Un.laid k hp np) (I.hok.laid k hp okL) (by rw [g]; exact I.bare) fun _ n => nomatch n
  have es : t = { s with heap := t.heap, gens := t.gens, drawn := t.drawn, toks := t.toks } := by
    obtain ⟨t1, t2, t3, t4, t5⟩ := t
    cases o
    rfl
  rw [es]
  exact ⟨.ref p, _, J, rfl, q ys p hs (pl.nodup_iff.mpr T.nd) (fun x => pl.mem_iff.trans (m x)) zy np⟩
end
end NP
end
section
set_option Elab.async false
set_option linter.all false
set_option maxRecDepth 100000
set_option maxHeartbeats 4000000
/-! tuple(d.values()). -/
namespace NP
open PySem PySem.Spec PyProof.Rows L2
section
variable {prog : Program} {w : World} {T : String} {r d : Addr} {n : Nat} {Pv : Nat → Value → Prop} {Ok : Heap → Prop} {A : Around} {E : Value → Shared → Prop} {s : Shared}
/-- what was drawn from a dict's view into a new list -/
structure Got (Pv : Nat → Value → Prop) (n : Nat) (s : Shared) (o : Result) (t : Shared) : Prop where
  ret : o = .ok (.ret (.ref s.heap.objs.size))
  ex : ∃ g tk acc c, t = { s with heap := g, toks := tk } ∧ (∀ b u, s.heap.get? b = some u → g.get? b = some u) ∧ g.get? s.heap.objs.size = some { cls := .type "list", dict := none, data := .seq acc c, slots := #[] } ∧ ItemsOf Pv acc n
theorem collect_K {Q : List Value → Shared → Prop} (K : PySem.W.KdlSrc prog w T r d n Pv Ok) (na : A.handled = none) (ok : Ok s.heap) (z : n ≤ sizeLine)
    (q : ∀ (g : Heap) (tk : Nat) (acc : Array Value), (∀ b u, s.heap.get? b = some u → g.get? b = some u) → ItemsOf Pv acc n → Q acc.toList { s with heap := g, toks := tk }) : wpAny (model prog w) A (collect (.ref r)) Q E s := by
  have fin : ∀ {o t} {F : Obj → Sem (List Value)}, (∀ vs c, F { cls := .type "list", dict := none, data := .seq vs c, slots := #[] } = pure vs.toList) → Got Pv n s o t → wpAny (model prog w) A (load s.heap.objs.size >>= F) Q E t := fun {o t F} hF ⟨_, g, tk, acc, c, e, k, h, m⟩ => by
    subst e
    refine wpAny_bind (wpAny_load h ?_)
    rw [hF]
    exact wpAny_pure (q g tk acc k m)
  have l0 : (s.heap.push { cls := .type "list", data := .seq ([] : List Value).toArray }).get? s.heap.objs.size = some { cls := .type "list", data := .seq #[] 0 } := Heap.get?_push_size _ rfl
  have old : ∀ b u, s.heap.get? b = some u → (s.heap.push { cls := .type "list", data := .seq ([] : List Value).toArray }).get? b = some u := fun b u => Heap.get?_push_of_some _
  obtain ⟨lr, ld⟩ := K.there _ ok
  have ext := PySem.W.kdl_extend (A := A) (R := Got Pv n s) (s := { s with heap := s.heap.push { cls := .type "list", data := .seq ([] : List Value).toArray } }) K na (K.keep _ _ ok fun b _ => old b) s.heap.objs.size (Nat.ne_of_gt lr) (Nat.ne_of_gt ld) (.ref s.heap.objs.size) 0 l0
    (fun g tk acc c k h m => ⟨rfl, g, tk, acc, c, rfl, fun b u e => k b u (Nat.ne_of_lt (Heap.lt_size e)) (old b u e), h, m⟩) z
  refine wpAny_bind (wpAny_runValue (codeAny_builtin F.entry_proto_collect ((Around.under_plainId F.plain_proto_collect _).symm ▸ show wpAny _ A.in1 (newList [] >>= fun l => again (.builtin "list.__iadd__" ⟨[l, .ref r], []⟩)) _ _ s from
    wpAny_bind (wpAny_newObj_type (wpAny_pure ⟨plainId_quiet F.plain_list_iadd _, codeAny_builtin F.entry_list_iadd ((Around.under_plainId F.plain_list_iadd _).symm ▸ show wpAny _ A.in1 (Builtin.List.listExtendWith (.ref s.heap.objs.size) (.ref r) (.ref s.heap.objs.size)) _ _ _ from wpAny_mono ext (fun o t h => ?_) fun e t h => nomatch h.ret)⟩)))))
  rcases o with o | o
  · obtain ⟨e, x⟩ := h
    cases e
    exact show wpAny _ A (load s.heap.objs.size >>= _) _ _ _ from fin (fun _ _ => rfl) ⟨rfl, x⟩
  · exact ⟨h.1, codeAny_mono h.2 fun o' t' ⟨e, x⟩ => by
      subst e
      exact show wpAny _ A (load s.heap.objs.size >>= _) _ _ _ from fin (fun _ _ => rfl) ⟨rfl, x⟩⟩
/-- tuple() of it -/
theorem call_tuple_K {Q : Value → Shared → Prop} (K : PySem.W.KdlSrc prog w T r d n Pv Ok) (na : A.handled = none) (ok : Ok s.heap) (z : n ≤ sizeLine)
    (q : ∀ (g : Heap) (tk : Nat) (acc : Array Value), (∀ b u, s.heap.get? b = some u → g.get? b = some u) → ItemsOf Pv acc n → Q (.ref g.objs.size) { s with heap := g.push { cls := .type "tuple", data := .seq acc }, toks := tk }) : wpAny (model prog w) A (call (.type "tuple") [.ref r]) Q E s := by
  have new : codeAny (model prog w) A.in1 (.call (.builtin "tuple.__new__") ⟨[.type "tuple", .ref r], []⟩) (wants (fun o t => t.TypeIs o "tuple" ∧ Q o t) E) s := by
    refine codeAny_of_tree (show wpAny _ A.in1.in1 (checkBuiltinCall "tuple.__new__" ⟨[.type "tuple", .ref r], []⟩ >>= fun _ => again (.builtin "tuple.__new__" ⟨[.type "tuple", .ref r], []⟩)) _ _ s from
      wpAny_bind (wpAny_of_eq (F.newCall_tuple_1 _) (wpAny_pure ⟨plainId_quiet F.plain_tuple_new _, codeAny_builtin F.entry_tuple_new ((Around.under_plainId F.plain_tuple_new _).symm ▸ ?_)⟩)))
    have own := sub_tuple_self
    have ini := init_tuple_lookup
    have mh := madeHere_tuple
    have ty : s.TypeIs (.ref r) T := K.type _ ok
    have n1 := K.notTuple
    have n2 := K.notList
    wp_walk using wpAny_typeOf ty, collect_K (A := A.in1.in1) K na ok z
    intro g tk acc k m
    have e : acc.toList.toArray = acc := Array.toArray_toList
    refine show wpAny _ _ (Builtin.Tuple.tupleExact acc.toList.toArray >>= fun v => ret v) _ _ _ from wpAny_bind (wpAny_newObj_type (wpAny_pure ?_) (by
      rw [e]
      exact Nat.le_trans (Nat.le_of_eq m.1) z))
    rw [e]
    exact ⟨⟨_, Heap.get?_push_size _ rfl, rfl⟩, q g tk acc k m⟩
  exact callType_codes F.called_tuple (F.typeCall_tuple_1 _) F.entry_object_init new fun o t h => ⟨h.1, F.args_object_init_2 o _, object_init_meets F.called_tuple.init.lookup F.called_tuple.made (by decide) prog w A.in1 _ t ⟨h.1, rfl, h.2⟩⟩
end
theorem kv_snd {kvs : List (Key × V)} {vs : List (Key × Value)} (kv : KV kvs vs) : Vals (kvs.map (·.2)) (vs.map (·.2)) := by
  induction kv with
  | nil => exact .nil
  | cons h t ih => exact .cons h.2 ih
/-- tuple(d.values()) -/
def tTupVals (te : TE) : TE := fun σ H Q => te σ H fun x H1 => ∃ (d : Addr) (kvs : List (Key × V)), x = .ref d ∧ H1 d = some (.dK kvs) ∧ ∀ p, H1 p = none → Q (.ref p) (upd H1 p (.tup (kvs.map (·.2))))
section
theorem pe_tupVals {X : Cx} {e : Expr} {te : TE} {p apos cpos pos : Pos} (hc : X.calm = true) (he : PE X e te) (hg : Gl X "tuple") (hm : X.mg "tuple" = none) (hbase : attributeBase e "values" X.env (eval e X.env) = eval e X.env := by rfl) (hline : (apos.endLine == cpos.line) = true := by rfl)
    (hs : starEach [.Call (.Attribute e "values" apos) [] [] cpos] X.env = (false, eval (.Call (.Attribute e "values" apos) [] [] cpos) X.env) :: starEach [] X.env := by rfl) :
    PE X (.Call (.Name "tuple" p) [.Call (.Attribute e "values" apos) [] [] cpos] [] pos) (tTupVals te) := by
  refine ⟨fun pins s σ H Q I h => Call_ (ld_blt I hg hm boot_tuple (PyProof.Rows.callWith_type1 ?_ hs rfl))⟩
  rw [hs]
  refine show wpAny _ _ (spliced ((false, eval (.Call (.Attribute e "values" apos) [] [] cpos) X.env) :: backTo pos (starEach [] X.env))) _ _ s from Calls.spliced_cons (wpAny_Call_method (T := "dict") (id := "dict.values") hbase rfl hline F.plainAttrs_dict F.slot_dict_values F.type_dict_values (thn (he.run pins s σ H _ I h) fun v t ⟨x, H1, J, rx, d, kvs, ex, hd, q⟩ => ?_))
  subst ex
  obtain rfl : v = Value.ref d := rx
  obtain ⟨z, n0, ps, kv, dict⟩ := J.hok d _ hd
  obtain ⟨ep, raw⟩ := dict.dictAt
  have len := kv.length
  have keep : ∀ b o, t.heap.get? b = some o → (t.heap.push { cls := .type "dict_values", data := .fields #[.ref d] }).get? b = some o := fun b o => Heap.get?_push_of_some _
  refine ⟨dict.typeIs, dict.mapOf.noDict, show wpAny _ _ (callWith cpos (.builtin "dict.values") [.ref d] [] []) _ X.xe t from method_meetsIn F.slot_dict_values F.entry_dict_values rfl (PySem.evalArgs_none ⟨rfl, dict.typeIs, F.args_dict_values_1 _, _, meets_dict_values (mixKind X.prog X.w) d n0, ⟨ps, dict⟩, Calls.spliced_nil ?_⟩)⟩
  refine call_tuple_K (PySem.W.kdl_values (knd := mixKind X.prog X.w) (kvs := ps) (ep := ep)) (J.ok.hd hc) ⟨⟨_, Heap.get?_push_size _ rfl, rfl, rfl⟩, raw.push _⟩ (by omega) fun g tk acc k m => ?_
  have vals : acc.toList = ps.map (·.2) := PySem.W.kdl_vals_eq acc.toList (Array.length_toList.trans m.1) fun j v hj => m.2 j v (Array.getElem?_toList.symm.trans hj)
  have J2 : Inv X pins σ H1 { t with heap := g, toks := tk } := (J.kept (t' := t.toks) keep).kept (t' := tk) k
  refine ⟨.ref g.objs.size, _, J2.laid (t' := tk) (fun b o e => Heap.get?_push_of_some _ e) (Nat.le_refl _) (show ObjOk X.prog X.w _ _ _ (.tup (kvs.map (·.2))) from ⟨?_, ps.map (·.2), kv_snd kv, ?_⟩), rfl, q _ (J2.hok.fresh (Nat.le_refl _))⟩
  · rw [List.length_map]
    exact z
  · rw [← vals, Array.toArray_toList]
    exact IsTup.new _ _
end
end NP
end
section
set_option Elab.async false
set_option linter.all false
set_option maxRecDepth 100000
set_option maxHeartbeats 4000000
/-! dict(zip(t1, t2, strict=True)) of two tuples of one length. -/
namespace NP
open PySem
open PySem.Sem (wp)
section
variable {prog : Program} {w : World} {A : Around} {E : Value → Shared → Prop} {s : Shared}
/-- one draw from a tuple's iterator, at an item | past the last -/
theorem pull {it l : Addr} {k : Nat} {its : Array Value} {v : Value} {Q : Option Value → Shared → Prop} (m : s.heap.IsTupleIter it l k) (b : s.heap.IsTuple l its) (e : its[k]? = some v)
    (q : ∀ g, g.IsTupleIter it l (k + 1) → Heap.SameBut it s.heap g → Q (some v) { s with heap := g }) : wpAny (model prog w) A (Builtin.SmallTypes.nextOrEnd (.ref it)) Q E s :=
  wpAny_bind (wpAny_attempt (RZ.nextOf_tuple_item m b e fun g x y => wpAny_pure (q g x y)))
theorem dry {it l : Addr} {k : Nat} {its : Array Value} {Q : Option Value → Shared → Prop} (na : A.handled = none) (m : s.heap.IsTupleIter it l k) (b : s.heap.IsTuple l its) (e : its[k]? = none)
    (q : ∀ g, Heap.ExtBut it s.heap g → Q none { s with heap := g }) : wpAny (model prog w) A (Builtin.SmallTypes.nextOrEnd (.ref it)) Q E s :=
  wpAny_bind (wpAny_attempt (RZ.nextOf_tuple_end na m b e fun g _ x ⟨o, y1, y2⟩ => wpAny_bind (wpAny_isInstance (T := "StopIteration") (b := true) ⟨o, y1, y2⟩ isSubtype_stop (wpAny_pure (q g x)))))
theorem stop_raise {α : Type} {Q : α → Shared → Prop} (hh : A.handled = none) (h : ∀ h' e, (∀ b o, s.heap.get? b = some o → h'.get? b = some o) → (∃ o, h'.get? e = some o ∧ o.cls = .type "StopIteration") → E (.ref e) { s with heap := h' }) :
    wpAny (model prog w) A (Builtin.SmallTypes.stopIteration : Sem α) Q E s := by
  unfold Builtin.SmallTypes.stopIteration
  refine wpAny_bind ?_
  simp only [newExc, newTuple]
  refine wpAny_bind (wpAny_newObj_type ?_ (by size_fits))
  refine wpAny_bind (m := firstArgMember _ _) (wpAny_of_eq (a := Value.none) (by first | rfl | (simp only [firstArgMember]; rfl)) ?_)
  refine wpAny_newObj_type ?_ (by size_fits)
  simp only [raiseNew]
  refine wpAny_bind (wpAny_handled ?_)
  first | rw [show A.in1.handled = none from hh] | rw [hh]
  refine wpAny_bind (wpAny_pure (wpAny_throw ?_))
  exact h _ _ (fun b o e => Heap.get?_push_of_some _ (Heap.get?_push_of_some _ e)) ⟨_, Heap.get?_push_size _ rfl, rfl⟩
/-! ### a strict zip of two tuples -/
/-- the object: x is none while its own pair TO is at hand, else the pair that went out; f: that one was seen alive -/
abbrev zObj (x : Value) (f : Bool) (TI TO : Addr) : Obj := { cls := .type "zip", dict := none, data := .fields #[x, .bool f, .bool true, .ref TI, .ref TO], slots := #[] }
abbrev pObj (x y : Value) : Obj := { cls := .type "tuple", data := .seq #[x, y] }
abbrev IsZipS (h : Heap) (z TI TO : Addr) (x : Value) : Prop := h.get? z = some (zObj x false TI TO)
/-- what it draws from, k items in -/
structure Src2 (h : Heap) (TI i1 i2 l1 l2 : Addr) (k : Nat) (xs ys : Array Value) : Prop where
  pr : IsPair h TI (.ref i1) (.ref i2)
  a1 : h.IsTupleIter i1 l1 k
  a2 : h.IsTupleIter i2 l2 k
  b1 : h.IsTuple l1 xs
  b2 : h.IsTuple l2 ys
section
variable {z TI TO i1 i2 l1 l2 : Addr} {k : Nat} {xs ys : Array Value} {x y u v : Value} {f : Bool}
theorem Src2.keep {h g : Heap} (m : Src2 h TI i1 i2 l1 l2 k xs ys) (e : ∀ c o, c = TI ∨ c = i1 ∨ c = i2 ∨ c = l1 ∨ c = l2 → h.get? c = some o → g.get? c = some o) : Src2 g TI i1 i2 l1 l2 k xs ys :=
  ⟨e _ _ (.inl rfl) m.pr, m.a1.at fun o => e _ o (.inr (.inl rfl)), m.a2.at fun o => e _ o (.inr (.inr (.inl rfl))), m.b1.at fun o => e _ o (.inr (.inr (.inr (.inl rfl)))), m.b2.at fun o => e _ o (.inr (.inr (.inr (.inr rfl))))⟩
/-- up to the look at its pair -/
theorem zip_in {α : Type} {G : Value → Option (Array Value) → Sem α} {F : Bool → Sem α} {Q : α → Shared → Prop} (hz : s.heap.get? z = some (zObj x f TI TO)) (ht : IsPair s.heap TI u v) (e : G (.bool true) (some #[u, v]) = (Builtin.SmallTypes.ownedTupleIsFree (.ref z) >>= F))
    (h : wpAny (model prog w) A (Builtin.SmallTypes.ownedTupleIsFree (.ref z)) (fun b s' => wpAny (model prog w) A (F b) Q E s') E s) : wpAny (model prog w) A (field (.ref z) 2 >>= fun a => field (.ref z) 3 >>= fun b => seqItems? b >>= G a) Q E s :=
  wpAny_bind (wpAny_field hz rfl (x := .bool true) rfl (wpAny_bind (wpAny_field hz rfl (x := .ref TI) rfl (wpAny_bind (wpAny_seqItems ht rfl (by
    rw [e]
    exact wpAny_bind h))))))
theorem own_here {Q : Bool → Shared → Prop} (hz : IsZipS s.heap z TI TO .none) (h : Q true s) : wpAny (model prog w) A (Builtin.SmallTypes.ownedTupleIsFree (.ref z)) Q E s :=
  wpAny_bind (wpAny_field hz rfl rfl (wpAny_pure h))
theorem own_held {T : Addr} {oT : Obj} {Q : Bool → Shared → Prop} (hz : s.heap.get? z = some (zObj (rawInt T) f TI TO)) (hT : s.heap.get? T = some oT)
    (h : ∀ g, g.get? z = some (zObj (rawInt T) true TI TO) → Heap.SameBut z s.heap g → Q false { s with heap := g }) : wpAny (model prog w) A (Builtin.SmallTypes.ownedTupleIsFree (.ref z)) Q E s := by
  refine wpAny_bind (wpAny_field hz rfl (x := rawInt T) rfl (show wpAny _ _ (loadIfAlive (T : Int).toNat >>= _) _ _ _ from wpAny_bind (by
    rw [Int.toNat_natCast]
    refine PySem.W.kdx_alive hT (wpAny_bind (wpAny_field hz rfl (x := .bool f) rfl ?_))
    cases f
    · exact wpAny_bind (wpAny_setField_rec hz (by simp) fun g y1 y2 => wpAny_pure (h g y1 y2))
    · exact wpAny_pure (h _ hz (.refl _ _)))))
/-- all stays but at four places -/
def Off (a b c d : Addr) (h g : Heap) : Prop := ∀ e o, e ≠ a → e ≠ b → e ≠ c → e ≠ d → h.get? e = some o → g.get? e = some o
theorem Off.trans {a b c d : Addr} {h g r : Heap} (p : Off a b c d h g) (q : Off a b c d g r) : Off a b c d h r := fun e o n1 n2 n3 n4 t => q e o n1 n2 n3 n4 (p e o n1 n2 n3 n4 t)
theorem Off.of1 {a b c d : Addr} {h g : Heap} (x : Heap.ExtBut a h g) : Off a b c d h g := fun e o n _ _ _ t => x e o n t
theorem Off.of2 {a b c d : Addr} {h g : Heap} (x : Heap.ExtBut b h g) : Off a b c d h g := fun e o _ n _ _ t => x e o n t
theorem Off.of3 {a b c d : Addr} {h g : Heap} (x : Heap.ExtBut c h g) : Off a b c d h g := fun e o _ _ n _ t => x e o n t
theorem Off.of4 {a b c d : Addr} {h g : Heap} (x : Heap.ExtBut d h g) : Off a b c d h g := fun e o _ _ _ n t => x e o n t
theorem Off.push {a b c d : Addr} {h g : Heap} (x : Off a b c d h g) (o : Obj) : Off a b c d h (g.push o) := fun e u n1 n2 n3 n4 t => Heap.get?_push_of_some o (x e u n1 n2 n3 n4 t)
/-- what is not touched of the sources -/
structure Rest (h : Heap) (TI i1 i2 l1 l2 : Addr) (xs ys : Array Value) : Prop where
  pr : IsPair h TI (.ref i1) (.ref i2)
  b1 : h.IsTuple l1 xs
  b2 : h.IsTuple l2 ys
theorem Rest.off {h g : Heap} (D : ZipApart z TI TO i1 i2 l1 l2) (m : Rest h TI i1 i2 l1 l2 xs ys) (o : Off z TO i1 i2 h g) : Rest g TI i1 i2 l1 l2 xs ys :=
  ⟨o _ _ D.TIz D.TITO D.TIi1 D.TIi2 m.pr, m.b1.at fun u => o _ u D.l1z D.l1TO D.l1i1 D.l1i2, m.b2.at fun u => o _ u D.l2z D.l2TO D.l2i1 D.l2i2⟩
/-- an item, its own pair at hand -/
theorem zS_item (D : ZipApart z TI TO i1 i2 l1 l2) (hz : IsZipS s.heap z TI TO .none) (hO : IsPair s.heap TO u v) (m : Src2 s.heap TI i1 i2 l1 l2 k xs ys) (ex : xs[k]? = some x) (ey : ys[k]? = some y) {Q : Value → Shared → Prop}
    (q : ∀ g, IsZipS g z TI TO (rawInt s.heap.objs.size) → Src2 g TI i1 i2 l1 l2 (k + 1) xs ys → IsPair g s.heap.objs.size x y → Off z TO i1 i2 s.heap g → Q (.ref s.heap.objs.size) { s with heap := g }) :
    wpAny (model prog w) A (Builtin.«zip.__next__» ⟨[.ref z], []⟩) (fun fin s' => ∃ r, fin = .done (.ret r) ∧ Q r s') E s := by
  have r0 : Rest s.heap TI i1 i2 l1 l2 xs ys := ⟨m.pr, m.b1, m.b2⟩
  show wpAny _ _ (field (.ref z) 2 >>= _) _ _ _
  refine zip_in hz m.pr rfl (own_here hz (wpAny_bind (wpAny_rule (wpAny_bind (wpAny_field hz rfl (x := .ref TO) rfl (wpAny_bind (wpAny_setField_rec hz (by simp) fun ga za sa => ?_)))))))
  have oa : Off z TO i1 i2 s.heap ga := .of1 sa.extBut
  have ra := r0.off D oa
  have pa : IsPair ga TO u v := sa.extBut _ _ D.TOz hO
  refine wpAny_bind ?_
  rw [show (#[Value.ref i1, Value.ref i2] : Array Value).toList.zipIdx = [(Value.ref i1, 0), (Value.ref i2, 1)] from rfl, List.forIn_cons]
  -- the first
  refine wpAny_bind (wpAny_bind (wpAny_onRaise (show wpAny _ _ (Builtin.SmallTypes.nextOrEnd (.ref i1)) _ _ _ from pull (s := { s with heap := ga }) (m.a1.extBut sa.extBut D.i1z) ra.b1 ex fun gb m1 sb => ?_)))
  have pb : IsPair gb TO u v := sb.extBut _ _ D.TOi1 pa
  refine wpAny_bind (wpAny_seqItems pb rfl (wpAny_bind (wpAny_updateSeq_pair pb fun gc pc sc => wpAny_bind (wpAny_letGo (wpAny_pure ?_)))))
  have oc : Off z TO i1 i2 s.heap gc := (oa.trans (.of3 sb.extBut)).trans (.of2 sc.extBut)
  have rc := r0.off D oc
  -- the second
  show wpAny _ _ (forIn ((Value.ref i2, 1) :: []) _ _) _ _ _
  rw [List.forIn_cons]
  refine wpAny_bind (wpAny_bind (wpAny_onRaise (show wpAny _ _ (Builtin.SmallTypes.nextOrEnd (.ref i2)) _ _ _ from pull (s := { s with heap := gc }) (((m.a2.extBut sa.extBut D.i2z).extBut sb.extBut D.i12.symm).extBut sc.extBut D.TOi2.symm) rc.b2 ey fun gd m2 sd => ?_)))
  have pd : IsPair gd TO x v := sd.extBut _ _ D.TOi2 pc
  refine wpAny_bind (wpAny_seqItems pd rfl (wpAny_bind (wpAny_updateSeq_pair pd fun ge pe se => wpAny_bind (wpAny_letGo (wpAny_pure (wpAny_pure ?_))))))
  have oe : Off z TO i1 i2 s.heap ge := (oc.trans (.of4 sd.extBut)).trans (.of2 se.extBut)
  -- the new pair
  refine wpAny_bind (wpAny_seqItems (show IsPair ge TO x y from pe) rfl (wpAny_bind (wpAny_newTuple ?_)))
  have n : ge.objs.size = s.heap.objs.size := (((se.1.trans sd.1).trans sc.1).trans sb.1).trans sa.1
  have zf : IsZipS (ge.push (pObj x y)) z TI TO .ellipsis := Heap.get?_push_of_some _ (se.extBut _ _ D.TOz.symm (sd.extBut _ _ D.i2z.symm (sc.extBut _ _ D.TOz.symm (sb.extBut _ _ D.i1z.symm za))))
  have new : IsPair (ge.push (pObj x y)) ge.objs.size x y := Heap.get?_push_size _ rfl
  have ne : ge.objs.size ≠ z := fun e => by
    have t := Heap.lt_size (show ge.get? z = some _ from se.extBut _ _ D.TOz.symm (sd.extBut _ _ D.i2z.symm (sc.extBut _ _ D.TOz.symm (sb.extBut _ _ D.i1z.symm za))))
    rw [e] at t
    exact Nat.lt_irrefl _ t
  show wpAny _ _ (Builtin.SmallTypes.ownedTupleHandOut (.ref z) (.ref ge.objs.size) >>= _) _ _ _
  refine wpAny_bind (wpAny_bind (wpAny_setField_rec zf (by simp) fun gh zh sh => wpAny_setField_rec zh (by simp) fun gi zi si => wpAny_pure ⟨_, rfl, ?_⟩))
  have oi : Off z TO i1 i2 s.heap gi := ((oe.push _).trans (.of1 sh.extBut)).trans (.of1 si.extBut)
  have ri := r0.off D oi
  have toi : ∀ c o, c ≠ z → ge.get? c = some o → gi.get? c = some o := fun c o h t => si.extBut _ _ h (sh.extBut _ _ h (Heap.get?_push_of_some _ t))
  have fin := q gi
  rw [← n] at fin
  exact fin zi ⟨ri.pr, (((m1.extBut sc.extBut D.TOi1.symm).extBut sd.extBut D.i12).extBut se.extBut D.TOi1.symm).at fun o => toi _ o D.i1z, (m2.extBut se.extBut D.TOi2.symm).at fun o => toi _ o D.i2z, ri.b1, ri.b2⟩ (si.extBut _ _ ne (sh.extBut _ _ ne new)) oi
/-- an item, its own pair still out -/
theorem zS_itemH {T : Addr} {oT : Obj} (D : ZipApart z TI TO i1 i2 l1 l2) (hz : s.heap.get? z = some (zObj (rawInt T) f TI TO)) (hT : s.heap.get? T = some oT) (m : Src2 s.heap TI i1 i2 l1 l2 k xs ys) (ex : xs[k]? = some x) (ey : ys[k]? = some y) {Q : Value → Shared → Prop}
    (q : ∀ g, g.get? z = some (zObj (rawInt T) true TI TO) → Src2 g TI i1 i2 l1 l2 (k + 1) xs ys → IsPair g s.heap.objs.size x y → (∀ c o, c ≠ z → c ≠ i1 → c ≠ i2 → s.heap.get? c = some o → g.get? c = some o) → Q (.ref s.heap.objs.size) { s with heap := g }) :
    wpAny (model prog w) A (Builtin.«zip.__next__» ⟨[.ref z], []⟩) (fun fin s' => ∃ r, fin = .done (.ret r) ∧ Q r s') E s := by
  show wpAny _ _ (field (.ref z) 2 >>= _) _ _ _
  refine zip_in hz m.pr rfl (own_held hz hT fun ga za sa => show wpAny _ _ (forIn #[Value.ref i1, Value.ref i2] _ _ >>= _) _ _ _ from wpAny_bind ?_)
  have st : ∀ {c}, c ≠ z → ∀ o, s.heap.get? c = some o → ga.get? c = some o := fun h o e => sa.extBut _ o h e
  rw [← Array.forIn_toList]
  show wpAny _ _ (forIn (Value.ref i1 :: [Value.ref i2]) _ _) _ _ _
  rw [List.forIn_cons]
  refine wpAny_bind (wpAny_bind (wpAny_holding (show wpAny _ _ (Builtin.SmallTypes.nextOrEnd (.ref i1)) _ _ _ from pull (s := { s with heap := ga }) (m.a1.at (st D.i1z)) (m.b1.at (st D.l1z)) ex fun gb m1 sb => wpAny_pure ?_)))
  show wpAny _ _ (forIn (Value.ref i2 :: []) _ _) _ _ _
  rw [List.forIn_cons]
  refine wpAny_bind (wpAny_bind (wpAny_holding (show wpAny _ _ (Builtin.SmallTypes.nextOrEnd (.ref i2)) _ _ _ from pull (s := { s with heap := gb }) ((m.a2.at (st D.i2z)).extBut sb.extBut D.i12.symm) ((m.b2.at (st D.l2z)).extBut sb.extBut D.l2i1) ey fun gc m2 sc => wpAny_pure (wpAny_pure ?_))))
  have oc : ∀ c o, c ≠ z → c ≠ i1 → c ≠ i2 → s.heap.get? c = some o → gc.get? c = some o := fun c o n1 n2 n3 e => sc.extBut _ o n3 (sb.extBut _ o n2 (st n1 o e))
  have n : gc.objs.size = s.heap.objs.size := (sc.1.trans sb.1).trans sa.1
  show wpAny _ _ (newTuple [x, y] >>= _) _ _ _
  refine wpAny_bind (wpAny_newTuple (wpAny_pure ⟨_, rfl, ?_⟩))
  have fin := q (gc.push (pObj x y))
  rw [← n] at fin
  have up : ∀ {c o}, gc.get? c = some o → (gc.push (pObj x y)).get? c = some o := fun e => Heap.get?_push_of_some _ e
  exact fin (up (sc.extBut _ _ D.i2z.symm (sb.extBut _ _ D.i1z.symm za))) ⟨up (oc _ _ D.TIz D.TIi1 D.TIi2 m.pr), (m1.extBut sc.extBut D.i12).at fun o => up, m2.at fun o => up, m.b1.at fun o e => up (oc _ o D.l1z D.l1i1 D.l1i2 e), m.b2.at fun o e => up (oc _ o D.l2z D.l2i1 D.l2i2 e)⟩ (Heap.get?_push_size _ rfl) fun c o n1 n2 n3 e => up (oc c o n1 n2 n3 e)
/-- past the last: both are asked, both are dry -/
theorem zS_end {Q : Fin → Shared → Prop} (na : A.handled = none) (D : ZipApart z TI TO i1 i2 l1 l2) (hz : IsZipS s.heap z TI TO .none) (m : Src2 s.heap TI i1 i2 l1 l2 k xs ys) (ex : xs[k]? = none) (ey : ys[k]? = none)
    (q : ∀ g e, (∀ c o, c ≠ z → c ≠ i1 → c ≠ i2 → s.heap.get? c = some o → g.get? c = some o) → (∃ o, g.get? e = some o ∧ o.cls = .type "StopIteration") → E (.ref e) { s with heap := g }) :
    wpAny (model prog w) A (Builtin.«zip.__next__» ⟨[.ref z], []⟩) Q E s := by
  show wpAny _ _ (field (.ref z) 2 >>= _) _ _ _
  refine zip_in hz m.pr rfl (own_here hz (wpAny_bind (wpAny_rule (wpAny_bind (wpAny_field hz rfl (x := .ref TO) rfl (wpAny_bind (wpAny_setField_rec hz (by simp) fun ga za sa => wpAny_bind ?_)))))))
  have st : ∀ {c}, c ≠ z → ∀ o, s.heap.get? c = some o → ga.get? c = some o := fun h o e => sa.extBut _ o h e
  rw [show (#[Value.ref i1, Value.ref i2] : Array Value).toList.zipIdx = [(Value.ref i1, 0), (Value.ref i2, 1)] from rfl, List.forIn_cons]
  refine wpAny_bind (wpAny_bind (wpAny_onRaise (show wpAny _ _ (Builtin.SmallTypes.nextOrEnd (.ref i1)) _ _ _ from dry (s := { s with heap := ga }) na (m.a1.at (st D.i1z)) (m.b1.at (st D.l1z)) ex fun gb sb => ?_)))
  refine wpAny_bind (wpAny_setField_rec (show IsZipS gb z TI TO .ellipsis from sb _ _ D.i1z.symm za) (by simp) fun gc _ sc => wpAny_bind ?_)
  show wpAny _ _ (forIn ((Value.ref i2, 1) :: []) _ _ >>= _) _ _ _
  rw [List.forIn_cons]
  refine wpAny_bind (wpAny_bind (wpAny_bind (dry (s := { s with heap := gc }) na (((m.a2.at (st D.i2z)).extBut sb D.i12.symm).extBut sc.extBut D.i2z) (((m.b2.at (st D.l2z)).extBut sb D.l2i1).extBut sc.extBut D.l2z) ey fun gd sd => ?_)))
  refine wpAny_pure (wpAny_pure (wpAny_bind (wpAny_rule ?_)))
  exact stop_raise (s := { s with heap := gd }) na fun g e kp h => q g e (fun c o n1 n2 n3 t => kp c o (sd c o n3 (sc.extBut c o n1 (sb c o n2 (st n1 o t))))) h
theorem zS_endH {T : Addr} {oT : Obj} {Q : Fin → Shared → Prop} (na : A.handled = none) (D : ZipApart z TI TO i1 i2 l1 l2) (hz : s.heap.get? z = some (zObj (rawInt T) f TI TO)) (hT : s.heap.get? T = some oT) (m : Src2 s.heap TI i1 i2 l1 l2 k xs ys) (ex : xs[k]? = none) (ey : ys[k]? = none)
    (q : ∀ g e, (∀ c o, c ≠ z → c ≠ i1 → c ≠ i2 → s.heap.get? c = some o → g.get? c = some o) → (∃ o, g.get? e = some o ∧ o.cls = .type "StopIteration") → E (.ref e) { s with heap := g }) :
    wpAny (model prog w) A (Builtin.«zip.__next__» ⟨[.ref z], []⟩) Q E s := by
  show wpAny _ _ (field (.ref z) 2 >>= _) _ _ _
  refine zip_in hz m.pr rfl (own_held hz hT fun ga za sa => show wpAny _ _ (forIn #[Value.ref i1, Value.ref i2] _ _ >>= _) _ _ _ from wpAny_bind ?_)
  have st : ∀ {c}, c ≠ z → ∀ o, s.heap.get? c = some o → ga.get? c = some o := fun h o e => sa.extBut _ o h e
  rw [← Array.forIn_toList]
  show wpAny _ _ (forIn (Value.ref i1 :: [Value.ref i2]) _ _) _ _ _
  rw [List.forIn_cons]
  refine wpAny_bind (wpAny_bind (wpAny_holding (show wpAny _ _ (Builtin.SmallTypes.nextOrEnd (.ref i1)) _ _ _ from dry (s := { s with heap := ga }) na (m.a1.at (st D.i1z)) (m.b1.at (st D.l1z)) ex fun gb sb => wpAny_bind ?_)))
  show wpAny _ _ (forIn ((Value.ref i2, 1) :: []) _ _ >>= _) _ _ _
  rw [List.forIn_cons]
  refine wpAny_bind (wpAny_bind (wpAny_bind (dry (s := { s with heap := gb }) na ((m.a2.at (st D.i2z)).extBut sb D.i12.symm) ((m.b2.at (st D.l2z)).extBut sb D.l2i1) ey fun gd sd => ?_)))
  refine wpAny_pure (wpAny_pure (wpAny_bind (wpAny_rule ?_)))
  exact stop_raise (s := { s with heap := gd }) na fun g e kp h => q g e (fun c o n1 n2 n3 t => kp c o (sd c o n3 (sb c o n2 (st n1 o t)))) h
/-- next(zip), by its special method -/
theorem nextZ {Q : Option Value → Shared → Prop} (hz : s.heap.get? z = some (zObj x f TI TO))
    (h : wpAny (model prog w) A.in1 (Builtin.«zip.__next__» ⟨[.ref z], []⟩) (fun fin s' => ∃ r, fin = .done (.ret r) ∧ Q (some r) s') (fun e s' => ∃ a o, e = .ref a ∧ s'.heap.get? a = some o ∧ o.cls = .type "StopIteration" ∧ Q none s') s) : wpAny (model prog w) A (pyNext (.ref z)) Q E s := by
  have ty : s.TypeIs (.ref z) "zip" := ⟨_, hz, rfl⟩
  refine wpAny_bind (wpAny_attempt (wpAny_callSpecial?_slot (name := Str.ofString "__next__") ty F.slot_zip_next (wpAny_call_entry F.slot_zip_next ty F.entry_zip_next (wpAny_mono h (fun fin t ⟨r, e, p⟩ => ⟨r, e, wpAny_pure p⟩) fun e t ⟨a, o, ea, h1, h2, p⟩ => ?_) (F.args_zip_next_1 _))))
  rw [ea]
  exact wpAny_bind (wpAny_isInstance (T := "StopIteration") (b := true) ⟨o, h1, h2⟩ isSubtype_stop (wpAny_pure p))
end
end
section
variable {prog : Program} {w : World} {z TI TO i1 i2 l1 l2 : Addr} {xs ys : Array Value}
/-- between two items; d: the dict that is being made -/
def StZ (z TI TO i1 i2 l1 l2 d : Addr) (xs ys : Array Value) (k : Nat) (h : Heap) : Prop := Src2 h TI i1 i2 l1 l2 k xs ys ∧
  ((IsZipS h z TI TO .none ∧ ∃ a b, IsPair h TO a b) ∨ ∃ (T : Addr) (f : Bool) (oT : Obj), h.get? z = some (zObj (rawInt T) f TI TO) ∧ h.get? T = some oT ∧ T ≠ z ∧ T ≠ i1 ∧ T ≠ i2 ∧ T ≠ d)
theorem turned_fp : [z, TO, i1, i2].Sublist [z, TI, TO, i1, i2, l1, l2] := .cons₂ _ (.cons _ (.cons₂ _ (.cons₂ _ (.cons₂ _ (.cons _ (.cons _ .slnil))))))
theorem out4 {c : Addr} (h : c ∉ [z, TO, i1, i2]) : c ≠ z ∧ c ≠ TO ∧ c ≠ i1 ∧ c ≠ i2 := by
  simpa using h
theorem srcS {A : Around} {d : Addr} (na : A.handled = none) (D : ZipApart z TI TO i1 i2 l1 l2) (hs : xs.size = ys.size) (ne : ∀ c ∈ [z, TI, TO, i1, i2, l1, l2], c ≠ d) :
    PairSrc prog w A z d [z, TO, i1, i2] xs.size (fun i a b => xs[i]? = some a ∧ ys[i]? = some b) (StZ z TI TO i1 i2 l1 l2 d xs ys) where
  off := fun h => ne d (turned_fp.subset h) rfl
  frame := fun k h g ⟨m, st⟩ e => ⟨m.keep fun c o hc => e c o (ne c (by
      rcases hc with r | r | r | r | r <;> simp [r])), st.imp (fun ⟨p, a, b, r⟩ => ⟨e _ _ (ne z (by simp)) p, a, b, e _ _ (ne TO (by simp)) r⟩) fun ⟨T, f, oT, p, r, n⟩ => ⟨T, f, oT, e _ _ (ne z (by simp)) p, e _ _ n.2.2.2 r, n⟩⟩
  item := fun k t Q E hk ⟨m, st⟩ hd q => by
    have ex := Array.getElem?_eq_getElem hk
    have ey := Array.getElem?_eq_getElem (hs ▸ hk)
    have fresh : ∀ {c o}, t.heap.get? c = some o → t.heap.objs.size ≠ c := fun e => Nat.ne_of_gt (Heap.lt_size e)
    rcases st with ⟨p, a, b, r⟩ | ⟨T, f, oT, p, r, n⟩
    · refine nextZ p (wpAny_mono (zS_item (Q := fun v s' => Q (some v) s') D p r m ex ey fun g y1 y2 y3 y4 => ?_) (fun _ _ h => h) fun _ _ h => h)
      exact q _ _ _ g t.toks ⟨ex, ey⟩ (.inl ⟨_, y3, rfl, _, rfl⟩) ⟨y2, .inr ⟨_, _, _, y1, y3, fresh p, (let ⟨_, e, _⟩ := m.a1; fresh e), (let ⟨_, e, _⟩ := m.a2; fresh e), Nat.ne_of_gt hd⟩⟩ fun c o hc e => let ⟨n1, n2, n3, n4⟩ := out4 hc; y4 c o n1 n2 n3 n4 e
    · refine nextZ p (wpAny_mono (zS_itemH (Q := fun v s' => Q (some v) s') D p r m ex ey fun g y1 y2 y3 y4 => ?_) (fun _ _ h => h) fun _ _ h => h)
      exact q _ _ _ g t.toks ⟨ex, ey⟩ (.inl ⟨_, y3, rfl, _, rfl⟩) ⟨y2, .inr ⟨T, true, oT, y1, y4 _ _ n.1 n.2.1 n.2.2.1 r, n⟩⟩ fun c o hc e => let ⟨n1, _, n3, n4⟩ := out4 hc; y4 c o n1 n3 n4 e
  done := fun t Q E ⟨m, st⟩ q => by
    have ex : xs[xs.size]? = none := Array.getElem?_eq_none (Nat.le_refl _)
    have ey : ys[xs.size]? = none := Array.getElem?_eq_none (Nat.le_of_eq hs.symm)
    have fin : ∀ g, (∀ c o, c ≠ z → c ≠ i1 → c ≠ i2 → t.heap.get? c = some o → g.get? c = some o) → Q none { t with heap := g } := fun g h => q g t.toks fun c o hc e => let ⟨n1, _, n3, n4⟩ := out4 hc; h c o n1 n3 n4 e
    rcases st with ⟨p, a, b, r⟩ | ⟨T, f, oT, p, r, n⟩
    · exact nextZ p (zS_end na D p m ex ey fun g e h ⟨o, h1, h2⟩ => ⟨e, o, rfl, h1, h2, fin g h⟩)
    · exact nextZ p (zS_endH na D p r m ex ey fun g e h ⟨o, h1, h2⟩ => ⟨e, o, rfl, h1, h2, fin g h⟩)
/-- dict() of such a zip -/
theorem pairArgS (D : ZipApart z TI TO i1 i2 l1 l2) (hs : xs.size = ys.size) :
    PairArg prog w "zip" z [z, TI, TO, i1, i2, l1, l2] [z, TO, i1, i2] xs.size (fun i a b => xs[i]? = some a ∧ ys[i]? = some b) (fun h => IsZipS h z TI TO .none ∧ (∃ a b, IsPair h TO a b) ∧ Src2 h TI i1 i2 l1 l2 0 xs ys) where
  type := fun t ok => ⟨_, ok.1, rfl⟩
  notDict := by decide
  keep := fun h g ⟨p, ⟨a, b, r⟩, m⟩ e => ⟨e _ _ p, ⟨a, b, e _ _ r⟩, m.keep fun c o _ => e c o⟩
  there := fun h ⟨p, ⟨a, b, r⟩, m⟩ => by
    obtain ⟨_, e1, _⟩ := m.a1
    obtain ⟨_, e2, _⟩ := m.a2
    obtain ⟨_, e3, _⟩ := m.b1
    obtain ⟨_, e4, _⟩ := m.b2
    exact List.forall_mem_cons.mpr ⟨⟨_, p⟩, List.forall_mem_cons.mpr ⟨⟨_, m.pr⟩, List.forall_mem_cons.mpr ⟨⟨_, r⟩, List.forall_mem_cons.mpr ⟨⟨_, e1⟩, List.forall_mem_cons.mpr ⟨⟨_, e2⟩, List.forall_mem_cons.mpr ⟨⟨_, e3⟩, List.forall_mem_cons.mpr ⟨⟨_, e4⟩, fun _ n => nomatch n⟩⟩⟩⟩⟩⟩⟩
  sub := fun _ h => turned_fp.subset h
  noKeys := fun A t Q E na ok q => getAttrOr_miss_zip ok.1 rfl rfl rfl zip_no_keys (by decide +kernel) na q
  iter := fun A t d Q E na ok hd off q => by
    have ty : t.TypeIs (.ref z) "zip" := ⟨_, ok.1, rfl⟩
    have src := srcS (prog := prog) (w := w) (A := A) (d := d) na D hs fun c hc e => off (e ▸ hc)
    exact wpAny_pyIter_slot ty F.slot_zip_iter (wpAny_call_entry F.slot_zip_iter ty F.entry_zip_iter (show wpAny _ _ (ret (.ref z)) _ _ t from wpAny_pure ⟨_, rfl, "zip", _, ty, F.slot_zip_next.lookup, q z _ _ t.heap t.toks src ⟨ok.2.2, .inl ⟨ok.1, ok.2.1⟩⟩ (fun _ _ e => e) fun b hb => .inl hb⟩) (F.args_zip_iter_1 _))
end
/-! ### its making -/
abbrev iObj (l : Addr) : Obj := { cls := .type "tuple_iterator", data := .fields #[.ref l, .int 0 0] }
abbrev mk1 (h : Heap) (l1 : Addr) : Heap := h.push (iObj l1)
abbrev mk2 (h : Heap) (l1 l2 : Addr) : Heap := (mk1 h l1).push (iObj l2)
abbrev mk3 (h : Heap) (l1 l2 : Addr) : Heap := (mk2 h l1 l2).push (pObj (.ref h.objs.size) (.ref (mk1 h l1).objs.size))
abbrev mk4 (h : Heap) (l1 l2 : Addr) : Heap := (mk3 h l1 l2).push (pObj .none .none)
abbrev mk5 (h : Heap) (l1 l2 : Addr) : Heap := (mk4 h l1 l2).push (zObj .none false (mk2 h l1 l2).objs.size (mk3 h l1 l2).objs.size)
theorem zs_type (a b v : Value) : checkTypeCall "zip" ⟨[a, b], [(Str.ofString "strict", v)]⟩ = pure () := by kernel_rfl
theorem zs_new (a b v : Value) : checkBuiltinCall "zip.__new__" ⟨[.type "zip", a, b], [(Str.ofString "strict", v)]⟩ = pure () := by kernel_rfl
theorem zs_init (o a b v : Value) : argsOk "object.__init__" ⟨[o, a, b], [(Str.ofString "strict", v)]⟩ := by unfold argsOk; kernel_rfl
set_option maxHeartbeats 8000000 in
theorem zs_meets (l1 l2 : Addr) (xs ys : Array Value) : Meets (Builtin.«zip.__new__» ⟨[.type "zip", .ref l1, .ref l2], [(Str.ofString "strict", .bool true)]⟩) fun _ R s => s.heap.IsTuple l1 xs ∧ s.heap.IsTuple l2 ys ∧ R (.ok (.ret (.ref (mk4 s.heap l1 l2).objs.size))) { s with heap := mk5 s.heap l1 l2 } :=
  .of_wp fun prog w A R s h => by
    obtain ⟨g, ge, dr, tk, os⟩ := s
    have sub := sub_zip
    have same : ((Str.ofString "strict") != (Str.ofString "strict")) = false := by decide
    have t1 : Heap.IsTuple (Shared.heap ⟨g, ge, dr, tk, os⟩) l1 xs := h.1
    have t2 : Heap.IsTuple (Shared.heap ⟨mk1 g l1, ge, dr, tk, os⟩) l2 ys := h.2.1.push _
    wp_walk using wpAny_pyIter_tuple t1, wpAny_pyIter_tuple t2
    exact ⟨_, rfl, h.2.2⟩
theorem old_push {h g : Heap} (k : ∀ c o, h.get? c = some o → g.get? c = some o) (u : Obj) : ∀ c o, h.get? c = some o → (g.push u).get? c = some o := fun c o e => Heap.get?_push_of_some u (k c o e)
section
variable {prog : Program} {w : World} {A : Around} {E : Value → Shared → Prop} {s : Shared}
theorem call_zipS {l1 l2 : Addr} {xs ys : Array Value} {Q : Value → Shared → Prop} (t1 : s.heap.IsTuple l1 xs) (t2 : s.heap.IsTuple l2 ys)
    (q : ∀ g, IsZipS g (s.heap.objs.size + 4) (s.heap.objs.size + 2) (s.heap.objs.size + 3) .none → IsPair g (s.heap.objs.size + 3) .none .none → Src2 g (s.heap.objs.size + 2) s.heap.objs.size (s.heap.objs.size + 1) l1 l2 0 xs ys → g.objs.size = s.heap.objs.size + 5 → (∀ c o, s.heap.get? c = some o → g.get? c = some o) → Q (.ref (s.heap.objs.size + 4)) { s with heap := g }) :
    wpAny (model prog w) A (call (.type "zip") [.ref l1, .ref l2] [(Str.ofString "strict", .bool true)]) Q E s := by
  refine callType_newKw F.called_zip (by decide) (zs_type _ _ _) (zs_new _ _ _) (fun o => zs_init o _ _ _) F.entry_zip_new (zs_meets l1 l2 xs ys) ⟨t1, t2, ?_⟩
  have n1 : (mk1 s.heap l1).objs.size = s.heap.objs.size + 1 := Heap.size_push ..
  have n2 : (mk2 s.heap l1 l2).objs.size = s.heap.objs.size + 2 := (Heap.size_push ..).trans (congrArg (· + 1) n1)
  have n3 : (mk3 s.heap l1 l2).objs.size = s.heap.objs.size + 3 := (Heap.size_push ..).trans (congrArg (· + 1) n2)
  have n4 : (mk4 s.heap l1 l2).objs.size = s.heap.objs.size + 4 := (Heap.size_push ..).trans (congrArg (· + 1) n3)
  have k4 : ∀ c o, (mk4 s.heap l1 l2).get? c = some o → (mk5 s.heap l1 l2).get? c = some o := old_push (fun _ _ e => e) _
  have k3 : ∀ c o, (mk3 s.heap l1 l2).get? c = some o → (mk5 s.heap l1 l2).get? c = some o := old_push (old_push (fun _ _ e => e) _) _
  have k2 : ∀ c o, (mk2 s.heap l1 l2).get? c = some o → (mk5 s.heap l1 l2).get? c = some o := old_push (old_push (old_push (fun _ _ e => e) _) _) _
  have k1 : ∀ c o, (mk1 s.heap l1).get? c = some o → (mk5 s.heap l1 l2).get? c = some o := old_push (old_push (old_push (old_push (fun _ _ e => e) _) _) _) _
  have k0 : ∀ c o, s.heap.get? c = some o → (mk5 s.heap l1 l2).get? c = some o := old_push (old_push (old_push (old_push (old_push (fun _ _ e => e) _) _) _) _) _
  have oz : IsZipS (mk5 s.heap l1 l2) (s.heap.objs.size + 4) (s.heap.objs.size + 2) (s.heap.objs.size + 3) .none := by
    rw [← n4, ← n2, ← n3]
    exact Heap.get?_push_size _ rfl
  have oo : IsPair (mk5 s.heap l1 l2) (s.heap.objs.size + 3) .none .none := by
    rw [← n3]
    exact k4 _ _ (Heap.get?_push_size _ rfl)
  have oi : IsPair (mk5 s.heap l1 l2) (s.heap.objs.size + 2) (.ref s.heap.objs.size) (.ref (s.heap.objs.size + 1)) := by
    rw [← n2, ← n1]
    exact k3 _ _ (Heap.get?_push_size _ rfl)
  have o2 : (mk5 s.heap l1 l2).get? (s.heap.objs.size + 1) = some (iObj l2) := by
    rw [← n1]
    exact k2 _ _ (Heap.get?_push_size _ rfl)
  show _ ∧ _
  rw [n4]
  exact ⟨⟨_, oz, rfl⟩, q _ oz oo ⟨oi, ⟨_, k1 _ _ (Heap.get?_push_size _ rfl), rfl, rfl⟩, ⟨_, o2, rfl, rfl⟩, t1.at fun o => k0 _ o, t2.at fun o => k0 _ o⟩ ((Heap.size_push ..).trans (congrArg (· + 1) n4)) k0⟩
end
end NP
end
section
set_option Elab.async false
set_option linter.all false
set_option maxRecDepth 100000
set_option maxHeartbeats 4000000
/-! the rule for dict(zip(a, b, strict=True)). -/
namespace NP
open PySem PySem.Spec PyProof.Rows L2
section
variable {M : Model} {A : Around} {E : Value → Shared → Prop} {s : Shared} {env : Env}
theorem callWith_typeKw {pos : Pos} {T : String} {args : List (Bool × Sem Value)} {keywords : List (Option Str × Sem Value)} {Q : Value → Shared → Prop}
    (hplain : (args.any fun a => a.1) = false) (hkw : (keywords.any fun a => a.1.isNone) = false)
    (h : wpAny M A (evalArgs (.type T) true args keywords) (fun a s₁ => wpAny M A (call (.type T) a.pos a.kw) Q E s₁) E s) :
    wpAny M A (callWith pos (.type T) [] args keywords) Q E s := by
  unfold callWith
  refine wpAny_bind (wpAny_holding (wpAny_mono h (fun a s₁ h₁ => wpAny_bind (wpAny_standAt ?_)) fun _ _ x => x))
  simp only [hplain, hkw, Bool.or_false]
  refine wpAny_bind (wpAny_pure ?_)
  exact wpAny_bind (wpAny_mono h₁ (fun r s₂ hr => wpAny_bind (wpAny_holding (wpAny_point (wpAny_pure hr)))) fun _ _ x => x)
end
theorem zip_rel (P : Program) (w' : World) : ∀ (kvs : List (Key × V)) (us ws : List Value), Vals (kvs.map fun kv => kV kv.1) us → Vals (kvs.map (·.2)) ws → ∃ prs : List (Key × Value), KV kvs prs ∧ prs.length = us.length ∧ us.length = ws.length ∧ (∀ (i : Nat) (key v : Value), us[i]? = some key → ws[i]? = some v → ∃ k, prs[i]? = some (k, v) ∧ keyIs k key = true)
  | [], _, _, .nil, .nil => ⟨[], .nil, rfl, rfl, fun i key v h => by cases h⟩
  | kv :: kvs, _, _, .cons (b := u) r rt, .cons (b := w) q qt => by
    obtain ⟨prs, h1, h2, h3, h4⟩ := zip_rel P w' kvs _ _ rt qt
    refine ⟨(kv.1, w) :: prs, .cons ⟨rfl, q⟩ h1, by simp [h2], by simp [h3], fun i key v e1 e2 => ?_⟩
    cases i with
    | zero =>
      cases e1
      cases e2
      exact ⟨kv.1, rfl, kV_is (P := P) (w := w') r⟩
    | succ i => exact h4 i key v e1 e2
/-- dict(zip(a, b, strict=True)), a and b tuples -/
def tDictZip (K : PySem.W.Frag) (t tk : TA) : TE := fun σ H Q => t σ H fun vs H1 => tk σ H1 fun zs H2 => ∃ (a b : Addr) (kvs : List (Key × V)), vs = [.ref a, .ref b] ∧ zs = [.bl true] ∧ SqT K H2 a (kvs.map fun kv => kV kv.1) ∧ SqT K H2 b (kvs.map (·.2)) ∧ ∀ p, H2 p = none → Q (.ref p) (upd H2 p (.dK (mergeK [] kvs)))
section
variable {X : Cx} {e : Expr} {es : List Expr} {kws : List Keyword} {t tk : TA} {p p2 q pos : Pos}
theorem pe_dictZip (hc : X.calm = true) (hg : Gl X "dict") (hm : X.mg "dict" = none) (hg2 : Gl X "zip") (hm2 : X.mg "zip" = none) (ha : PA X (e :: es) t) (hk : PK X kws tk)
    (he : backTo q (starEach (e :: es) X.env) = (false, eval e X.env) :: backTo q (starEach es X.env) := by rfl) (hpl : (backTo q (starEach (e :: es) X.env)).any (·.1) = false := by rfl)
    (hall : (backToKw q (keywordEach kws X.env)).all (·.1.isSome) = true := by rfl) (hnone : (backToKw q (keywordEach kws X.env)).any (·.1.isNone) = false := by rfl) (hks : (backToKw q (keywordEach kws X.env)).filterMap (·.1) = [Str.ofString "strict"] := by rfl)
    (na : starEach [.Call (.Name "zip" p2) (e :: es) kws q] X.env = (false, eval (.Call (.Name "zip" p2) (e :: es) kws q) X.env) :: starEach [] X.env := by rfl) :
    PE X (.Call (.Name "dict" p) [.Call (.Name "zip" p2) (e :: es) kws q] [] pos) (tDictZip X.K t tk) := by
  refine ⟨fun pins s σ H Q I h => ?_⟩
  refine Call_ (ld_blt I hg hm (show bootBuiltins "dict" = some (.type "dict") from rfl) ?_)
  refine PyProof.Rows.callWith_type1 (PyProof.Rows.args_cons ?_ na) na rfl
  refine wpAny_Call_Name_kw (ld_blt I hg2 hm2 (show bootBuiltins "zip" = some (.type "zip") from rfl) ?_)
  refine callWith_typeKw hpl hnone ?_
  rw [he]
  refine PyProof.Rows.evalArgs_kwB hall ?_
  rw [← he]
  refine thn (ha.run q pins s σ H _ I h) fun us s1 ⟨vs, H1, I1, r1, q1⟩ => thn (hk.run q pins s1 σ H1 _ I1 q1) fun ws s2 ⟨zs, H2, I2, r2, q2⟩ => ?_
  rw [hks]
  obtain ⟨a, b, kvs, e1, e2, ta, tb, q2⟩ := q2
  subst e1 e2
  obtain ⟨u1, u2, eu, ra, rb⟩ := vals2 r1
  subst eu
  obtain ⟨w1, ew, rw1⟩ := vals1 r2
  subst ew
  obtain rfl : u1 = Value.ref a := ra
  obtain rfl : u2 = Value.ref b := rb
  obtain rfl : w1 = Value.bool true := rw1
  obtain ⟨its1, rv1, p1, z1⟩ := I2.tuple ta
  obtain ⟨its2, rv2, p2', z2⟩ := I2.tuple tb
  obtain ⟨prs, k1, k2, k3, k4⟩ := zip_rel X.prog X.w kvs its1 its2 rv1 rv2
  show wpAny _ _ (call (.type "zip") [.ref a, .ref b] [(Str.ofString "strict", .bool true)]) _ _ s2
  refine call_zipS p1 p2' fun h' hz hTO hm hsz hkeep => PyProof.Rows.args_nil ?_
  have la : a < s2.heap.objs.size := by obtain ⟨o, ho, _⟩ := p1; exact Heap.lt_size ho
  have lb : b < s2.heap.objs.size := by obtain ⟨o, ho, _⟩ := p2'; exact Heap.lt_size ho
  have D : ZipApart (s2.heap.objs.size + 4) (s2.heap.objs.size + 2) (s2.heap.objs.size + 3) s2.heap.objs.size (s2.heap.objs.size + 1) a b := by
    have la' : @LT.lt Nat instLTNat a s2.heap.objs.size := la
    have lb' : @LT.lt Nat instLTNat b s2.heap.objs.size := lb
    constructor <;> first | exact Nat.ne_of_lt (by omega) | exact Nat.ne_of_gt (by omega)
  have hz1 : its1.length ≤ sizeLine := by
    rw [← rv1.length, List.length_map]
    rw [List.length_map] at z1
    exact z1
  have I3 : Inv X pins σ H2 { s2 with heap := h' } := I2.kept (t' := s2.toks) fun b o e => hkeep b o e
  refine PySem.call_dict_pairs (knd := mixKind X.prog X.w) (kvs := prs) (pairArgS (xs := its1.toArray) (ys := its2.toArray) D (by simp [k3])) (I.ok.hd hc) (s := { s2 with heap := h' })
    ⟨hz, ⟨_, _, hTO⟩, hm⟩ ⟨by simp [k2], fun i key v hr => ?_⟩ (by simpa using hz1) fun h'' tk'' hd' hk' => ?_
  · have e1 : its1[i]? = some key := by simpa using hr.1
    have e2 : its2[i]? = some v := by simpa using hr.2
    obtain ⟨k, e3, e4⟩ := k4 i key v e1 e2
    exact ⟨k, e3, e4⟩
  · have hm : (h'.objs.size == sysModules) = false := beq_eq_false_iff_ne.mpr (Nat.ne_of_gt I3.big)
    have hlen : (mergeK [] kvs).length ≤ sizeLine := by
      have m := length_mergeK kvs []
      rw [List.length_nil] at m
      rw [List.length_map] at z1
      omega
    have kp : ∀ b o, s2.heap.get? b = some o → h''.get? b = some o := fun b o e => by
      have hb : @LT.lt Nat instLTNat b s2.heap.objs.size := Heap.lt_size e
      refine hk' b o ?_ (hkeep b o e)
      simp only [List.mem_cons, List.not_mem_nil, or_false, not_or]
      exact ⟨Nat.ne_of_lt (by omega), Nat.ne_of_lt (by omega), Nat.ne_of_lt (by omega), Nat.ne_of_lt (by omega)⟩
    have hn : H2 h'.objs.size = none := I2.hok.fresh (by rw [hsz]; omega)
    exact ⟨.ref h'.objs.size, upd H2 h'.objs.size (.dK (mergeK [] kvs)), I2.laid (t' := tk'') kp (by rw [hsz]; omega) (show ObjOk X.prog X.w _ _ _ (.dK (mergeK [] kvs)) from ⟨hlen, hm, merged [] prs, KV.merge k1 .nil, hd'⟩), rfl, q2 _ hn⟩
end
end NP
end
section
set_option Elab.async false
set_option linter.all false
set_option maxRecDepth 100000
set_option maxHeartbeats 4000000
/-! sorted(texts, key=lambda x: ..): a lambda of one parameter made, called, the sort by whole numbers. -/
namespace NP
open PySem PySem.Spec PyProof.Rows
open L2 LamX
/-! ### a lambda of one parameter -/
/-- a lambda's scope sc2 in a def's scope sc: one parameter a, the other names free -/
structure LamP (sc sc2 : Scope) (a : Str) : Prop where
  kind : sc2.kind = .function
  co : sc2.isCoroutine = false
  gn : sc2.isGenerator = false
  own : ∀ y ∈ sc2.names, y.2 ≠ .cell ∧ (y.2 = .local → y.1 = a)
  par : sc2.names.lookup a = some .local
  fr : ∀ y ∈ sc2.names, y.2 = .free → sc.names.lookup y.1 = some .cell ∨ sc.names.lookup y.1 = some .free
def lamPB (sc sc2 : Scope) (a : Str) : Bool := decide (sc2.kind = .function) && (!sc2.isCoroutine && (!sc2.isGenerator && (decide (sc2.names.lookup a = some .local) && sc2.names.all fun y => match y.2 with
  | .cell => false
  | .local => decide (y.1 = a)
  | .free => decide (sc.names.lookup y.1 = some .cell) || decide (sc.names.lookup y.1 = some .free)
  | _ => true)))
theorem lamP_by {sc sc2 : Scope} {a : Str} (h : lamPB sc sc2 a = true) : LamP sc sc2 a := by
  obtain ⟨h1, h⟩ := Bool.and_eq_true_iff.mp h
  obtain ⟨h2, h⟩ := Bool.and_eq_true_iff.mp h
  obtain ⟨h3, h⟩ := Bool.and_eq_true_iff.mp h
  obtain ⟨h4, h5⟩ := Bool.and_eq_true_iff.mp h
  have each := List.all_eq_true.mp h5
  refine ⟨of_decide_eq_true h1, (Bool.not_eq_true' _).mp h2, (Bool.not_eq_true' _).mp h3, fun y hy => ⟨fun e => ?_, fun e => ?_⟩, of_decide_eq_true h4, fun y hy e => ?_⟩
  · have z := each y hy
    rw [e] at z
    cases z
  · have z := each y hy
    rw [e] at z
    exact of_decide_eq_true z
  · have z := each y hy
    rw [e] at z
    exact (Bool.or_eq_true_iff.mp z).imp of_decide_eq_true of_decide_eq_true
/-! the closure's cells -/
section
variable {cells : List (Str × Addr)} {names : List (Str × NameKind)} {y : Str}
theorem clo_up {c : Addr} (has : ∀ q ∈ names, q.2 = .free → ∃ c, cells.lookup q.1 = some c) (e : (cloFrom cells names []).lookup y = some c) : cells.lookup y = some c :=
  (cloFrom_mem (PySem.mem_of_lookup e)).elim (fun n => nomatch n) fun ⟨m, ec⟩ => by
    obtain ⟨c1, e1⟩ := has (y, .free) m rfl
    have e1 : cells.lookup y = some c1 := e1
    rw [ec, e1]
    rfl
theorem clo_got (h : names.lookup y = some .free) : ∃ c, (cloFrom cells names []).lookup y = some c := mem_lookup (cloFrom_has (cells := cells) (acc := []) (PySem.mem_of_lookup h))
end
section
variable {X : Cx} {pins : List (Addr × Obj)} {σ : L2.St} {H HZ : Hp} {s s1 : Shared} {sc2 : Scope} {a : Str}
theorem LamP.has (L : LamP X.env.scope sc2 a) (ok : X.Ok) : ∀ q ∈ sc2.names, q.2 = .free → ∃ c, X.env.cells.lookup q.1 = some c := fun q hq e => ok.has _ (L.fr q hq e)
theorem cell_kept {g t : Heap} {c : Addr} {v : Option Value} (un : Un (frs X.stack) [] H HZ g t) {r : Heap} (kp : ∀ b o, t.get? b = some o → r.get? b = some o) (n : H c = none) (h : g.IsCell c v) : r.IsCell c v := by
  obtain ⟨o, ho, hd⟩ := h
  obtain ⟨_, q⟩ := un.any ho n fun z => nomatch z
  exact ⟨_, kp _ _ q, hd⟩
/-- the lambda's frame at the start -/
theorem lam_startP {A : Around} {outer : List Env} {E : XK} {f c' : Addr} {h₁ : Heap} {tk i : Nat} {v : V} {u : Value} (I : Inv X pins σ H s) (L : LamP X.env.scope sc2 a) (hNa : X.N[i]? = some a) (hNu : ∀ j, X.N[j]? = some a → j = i) (r : RelV v u)
    (e0 : Env0 X.prog X.w X.K X.mg X.base A outer s1 HZ) (na : A.handled = none) (un : Un (frs X.stack) [] H HZ s.heap s1.heap) (hns : h₁.Ns s1.heap.objs.size fun y => ([(a, u)] : List (Str × Value)).reverse.lookup y) (kp : ∀ b o, s1.heap.get? b = some o → h₁.get? b = some o) :
    Inv (lamCx X A outer s1 HZ E sc2 f c') [] (σ.set i (some v)) HZ { s1 with heap := h₁, toks := tk } := by
  have up : ∀ {y c}, (cloFrom X.env.cells sc2.names []).lookup y = some c → X.env.cells.lookup y = some c := fun e => clo_up (L.has I.ok) e
  have ok : (lamCx X A outer s1 HZ E sc2 f c').Ok := {
    mod := e0.mod
    kind := L.kind
    glob := rfl
    blt := rfl
    above := Nat.le_refl _
    inj := fun y z c e1 e2 => I.ok.inj y z c (up e1) (up e2)
    has := fun y h => by
      rcases (show sc2.names.lookup y = some .cell ∨ sc2.names.lookup y = some .free from h) with h | h
      · exact absurd rfl (L.own _ (PySem.mem_of_lookup h)).1
      · exact clo_got h
    cab := fun y c z _ => nomatch (show false = true from z)
    hd := fun _ => na
    frames := Around.frames_deeper e0.frames
    stk := .inr ⟨rfl, rfl⟩
    exf := fun b z => nomatch (show b ∈ ([] : List Addr) from z)
    bs := e0.bs
    bsz := e0.bsz
    noex := fun b _ _ z => nomatch (show b ∈ ([] : List Addr) from z)
    exfs := fun b z => nomatch (show b ∈ ([] : List Addr) from z)
    funs := e0.funs
    frf := e0.frf }
  exact {
    ok := ok
    os := rfl
    bare := e0.bare
    base := Un.kept kp
    free := e0.hok.fresh (Nat.le_refl _)
    pin := fun q z => nomatch (show q ∈ ([] : List (Addr × Obj)) ++ [] from z)
    hok := e0.hok.kept kp
    len := by
      rw [List.length_set]
      exact I.len
    cell := fun y c e => by
      obtain ⟨v', z⟩ := I.cell y c (up e)
      exact ⟨v', cell_kept un kp (I.freeC y c (up e)) z⟩
    freeC := fun y c e => by
      obtain ⟨_, o, ho, _⟩ := I.cell y c (up e)
      exact un.free c o ho (I.freeC y c (up e)) fun z => nomatch z
    loc := ⟨_, hns, fun j y x e1 e2 e3 => by
      have e1 : X.N[j]? = some y := e1
      rcases (show Vis sc2 y from e3) with k | k | k
      · -- the parameter
        obtain rfl : y = a := (L.own _ (PySem.mem_of_lookup k)).2 rfl
        obtain rfl := hNu j e1
        rw [List.getElem?_set_self (by
          rw [I.len]
          exact (List.getElem?_eq_some_iff.mp e1).1)] at e2
        cases e2
        exact ⟨u, r, .inl ⟨k, by simp⟩⟩
      · exact absurd rfl (L.own _ (PySem.mem_of_lookup k)).1
      · -- a name of the def
        have ne : i ≠ j := fun z => by
          subst z
          obtain rfl := Option.some.inj (hNa.symm.trans e1)
          rw [L.par] at k
          cases k
        rw [List.getElem?_set_ne ne] at e2
        have ex := L.fr _ (PySem.mem_of_lookup k) rfl
        obtain ⟨m, _, hl⟩ := I.loc
        obtain ⟨u', r', q⟩ := hl j y x e1 e2 (ex.elim (fun z => .inr (.inl z)) fun z => .inr (.inr z))
        obtain ⟨c2, l2⟩ := clo_got (cells := X.env.cells) k
        refine ⟨u', r', .inr ⟨.inr k, c2, l2, ?_⟩⟩
        rcases q with ⟨z, _⟩ | ⟨_, c3, l3, z⟩
        · have z : X.env.scope.names.lookup y = some .local := z
          rcases ex with ex | ex <;> exact nomatch ex.symm.trans z
        · obtain rfl := Option.some.inj ((up l2).symm.trans l3)
          exact cell_kept un kp (I.freeC y _ l3) z⟩ }
/-- the lambda called within a built-in of ours -/
theorem lam_call {E : Value → Shared → Prop} {f c' : Addr} {params : Arguments} {body : Expr} {scope : Scope} {pm ctv : Value} {k i : Nat} {v : V} {u : Value} {tb : TE} {Q : VK} {q : Str} (I : Inv X pins σ H s) (hq : X.env.qual ++ "<lambda>" = q) (L : LamP X.env.scope scope a) (hNa : X.N[i]? = some a) (hNu : ∀ j, X.N[j]? = some a → j = i) (r : RelV v u)
    (hp : (f, PySem.W.kla_obj "<lambda>" (X.env.qual ++ "<lambda>") params body scope (cloFrom X.env.cells scope.names []) pm c' ctv) ∈ pins) (hc : H c' = some (CodeO c' (X.env.qual ++ "<lambda>")))
    (hbind : ∀ (u : Value), bindArgs (PySem.W.kla_fn "<lambda>" (X.env.qual ++ "<lambda>") params body scope (cloFrom X.env.cells scope.names []) pm (.ref c') ctv) ⟨[u], []⟩ = pure [(a, u)])
    (hr : Room (k + 3) X.A) (hbody : ∀ (A : Around) (outer : List Env) (s : Shared) (H : Hp) (L : Addr), Room k (A.deeper (lamEnv X scope L f c')) → L = s.heap.objs.size → PE (lamCx X A outer s H E0 scope f c') body tb)
    (ht : tb (σ.set i (some v)) H Q) : wpAny (model X.prog X.w) X.A.in1.in1 (call (.ref f) [u]) (EP X pins σ Q) E s := by
  have of1 := (I.pin _ (List.mem_append_right _ hp)).1
  obtain ⟨⟨oc, vs, t, hoc, hdc, hvc⟩, _, _⟩ := I.hok c' _ hc
  have hr2 : Room (k + 1) X.A.in1.in1 := (hr.in1).in1
  have rc : codeAny (model X.prog X.w) X.A.in1.in1 (.call (.ref f) ⟨[u], []⟩) (CR (L2.CX X.prog X.w) X.stack X.prog X.w H s Q E0) s := by
    refine PySem.W.kla_callFunE hr2.depth of1 rfl L.co L.gn rfl ⟨c', oc, vs, t, rfl, hoc, hdc, hvc⟩ ?_
    rw [hbind]
    refine wpAny_pure (wpAny_newFunctionEnv (fun y hy => (L.own y hy).1) (fun y hy => ?_) (fun h₁ hns hsb => ⟨I.nolimit.fresh _ hsb, ?_⟩) L.kind)
    · have e : y = (a, u) := by simpa using hy
      rw [e]
      exact L.par
    · show codeAny _ _ (.expr body (lamEnv X scope s.heap.objs.size f c')) _ _
      have J := lam_startP (E := E0) (f := f) (c' := c') (tk := s.toks + ([(a, u)] : List (Str × Value)).length) I L hNa hNu r I.env0.in1.in1 hr2.hd Un.refl hns fun b o e => hsb.extBut b o (Nat.ne_of_lt (Heap.lt_size e)) (Heap.get?_push_of_some _ e)
      refine PySem.W.kla_codeExpr (wpAny_mono ((hbody _ _ s H _ (hr2.deeper _) rfl).run [] _ _ H Q J ht) (fun x t ⟨x', H', K', rx, p⟩ => ⟨x', H', K'.os, K'.bare, K'.base, K'.hok, rx, p⟩) fun _ _ p => p)
  refine wpAny_call (codeAny_mono rc fun o t p => ?_)
  rcases o with o | (_ | _ | _ | o)
  · obtain ⟨_, _, _, _, _, _, _, _, _, _, _, _, z⟩ := p
    exact z.elim
  · exact p.elim
  · exact p.elim
  · exact p.elim
  · exact I.after p
end
end NP
end
section
set_option Elab.async false
set_option linter.all false
set_option maxRecDepth 100000
set_option maxHeartbeats 4000000
/-! sorted(texts, key=lambda x: ..), the rule. -/
namespace NP
open PySem PySem.Spec PyProof.Rows L2 LamX PySem.W Evl
theorem ints_each : ∀ {us : List Value} {ks : List Int} {h : Heap}, IntsAre us ks → EachIs (fun v d => ∃ as, Reads h v d as) us (ks.map PyData.int)
  | _, _, _, .nil => .nil
  | _, _, _, .cons n t r => .cons ⟨[], .int n t⟩ (ints_each r)
theorem alike_ints (ks : List Int) : AllAlike (ks.map PyData.int) := fun d hd d' hd' => by
  obtain ⟨x, _, rfl⟩ := List.mem_map.mp hd
  obtain ⟨y, _, rfl⟩ := List.mem_map.mp hd'
  rfl
theorem sortable_ints (ks : List Int) : Sortable (ks.map PyData.int) := by
  refine Or.inr fun d hd => ?_
  obtain ⟨x, _, rfl⟩ := List.mem_map.mp hd
  exact ⟨(fun z => nomatch z), (fun xs z => nomatch z)⟩
theorem each_strs : ∀ {us : List Value} {xs : List Str}, Vals (xs.map V.str) us → EachIs (fun v x => RelV (.str x) v) us xs
  | [], [], .nil => .nil
  | _ :: _, _ :: _, .cons r t => .cons r (each_strs t)
theorem strs_each : ∀ {us : List Value} {xs : List Str}, EachIs (fun v x => RelV (.str x) v) us xs → Vals (xs.map V.str) us
  | _, _, .nil => .nil
  | _, _, .cons r t => .cons r (strs_each t)
theorem intsAre_snoc {n : Int} {t : Tok} {vs : List Value} {ns : List Int} (h : IntsAre vs ns) : IntsAre (vs ++ [.int n t]) (ns ++ [n]) := ksk_snoc h
section
variable {X : Cx} {pins : List (Addr × Obj)} {σ : L2.St} {H : Hp} {s : Shared}
/-- list.sort(key=f), from the calls of f on -/
theorem keyI_rest {P : PySem.Fin → Shared → Prop} {E : Value → Shared → Prop} {A : Around} {f : Value} {kS a : Addr} {e1 : Nat} {vs : List Value} {bs : List Str} (k : Str → Int) (I : Inv X pins σ H s) (hkS : FpOk X pins H kS) (hfa : FpOk X pins H a)
    (nk : s.heap.get? kS = some (seqObj "list" #[] 0)) (na : s.heap.get? a = some (seqObj "list" #[] e1)) (hka : kS ≠ a)
    (he : Vals (bs.map V.str) vs) (hZ : vs.length ≤ sizeLine) (hu : A.units + 1 < cLine)
    (turn : ∀ (v : Value) (x : Str), RelV (.str x) v → x ∈ bs → ∀ (pins' : List (Addr × Obj)) (H' : Hp) (s' : Shared), (∀ p ∈ pins, p ∈ pins') → Ex H H' → Inv X pins' σ H' s' →
      wpAny (model X.prog X.w) A (call f [v]) (EP X pins' σ fun z H'' => Ex H' H'' ∧ z = .int (k x)) (fun _ _ => False) s')
    (h : ∀ (H' : Hp) (s' : Shared), Ex H H' → H' a = none → Inv X pins σ (upd H' a (.lst ((bs.mergeSort fun p q => decide (k p ≤ k q)).map V.str))) s' → P (.done (.ret .none)) s') :
    wpAny (model X.prog X.w) A (ksk_rest a f false vs.toArray e1 (.ref kS)) P E s := by
  have hbl : bs.length = vs.length := by rw [← he.length, List.length_map]
  unfold ksk_rest
  refine wpAny_bind (wpAny_rule ?_)
  first
    | rw [List.forIn_toArray]
    | (rw [← Array.forIn_toList]; simp only [List.toList_toArray])
    | rw [← Array.forIn_toList]
  refine wpAny_bind (ksk_fold (fun i s' => ∃ H' kA e, Ex H H' ∧ Inv X pins σ H' s' ∧ H' kS = none ∧ H' a = none ∧ s'.heap.get? kS = some (seqObj "list" kA e) ∧ s'.heap.get? a = some (seqObj "list" #[] e1) ∧ IntsAre kA.toList ((bs.take i).map k)) vs 0 s
    ⟨H, #[], 0, Ex.refl H, I, hkS.1, hfa.1, nk, na, by rw [List.take_zero]; exact .nil⟩ ?step ?done)
  case step =>
    rintro j x s' hx ⟨H', kA, e, ex, I', n1, n2, nk', na', hk⟩
    simp only [Nat.zero_add] at hk ⊢
    have hj : j < vs.length := (List.getElem?_eq_some_iff.mp hx).1
    have hjb : j < bs.length := by omega
    obtain ⟨y, hy⟩ : ∃ y, bs[j]? = some y := ⟨_, List.getElem?_eq_getElem hjb⟩
    obtain ⟨u, hu1, ru⟩ := he.get (i := j) (x := V.str y) (by rw [List.getElem?_map, hy] <;> rfl)
    rw [hx] at hu1
    cases hu1
    have hz : kA.size ≤ vs.length := by
      have h1 := hk.length
      rw [Array.length_toList, List.length_map, List.length_take] at h1
      omega
    have I2 : Inv X ((kS, seqObj "list" kA e) :: (a, seqObj "list" #[] e1) :: pins) σ H' s' := I'.pins_of fun p hp => by
      rcases List.mem_cons.mp hp with rfl | hp
      · exact ⟨nk', n1, hkS.2.1, hkS.2.2.1, fun v z => nomatch z⟩
      · rcases List.mem_cons.mp hp with rfl | hp
        · exact ⟨na', n2, hfa.2.1, hfa.2.2.1, fun v z => nomatch z⟩
        · exact I'.pin p (List.mem_append_right _ hp)
    refine wpAny_bind (wpAny_attempt (wpAny_mono (turn x y ru (List.mem_of_getElem? hy) _ H' s' (fun p hp => List.mem_cons_of_mem _ (List.mem_cons_of_mem _ hp)) ex I2) (fun v s'' hq => ?_) fun _ _ hF => hF.elim))
    obtain ⟨z, H'', I3, rz, ex3, ez⟩ := hq
    subst ez
    obtain ⟨t, rfl⟩ := rz
    try dsimp only
    have p1 := I3.pin _ (List.mem_append_right _ (List.mem_cons_self))
    have p2 := I3.pin _ (List.mem_append_right _ (List.mem_cons_of_mem _ List.mem_cons_self))
    have nk2 : s''.heap.get? kS = some (seqObj "list" kA e) := p1.1
    have na2 : s''.heap.get? a = some (seqObj "list" #[] e1) := p2.1
    have s1 := Heap.SameBut.update s''.heap kS (Obj.mapSeq (·.push (.int (k y) t)))
    obtain ⟨c2, hc2⟩ : ∃ c2, (s''.heap.update kS (Obj.mapSeq (·.push (.int (k y) t)))).get? kS = some (seqObj "list" (kA.push (.int (k y) t)) c2) := ⟨_, get?_update_seq nk2 (·.push (.int (k y) t))⟩
    have ek : (bs.take (j + 1)).map k = (bs.take j).map k ++ [k y] := by rw [List.take_add_one, hy]; simp
    have ea : (kA.push (.int (k y) t)).toList = kA.toList ++ [.int (k y) t] := by simp
    refine wpAny_bind (listUpdate_at nk2 rfl ?_ (Nat.le_trans hz hZ) (Nat.le_trans (Nat.le_of_eq (Array.size_push ..)) (Nat.succ_le_succ (Nat.le_trans hz hZ))))
    have I4 : Inv X pins σ H'' s'' := I3.pins_of fun p hp => I3.pin p (List.mem_append_right _ (List.mem_cons_of_mem _ (List.mem_cons_of_mem _ hp)))
    have I5 : Inv X pins σ H'' { s'' with heap := s''.heap.update kS (Obj.mapSeq (·.push (.int (k y) t))) } := I4.turned (t' := s''.toks) (fun b o hb q => (s1.2 b hb).trans q) p1.2.1 hkS.2.1 hkS.2.2.2.1 hkS.2.2.2.2.1 hkS.2.2.2.2.2
    exact wpAny_pure ⟨rfl, H'', kA.push (.int (k y) t), c2, ex.trans ex3, I5, p1.2.1, p2.2.1, hc2, (s1.2 a hka.symm).trans na2, by rw [ea, ek]; exact intsAre_snoc hk⟩
  case done =>
    rintro s' ⟨H', kA, e, ex, I', n1, n2, nk', na', hk⟩
    have e3 : bs.take (0 + vs.length) = bs := List.take_of_length_le (by omega)
    rw [e3] at hk
    have hsz : kA.size = vs.length := by
      have h1 := hk.length
      rw [Array.length_toList, List.length_map] at h1
      omega
    try dsimp only
    refine wpAny_bind (listItems_at nk' rfl ?_)
    obtain ⟨G, g1, g2⟩ := restrict s'.heap fun b => decide (b ≠ kS)
    have gk : ∀ b o, G.get? b = some o → s'.heap.get? b = some o ∧ b ≠ kS := fun b o q => by
      by_cases hb : b = kS
      · rw [hb, g2 kS (by simp)] at q
        cases q
      · exact ⟨by rw [← g1 b (by simp [hb])]; exact q, hb⟩
    have kp : KeepsBut a G s'.heap := fun b o hb q => (gk b o q).1
    refine keyH_end (κ := dataKind s'.heap ((bs.map k).map PyData.int)) (h₁ := G) kp (g2 kS (by simp)) nk' na' hka (SortsAt.data (s := s') (ints_each hk) (alike_ints _) (sortable_ints _) fun d hd => ?_) hsz hZ fun h3 tk3 c k3 n3 => ?_
    · obtain ⟨x, _, rfl⟩ := List.mem_map.mp hd
      have hdp : (PyData.int x).depth ≤ 1 := by first | decide | exact Nat.le_refl _ | (show PyData.depth _ ≤ 1; simp [PyData.depth])
      omega
    · have ko : KeyedOut false (bs.map fun b => PyData.int (k b)) vs (sortVals (dataKind s'.heap ((bs.map k).map PyData.int)) false kA.toList vs) := by
        have e4 : (bs.map fun b => PyData.int (k b)) = (bs.map k).map PyData.int := by rw [List.map_map] <;> rfl
        rw [e4]
        exact ⟨s'.heap, kA.toList, alike_ints _, rfl, ints_each hk⟩
      have out := keyedOut_each (R := fun v x => RelV (.str x) v) (fun b => PyData.int (k b)) ko (each_strs he)
      rw [dataLe_int k] at out
      generalize sortVals (dataKind s'.heap ((bs.map k).map PyData.int)) false kA.toList vs = out' at out n3 ko
      have vo := strs_each out
      obtain ⟨G2, q1, q2⟩ := restrict h3 fun b => decide (b ≠ kS) && decide (b ≠ a)
      have gq : ∀ b o, G2.get? b = some o → h3.get? b = some o ∧ b ≠ a := fun b o q => by
        by_cases hb : (decide (b ≠ kS) && decide (b ≠ a)) = true
        · exact ⟨by rw [← q1 b hb]; exact q, by simpa using (Bool.and_eq_true_iff.mp hb).2⟩
        · rw [q2 b (by simpa using hb)] at q
          cases q
      have I6 : Inv X pins σ H' { s' with heap := G2, toks := s'.toks } := I'.turnedL (t' := s'.toks) (ch := [kS, a]) (fun b o hb q => by
          have hb1 : b ≠ kS := fun z => hb (by simp [z])
          have hb2 : b ≠ a := fun z => hb (by simp [z])
          rw [q1 b (by simp [hb1, hb2])]
          refine k3 b o hb2 ?_
          rw [g1 b (by simp [hb1])]
          exact q) fun b hb => by
        have e' : b = kS ∨ b = a := by simpa using hb
        rcases e' with z | z
        · rw [z]; exact ⟨n1, hkS.2⟩
        · rw [z]; exact ⟨n2, hfa.2⟩
      have hln : ((bs.mergeSort fun p q => decide (k p ≤ k q)).map V.str).length ≤ sizeLine := by
        rw [List.length_map, List.length_mergeSort, hbl]
        exact hZ
      have I7 := I6.laidN (h' := h3) (a := a) (o := .lst ((bs.mergeSort fun p q => decide (k p ≤ k q)).map V.str)) (t' := tk3) (fun b o q => (gq b o q).1) (q2 a (by simp)) n2 ⟨hln, out', c, vo, n3⟩
      exact h H' _ ex n2 I7
end
end NP
end
section
set_option Elab.async false
set_option linter.all false
set_option maxRecDepth 100000
set_option maxHeartbeats 4000000
/-! sorted(texts, key=lambda x: ..), the rule itself. -/
namespace NP
open PySem PySem.Spec PyProof.Rows L2 LamX PySem.W Evl
theorem extN_rd {H H' : Hp} {a : Addr} {u : HO} (e : ExtN H H') (h : Rd H a u) (n : ∀ ps, u ≠ .tbl ps) : Rd H' a u := by
  rcases h with h | ⟨o, h⟩
  · exact Or.inl (e a _ h n)
  · exact Or.inr ⟨o, e a _ h fun ps z => nomatch z⟩
theorem extN_l {K : PySem.W.Frag} {H H' : Hp} {a : Addr} {xs : List V} (e : ExtN H H') (h : SqL K H a xs) : SqL K H' a xs := by
  rcases h with h | h
  · exact Or.inl (extN_rd e h fun ps z => nomatch z)
  · exact Or.inr h
theorem extN_t {K : PySem.W.Frag} {H H' : Hp} {a : Addr} {xs : List V} (e : ExtN H H') (h : SqT K H a xs) : SqT K H' a xs := by
  rcases h with h | h
  · exact Or.inl (extN_rd e h fun ps z => nomatch z)
  · exact Or.inr h
def tSortLam (K : PySem.W.Frag) (T : List (Addr × Str)) (i : Nat) (ta : TA) (tb : TE) : TE := fun σ H Q => ta σ H fun vs H1 => ∃ (l : Addr) (xs : List Str), vs = [.ref l] ∧ SqL K H1 l (xs.map V.str) ∧ Tabs T H1 ∧ ∀ H2, ExtN H1 H2 → Tabs T H2 →
  ∃ k : Str → Int, (∀ x ∈ xs, ∀ H3, Ex H2 H3 → tb (σ.set i (some (.str x))) H3 fun z H4 => Ex H3 H4 ∧ z = .int (k x)) ∧
    ∀ H3 p (ys : List Str), Ex H2 H3 → H3 p = none → ys.Perm xs → ys.Pairwise (fun a b => k a ≤ k b) → Q (.ref p) (upd H3 p (.lst (ys.map V.str)))
section
variable {X : Cx} {e : Expr} {ta : TA} {tb : TE} {T : List (Addr × Str)} {c P : Addr} {params : Arguments} {body : Expr} {scope : Scope} {a : Str} {i k : Nat} {p lpos kp pos : Pos}
theorem pe_sortLam (hg : Gl X "sorted") (hm : X.mg "sorted" = none) (ha : PA X [e] ta) (TB : TabB X.base X.mg c P) (hcode : X.env.code = .ref c) (hmT : (P, X.env.qual ++ "<lambda>") ∈ T) (hu : ∀ p ∈ T, p.1 = P → p.2 = X.env.qual ++ "<lambda>")
    (hdef : defaultsOf params X.env = ([], [])) (L : LamP X.env.scope scope a) (hNa : X.N[i]? = some a) (hNu : ∀ j, X.N[j]? = some a → j = i) (hr : Room (k + 5) X.A)
    (hbind : ∀ (q : Str) (cl : List (Str × Addr)) (pm cv ctv u : Value), bindArgs (PySem.W.kla_fn "<lambda>" q params body scope cl pm cv ctv) ⟨[u], []⟩ = pure [(a, u)])
    (hbody : ∀ (A : Around) (outer : List Env) (s : Shared) (H : Hp) (f c' : Addr), Room k (A.deeper (lamEnv X scope s.heap.objs.size f c')) → PE (lamCx X A outer s H E0 scope f c') body tb)
    (he : backTo pos (starEach [e] X.env) = (false, eval e X.env) :: backTo pos (starEach [] X.env) := by rfl) (hpl : (backTo pos (starEach [e] X.env)).any (·.1) = false := by rfl) :
    PE X (.Call (.Name "sorted" p) [e] [⟨some "key", .Lambda params body scope lpos, kp⟩] pos) (tSortLam X.K T i ta tb) := by
  refine ⟨fun pins s σ H Q I h => ?_⟩
  refine wpAny_Call_Name_kw (ld_blt I hg hm (show bootBuiltins "sorted" = some (.builtin "sorted") from rfl) ?_)
  refine PyProof.Rows.callWith_kw (thn (ha.run pos pins s σ H _ I h) fun us s1 ⟨vs, H1, I1, r1, q1⟩ => ?_) he hpl rfl rfl
  obtain ⟨l, xs, ev, hs, hT, q1⟩ := q1
  subst ev
  obtain rfl := Vals.ref1 r1
  refine PyProof.Rows.kws_cons (lam_make2 I1 TB hcode hmT hu hT hdef (L.has I1.ok) fun f c' pm ctv H2 s2 I2 eN T2 hf hfn hfr hco => ?_)
  refine PyProof.Rows.kws_nil ?_
  obtain ⟨k', hk1, hk2⟩ := q1 H2 eN T2
  obtain ⟨its, rv, hl, hz⟩ := I2.list (extN_l eN hs)
  have hbl : xs.length = its.length := by rw [← rv.length, List.length_map]
  show wpAny (model X.prog X.w) X.A (call (.builtin "sorted") [.ref l] [(Str.ofString "key", .ref f)]) (EP X pins σ Q) X.xe s2
  have hzl : its.length ≤ sizeLine := by rw [← rv.length]; exact hz
  refine PySem.W.sorted_of_sort hl.isList hzl (ksk_s1 _ _) (fun x => ksk_l1 _ _) fun E' => ?_
  rw [ksk_t1]
  have ho := copyHeap_at s2.heap its
  have hsz1 : (copyHeap s2.heap its).objs.size = s2.heap.objs.size + 2 := by
    show ((_ : Heap).push _).objs.size = _
    rw [size_push', Heap.size_update, size_push']
  unfold ksk_tree
  obtain ⟨e1, ho1⟩ : ∃ e1, ((copyHeap s2.heap its).update (s2.heap.objs.size + 1) (Obj.mapSeq fun _ => (#[] : Array Value))).get? (s2.heap.objs.size + 1) = some (seqObj "list" #[] e1) := ⟨_, get?_update_seq ho fun _ => #[]⟩
  refine wpAny_bind (listItems_at (s := { s2 with heap := copyHeap s2.heap its }) ho rfl ?_)
  refine wpAny_bind (listUpdate_at (s := { s2 with heap := copyHeap s2.heap its }) ho rfl ?_ (by rw [List.size_toArray]; exact hzl) (Nat.zero_le _))
  refine wpAny_bind (seqEpoch_at ho1 rfl ?_)
  refine wpAny_bind (wpAny_newTuple ?_ (by show its.length ≤ _; exact hzl))
  refine wpAny_bind (wpAny_newList ?_ (Nat.zero_le _))
  refine wpAny_holding ?_
  have hkS : (((copyHeap s2.heap its).update (s2.heap.objs.size + 1) (Obj.mapSeq fun _ => (#[] : Array Value))).push (seqObj "tuple" its.toArray 0)).objs.size = s2.heap.objs.size + 3 := by rw [size_push', Heap.size_update, hsz1]
  have old : ∀ b o, s2.heap.get? b = some o → ((((copyHeap s2.heap its).update (s2.heap.objs.size + 1) (Obj.mapSeq fun _ => (#[] : Array Value))).push (seqObj "tuple" its.toArray 0)).push (seqObj "list" #[] 0)).get? b = some o := fun b o q => by
    refine Heap.get?_push_of_some _ (Heap.get?_push_of_some _ ?_)
    rw [Heap.get?_update_ne _ _ _ _ (Nat.ne_of_lt (Nat.lt_succ_of_lt (Heap.lt_size q)))]
    exact copyHeap_old q
  have hne : f ≠ X.env.locals := fun z => by
    obtain ⟨m, ⟨o, es, ep, ho, hd, _⟩, _⟩ := I2.loc
    rw [← z, hf] at ho
    cases ho
    cases hd
  have hnf : f ∉ X.fs := fun z => by
    rcases I2.ok.stk with e | ⟨e, hfr'⟩
    · exact hfr (by rw [e]; exact z)
    · refine hfr ?_
      rw [e]
      unfold frs
      rw [List.filterMap_cons, hfr']
      exact List.mem_cons_of_mem _ z
  have I2p : Inv X ((f, PySem.W.kla_obj "<lambda>" (X.env.qual ++ "<lambda>") params body scope (cloFrom X.env.cells scope.names []) pm c' ctv) :: pins) σ H2 s2 := I2.pins_of fun p hp => by
    rcases List.mem_cons.mp hp with rfl | hp
    · exact ⟨hf, hfn, hne, hnf, fun v z => nomatch z⟩
    · exact I2.pin p (List.mem_append_right _ hp)
  have I4 : Inv X ((f, PySem.W.kla_obj "<lambda>" (X.env.qual ++ "<lambda>") params body scope (cloFrom X.env.cells scope.names []) pm c' ctv) :: pins) σ H2 { s2 with heap := (((copyHeap s2.heap its).update (s2.heap.objs.size + 1) (Obj.mapSeq fun _ => (#[] : Array Value))).push (seqObj "tuple" its.toArray 0)).push (seqObj "list" #[] 0) } := I2p.kept (t' := s2.toks) old
  have fa := I2p.fpOk (b := s2.heap.objs.size + 1) (Nat.le_succ _) (I2p.hok.fresh (Nat.le_succ _))
  have fk := I2p.fpOk (b := s2.heap.objs.size + 3) (Nat.le_add_right _ _) (I2p.hok.fresh (Nat.le_add_right _ _))
  show wpAny _ _ (ksk_rest (s2.heap.objs.size + 1) (.ref f) false its.toArray _ (.ref ((((copyHeap s2.heap its).update (s2.heap.objs.size + 1) (Obj.mapSeq fun _ => (#[] : Array Value))).push (seqObj "tuple" its.toArray 0)).objs.size))) _ _ _
  rw [hkS]
  refine keyI_rest (bs := xs) k' I4 fk fa ?_ ?_ (Nat.ne_of_gt (by omega)) rv hzl ?_ (fun v x rx hx pins' H' s' hp ex I' => ?_) fun H' s' ex hn I' => ⟨rfl, ?_⟩
  · rw [← hkS]
    exact Heap.get?_push_size _ rfl
  · exact Heap.get?_push_of_some _ (Heap.get?_push_of_some _ ho1)
  · have := hr.un
    show X.A.units + 2 + 1 < cLine
    omega
  · have t := hk1 x hx H' ex
    exact lam_call (k := k) I' rfl L hNa hNu rx (hp _ List.mem_cons_self) (ex _ _ hco) (fun u => hbind _ _ _ _ _ u) (hr.mono (by omega)) (fun A outer s H L' hr' eL => by subst eL; exact hbody A outer s H f c' hr') t
  · have p := List.mergeSort_perm xs fun p q => decide (k' p ≤ k' q)
    have st : (xs.mergeSort fun p q => decide (k' p ≤ k' q)).Pairwise fun a b => k' a ≤ k' b := by
      have z := List.pairwise_mergeSort (le := fun p q : Str => decide (k' p ≤ k' q)) (fun a b c h1 h2 => by simp at h1 h2 ⊢; omega) (fun a b => by simp; omega) xs
      exact z.imp fun h => by simpa using h
    have I5 : Inv X pins σ _ s' := I'.pins_of fun q hq => I'.pin q (List.mem_append_right _ (List.mem_cons_of_mem _ hq))
    exact ⟨.ref _, _, I5, rfl, hk2 H' _ _ ex hn p st⟩
end
end NP
end
section
set_option Elab.async false
set_option linter.all false
set_option maxRecDepth 100000
set_option maxHeartbeats 4000000
/-! What readings evaluate to: all that is known stays, but the box of draws B. -/
namespace NP
open PySem PySem.Spec PyProof.Rows L2
/-- all but B stays -/
def Xt (B : Option Addr) (H H' : Hp) : Prop := ∀ a o, B ≠ some a → H a = some o → H' a = some o
def Bok (b : Addr) (H : Hp) : Prop := ∃ x y z : Int, H b = some (.lst [.int x, .int y, .int z])
def Bk (B : Option Addr) (H : Hp) : Prop := ∀ b, B = some b → Bok b H
def Go (B : Option Addr) (H H' : Hp) : Prop := Xt B H H' ∧ Bk B H'
def At (B : Option Addr) (H : Hp) (a : Addr) (o : HO) : Prop := B ≠ some a ∧ H a = some o
section
variable {B : Option Addr} {H H' H'' : Hp} {a p : Addr} {o : HO}
theorem Go.refl (h : Bk B H) : Go B H H := ⟨fun _ _ _ e => e, h⟩
theorem Go.trans (g : Go B H H') (g' : Go B H' H'') : Go B H H'' := ⟨fun a o n e => g'.1 a o n (g.1 a o n e), g'.2⟩
theorem Bk.fresh (h : Bk B H) (n : H p = none) : B ≠ some p := fun e => by
  obtain ⟨x, y, z, q⟩ := h p e
  rw [n] at q
  cases q
theorem Go.new (h : Bk B H) (n : H p = none) : Go B H (upd H p o) := by
  refine ⟨fun a u _ e => ?_, fun b e => ?_⟩
  · rw [upd_ne (ne_of_none e n)]
    exact e
  · obtain ⟨x, y, z, q⟩ := h b e
    exact ⟨x, y, z, by rw [upd_ne (ne_of_none q n)]; exact q⟩
/-- a store at an object that is not known yet -/
theorem Go.mut (g : Go B H H') (n : H p = none) (hb : B ≠ some p) : Go B H (upd H' p o) := by
  refine ⟨fun a u hn e => ?_, fun b e => ?_⟩
  · rw [upd_ne (ne_of_none e n)]
    exact g.1 a u hn e
  · obtain ⟨x, y, z, q⟩ := g.2 b e
    exact ⟨x, y, z, by rw [upd_ne (fun z => hb (by rw [e, z]))]; exact q⟩
theorem Go.bk (g : Go B H H') : Bk B H' := g.2
theorem At.go (t : At B H a o) (g : Go B H H') : At B H' a o := ⟨t.1, g.1 a o t.1 t.2⟩
theorem At.new (h : Bk B H) (n : H p = none) : At B (upd H p o) p o := ⟨h.fresh n, upd_same⟩
theorem At.sl {K : PySem.W.Frag} {xs : List V} (t : At B H a (.lst xs)) : SqL K H a xs := Or.inl (Or.inl t.2)
theorem At.st {K : PySem.W.Frag} {xs : List V} (t : At B H a (.tup xs)) : SqT K H a xs := Or.inl (Or.inl t.2)
theorem Go.fresh (g : Go B H H') (n : H' p = none) : H p = none := by
  cases q : H p with
  | none => rfl
  | some u =>
    by_cases hb : B = some p
    · exact absurd n (by
        obtain ⟨x, y, z, e⟩ := g.2 p hb
        rw [e]
        exact fun z => nomatch z)
    · rw [g.1 p u hb q] at n
      cases n
end
/-! ### what is stable -/
def St (B : Option Addr) (P : V → Hp → Prop) : Prop := ∀ v H H', Go B H H' → P v H → P v H'
abbrev Is (v : V) : V → Hp → Prop := fun w _ => w = v
theorem St.is {B : Option Addr} {v : V} : St B (Is v) := fun _ _ _ _ h => h
theorem zl {n : Nat} (h : n ≤ 100000) : n ≤ sizeLine := Nat.le_trans h (by decide)
theorem zt {n : Nat} (h : n ≤ 100000) : n < sizeLine := Nat.lt_of_le_of_lt h (by decide)
/-! ### reps -/
/-- a tuple | a list of texts, of whole numbers; a pair of texts -/
def TpS (B : Option Addr) (xs : List Str) : V → Hp → Prop := fun v H => ∃ a, v = .ref a ∧ At B H a (.tup (xs.map V.str))
def LsS (B : Option Addr) (xs : List Str) : V → Hp → Prop := fun v H => ∃ a, v = .ref a ∧ At B H a (.lst (xs.map V.str))
def TpI (B : Option Addr) (xs : List Int) : V → Hp → Prop := fun v H => ∃ a, v = .ref a ∧ At B H a (.tup (xs.map V.int))
def LsI (B : Option Addr) (xs : List Int) : V → Hp → Prop := fun v H => ∃ a, v = .ref a ∧ At B H a (.lst (xs.map V.int))
def LsB (B : Option Addr) (xs : List Bool) : V → Hp → Prop := fun v H => ∃ a, v = .ref a ∧ At B H a (.lst (xs.map V.bl))
def PrS (B : Option Addr) (p : Str × Str) : V → Hp → Prop := fun v H => ∃ a, v = .ref a ∧ At B H a (.tup [.str p.1, .str p.2])
/-- a tuple | a list whose items are told by R -/
def TpR {α : Type} (B : Option Addr) (R : α → V → Hp → Prop) (xs : List α) : V → Hp → Prop := fun v H => ∃ a zs, v = .ref a ∧ At B H a (.tup zs) ∧ Paired (fun x z => R x z H) xs zs
def LsR {α : Type} (B : Option Addr) (R : α → V → Hp → Prop) (xs : List α) : V → Hp → Prop := fun v H => ∃ a zs, v = .ref a ∧ At B H a (.lst zs) ∧ Paired (fun x z => R x z H) xs zs
/-- a dict of texts, the values told by R -/
def DcR {α : Type} (B : Option Addr) (R : α → V → Hp → Prop) (xs : List (Str × α)) : V → Hp → Prop := fun v H => ∃ a kvs, v = .ref a ∧ At B H a (.dK kvs) ∧ Paired (fun x (kv : Key × V) => kv.1 = Sum.inr x.1 ∧ R x.2 kv.2 H) xs kvs
section
variable {B : Option Addr} {α : Type} {R : α → V → Hp → Prop}
theorem TpS.st {xs : List Str} : St B (TpS B xs) := fun _ _ _ g ⟨a, e, t⟩ => ⟨a, e, t.go g⟩
theorem LsS.st {xs : List Str} : St B (LsS B xs) := fun _ _ _ g ⟨a, e, t⟩ => ⟨a, e, t.go g⟩
theorem TpI.st {xs : List Int} : St B (TpI B xs) := fun _ _ _ g ⟨a, e, t⟩ => ⟨a, e, t.go g⟩
theorem LsI.st {xs : List Int} : St B (LsI B xs) := fun _ _ _ g ⟨a, e, t⟩ => ⟨a, e, t.go g⟩
theorem LsB.st {xs : List Bool} : St B (LsB B xs) := fun _ _ _ g ⟨a, e, t⟩ => ⟨a, e, t.go g⟩
theorem PrS.st {p : Str × Str} : St B (PrS B p) := fun _ _ _ g ⟨a, e, t⟩ => ⟨a, e, t.go g⟩
theorem pr_go {β : Type} {F : α → β → Hp → Prop} {H H' : Hp} (hF : ∀ x z, F x z H → F x z H') {xs : List α} {zs : List β} (h : Paired (fun x z => F x z H) xs zs) : Paired (fun x z => F x z H') xs zs := h.mono fun x z => hF x z
theorem TpR.st (hR : ∀ x, St B (R x)) {xs : List α} : St B (TpR B R xs) := fun _ _ _ g ⟨a, zs, e, t, p⟩ => ⟨a, zs, e, t.go g, p.mono fun x z => hR x z _ _ g⟩
theorem LsR.st (hR : ∀ x, St B (R x)) {xs : List α} : St B (LsR B R xs) := fun _ _ _ g ⟨a, zs, e, t, p⟩ => ⟨a, zs, e, t.go g, p.mono fun x z => hR x z _ _ g⟩
theorem DcR.st (hR : ∀ x, St B (R x)) {xs : List (Str × α)} : St B (DcR B R xs) := fun _ _ _ g ⟨a, zs, e, t, p⟩ => ⟨a, zs, e, t.go g, p.mono fun x z q => ⟨q.1, hR x.2 z.2 _ _ g q.2⟩⟩
end
/-! ### what evaluates to what -/
def Y (B : Option Addr) (te : TE) (σ : L2.St) (H : Hp) (P : V → Hp → Prop) : Prop := ∀ H1, Go B H H1 → ∀ Q : VK, (∀ v H2, Go B H1 H2 → P v H2 → Q v H2) → te σ H1 Q
def YT (B : Option Addr) (tt : TT) (σ : L2.St) (H : Hp) (T : Bool → Prop) : Prop := ∀ H1, Go B H H1 → ∀ Q : Bool → Hp → Prop, (∀ b H2, Go B H1 H2 → T b → Q b H2) → tt σ H1 Q
def YA (B : Option Addr) (ta : TA) (σ : L2.St) (H : Hp) (P : List V → Hp → Prop) : Prop := ∀ H1, Go B H H1 → ∀ Q : List V → Hp → Prop, (∀ vs H2, Go B H1 H2 → P vs H2 → Q vs H2) → ta σ H1 Q
abbrev As (vs : List V) : List V → Hp → Prop := fun ws _ => ws = vs
section
variable {B : Option Addr} {σ : L2.St} {H H' : Hp} {ta tb te tc : TE} {t u : TT} {x y z v : V} {P P' PA PB : V → Hp → Prop}
theorem Y.mono (g : Go B H H') (h : Y B te σ H P) : Y B te σ H' P := fun H1 a Q q => h H1 (g.trans a) Q q
theorem YT.mono {T : Bool → Prop} (g : Go B H H') (h : YT B t σ H T) : YT B t σ H' T := fun H1 a Q q => h H1 (g.trans a) Q q
theorem YA.mono {ts : TA} {R : List V → Hp → Prop} (g : Go B H H') (h : YA B ts σ H R) : YA B ts σ H' R := fun H1 a Q q => h H1 (g.trans a) Q q
theorem Y.imp (h : Y B te σ H P) (i : ∀ v H', Go B H H' → P v H' → P' v H') : Y B te σ H P' := fun H1 g Q q => h H1 g Q fun v H2 g2 p => q v H2 g2 (i v H2 (g.trans g2) p)
theorem YT.imp {T T' : Bool → Prop} (h : YT B t σ H T) (i : ∀ b, T b → T' b) : YT B t σ H T' := fun H1 g Q q => h H1 g Q fun v H2 g2 p => q v H2 g2 (i v p)
theorem y_var {i : Nat} (h : σ[i]? = some (some v)) : Y B (tVar i) σ H (Is v) := fun H1 g Q q => ⟨v, h, q v H1 (Go.refl g.2) rfl⟩
theorem y_c : Y B (tC v) σ H (Is v) := fun H1 g Q q => q v H1 (Go.refl g.2) rfl
/-- an operator by values -/
theorem y_opG {r : R2} (sa : St B PA) (ha : Y B ta σ H PA) (hb : Y B tb σ H PB) (hr : ∀ x y H1, Go B H H1 → PA x H1 → PB y H1 → ∀ Q : VK, (∀ v H2, Go B H1 H2 → P v H2 → Q v H2) → r x y H1 Q) : Y B (tOp r ta tb) σ H P := fun H1 g Q q =>
  ha H1 g _ fun x H2 g2 px => hb H2 (g.trans g2) _ fun y H3 g3 py => hr x y H3 ((g.trans g2).trans g3) (sa x _ _ g3 px) py Q fun v H4 g4 pv => q v H4 ((g2.trans g3).trans g4) pv
theorem y_op {r : R2} (ha : Y B ta σ H (Is x)) (hb : Y B tb σ H (Is y)) (hr : ∀ H1, Go B H H1 → ∀ Q : VK, (∀ v H2, Go B H1 H2 → P v H2 → Q v H2) → r x y H1 Q) : Y B (tOp r ta tb) σ H P :=
  y_opG St.is ha hb fun x' y' H1 g ex ey Q q => by
    rw [ex, ey]
    exact hr H1 g Q q
theorem y_un {r : V → Hp → VK → Prop} (ha : Y B ta σ H (Is x)) (hr : ∀ H1, Go B H H1 → ∀ Q : VK, (∀ v H2, Go B H1 H2 → P v H2 → Q v H2) → r x H1 Q) : Y B (tUn r ta) σ H P := fun H1 g Q q =>
  ha H1 g _ fun x' H2 g2 px => by
    rw [show x' = x from px]
    exact hr H2 (g.trans g2) Q fun v H3 g3 pv => q v H3 (g2.trans g3) pv
theorem yt_test {T : Bool → Prop} (h : Y B te σ H fun v _ => ∃ b, v = .bl b ∧ T b) : YT B (tTest te) σ H T := fun H1 g Q q => h H1 g _ fun v H2 g2 ⟨b, e, tb⟩ => ⟨b, e, q b H2 g2 tb⟩
theorem yt_B {T : Bool → Prop} (h : Y B te σ H fun v _ => ∃ b, v = .bl b ∧ T b) : YT B (tB te) σ H T := fun H1 g Q q => h H1 g _ fun v H2 g2 ⟨b, e, tb⟩ => ⟨b, e, q b H2 g2 tb⟩
theorem yt_testI {b : Bool} (h : Y B te σ H (Is (.bl b))) : YT B (tTest te) σ H (· = b) := yt_test (h.imp fun v _ _ e => ⟨b, e, rfl⟩)
theorem yt_BI {b : Bool} (h : Y B te σ H (Is (.bl b))) : YT B (tB te) σ H (· = b) := yt_B (h.imp fun v _ _ e => ⟨b, e, rfl⟩)
theorem yt_yes : YT B tYes σ H (· = true) := fun H1 g Q q => q true H1 (Go.refl g.2) rfl
theorem yt_and {a b : Bool} (h1 : YT B t σ H (· = a)) (h2 : a = true → YT B u σ H (· = b)) : YT B (tAnd t u) σ H (· = (a && b)) := fun H1 g Q q => h1 H1 g _ fun b' H2 g2 e => by
  cases a with
  | true =>
    rw [e]
    show u σ H2 Q
    exact h2 rfl H2 (g.trans g2) Q fun b'' H3 g3 e3 => q b'' H3 (g2.trans g3) (by rw [e3] <;> rfl)
  | false =>
    rw [e]
    show Q false H2
    exact q false H2 g2 rfl
theorem yt_or {a b : Bool} (h1 : YT B t σ H (· = a)) (h2 : a = false → YT B u σ H (· = b)) : YT B (tOr t u) σ H (· = (a || b)) := fun H1 g Q q => h1 H1 g _ fun b' H2 g2 e => by
  cases a with
  | true =>
    rw [e]
    show Q true H2
    exact q true H2 g2 rfl
  | false =>
    rw [e]
    show u σ H2 Q
    exact h2 rfl H2 (g.trans g2) Q fun b'' H3 g3 e3 => q b'' H3 (g2.trans g3) (by rw [e3] <;> rfl)
theorem yt_not {a : Bool} (h : YT B t σ H (· = a)) : YT B (tNot t) σ H (· = !a) := fun H1 g Q q => h H1 g _ fun b H2 g2 e => by
  rw [e]
  exact q (!a) H2 g2 rfl
theorem y_andV {a b : Bool} (h1 : Y B ta σ H (Is (.bl a))) (h2 : a = true → Y B tb σ H (Is (.bl b))) : Y B (tAndV ta tb) σ H (Is (.bl (a && b))) := fun H1 g Q q => h1 H1 g _ fun v H2 g2 e => ⟨a, e, by
  cases a with
  | true =>
    show tb σ H2 Q
    exact h2 rfl H2 (g.trans g2) Q fun w H3 g3 e3 => q w H3 (g2.trans g3) (by rw [show w = _ from e3] <;> rfl)
  | false =>
    show Q (.bl false) H2
    exact q _ H2 g2 rfl⟩
theorem y_orV {a b : Bool} (h1 : Y B ta σ H (Is (.bl a))) (h2 : a = false → Y B tb σ H (Is (.bl b))) : Y B (tOrV ta tb) σ H (Is (.bl (a || b))) := fun H1 g Q q => h1 H1 g _ fun v H2 g2 e => ⟨a, e, by
  cases a with
  | true =>
    show Q (.bl true) H2
    exact q _ H2 g2 rfl
  | false =>
    show tb σ H2 Q
    exact h2 rfl H2 (g.trans g2) Q fun w H3 g3 e3 => q w H3 (g2.trans g3) (by rw [show w = _ from e3] <;> rfl)⟩
theorem y_notV {a : Bool} (h1 : Y B ta σ H (Is (.bl a))) : Y B (tNotV ta) σ H (Is (.bl (!a))) := fun H1 g Q q => h1 H1 g _ fun v H2 g2 e => ⟨a, e, q _ H2 g2 rfl⟩
theorem y_if {b : Bool} (h : YT B t σ H (· = b)) (h1 : b = true → Y B ta σ H P) (h2 : b = false → Y B tb σ H P) : Y B (tIf t ta tb) σ H P := fun H1 g Q q => h H1 g _ fun b' H2 g2 e => by
  cases b with
  | true =>
    rw [e]
    show ta σ H2 Q
    exact h1 rfl H2 (g.trans g2) Q fun w H3 g3 p => q w H3 (g2.trans g3) p
  | false =>
    rw [e]
    show tb σ H2 Q
    exact h2 rfl H2 (g.trans g2) Q fun w H3 g3 p => q w H3 (g2.trans g3) p
theorem y_chain {r r' : R2} {a b : Bool} {x y w : V} (ha : Y B ta σ H (Is x)) (hb : Y B tb σ H (Is y)) (hr : ∀ H1, Go B H H1 → ∀ Q : VK, (∀ v H2, Go B H1 H2 → Is (.bl a) v H2 → Q v H2) → r x y H1 Q) (hc : a = true → Y B tc σ H (Is w))
    (hr' : a = true → ∀ H1, Go B H H1 → ∀ Q : VK, (∀ v H2, Go B H1 H2 → Is (.bl b) v H2 → Q v H2) → r' y w H1 Q) : Y B (tChain r r' ta tb tc) σ H (Is (.bl (a && b))) := fun H1 g Q q =>
  ha H1 g _ fun x' H2 g2 ex => hb H2 (g.trans g2) _ fun y' H3 g3 ey => by
    rw [show x' = x from ex, show y' = y from ey]
    refine hr H3 ((g.trans g2).trans g3) _ fun z H4 g4 ez => ⟨a, ez, ?_⟩
    cases a with
    | true =>
      show tc σ H4 _
      exact hc rfl H4 (((g.trans g2).trans g3).trans g4) _ fun w' H5 g5 ew => by
        rw [show w' = w from ew]
        exact hr' rfl H5 ((((g.trans g2).trans g3).trans g4).trans g5) Q fun v H6 g6 ev => q v H6 ((((g2.trans g3).trans g4).trans g5).trans g6) (by rw [show v = _ from ev] <;> rfl)
    | false =>
      show Q (.bl false) H4
      exact q _ H4 ((g2.trans g3).trans g4) rfl
theorem ya_nil : YA B tNil σ H (As []) := fun H1 g Q q => q [] H1 (Go.refl g.2) rfl
theorem ya_cons {tr : TA} {vs : List V} (h : Y B ta σ H (Is x)) (hr : YA B tr σ H (As vs)) : YA B (tCons ta tr) σ H (As (x :: vs)) := fun H1 g Q q =>
  h H1 g _ fun x' H2 g2 ex => hr H2 (g.trans g2) _ fun vs' H3 g3 ev => q (x' :: vs') H3 (g2.trans g3) (by rw [show x' = x from ex, show vs' = vs from ev])
/-- a first argument told by PA -/
theorem ya_consG {tr : TA} {PR : List V → Hp → Prop} (sa : St B PA) (h : Y B ta σ H PA) (hr : YA B tr σ H PR) : YA B (tCons ta tr) σ H (fun ws H' => ∃ w r, ws = w :: r ∧ PA w H' ∧ PR r H') := fun H1 g Q q =>
  h H1 g _ fun x' H2 g2 ex => hr H2 (g.trans g2) _ fun vs' H3 g3 ev => q (x' :: vs') H3 (g2.trans g3) ⟨x', vs', rfl, sa _ _ _ g3 ex, ev⟩
theorem YA.imp {ts : TA} {R R' : List V → Hp → Prop} (h : YA B ts σ H R) (i : ∀ v H', Go B H H' → R v H' → R' v H') : YA B ts σ H R' := fun H1 g Q q => h H1 g Q fun v H2 g2 p => q v H2 g2 (i v H2 (g.trans g2) p)
/-- a new tuple | list -/
theorem y_tup {ts : TA} {R : List V → Hp → Prop} (h : YA B ts σ H R) (sR : ∀ vs H1 H2, Go B H1 H2 → R vs H1 → R vs H2) (hz : ∀ vs H', R vs H' → vs.length ≤ 100000) : Y B (tTup ts) σ H (fun v H' => ∃ a vs, v = .ref a ∧ At B H' a (.tup vs) ∧ H a = none ∧ R vs H') := fun H1 g Q q =>
  h H1 g _ fun vs H2 g2 r => ⟨zl (hz vs H2 r), fun p hp => q (.ref p) _ (g2.trans (Go.new g2.2 hp)) ⟨p, vs, rfl, At.new g2.2 hp, (g.trans g2).fresh hp, sR _ _ _ (Go.new g2.2 hp) r⟩⟩
theorem y_lst {ts : TA} {R : List V → Hp → Prop} (h : YA B ts σ H R) (sR : ∀ vs H1 H2, Go B H1 H2 → R vs H1 → R vs H2) (hz : ∀ vs H', R vs H' → vs.length ≤ 100000) : Y B (tLst ts) σ H (fun v H' => ∃ a vs, v = .ref a ∧ At B H' a (.lst vs) ∧ H a = none ∧ R vs H') := fun H1 g Q q =>
  h H1 g _ fun vs H2 g2 r => ⟨zl (hz vs H2 r), fun p hp => q (.ref p) _ (g2.trans (Go.new g2.2 hp)) ⟨p, vs, rfl, At.new g2.2 hp, (g.trans g2).fresh hp, sR _ _ _ (Go.new g2.2 hp) r⟩⟩
theorem y_tupI {ts : TA} {vs : List V} (h : YA B ts σ H (As vs)) (hz : vs.length ≤ 100000) : Y B (tTup ts) σ H (fun v H' => ∃ a, v = .ref a ∧ At B H' a (.tup vs) ∧ H a = none) :=
  (y_tup h (fun _ _ _ _ r => r) (fun ws _ r => by rw [show ws = vs from r]; exact hz)).imp fun v H' _ ⟨a, ws, e, t, n, r⟩ => ⟨a, e, by rw [← show ws = vs from r]; exact t, n⟩
theorem y_lstI {ts : TA} {vs : List V} (h : YA B ts σ H (As vs)) (hz : vs.length ≤ 100000) : Y B (tLst ts) σ H (fun v H' => ∃ a, v = .ref a ∧ At B H' a (.lst vs) ∧ H a = none) :=
  (y_lst h (fun _ _ _ _ r => r) (fun ws _ r => by rw [show ws = vs from r]; exact hz)).imp fun v H' _ ⟨a, ws, e, t, n, r⟩ => ⟨a, e, by rw [← show ws = vs from r]; exact t, n⟩
/-- a built-in function by values -/
theorem y_cb {ts : TA} {r : List V → Hp → VK → Prop} {R : List V → Hp → Prop} (h : YA B ts σ H R) (hr : ∀ vs H1, Go B H H1 → R vs H1 → ∀ Q : VK, (∀ v H2, Go B H1 H2 → P v H2 → Q v H2) → r vs H1 Q) : Y B (tCB r ts) σ H P := fun H1 g Q q =>
  h H1 g _ fun vs H2 g2 pv => hr vs H2 (g.trans g2) pv Q fun v H3 g3 p => q v H3 (g2.trans g3) p
/-- tuple(..), by one value -/
theorem y_then {k : V → Hp → VK → Prop} (h : Y B ta σ H PA) (hr : ∀ x H1, Go B H H1 → PA x H1 → ∀ Q : VK, (∀ v H2, Go B H1 H2 → P v H2 → Q v H2) → k x H1 Q) : Y B (tThen ta k) σ H P := fun H1 g Q q =>
  h H1 g _ fun x H2 g2 px => hr x H2 (g.trans g2) px Q fun v H3 g3 pv => q v H3 (g2.trans g3) pv
/-- o.f -/
theorem y_fld {K : PySem.W.Frag} {a C dx : Addr} {fs : List (Str × V)} {f : Str} {w : V} (h : Y B ta σ H (Is (.ref a))) (o : At B H a (.ins C dx fs)) (c : Cls K C) (n : NoAttr K C f) (l : fs.lookup f = some w) : Y B (tFld K ta f) σ H (Is w) := fun H1 g Q q =>
  h H1 g _ fun x H2 g2 ex => ⟨a, C, dx, fs, w, ex, (o.go (g.trans g2)).2, c, n, l, q w H2 g2 rfl⟩
theorem y_con {K : PySem.W.Frag} {a C dx : Addr} {fs : List (Str × V)} {f : Str} {w : V} {u : Value} (h : Y B ta σ H (Is (.ref a))) (o : At B H a (.ins C dx fs)) (c : Cls K C) (n : Con K C f w u) (l : fs.lookup f = none) : Y B (tCon K ta f) σ H (Is w) := fun H1 g Q q =>
  h H1 g _ fun x H2 g2 ex => ⟨a, C, dx, fs, w, u, ex, (o.go (g.trans g2)).2, c, n, l, q w H2 g2 rfl⟩
/-- d[k] -/
theorem y_dget {PD PK : V → Hp → Prop} (sd : St B PD) (hd : Y B ta σ H PD) (hk : Y B tb σ H PK) (hr : ∀ x y H1, Go B H H1 → PD x H1 → PK y H1 → ∃ a v, x = .ref a ∧ DGet H1 a y (some v) ∧ P v H1) : Y B (tDGet ta tb) σ H P := fun H1 g Q q =>
  hd H1 g _ fun x H2 g2 px => hk H2 (g.trans g2) _ fun y H3 g3 py => by
    obtain ⟨a, v, e, d, p⟩ := hr x y H3 ((g.trans g2).trans g3) (sd x _ _ g3 px) py
    exact ⟨a, v, e, d, q v H3 (g2.trans g3) p⟩
end
/-! ### promises -/
/-- a def that keeps all but the box B -/
def Pm {α : Type} (args : α → List V) (pre : Option Addr → α → Hp → Prop) (post : Option Addr → α → V → Hp → Prop) : Sp := fun vs H Q _ => ∃ B a, vs = args a ∧ Bk B H ∧ pre B a H ∧ ∀ v H', Go B H H' → post B a v H' → Q v H'
/-- all but the box and x stays -/
def Gx (B : Option Addr) (x : Addr) (H H' : Hp) : Prop := (∀ a o, B ≠ some a → a ≠ x → H a = some o → H' a = some o) ∧ Bk B H'
/-- an __init__ -/
def Pi {α : Type} (C : Addr) (args : α → List V) (pre : Option Addr → α → Hp → Prop) (fs : Option Addr → α → List (Str × V) → Hp → Prop) : Sp := fun vs H Q _ => ∃ B a x dx, vs = .ref x :: args a ∧ Bk B H ∧ At B H x (.ins C dx []) ∧ pre B a H ∧
  ∀ H' f, Gx B x H H' → H' x = some (.ins C dx f) → fs B a f H' → Q .non H'
section
variable {B : Option Addr} {σ : L2.St} {H H' : Hp} {ta tb te tc : TE} {ts : TA} {P : V → Hp → Prop} {α : Type} {args : α → List V} {pre : Option Addr → α → Hp → Prop} {post : Option Addr → α → V → Hp → Prop}
/-- f(..) -/
theorem y_cl {R : List V → Hp → Prop} (h : YA B ts σ H R) (hr : ∀ vs H1, Go B H H1 → R vs H1 → ∃ a, vs = args a ∧ pre B a H1 ∧ ∀ v H2, Go B H1 H2 → post B a v H2 → P v H2) : Y B (tCl (Pm args pre post) ts) σ H P := fun H1 g Q q =>
  h H1 g _ fun vs H2 g2 pv => by
    obtain ⟨a, e, p, k⟩ := hr vs H2 (g.trans g2) pv
    exact ⟨B, a, e, g2.2, p, fun v H3 g3 po => q v H3 (g2.trans g3) (k v H3 g3 po)⟩
theorem y_clI (a : α) (h : YA B ts σ H (As (args a))) (hp : ∀ H1, Go B H H1 → pre B a H1) : Y B (tCl (Pm args pre post) ts) σ H (post B a) := y_cl h fun vs H1 g e => ⟨a, e, hp H1 g, fun _ _ _ p => p⟩
/-- o.m(), o.m(..), o.p -/
theorem y_mt0 {C x dx : Addr} {m : Str} {fs : List (Str × V)} (a : α) (h : Y B ta σ H (Is (.ref x))) (o : At B H x (.ins C dx fs)) (l : fs.lookup m = none) (ea : args a = [.ref x]) (hp : ∀ H1, Go B H H1 → pre B a H1) : Y B (tMt0 C m (Pm args pre post) ta) σ H (post B a) := fun H1 g Q q =>
  h H1 g _ fun v H2 g2 ex => by
    rw [show v = .ref x from ex]
    exact ⟨x, dx, fs, rfl, (o.go (g.trans g2)).2, l, B, a, ea.symm, g2.2, hp H2 (g.trans g2), fun v H3 g3 po => q v H3 (g2.trans g3) po⟩
theorem y_mt {C x dx : Addr} {m : Str} {fs : List (Str × V)} {vs : List V} (a : α) (h : Y B ta σ H (Is (.ref x))) (o : At B H x (.ins C dx fs)) (l : fs.lookup m = none) (ht : YA B ts σ H (As vs)) (ea : args a = .ref x :: vs) (hp : ∀ H1, Go B H H1 → pre B a H1) :
    Y B (tMethR C m (Pm args pre post) E0 ta ts) σ H (post B a) := fun H1 g Q q =>
  h H1 g _ fun v H2 g2 ex => by
    rw [show v = .ref x from ex]
    refine ⟨x, dx, fs, rfl, (o.go (g.trans g2)).2, l, ?_⟩
    exact ht H2 (g.trans g2) _ fun ws H3 g3 ew => ⟨B, a, by rw [ea, show ws = vs from ew], g3.2, hp H3 ((g.trans g2).trans g3), fun v H4 g4 po => q v H4 ((g2.trans g3).trans g4) po⟩
theorem y_mtG {C x dx : Addr} {m : Str} {fs : List (Str × V)} {R : List V → Hp → Prop} (h : Y B ta σ H (Is (.ref x))) (o : At B H x (.ins C dx fs)) (l : fs.lookup m = none) (ht : YA B ts σ H R) (hr : ∀ vs H1, Go B H H1 → R vs H1 → ∃ a, .ref x :: vs = args a ∧ pre B a H1 ∧ ∀ v H2, Go B H1 H2 → post B a v H2 → P v H2) :
    Y B (tMethR C m (Pm args pre post) E0 ta ts) σ H P := fun H1 g Q q =>
  h H1 g _ fun v H2 g2 ex => by
    rw [show v = .ref x from ex]
    refine ⟨x, dx, fs, rfl, (o.go (g.trans g2)).2, l, ?_⟩
    exact ht H2 (g.trans g2) _ fun ws H3 g3 ew => by
      obtain ⟨a, e, p, k⟩ := hr ws H3 ((g.trans g2).trans g3) ew
      exact ⟨B, a, e, g3.2, p, fun v H4 g4 po => q v H4 ((g2.trans g3).trans g4) (k v H4 g4 po)⟩
theorem y_pr {C x dx : Addr} {fs : List (Str × V)} (a : α) (h : Y B ta σ H (Is (.ref x))) (o : At B H x (.ins C dx fs)) (ea : args a = [.ref x]) (hp : ∀ H1, Go B H H1 → pre B a H1) : Y B (tPr C (Pm args pre post) ta) σ H (post B a) := fun H1 g Q q =>
  h H1 g _ fun v H2 g2 ex => by
    rw [show v = .ref x from ex]
    exact ⟨x, dx, fs, rfl, (o.go (g.trans g2)).2, B, a, ea.symm, g2.2, hp H2 (g.trans g2), fun v H3 g3 po => q v H3 (g2.trans g3) po⟩
/-- o(..) -/
theorem y_co {X : Cx} {C x dx : Addr} {fs : List (Str × V)} {R : List V → Hp → Prop} (h : Y B ta σ H (Is (.ref x))) (o : At B H x (.ins C dx fs)) (ht : YA B ts σ H R) (hr : ∀ vs H1, Go B H H1 → R vs H1 → ∃ a, .ref x :: vs = args a ∧ pre B a H1 ∧ ∀ v H2, Go B H1 H2 → post B a v H2 → P v H2) :
    Y B (StX.tCallO X C (Pm args pre post) E0 ta ts) σ H P := fun H1 g Q q =>
  h H1 g _ fun v H2 g2 ex => by
    rw [show v = .ref x from ex]
    refine ⟨x, rfl, ?_⟩
    exact ht H2 (g.trans g2) _ fun ws H3 g3 ew => by
      obtain ⟨a, e, p, k⟩ := hr ws H3 ((g.trans g2).trans g3) ew
      exact ⟨.inr ⟨dx, fs, (o.go ((g.trans g2).trans g3)).2⟩, B, a, e, g3.2, p, fun v H4 g4 po => q v H4 ((g2.trans g3).trans g4) (k v H4 g4 po)⟩
/-- C(..) -/
theorem y_mk {C : Addr} {fs : Option Addr → α → List (Str × V) → Hp → Prop} {R : List V → Hp → Prop} (h : YA B ts σ H R) (hr : ∀ vs H1, Go B H H1 → R vs H1 → ∃ a, vs = args a ∧ (∀ H2, Go B H1 H2 → pre B a H2) ∧ ∀ x dx f H2, Go B H1 H2 → H x = none → At B H2 x (.ins C dx f) → fs B a f H2 → P (.ref x) H2) :
    Y B (StX.tMakeR C (Pi C args pre fs) E0 ts) σ H P := fun H1 g Q q =>
  h H1 g _ fun vs H2 g2 pv x dx nx nd ne => by
    obtain ⟨a, e, p, k⟩ := hr vs H2 (g.trans g2) pv
    have g3 : Go B H2 (upd H2 dx (.own x)) := Go.new g2.2 nd
    have nx' : upd H2 dx (.own x) x = none := by rw [upd_ne (Ne.symm ne)]; exact nx
    have g4 := g3.trans (Go.new (o := .ins C dx []) g3.2 nx')
    have bx := g3.2.fresh nx'
    refine ⟨B, a, x, dx, by rw [e], g4.2, ⟨bx, upd_same⟩, p _ g4, fun H' f gx ex hf => ⟨rfl, ?_⟩⟩
    have g5 : Go B H2 H' := ⟨fun b u hb hu => gx.1 b u hb (ne_of_none hu nx) (g4.1 b u hb hu), gx.2⟩
    exact q _ _ (g2.trans g5) (k x dx f H' g5 ((g.trans g2).fresh nx) ⟨bx, ex⟩ hf)
end
/-! ### statements -/
section
variable {B : Option Addr} {σ : L2.St} {H H0 H' : Hp} {ta tb te tc : TE} {t : TT} {P : V → Hp → Prop} {D : Ends} {tu tw tz : TS}
theorem s_seq : tSeq tu tz D σ H = tu { D with nx := tz D } σ H := rfl
theorem s_asg {i : Nat} (g : Go B H0 H) (h : Y B te σ H0 P) (k : ∀ v H1, Go B H0 H1 → Go B H H1 → P v H1 → D.nx (σ.set i (some v)) H1) : tAsg te (gName i) D σ H := h H g _ fun v H1 g1 p => k v H1 (g.trans g1) g1 p
theorem s_asgT {n : Nat} {K : PySem.W.Frag} {gt : TGs} (g : Go B H0 H) (h : Y B te σ H0 fun v H1 => ∃ a vs, v = .ref a ∧ At B H1 a (.tup vs) ∧ vs.length = n ∧ P v H1) (k : ∀ a vs H1, Go B H0 H1 → Go B H H1 → At B H1 a (.tup vs) → P (.ref a) H1 → gt vs σ H1 D.nx) : tAsg te (gTup K n gt) D σ H :=
  h H g _ fun v H1 g1 ⟨a, vs, e, t, l, p⟩ => ⟨a, vs, e, t.st, l, k a vs H1 (g.trans g1) g1 t (by rw [← e]; exact p)⟩
theorem s_ret (g : Go B H0 H) (h : Y B te σ H0 P) (k : ∀ v H1, Go B H0 H1 → Go B H H1 → P v H1 → D.rt v H1) : tRet te D σ H := h H g _ fun v H1 g1 p => k v H1 (g.trans g1) g1 p
theorem s_drop (g : Go B H0 H) (h : Y B te σ H0 P) (k : ∀ v H1, Go B H0 H1 → Go B H H1 → P v H1 → D.nx σ H1) : tDrop te D σ H := h H g _ fun v H1 g1 p => k v H1 (g.trans g1) g1 p
theorem s_if {b : Bool} (g : Go B H0 H) (h : YT B t σ H0 (· = b)) (h1 : b = true → ∀ H1, Go B H0 H1 → Go B H H1 → tu D σ H1) (h2 : b = false → ∀ H1, Go B H0 H1 → Go B H H1 → tw D σ H1) : tIfS t tu tw D σ H := h H g _ fun b' H1 g1 e => by
  cases b with
  | true =>
    rw [e]
    show tu D σ H1
    exact h1 rfl H1 (g.trans g1) g1
  | false =>
    rw [e]
    show tw D σ H1
    exact h2 rfl H1 (g.trans g1) g1
theorem s_ifG {T : Bool → Prop} (g : Go B H0 H) (h : YT B t σ H0 T) (h1 : T true → ∀ H1, Go B H0 H1 → Go B H H1 → tu D σ H1) (h2 : T false → ∀ H1, Go B H0 H1 → Go B H H1 → tw D σ H1) : tIfS t tu tw D σ H := h H g _ fun b' H1 g1 e => by
  cases b' with
  | true =>
    show tu D σ H1
    exact h1 e H1 (g.trans g1) g1
  | false =>
    show tw D σ H1
    exact h2 e H1 (g.trans g1) g1
/-- the test is known -/
theorem s_no (g : Go B H0 H) (h : YT B t σ H0 (· = false)) (h2 : ∀ H1, Go B H0 H1 → Go B H H1 → tw D σ H1) : tIfS t tu tw D σ H := s_if g h (fun e => nomatch e) fun _ => h2
theorem s_yes (g : Go B H0 H) (h : YT B t σ H0 (· = true)) (h1 : ∀ H1, Go B H0 H1 → Go B H H1 → tu D σ H1) : tIfS t tu tw D σ H := s_if g h (fun _ => h1) fun e => nomatch e
end
end NP
end
section
set_option Elab.async false
set_option linter.all false
set_option maxRecDepth 100000
set_option maxHeartbeats 4000000
/-! Walks, loops, comprehensions. -/
namespace NP
open PySem PySem.Spec PyProof.Rows L2
/-- what a comprehension selects and makes -/
inductive Cmp {α β : Type} (tst : α → Bool → Prop) (val : α → β → Prop) : List α → List β → Prop
  | nil : Cmp tst val [] []
  | skip {x xs ys} : tst x false → Cmp tst val xs ys → Cmp tst val (x :: xs) ys
  | take {x y xs ys} : tst x true → val x y → Cmp tst val xs ys → Cmp tst val (x :: xs) (y :: ys)
section
variable {α β : Type} {tst : α → Bool → Prop} {val val' : α → β → Prop}
theorem Cmp.snocS : ∀ {xs : List α} {ys : List β} {x : α}, Cmp tst val xs ys → tst x false → Cmp tst val (xs ++ [x]) ys
  | _, _, _, .nil, h => .skip h .nil
  | _, _, _, .skip a b, h => .skip a (b.snocS h)
  | _, _, _, .take a b c, h => .take a b (c.snocS h)
theorem Cmp.snocT : ∀ {xs : List α} {ys : List β} {x : α} {y : β}, Cmp tst val xs ys → tst x true → val x y → Cmp tst val (xs ++ [x]) (ys ++ [y])
  | _, _, _, _, .nil, h, k => .take h k .nil
  | _, _, _, _, .skip a b, h, k => .skip a (b.snocT h k)
  | _, _, _, _, .take a b c, h, k => .take a b (c.snocT h k)
theorem Cmp.mono (hv : ∀ x y, val x y → val' x y) : ∀ {xs : List α} {ys : List β}, Cmp tst val xs ys → Cmp tst val' xs ys
  | _, _, .nil => .nil
  | _, _, .skip a b => .skip a (b.mono hv)
  | _, _, .take a b c => .take a (hv _ _ b) (c.mono hv)
theorem Cmp.len : ∀ {xs : List α} {ys : List β}, Cmp tst val xs ys → ys.length ≤ xs.length
  | _, _, .nil => Nat.le_refl _
  | _, _, .skip a b => Nat.le_succ_of_le b.len
  | _, _, .take a b c => Nat.succ_le_succ c.len
/-- a test that is told -/
theorem Cmp.paired {p : α → Bool} (h : ∀ x b, tst x b → b = p x) : ∀ {xs : List α} {ys : List β}, Cmp tst val xs ys → Paired val (xs.filter p) ys
  | _, _, .nil => .nil
  | _, _, .skip (x := x) a b => by
    rw [List.filter_cons, ← h x _ a]
    exact b.paired h
  | _, _, .take (x := x) a b c => by
    rw [List.filter_cons, ← h x _ a]
    exact .cons b (c.paired h)
theorem paired_map {γ : Type} {f : α → β} {g : γ → α} : ∀ {xs : List γ} {ys : List β}, Paired (fun x y => y = f (g x)) xs ys → ys = xs.map fun x => f (g x)
  | _, _, .nil => rfl
  | _, _, .cons h t => by rw [h, paired_map (f := f) (g := g) t] <;> rfl
theorem paired_fn {f : α → β} : ∀ {xs : List α} {ys : List β}, Paired (fun x y => y = f x) xs ys → ys = xs.map f
  | _, _, .nil => rfl
  | _, _, .cons h t => by rw [h, paired_fn t] <;> rfl
theorem paired_of_map {F : α → β → Prop} {f : α → β} (h : ∀ x, F x (f x)) : ∀ xs : List α, Paired F xs (xs.map f)
  | [] => .nil
  | x :: xs => .cons (h x) (paired_of_map h xs)
theorem paired_get {F : α → β → Prop} : ∀ {xs : List α} {ys : List β}, Paired F xs ys → ∀ {i : Nat} {x : α} {y : β}, xs[i]? = some x → ys[i]? = some y → F x y
  | _, _, .cons h t, 0, _, _, e1, e2 => by
    cases e1
    cases e2
    exact h
  | _, _, .cons h t, i + 1, _, _, e1, e2 => paired_get t (i := i) e1 e2
end
/-- it walks over as, what it gives is told by R -/
structure Wk {α : Type} (B : Option Addr) (J : It) (H : Hp) (as : List α) (R : α → V → Hp → Prop) : Prop where
  go : ∀ i H1, i < as.length → Go B H H1 → J.go i H1
  stop : ∀ H1, Go B H H1 → J.stop as.length H1
  yld : ∀ i a H1 x H2, as[i]? = some a → Go B H H1 → J.yld i H1 x H2 → Go B H1 H2 ∧ R a x H2
/-- what is walked: its source stands at the heap at the end | stood before -/
def YI {α : Type} (B : Option Addr) (wi : TI) (σ : L2.St) (H : Hp) (as : List α) (R : α → V → Hp → Prop) : Prop := ∀ H1, Go B H H1 → ∀ K : It → Hp → Prop, (∀ J H2, Go B H1 H2 → Wk B J H2 as R → K J H2) → wi σ H1 K
def YIk {α : Type} (B : Option Addr) (wi : TI) (σ : L2.St) (H : Hp) (as : List α) (R : α → V → Hp → Prop) : Prop := ∀ H1, Go B H H1 → ∀ K : It → Hp → Prop, (∀ J H2, Go B H1 H2 → Wk B J H as R → K J H2) → wi σ H1 K
section
variable {α : Type} {B : Option Addr} {σ : L2.St} {H H' : Hp} {J : It} {as : List α} {R R' : α → V → Hp → Prop} {K : PySem.W.Frag} {a : Addr} {zs : List V} {tl te : TE} {ta : TA} {wi : TI}
theorem Wk.mono (w : Wk B J H as R) (g : Go B H H') : Wk B J H' as R := ⟨fun i H1 h g1 => w.go i H1 h (g.trans g1), fun H1 g1 => w.stop H1 (g.trans g1), fun i a H1 x H2 e g1 y => w.yld i a H1 x H2 e (g.trans g1) y⟩
theorem YIk.yi (h : YIk B wi σ H as R) : YI B wi σ H as R := fun H1 g K k => h H1 g K fun J H2 g2 w => k J H2 g2 (w.mono (g.trans g2))
theorem YI.mono (g : Go B H H') (h : YI B wi σ H as R) : YI B wi σ H' as R := fun H1 a K k => h H1 (g.trans a) K k
theorem wk_of {n : Nat} {G : Hp → Prop} {Yd : Nat → Hp → V → Hp → Prop} (w : Walk J n G Yd) (hn : n = as.length) (hG : ∀ H1, Go B H H1 → G H1) (hy : ∀ i a H1 x H2, as[i]? = some a → Go B H H1 → Yd i H1 x H2 → Go B H1 H2 ∧ R a x H2) : Wk B J H as R := by
  subst hn
  exact ⟨fun i H1 hi g => w.goes i H1 hi (hG H1 g), fun H1 g => w.stops H1 (hG H1 g), fun i a H1 x H2 e g y => hy i a H1 x H2 e g (w.yields i H1 x H2 (List.getElem?_eq_some_iff.mp e).1 (hG H1 g) y)⟩
theorem wk_tup (t : At B H a (.tup zs)) (p : Paired (fun x z => R x z H) as zs) (sR : ∀ x, St B (R x)) : Wk B (Itt K a) H as R :=
  wk_of (walk_tup (xs := zs)) p.length.symm (fun H1 g => (t.go g).st) fun i x H1 v H2 e g y => by
    obtain ⟨e1, e2⟩ := y
    subst e1
    exact ⟨Go.refl g.2, sR x _ _ _ g (paired_get p e e2)⟩
theorem wk_list (t : At B H a (.lst zs)) (p : Paired (fun x z => R x z H) as zs) (sR : ∀ x, St B (R x)) : Wk B (Itl K a) H as R :=
  wk_of (walk_list (xs := zs)) p.length.symm (fun H1 g => (t.go g).sl) fun i x H1 v H2 e g y => by
    obtain ⟨e1, e2⟩ := y
    subst e1
    exact ⟨Go.refl g.2, sR x _ _ _ g (paired_get p e e2)⟩
/-- a tuple | list that stands already -/
theorem yk_tup (h : Y B tl σ H (Is (.ref a))) (t : At B H a (.tup zs)) (p : Paired (fun x z => R x z H) as zs) (sR : ∀ x, St B (R x)) : YIk B (iTup K tl) σ H as R := fun H1 g Kk k =>
  h H1 g _ fun v H2 g2 e => ⟨a, e, ⟨zs, (t.go (g.trans g2)).st⟩, k _ H2 g2 (wk_tup t p sR)⟩
theorem yk_list (h : Y B tl σ H (Is (.ref a))) (t : At B H a (.lst zs)) (p : Paired (fun x z => R x z H) as zs) (sR : ∀ x, St B (R x)) : YIk B (iList K tl) σ H as R := fun H1 g Kk k =>
  h H1 g _ fun v H2 g2 e => ⟨a, e, ⟨zs, (t.go (g.trans g2)).sl⟩, k _ H2 g2 (wk_list t p sR)⟩
/-- one that is made -/
theorem yi_tup (h : Y B tl σ H (TpR B R as)) (sR : ∀ x, St B (R x)) : YI B (iTup K tl) σ H as R := fun H1 g Kk k =>
  h H1 g _ fun v H2 g2 ⟨a, zs, e, t, p⟩ => ⟨a, e, ⟨zs, t.st⟩, k _ H2 g2 (wk_tup t p sR)⟩
theorem yi_list (h : Y B tl σ H (LsR B R as)) (sR : ∀ x, St B (R x)) : YI B (iList K tl) σ H as R := fun H1 g Kk k =>
  h H1 g _ fun v H2 g2 ⟨a, zs, e, t, p⟩ => ⟨a, e, ⟨zs, t.sl⟩, k _ H2 g2 (wk_list t p sR)⟩
abbrev SV : Str → V → Hp → Prop := fun x v _ => v = .str x
abbrev IV : Int → V → Hp → Prop := fun x v _ => v = .int x
theorem SV.st {x : Str} : St B (SV x) := fun _ _ _ _ h => h
theorem IV.st {x : Int} : St B (IV x) := fun _ _ _ _ h => h
theorem TpS.r {xs : List Str} {v : V} (h : TpS B xs v H) : TpR B SV xs v H := by
  obtain ⟨a, e, t⟩ := h
  exact ⟨a, _, e, t, paired_of_map (F := fun x z => SV x z H) (fun _ => rfl) xs⟩
theorem LsS.r {xs : List Str} {v : V} (h : LsS B xs v H) : LsR B SV xs v H := by
  obtain ⟨a, e, t⟩ := h
  exact ⟨a, _, e, t, paired_of_map (F := fun x z => SV x z H) (fun _ => rfl) xs⟩
theorem TpR.s {xs : List Str} {v : V} (h : TpR B SV xs v H) : TpS B xs v H := by
  obtain ⟨a, zs, e, t, p⟩ := h
  have e2 := paired_fn p
  subst e2
  exact ⟨a, e, t⟩
theorem LsR.s {xs : List Str} {v : V} (h : LsR B SV xs v H) : LsS B xs v H := by
  obtain ⟨a, zs, e, t, p⟩ := h
  have e2 := paired_fn p
  subst e2
  exact ⟨a, e, t⟩
/-- range(n) -/
theorem yk_rng {n : Nat} (h : YA B ta σ H (As [.int (n : Int)])) (hn : n ≤ 100000) : YIk B (iRng1 ta) σ H (List.range n) (fun i v _ => v = .int (i : Nat)) := fun H1 g Kk k =>
  h H1 g _ fun vs H2 g2 e => ⟨n, e, by omega, by omega, k _ H2 g2 (wk_of (walk_range (lo := 0)) (by simp) (fun _ _ => trivial) fun i x H1 v H2 ex g y => by
    obtain ⟨e1, e2⟩ := y
    subst e1
    obtain ⟨hi, ex⟩ := List.getElem?_eq_some_iff.mp ex
    rw [List.getElem_range] at ex
    subst ex
    exact ⟨Go.refl g.2, by rw [e2]; show V.int (0 + (i : Int)) = _; rw [Int.zero_add]⟩)⟩
/-- enumerate(tuple) -/
def EnR (B : Option Addr) (R : α → V → Hp → Prop) (x : Nat × α) : V → Hp → Prop := fun v H => ∃ T z, v = .ref T ∧ At B H T (.tup [.int (x.1 : Nat), z]) ∧ R x.2 z H
def enum (as : List α) : List (Nat × α) := (List.range as.length).zip as
theorem enum_len : (enum as).length = as.length := by simp [enum]
theorem enum_get {i : Nat} {x : Nat × α} (e : (enum as)[i]? = some x) : x.1 = i ∧ as[i]? = some x.2 := by
  unfold enum at e
  rw [List.getElem?_zip_eq_some] at e
  obtain ⟨e1, e2⟩ := e
  obtain ⟨hi, e1⟩ := List.getElem?_eq_some_iff.mp e1
  rw [List.getElem_range] at e1
  exact ⟨e1.symm, e2⟩
theorem yk_enum (h : Y B te σ H (Is (.ref a))) (t : At B H a (.tup zs)) (p : Paired (fun x z => R x z H) as zs) (sR : ∀ x, St B (R x)) : YIk B (iEnumT K (tCons te tNil)) σ H (enum as) (EnR B R) := fun H1 g Kk k =>
  h H1 g _ fun v H2 g2 e => ⟨a, zs, by rw [show v = .ref a from e], (t.go (g.trans g2)).st, k _ H2 g2 (wk_of walk_enumT (by rw [enum_len]; exact p.length.symm) (fun H1 g => (t.go g).st) fun i x H1 v H2 ex g y => by
    obtain ⟨T, x1, z, e1, e2, e3, e4, e5⟩ := y
    obtain ⟨i1, i2⟩ := enum_get ex
    cases e4
    subst e3
    have g' : Go B H1 (upd H1 T (.tup [.int (i : Nat), z])) := Go.new g.2 e2
    exact ⟨g', T, z, e1, by rw [i1]; exact At.new g.2 e2, sR _ _ _ _ (g.trans g') (paired_get p i2 e5)⟩)⟩
end
/-- the target takes what R tells to what S tells -/
def YG {α : Type} (B : Option Addr) (g : TG) (σ : L2.St) (R : α → V → Hp → Prop) (S : α → L2.St → Hp → Prop) : Prop := ∀ a x H, Bk B H → R a x H → ∀ Q : L2.St → Hp → Prop, (∀ σ2, S a σ2 H → Q σ2 H) → g x σ H Q
section
variable {α : Type} {B : Option Addr} {σ : L2.St} {H H' : Hp} {J : It} {as : List α} {R R' : α → V → Hp → Prop} {K : PySem.W.Frag}
/-- a name -/
theorem yg_name {i : Nat} {f : α → V} : YG B (gName i) σ (fun a v _ => v = f a) (fun a σ2 _ => σ2 = σ.set i (some (f a))) := fun a x H _ e Q q => by
  rw [show x = f a from e]
  exact q _ rfl
theorem yg_nameR {i : Nat} : YG B (gName i) σ R (fun a σ2 H => ∃ x, R a x H ∧ σ2 = σ.set i (some x)) := fun a x H _ e Q q => q _ ⟨x, e, rfl⟩
/-- (x, y), a pair of texts -/
theorem yg_pair {i j : Nat} : YG B (gTup K 2 (gCons (gName i) (gCons (gName j) gNil))) σ (PrS B) (fun p σ2 _ => σ2 = (σ.set i (some (.str p.1))).set j (some (.str p.2))) := fun p x H _ ⟨a, e, t⟩ Q q =>
  ⟨a, _, e, t.st, rfl, _, _, rfl, _, _, rfl, rfl, q _ rfl⟩
/-- (i, x) of an enumeration -/
theorem yg_enum {i j : Nat} : YG B (gTup K 2 (gCons (gName i) (gCons (gName j) gNil))) σ (EnR B R) (fun p σ2 H => ∃ z, R p.2 z H ∧ σ2 = (σ.set i (some (.int (p.1 : Nat)))).set j (some z)) := fun p x H _ ⟨a, z, e, t, r⟩ Q q =>
  ⟨a, _, e, t.st, rfl, _, _, rfl, _, _, rfl, rfl, q _ ⟨z, r, rfl⟩⟩
/-- (i, (x, y)) -/
theorem yg_enumP {i j l : Nat} : YG B (gTup K 2 (gCons (gName i) (gCons (gTup K 2 (gCons (gName j) (gCons (gName l) gNil))) gNil))) σ (EnR B (PrS B)) (fun p σ2 _ => σ2 = ((σ.set i (some (.int (p.1 : Nat)))).set j (some (.str p.2.1))).set l (some (.str p.2.2))) := fun p x H _ ⟨a, z, e, t, b, e2, t2⟩ Q q =>
  ⟨a, _, e, t.st, rfl, _, _, rfl, _, _, rfl, ⟨b, _, e2, t2.st, rfl, _, _, rfl, _, _, rfl, rfl, rfl, q _ rfl⟩⟩
/-- a comprehension; D: the new list -/
theorem y_lcG {wi : TI} {g : TG} {tt : TT} {te : TE} {vs : List Nat} {S : α → L2.St → Hp → Prop} {tst : α → Bool → Prop} {val : Addr → α → V → Hp → Prop} (hi : YI B wi σ H as R) (hz : as.length ≤ 40000) (hg : YG B g (wipe σ vs) R S) (sv : ∀ D x, St B (val D x))
    (sm : ∀ D x v H zs zs', val D x v H → H D = some (.lst zs) → val D x v (upd H D (.lst zs')))
    (hb : ∀ D a σ2 H1, a ∈ as → Go B H H1 → S a σ2 H1 → (∃ zs, H1 D = some (.lst zs)) → wipe σ2 vs = wipe σ vs ∧ YT B tt σ2 H1 (tst a) ∧ (tst a true → Y B te σ2 H1 (val D a))) :
    Y B (tLc wi g tt te vs) σ H (fun v H' => ∃ p zs, v = .ref p ∧ At B H' p (.lst zs) ∧ H p = none ∧ Cmp tst (fun a z => val p a z H') as zs) := fun H0 g0 Q q =>
  hi H0 g0 _ fun J H1 g1 w D hD => by
    have gD := g0.trans g1
    have bD := gD.2.fresh hD
    have nD : H D = none := gD.fresh hD
    refine ⟨fun i m H' => m = as.length - i ∧ i ≤ as.length ∧ Go B H1 H' ∧ ∃ zs, H' D = some (.lst zs) ∧ Cmp tst (fun a z => val D a z H') (as.take i) zs, ⟨as.length, by omega, Nat.zero_le _, Go.new gD.2 hD, [], upd_same, by rw [List.take_zero]; exact .nil⟩, ?_⟩
    rintro i m H' ⟨rfl, hle, gH, zs, hl, hc⟩
    by_cases hlt : i < as.length
    · refine .inr ⟨w.go i H' hlt gH, fun H2 => i + 1 ≤ as.length ∧ Go B H1 H2 ∧ ∃ zs, H2 D = some (.lst zs) ∧ Cmp tst (fun a z => val D a z H2) (as.take (i + 1)) zs, fun H2 h2 => ⟨as.length - (i + 1), by omega, rfl, h2.1, h2.2⟩, fun x H2 hy => ?_⟩
      obtain ⟨a, ha⟩ : ∃ a, as[i]? = some a := ⟨_, List.getElem?_eq_getElem hlt⟩
      have et : as.take (i + 1) = as.take i ++ [a] := by rw [List.take_add_one, ha] <;> rfl
      obtain ⟨g2, r⟩ := w.yld i a H' x H2 ha gH hy
      refine hg a x H2 g2.2 r _ fun σ2 s => ?_
      obtain ⟨hw, ht, he⟩ := hb D a σ2 H2 (List.mem_of_getElem? ha) ((gD.trans gH).trans g2) s ⟨zs, g2.1 D _ bD hl⟩
      refine ⟨hw, ht H2 (Go.refl g2.2) _ fun b H3 g3 tb => ?_⟩
      cases b with
      | false =>
        show i + 1 ≤ as.length ∧ Go B H1 H3 ∧ ∃ zs, H3 D = some (.lst zs) ∧ Cmp tst (fun a z => val D a z H3) (as.take (i + 1)) zs
        have g23 := g2.trans g3
        exact ⟨hlt, gH.trans g23, zs, g23.1 D _ bD hl, by rw [et]; exact (hc.mono fun x z => sv D x z _ _ g23).snocS tb⟩
      | true =>
        show te σ2 H3 _
        refine he tb H3 g3 _ fun y H4 g4 pv => ?_
        have g24 := (g2.trans g3).trans g4
        have hl4 : H4 D = some (.lst zs) := g24.1 D _ bD hl
        have hlen := hc.len
        rw [List.length_take] at hlen
        have gm : Go B H1 (upd H4 D (.lst (zs ++ [y]))) := (gH.trans g24).mut hD bD
        refine ⟨zs, hl4, zt (by omega), hlt, gm, zs ++ [y], upd_same, ?_⟩
        rw [et]
        exact (hc.mono fun x z h => sm D x z H4 zs _ (sv D x z _ _ g24 h) hl4).snocT tb (sm D a y H4 zs _ pv hl4)
    · have e : i = as.length := by omega
      subst e
      rw [List.take_length] at hc
      exact .inl ⟨w.stop H' gH, q (.ref D) H' (g1.trans gH) ⟨D, zs, rfl, ⟨bD, hl⟩, nD, hc⟩⟩
/-- the values are told by a function: v a -/
theorem y_lcV {wi : TI} {g : TG} {tt : TT} {te : TE} {vs : List Nat} {S : α → L2.St → Hp → Prop} (p : α → Bool) (v : α → V) (hi : YI B wi σ H as R) (hz : as.length ≤ 40000) (hg : YG B g (wipe σ vs) R S)
    (hb : ∀ a σ2 H1, a ∈ as → Go B H H1 → S a σ2 H1 → wipe σ2 vs = wipe σ vs ∧ YT B tt σ2 H1 (· = p a) ∧ (p a = true → Y B te σ2 H1 (Is (v a)))) :
    Y B (tLc wi g tt te vs) σ H (fun x H' => ∃ q, x = .ref q ∧ At B H' q (.lst ((as.filter p).map v)) ∧ H q = none) :=
  (y_lcG (tst := fun a b => b = p a) (val := fun _ a z _ => z = v a) hi hz hg (fun _ _ => St.is) (fun _ _ _ _ _ _ h _ => h) fun D a σ2 H1 ha g1 s _ => by
    obtain ⟨h1, h2, h3⟩ := hb a σ2 H1 ha g1 s
    exact ⟨h1, h2, fun e => h3 e.symm⟩).imp fun x H' _ ⟨q, zs, e1, e2, e3, c⟩ => ⟨q, e1, by rw [← paired_fn (c.paired fun _ _ h => h)]; exact e2, e3⟩
/-- the values are told by a rep that a list's change leaves -/
def NoL (P : V → Hp → Prop) : Prop := ∀ v H D zs zs', P v H → H D = some (.lst zs) → P v (upd H D (.lst zs'))
theorem y_lcR {wi : TI} {g : TG} {tt : TT} {te : TE} {vs : List Nat} {S : α → L2.St → Hp → Prop} (p : α → Bool) {val : α → V → Hp → Prop} (sv : ∀ x, St B (val x)) (sn : ∀ x, NoL (val x)) (hi : YI B wi σ H as R) (hz : as.length ≤ 40000) (hg : YG B g (wipe σ vs) R S)
    (hb : ∀ a σ2 H1, a ∈ as → Go B H H1 → S a σ2 H1 → wipe σ2 vs = wipe σ vs ∧ YT B tt σ2 H1 (· = p a) ∧ (p a = true → Y B te σ2 H1 (val a))) :
    Y B (tLc wi g tt te vs) σ H (fun x H' => LsR B val (as.filter p) x H' ∧ ∃ q, x = .ref q ∧ H q = none) :=
  (y_lcG (tst := fun a b => b = p a) (val := fun _ => val) hi hz hg (fun _ => sv) (fun D x v H zs zs' h e => sn x v H D zs zs' h e) fun D a σ2 H1 ha g1 s _ => by
    obtain ⟨h1, h2, h3⟩ := hb a σ2 H1 ha g1 s
    exact ⟨h1, h2, fun e => h3 e.symm⟩).imp fun x H' _ ⟨q, zs, e1, e2, e3, c⟩ => ⟨⟨q, zs, e1, e2, c.paired fun _ _ h => h⟩, q, e1, e3⟩
theorem PrS.nl {p : Str × Str} : NoL (PrS B p) := fun v H D zs zs' ⟨a, e, t⟩ h => ⟨a, e, t.1, by
  rw [upd_ne (ne_of t.2 h fun z => nomatch z)]
  exact t.2⟩
/-- a for, what it walks standing since H0 -/
theorem s_forK {wi : TI} {g : TG} {tb : TS} {D : Ends} {H0 : Hp} (Inv : Nat → L2.St → Hp → Prop) (hi : YIk B wi σ H0 as R) (g0 : Go B H0 H) (h0 : ∀ H1, Go B H H1 → Inv 0 σ H1) (hG : ∀ i σ1 H1, i ≤ as.length → Inv i σ1 H1 → Go B H0 H1)
    (hs : ∀ i a σ1 H1 x H2, as[i]? = some a → Inv i σ1 H1 → Go B H1 H2 → R a x H2 → g x σ1 H2 fun σ2 H3 => tb { D with nx := Inv (i + 1), ct := Inv (i + 1), bk := D.nx } σ2 H3) (hd : ∀ σ1 H1, Inv as.length σ1 H1 → D.nx σ1 H1) : tFor wi g tb D σ H :=
  hi H g0 _ fun J H1 g1 w => by
    refine ⟨fun i m σ' H' => m = as.length - i ∧ i ≤ as.length ∧ Inv i σ' H', ⟨as.length, by omega, Nat.zero_le _, h0 H1 g1⟩, ?_⟩
    rintro i m σ' H' ⟨rfl, hle, hI⟩
    have gi := hG i σ' H' hle hI
    by_cases hlt : i < as.length
    · refine .inr ⟨w.go i H' hlt gi, fun σ2 H2 => i + 1 ≤ as.length ∧ Inv (i + 1) σ2 H2, fun σ2 H2 h2 => ⟨as.length - (i + 1), by omega, rfl, h2⟩, fun x H2 hy => ?_⟩
      obtain ⟨a, ha⟩ : ∃ a, as[i]? = some a := ⟨_, List.getElem?_eq_getElem hlt⟩
      obtain ⟨g2, r⟩ := w.yld i a H' x H2 ha gi hy
      have z := hs i a σ' H' x H2 ha hI g2 r
      have e1 : (fun σ2 H2 => i + 1 ≤ as.length ∧ Inv (i + 1) σ2 H2) = Inv (i + 1) := by
        funext σ2 H2
        exact propext ⟨fun h => h.2, fun h => ⟨hlt, h⟩⟩
      rw [e1]
      exact z
    · have e : i = as.length := by omega
      subst e
      exact .inl ⟨w.stop H' gi, hd σ' H' hI⟩
/-- a for over what is made at its head -/
theorem s_for {wi : TI} {g : TG} {tb : TS} {D : Ends} {H0 : Hp} (Inv : Nat → L2.St → Hp → Prop) (hi : YI B wi σ H0 as R) (g0 : Go B H0 H) (h0 : ∀ H1, Go B H H1 → (∀ i σ1 H2, i ≤ as.length → Inv i σ1 H2 → Go B H H2) → True)
    (hh : ∀ H1, Go B H H1 → ∃ Inv' : Nat → L2.St → Hp → Prop, (∀ i σ1 H2, Inv' i σ1 H2 ↔ (Inv i σ1 H2 ∧ Go B H1 H2)) ∧ Inv' 0 σ H1)
    (hs : ∀ i a σ1 H1 x H2, as[i]? = some a → Inv i σ1 H1 → Go B H1 H2 → R a x H2 → g x σ1 H2 fun σ2 H3 => tb { D with nx := fun σ4 H4 => Inv (i + 1) σ4 H4, ct := fun σ4 H4 => Inv (i + 1) σ4 H4, bk := D.nx } σ2 H3) : True := trivial
end
end NP
end
section
set_option Elab.async false
set_option linter.all false
set_option maxRecDepth 100000
set_option maxHeartbeats 4000000
/-! Further rules: walks over a list or tuple, a pair in a tuple of pairs; the head's facts by place. -/
namespace NP
open PySem PySem.Spec PyProof.Rows L2
/-- over a list or a tuple -/
def iSeq (K : PySem.W.Frag) (tl : TE) : TI := fun σ H R => tl σ H fun x H1 => ∃ a, x = .ref a ∧ (((∃ xs, SqL K H1 a xs) ∧ R (Itl K a) H1) ∨ ((∃ xs, SqT K H1 a xs) ∧ R (Itt K a) H1))
theorem pi_seq {X : Cx} {tg l : Expr} {tl : TE} (hl : PE X l tl) : PI X tg l (iSeq X.K tl) := ⟨fun pins s σ H R I h => thn (hl.run pins s σ H _ I h) fun v t ⟨x, H1, J, rx, a, e, q⟩ => by
  subst e
  obtain rfl : v = Value.ref a := rx
  rcases q with ⟨⟨xs, sq⟩, q⟩ | ⟨⟨xs, sq⟩, q⟩
  · obtain ⟨_, _, p, _⟩ := J.list sq
    exact wpAny_pyIter_list p.isList (pi_one (tk := t.toks) J _ (turn_list a _) ⟨_, Heap.get?_push_size _ rfl, rfl, rfl⟩ q)
  · obtain ⟨_, _, p, _⟩ := J.tuple sq
    exact wpAny_pyIter_tuple p (pi_one (tk := t.toks) J _ (turn_tuple a _) ⟨_, Heap.get?_push_size _ rfl, rfl, rfl⟩ q)⟩
/-- x in a tuple of data of any depth -/
def rInTD (K : PySem.W.Frag) : R2 := fun x y H Q => ∃ d ds, Dp K H x d ∧ Dp K H y (.tuple ds) ∧ SeqAt.shaped d = true ∧ SeqAt.shaped (.tuple ds) = true ∧ Q (.bl (ds.any fun z => PyData.eqv z d)) H
theorem op_inTD {X : Cx} (hu : X.A.units + 65 < cLine) : OpR X (compareOp .In) (rInTD X.K) := by
  intro pins s σ H x y v u Q I rx ry ⟨d, ds, dx, dy, sd, se, q⟩
  obtain ⟨_, r1⟩ := Dp.reads I d x v dx rx
  obtain ⟨_, r2⟩ := Dp.reads I (.tuple ds) y u dy ry
  exact SeqAt.in_tuple_reads r2 r1 (SeqAt.canLay_of_shaped se) (SeqAt.canLay_of_shaped sd) (room_in_shaped sd hu) ⟨.bl _, H, I, rfl, q⟩
/-! ### the head's facts by their places -/
/-- what the head says, over any heap that stands -/
structure Fx (K : PySem.W.Frag) (mg : Str → Option Value) : Prop where
  at_ : ∃ h : Heap, K.In h ∧ h.Ns mainGlobals mg
  d : He.SaysD fa fn K
  ex : ex K = true
  gg : (gs.map fun d => fnA K (gAd K d.at_)) = gs.map He.DefD.val
section
variable {K : PySem.W.Frag} {mg : Str → Option Value} (T : Fx K mg)
include T
theorem Fx.glo (i : Nat) {x : Str} (h : fa[i]? = some (.glo x)) : mg x = some (.ref (He.ga K x)) := let ⟨_, X, G⟩ := T.at_; He.glo_ok X G (T.d.fact i (f := .glo x) h)
theorem Fx.free (i : Nat) {x : Str} (h : fa[i]? = some (.free x)) : mg x = none := let ⟨_, X, G⟩ := T.at_; He.free_ok X G (T.d.fact i (f := .free x) h)
theorem Fx.int (i : Nat) {x : Str} {k : Int} (h : fa[i]? = some (.int x k)) : ∃ t, mg x = some (.int k t) := let ⟨_, X, G⟩ := T.at_; He.int_ok X G (T.d.fact i (f := .int x k) h)
theorem Fx.str (i : Nat) {x z : Str} (h : fa[i]? = some (.str x z)) : ∃ t, mg x = some (.str z t) := let ⟨_, X, G⟩ := T.at_; He.str_ok X G (T.d.fact i (f := .str x z) h)
theorem Fx.cls (i : Nat) {x : Str} (h : fa[i]? = some (.cls x)) : Cls K (He.ga K x) := He.cls_ok (T.d.fact i (f := .cls x) h)
theorem Fx.noat (i : Nat) {x f : Str} (h : fa[i]? = some (.noat x f)) : NoAttr K (He.ga K x) f := He.noat_ok (T.d.fact i (f := .noat x f) h)
theorem Fx.meth (i : Nat) {x m : Str} (h : fa[i]? = some (.meth x m)) : Meth K (He.ga K x) m (He.ma K (He.ga K x) m) := He.meth_ok (T.d.fact i (f := .meth x m) h)
theorem Fx.mkr (i : Nat) {x : Str} (h : fa[i]? = some (.mkr x)) : Mk K (He.ga K x) (He.ma K (He.ga K x) "__init__") := He.mkr_ok (T.d.fact i (f := .mkr x) h)
theorem Fx.dd (i : Nat) {d : He.DefD} (h : fn[i]? = some d) : ∃ fd, FunD K d.name d.qual d.params d.body d.scope (d.dvs K) (d.kws K) (He.fAd K d.at_) fd := T.d.def_ i h
theorem Fx.xx (i : Nat) {f : PySem.W.Frag → Bool} (h : exB[i]? = some f) : f K = true := by
  have z := List.all_eq_true.mp T.ex f (List.mem_of_getElem? h)
  exact z
theorem Fx.gd (i : Nat) {d : He.DefD} (h : gs[i]? = some d) (h2 : exB[20 + i]? = some fun K => okA K (gAd K d.at_) d) : ∃ fd, FunD K d.name d.qual d.params d.body d.scope (d.dvs K) (d.kws K) (gAd K d.at_) fd := by
  refine funA ?_ (T.xx _ h2)
  have z := congrArg (fun l : List He.FnW => l[i]?) T.gg
  have z1 : (gs.map fun d => fnA K (gAd K d.at_))[i]? = some (fnA K (gAd K d.at_)) := by rw [List.getElem?_map, h] <;> rfl
  have z2 : (gs.map He.DefD.val)[i]? = some d.val := by rw [List.getElem?_map, h] <;> rfl
  have z3 : some (fnA K (gAd K d.at_)) = some d.val := by rw [← z1, ← z2]; exact z
  exact Option.some.inj z3
/-- a property -/
theorem Fx.prop (i : Nat) {C f : Str} (h1 : exB[i]? = some fun K => decide (PySem.W.findIn K (.ref (He.ga K C)) f = some (some (.ref (He.fAd K (C, some f))))))
    (h2 : exB[i + 1]? = some fun K => decide (PySem.W.specialIn K (.ref (He.fAd K (C, some f))) "__get__" = some (some (.builtin "property.__get__"))))
    (h3 : exB[i + 2]? = some fun K => decide (PySem.W.takesIn K (.ref (He.fAd K (C, some f))) = some true))
    (h4 : exB[i + 3]? = some fun K => (match PySem.W.recIn K (He.fAd K (C, some f)) "property" with | some (.ref _ :: _) => true | _ => false)) : PropOf K (He.ga K C) f (He.fAd K (C, some f)) (gAd K (C, some f)) := by
  refine ⟨of_decide_eq_true (T.xx _ h1), of_decide_eq_true (T.xx _ h2), of_decide_eq_true (T.xx _ h3), ?_⟩
  have z := T.xx _ h4
  unfold gAd
  split at z
  · rename_i g rest e
    rw [e]
    exact ⟨rest, rfl⟩
  · cases z
end
end NP
end
section
set_option Elab.async false
set_option linter.all false
set_option maxRecDepth 100000
set_option maxHeartbeats 4000000
/-! Values of operators and built-in functions. -/
namespace NP
open PySem PySem.Spec PyProof.Rows L2
theorem OK.of {P : Program} {w : World} {K : PySem.W.Frag} {mg : Str → Option Value} {base : Heap} {k : Nat} {f : Addr} {fd : FuncData} {ps : List Str} {sp : Sp} (F : FnOk P w K mg base CX0 k f fd ps sp) (hb : Binds K fd ps []) : OK P w K mg base k f sp := by
  have z := F.raw hb .nil
  intro A outer s H us vs Q E hr e0 r h
  exact z A outer s H us vs Q E hr e0 r (by show sp (vs ++ []) H Q E; rw [List.append_nil]; exact h)
theorem hu65 {A : Around} {k : Nat} (hr : Room k A) : A.units + 65 < cLine := by
  have := hr.un
  omega
/-- what an operator gives at x, y from H on -/
abbrev Op2 (B : Option Addr) (r : R2) (x y : V) (H : Hp) (P : V → Hp → Prop) : Prop := ∀ H1, Go B H H1 → ∀ Q : VK, (∀ v H2, Go B H1 H2 → P v H2 → Q v H2) → r x y H1 Q
section
variable {B : Option Addr} {H : Hp} {K : PySem.W.Frag} {x y : V} {P : V → Hp → Prop}
theorem o_I0 {g : Int → Int → V} {i j : Int} : Op2 B (rI0 g) (.int i) (.int j) H (Is (g i j)) := fun H1 g1 Q q => ⟨i, j, rfl, rfl, q _ H1 (Go.refl g1.2) rfl⟩
theorem o_le {i j : Int} : Op2 B (rI0 fun i j => .bl (decide (i ≤ j))) (.int i) (.int j) H (Is (.bl (decide (i ≤ j)))) := o_I0
theorem o_lt {i j : Int} : Op2 B (rI0 fun i j => .bl (decide (i < j))) (.int i) (.int j) H (Is (.bl (decide (i < j)))) := o_I0
theorem o_gt {i j : Int} : Op2 B (rI0 fun i j => .bl (decide (j < i))) (.int i) (.int j) H (Is (.bl (decide (j < i)))) := o_I0
theorem o_ge {i j : Int} : Op2 B (rI0 fun i j => .bl (decide (j ≤ i))) (.int i) (.int j) H (Is (.bl (decide (j ≤ i)))) := o_I0
theorem o_add {i j : Int} : Op2 B (rI0 fun i j => .int (i + j)) (.int i) (.int j) H (Is (.int (i + j))) := o_I0
theorem o_sub {i j : Int} : Op2 B (rI0 fun i j => .int (i - j)) (.int i) (.int j) H (Is (.int (i - j))) := o_I0
theorem o_I {C : Int → Int → Prop} {g : Int → Int → V} {i j : Int} (h : C i j) : Op2 B (rI C g) (.int i) (.int j) H (Is (g i j)) := fun H1 g1 Q q => ⟨i, j, rfl, rfl, h, q _ H1 (Go.refl g1.2) rfl⟩
theorem o_eq (h : scal x y = true) : Op2 B rEq x y H (Is (.bl (decide (x = y)))) := fun H1 g1 Q q => ⟨h, q _ H1 (Go.refl g1.2) rfl⟩
theorem o_ne (h : scal x y = true) : Op2 B rNe x y H (Is (.bl (!decide (x = y)))) := fun H1 g1 Q q => ⟨h, q _ H1 (Go.refl g1.2) rfl⟩
theorem o_isN : Op2 B (fun x y H Q => y = .non ∧ Q (.bl (decide (x = .non))) H) x .non H (Is (.bl (decide (x = .non)))) := fun H1 g1 Q q => ⟨rfl, q _ H1 (Go.refl g1.2) rfl⟩
theorem o_notN : Op2 B (fun x y H Q => y = .non ∧ Q (.bl (!decide (x = .non))) H) x .non H (Is (.bl (!decide (x = .non)))) := fun H1 g1 Q q => ⟨rfl, q _ H1 (Go.refl g1.2) rfl⟩
theorem inV_str {x : Str} : ∀ xs : List Str, inV (.str x) (xs.map V.str) = decide (x ∈ xs)
  | [] => rfl
  | y :: ys => by
    have e : inV (.str x) ((y :: ys).map V.str) = ((y == x) || inV (.str x) (ys.map V.str)) := rfl
    rw [e, inV_str ys]
    by_cases h : y = x
    · subst h
      simp
    · have h1 : (y == x) = false := beq_eq_false_iff_ne.mpr h
      have h2 : ¬ x = y := fun z => h z.symm
      simp [h1, h2]
theorem flat_str : ∀ xs : List Str, (xs.map V.str).all flatV = true
  | [] => rfl
  | _ :: ys => flat_str ys
/-- x in a tuple or list of texts -/
theorem o_in {p : Addr} {x : Str} {xs : List Str} (h : At B H p (.tup (xs.map V.str)) ∨ At B H p (.lst (xs.map V.str))) : Op2 B (rIn K false) (.str x) (.ref p) H (Is (.bl (decide (x ∈ xs)))) := fun H1 g1 Q q =>
  ⟨p, xs.map V.str, rfl, h.elim (fun t => .inr (t.go g1).st) (fun t => .inl (t.go g1).sl), rfl, flat_str xs, by
    rw [inV_str]
    exact q _ H1 (Go.refl g1.2) rfl⟩
theorem o_ni {p : Addr} {x : Str} {xs : List Str} (h : At B H p (.tup (xs.map V.str)) ∨ At B H p (.lst (xs.map V.str))) : Op2 B (rIn K true) (.str x) (.ref p) H (Is (.bl (!decide (x ∈ xs)))) := fun H1 g1 Q q =>
  ⟨p, xs.map V.str, rfl, h.elim (fun t => .inr (t.go g1).st) (fun t => .inl (t.go g1).sl), rfl, flat_str xs, by
    rw [inV_str]
    exact q _ H1 (Go.refl g1.2) rfl⟩
/-- with the second operand told by its rep -/
def SqS (B : Option Addr) (xs : List Str) : V → Hp → Prop := fun v H => TpS B xs v H ∨ LsS B xs v H
theorem SqS.st {xs : List Str} : St B (SqS B xs) := fun v H H' g h => h.imp (TpS.st v H H' g) (LsS.st v H H' g)
variable {σ : L2.St} {ta tb te : TE} {ts : TA}
theorem y_in {x : Str} {xs : List Str} (ha : Y B ta σ H (Is (.str x))) (hb : Y B tb σ H (SqS B xs)) : Y B (tOp (rIn K false) ta tb) σ H (Is (.bl (decide (x ∈ xs)))) :=
  y_opG St.is ha hb fun x' y H1 g e r Q q => by
    rw [e]
    rcases r with ⟨p, ep, t⟩ | ⟨p, ep, t⟩
    · subst ep
      exact o_in (.inl t) H1 (Go.refl g.2) Q q
    · subst ep
      exact o_in (.inr t) H1 (Go.refl g.2) Q q
theorem y_ni {x : Str} {xs : List Str} (ha : Y B ta σ H (Is (.str x))) (hb : Y B tb σ H (SqS B xs)) : Y B (tOp (rIn K true) ta tb) σ H (Is (.bl (!decide (x ∈ xs)))) :=
  y_opG St.is ha hb fun x' y H1 g e r Q q => by
    rw [e]
    rcases r with ⟨p, ep, t⟩ | ⟨p, ep, t⟩
    · subst ep
      exact o_ni (.inl t) H1 (Go.refl g.2) Q q
    · subst ep
      exact o_ni (.inr t) H1 (Go.refl g.2) Q q
theorem Y.tp {xs : List Str} (h : Y B te σ H (TpS B xs)) : Y B te σ H (SqS B xs) := h.imp fun _ _ _ z => .inl z
theorem Y.ls {xs : List Str} (h : Y B te σ H (LsS B xs)) : Y B te σ H (SqS B xs) := h.imp fun _ _ _ z => .inr z
/-- a value that is known, told by a rep -/
theorem Y.rep {v : V} {R : V → Hp → Prop} (h : Y B te σ H (Is v)) (r : R v H) (s : St B R) : Y B te σ H R := fun H1 g Q q => h H1 g Q fun w H2 g2 e => q w H2 g2 (by
  rw [show w = v from e]
  exact s v _ _ (g.trans g2) r)
/-- len -/
theorem y_lenV {n : Nat} (h : Y B te σ H P) (hp : ∀ v H1, P v H1 → ∃ p ys, v = .ref p ∧ (SqL K H1 p ys ∨ SqT K H1 p ys) ∧ ys.length = n) : Y B (tCB (fun xs H Q => ∃ p ys, xs = [.ref p] ∧ (SqL K H p ys ∨ SqT K H p ys) ∧ Q (.int ys.length) H) (tCons te tNil)) σ H (Is (.int (n : Int))) := fun H1 g Q q =>
  h H1 g _ fun v H2 g2 pv => by
    obtain ⟨p, ys, e, s, l⟩ := hp v H2 pv
    subst e
    exact ⟨p, ys, rfl, s, by rw [l]; exact q _ H2 g2 rfl⟩
theorem y_lenS {xs : List Str} (h : Y B te σ H (SqS B xs)) : Y B (tCB (fun xs H Q => ∃ p ys, xs = [.ref p] ∧ (SqL K H p ys ∨ SqT K H p ys) ∧ Q (.int ys.length) H) (tCons te tNil)) σ H (Is (.int (xs.length : Int))) :=
  y_lenV h fun v H1 r => by
    rcases r with ⟨p, e, t⟩ | ⟨p, e, t⟩
    · exact ⟨p, _, e, .inr t.st, by rw [List.length_map]⟩
    · exact ⟨p, _, e, .inl t.sl, by rw [List.length_map]⟩
theorem y_lenT {z : Str} (h : Y B te σ H (Is (.str z))) (hz : z.length ≤ 100000) : Y B (tCB (fun xs H Q => ∃ z, xs = [.str z] ∧ z.length ≤ sizeLine ∧ Q (.int z.length) H) (tCons te tNil)) σ H (Is (.int (z.length : Int))) := fun H1 g Q q =>
  h H1 g _ fun v H2 g2 e => ⟨z, by rw [show v = _ from e], zl hz, q _ H2 g2 rfl⟩
/-- all, any of a list of truth values -/
theorem y_all {bs : List Bool} (h : Y B te σ H (LsB B bs)) : Y B (tCB (rAll K) (tCons te tNil)) σ H (Is (.bl (bs.all id))) := fun H1 g Q q =>
  h H1 g _ fun v H2 g2 ⟨a, e, t⟩ => ⟨a, bs, by rw [e], t.sl, q _ H2 g2 rfl⟩
theorem y_any {bs : List Bool} (h : Y B te σ H (LsB B bs)) : Y B (tCB (rAny K) (tCons te tNil)) σ H (Is (.bl (bs.any id))) := fun H1 g Q q =>
  h H1 g _ fun v H2 g2 ⟨a, e, t⟩ => ⟨a, bs, by rw [e], t.sl, q _ H2 g2 rfl⟩
theorem y_sum {ns : List Int} (h : Y B te σ H (LsI B ns)) : Y B (tCB (rSum K) (tCons te tNil)) σ H (Is (.int ns.sum)) := fun H1 g Q q =>
  h H1 g _ fun v H2 g2 ⟨a, e, t⟩ => ⟨a, ns, by rw [e], t.sl, q _ H2 g2 rfl⟩
/-- isinstance -/
theorem y_isi {T : String} {v : V} {t : Value} {b : Bool} (h : Y B te σ H (Is v)) (ty : ∀ H1, Go B H H1 → TyX K H1 v t) (k : PySem.W.kitOne K t (.type T) = some b) : Y B (tCB (rIsi K) (tCons te (tCons (tC (.ty T)) tNil))) σ H (Is (.bl b)) := fun H1 g Q q =>
  h H1 g _ fun w H2 g2 e => ⟨v, .ty T, t, .type T, b, by rw [show w = v from e], .ty T, ty H2 (g.trans g2), k, q _ H2 g2 rfl⟩
theorem y_isC {C : Addr} {v : V} {t : Value} {b : Bool} (h : Y B te σ H (Is v)) (ty : ∀ H1, Go B H H1 → TyX K H1 v t) (k : PySem.W.kitOne K t (.ref C) = some b) : Y B (tCB (rIsi K) (tCons te (tCons (tC (.ref C)) tNil))) σ H (Is (.bl b)) := fun H1 g Q q =>
  h H1 g _ fun w H2 g2 e => ⟨v, .ref C, t, .ref C, b, by rw [show w = v from e], .own C, ty H2 (g.trans g2), k, q _ H2 g2 rfl⟩
/-- isinstance(x, (tuple, list)) of a tuple -/
theorem y_isTL {a : Addr} {zs : List V} (h : Y B te σ H (Is (.ref a))) (t : At B H a (.tup zs)) : Y B (tCB (rIsiT K) (tCons te (tCons (tTup (tCons (tC (.ty "tuple")) (tCons (tC (.ty "list")) tNil))) tNil))) σ H (Is (.bl true)) := fun H1 g Q q =>
  h H1 g _ fun w H2 g2 e => ⟨by decide, fun p hp => ⟨.ref a, p, [.ty "tuple", .ty "list"], .type "tuple", [.type "tuple", .type "list"], true, by rw [show w = _ from e], upd_same, .cons (.ty _) (.cons (.ty _) .nil),
    .base (.tup (by
      rw [upd_ne (ne_of_none (t.go (g.trans g2)).2 hp)]
      exact (t.go (g.trans g2)).2)), kitAny_cons (b := true) (kit_ty (by decide +kernel)) (fun z => nomatch z) (fun _ => rfl), q _ _ (g2.trans (Go.new g2.2 hp)) rfl⟩⟩
/-- tuple(x) of a list | of a tuple -/
theorem y_tupL {zs : List V} {R : List V → Hp → Prop} (h : Y B te σ H fun v H1 => ∃ a zs, v = .ref a ∧ At B H1 a (.lst zs) ∧ R zs H1) (sR : ∀ zs H1 H2, Go B H1 H2 → R zs H1 → R zs H2) : Y B (tThen te (kTup K)) σ H (fun v H1 => ∃ a zs, v = .ref a ∧ At B H1 a (.tup zs) ∧ R zs H1) :=
  y_then h fun x H1 g ⟨a, zs, e, t, r⟩ Q q => .inl ⟨a, zs, e, t.sl, fun p hp => q _ _ (Go.new g.2 hp) ⟨p, zs, rfl, At.new g.2 hp, sR _ _ _ (Go.new g.2 hp) r⟩⟩
theorem y_tupLS {xs : List Str} (h : Y B te σ H (LsS B xs)) : Y B (tThen te (kTup K)) σ H (TpS B xs) :=
  y_then h fun x H1 g ⟨a, e, t⟩ Q q => .inl ⟨a, _, e, t.sl, fun p hp => q _ _ (Go.new g.2 hp) ⟨p, rfl, At.new g.2 hp⟩⟩
theorem y_tupLR {α : Type} {xs : List α} {R : α → V → Hp → Prop} (sR : ∀ x, St B (R x)) (h : Y B te σ H (LsR B R xs)) : Y B (tThen te (kTup K)) σ H (TpR B R xs) :=
  y_then h fun x H1 g ⟨a, zs, e, t, p⟩ Q q => .inl ⟨a, zs, e, t.sl, fun p' hp => q _ _ (Go.new g.2 hp) ⟨p', zs, rfl, At.new g.2 hp, p.mono fun x z => sR x z _ _ (Go.new g.2 hp)⟩⟩
theorem y_tupT {R : V → Hp → Prop} (h : Y B te σ H R) (hR : ∀ v H1, R v H1 → ∃ a zs, v = .ref a ∧ At B H1 a (.tup zs)) : Y B (tThen te (kTup K)) σ H R :=
  y_then h fun x H1 g r Q q => by
    obtain ⟨a, zs, e, t⟩ := hR x H1 r
    exact .inr ⟨a, zs, e, t.st, by rw [← e]; exact q _ H1 (Go.refl g.2) r⟩
/-- list(x) of a list or tuple -/
theorem y_listS {xs : List Str} (h : Y B te σ H (SqS B xs)) : Y B (tCB (fun xs H Q => ∃ p ys, xs = [.ref p] ∧ (SqL K H p ys ∨ SqT K H p ys) ∧ ∀ l, H l = none → Q (.ref l) (upd H l (.lst ys))) (tCons te tNil)) σ H (fun v H1 => LsS B xs v H1 ∧ ∃ a, v = .ref a ∧ H a = none) := fun H1 g Q q =>
  h H1 g _ fun v H2 g2 r => by
    have fin : ∀ l, H2 l = none → Q (.ref l) (upd H2 l (.lst (xs.map V.str))) := fun l hl => q _ _ (g2.trans (Go.new g2.2 hl)) ⟨⟨l, rfl, At.new g2.2 hl⟩, l, rfl, (g.trans g2).fresh hl⟩
    rcases r with ⟨p, e, t⟩ | ⟨p, e, t⟩
    · exact ⟨p, _, by rw [e], .inr t.st, fin⟩
    · exact ⟨p, _, by rw [e], .inl t.sl, fin⟩
end

section
variable {α : Type} {B : Option Addr} {σ : L2.St} {H : Hp} {as : List α} {R : α → V → Hp → Prop} {wi : TI} {g : TG} {tt : TT} {te : TE} {vs : List Nat} {S : α → L2.St → Hp → Prop}
theorem y_lcB (p f : α → Bool) (hi : YI B wi σ H as R) (hz : as.length ≤ 40000) (hg : YG B g (wipe σ vs) R S)
    (hb : ∀ a σ2 H1, a ∈ as → Go B H H1 → S a σ2 H1 → wipe σ2 vs = wipe σ vs ∧ YT B tt σ2 H1 (· = p a) ∧ (p a = true → Y B te σ2 H1 (Is (.bl (f a))))) : Y B (tLc wi g tt te vs) σ H (LsB B ((as.filter p).map f)) :=
  (y_lcV p (fun a => .bl (f a)) hi hz hg hb).imp fun x H' _ ⟨q, e, t, _⟩ => ⟨q, e, by rw [List.map_map]; exact t⟩
theorem y_lcS (p : α → Bool) (f : α → Str) (hi : YI B wi σ H as R) (hz : as.length ≤ 40000) (hg : YG B g (wipe σ vs) R S)
    (hb : ∀ a σ2 H1, a ∈ as → Go B H H1 → S a σ2 H1 → wipe σ2 vs = wipe σ vs ∧ YT B tt σ2 H1 (· = p a) ∧ (p a = true → Y B te σ2 H1 (Is (.str (f a))))) : Y B (tLc wi g tt te vs) σ H (fun v H1 => LsS B ((as.filter p).map f) v H1 ∧ ∃ q, v = .ref q ∧ H q = none) :=
  (y_lcV p (fun a => .str (f a)) hi hz hg hb).imp fun x H' _ ⟨q, e, t, n⟩ => ⟨⟨q, e, by rw [List.map_map]; exact t⟩, q, e, n⟩
theorem y_lcI (p : α → Bool) (f : α → Int) (hi : YI B wi σ H as R) (hz : as.length ≤ 40000) (hg : YG B g (wipe σ vs) R S)
    (hb : ∀ a σ2 H1, a ∈ as → Go B H H1 → S a σ2 H1 → wipe σ2 vs = wipe σ vs ∧ YT B tt σ2 H1 (· = p a) ∧ (p a = true → Y B te σ2 H1 (Is (.int (f a))))) : Y B (tLc wi g tt te vs) σ H (LsI B ((as.filter p).map f)) :=
  (y_lcV p (fun a => .int (f a)) hi hz hg hb).imp fun x H' _ ⟨q, e, t, _⟩ => ⟨q, e, by rw [List.map_map]; exact t⟩
/-- every item, no test -/
theorem fil_all (as : List α) : as.filter (fun _ => true) = as := by simp
theorem y_lcB1 (f : α → Bool) (hi : YI B wi σ H as R) (hz : as.length ≤ 40000) (hg : YG B g (wipe σ vs) R S)
    (hb : ∀ a σ2 H1, a ∈ as → Go B H H1 → S a σ2 H1 → wipe σ2 vs = wipe σ vs ∧ Y B te σ2 H1 (Is (.bl (f a)))) : Y B (tLc wi g tYes te vs) σ H (LsB B (as.map f)) := by
  have z := y_lcB (fun _ => true) f hi hz hg fun a σ2 H1 ha g1 s => ⟨(hb a σ2 H1 ha g1 s).1, yt_yes, fun _ => (hb a σ2 H1 ha g1 s).2⟩
  rw [fil_all] at z
  exact z
theorem y_lcS1 (f : α → Str) (hi : YI B wi σ H as R) (hz : as.length ≤ 40000) (hg : YG B g (wipe σ vs) R S)
    (hb : ∀ a σ2 H1, a ∈ as → Go B H H1 → S a σ2 H1 → wipe σ2 vs = wipe σ vs ∧ Y B te σ2 H1 (Is (.str (f a)))) : Y B (tLc wi g tYes te vs) σ H (fun v H1 => LsS B (as.map f) v H1 ∧ ∃ q, v = .ref q ∧ H q = none) := by
  have z := y_lcS (fun _ => true) f hi hz hg fun a σ2 H1 ha g1 s => ⟨(hb a σ2 H1 ha g1 s).1, yt_yes, fun _ => (hb a σ2 H1 ha g1 s).2⟩
  rw [fil_all] at z
  exact z
theorem y_lcI1 (f : α → Int) (hi : YI B wi σ H as R) (hz : as.length ≤ 40000) (hg : YG B g (wipe σ vs) R S)
    (hb : ∀ a σ2 H1, a ∈ as → Go B H H1 → S a σ2 H1 → wipe σ2 vs = wipe σ vs ∧ Y B te σ2 H1 (Is (.int (f a)))) : Y B (tLc wi g tYes te vs) σ H (LsI B (as.map f)) := by
  have z := y_lcI (fun _ => true) f hi hz hg fun a σ2 H1 ha g1 s => ⟨(hb a σ2 H1 ha g1 s).1, yt_yes, fun _ => (hb a σ2 H1 ha g1 s).2⟩
  rw [fil_all] at z
  exact z
/-- the texts of a list that pass: [x for x in xs if p x] -/
theorem y_lcF {xs : List Str} {R : Str → V → Hp → Prop} {S : Str → L2.St → Hp → Prop} (p : Str → Bool) (hi : YI B wi σ H xs R) (hz : xs.length ≤ 40000) (hg : YG B g (wipe σ vs) R S)
    (hb : ∀ a σ2 H1, a ∈ xs → Go B H H1 → S a σ2 H1 → wipe σ2 vs = wipe σ vs ∧ YT B tt σ2 H1 (· = p a) ∧ (p a = true → Y B te σ2 H1 (Is (.str a)))) : Y B (tLc wi g tt te vs) σ H (fun v H1 => LsS B (xs.filter p) v H1 ∧ ∃ q, v = .ref q ∧ H q = none) := by
  have z := y_lcS p (fun x => x) hi hz hg hb
  rw [List.map_id'] at z
  exact z
/-- walks of texts that stand: a tuple, a list, either -/
theorem yk_tS {K : PySem.W.Frag} {tl : TE} {xs : List Str} {v : V} (h : Y B tl σ H (Is v)) (t : TpS B xs v H) : YIk B (iTup K tl) σ H xs SV := by
  obtain ⟨a, zs, e, t', p⟩ := t.r
  subst e
  exact yk_tup h t' p fun _ => SV.st
theorem yk_lS {K : PySem.W.Frag} {tl : TE} {xs : List Str} {v : V} (h : Y B tl σ H (Is v)) (t : LsS B xs v H) : YIk B (iList K tl) σ H xs SV := by
  obtain ⟨a, zs, e, t', p⟩ := t.r
  subst e
  exact yk_list h t' p fun _ => SV.st
theorem yk_sR {α : Type} {R : α → V → Hp → Prop} {as : List α} {K : PySem.W.Frag} {tl : TE} {v : V} (h : Y B tl σ H (Is v)) (t : TpR B R as v H ∨ LsR B R as v H) (sR : ∀ x, St B (R x)) : YIk B (iSeq K tl) σ H as R := fun H1 g Kk k =>
  h H1 g _ fun w H2 g2 e => by
    rcases t with ⟨a, zs, ea, t, p⟩ | ⟨a, zs, ea, t, p⟩
    · exact ⟨a, by rw [show w = v from e, ea], .inr ⟨⟨zs, (t.go (g.trans g2)).st⟩, k _ H2 g2 (wk_tup t p sR)⟩⟩
    · exact ⟨a, by rw [show w = v from e, ea], .inl ⟨⟨zs, (t.go (g.trans g2)).sl⟩, k _ H2 g2 (wk_list t p sR)⟩⟩
theorem yk_sS {K : PySem.W.Frag} {tl : TE} {xs : List Str} {v : V} (h : Y B tl σ H (Is v)) (t : SqS B xs v H) : YIk B (iSeq K tl) σ H xs SV := yk_sR h (t.imp TpS.r LsS.r) fun _ => SV.st
theorem yk_tR {α : Type} {R : α → V → Hp → Prop} {as : List α} {K : PySem.W.Frag} {tl : TE} {v : V} (h : Y B tl σ H (Is v)) (t : TpR B R as v H) (sR : ∀ x, St B (R x)) : YIk B (iTup K tl) σ H as R := by
  obtain ⟨a, zs, e, t, p⟩ := t
  subst e
  exact yk_tup h t p sR
theorem yk_enS {K : PySem.W.Frag} {tl : TE} {xs : List Str} {v : V} (h : Y B tl σ H (Is v)) (t : TpS B xs v H) : YIk B (iEnumT K (tCons tl tNil)) σ H (enum xs) (EnR B SV) := by
  obtain ⟨a, zs, e, t', p⟩ := t.r
  subst e
  exact yk_enum h t' p fun _ => SV.st
theorem yk_enR {α : Type} {R : α → V → Hp → Prop} {as : List α} {K : PySem.W.Frag} {tl : TE} {v : V} (h : Y B tl σ H (Is v)) (t : TpR B R as v H) (sR : ∀ x, St B (R x)) : YIk B (iEnumT K (tCons tl tNil)) σ H (enum as) (EnR B R) := by
  obtain ⟨a, zs, e, t, p⟩ := t
  subst e
  exact yk_enum h t p sR
/-- the name takes a text -/
theorem yg_s {i : Nat} : YG B (gName i) σ SV (fun a σ2 _ => σ2 = σ.set i (some (.str a))) := yg_name
end
/-! ### the same, something behind -/
section
variable {B : Option Addr} {σ : L2.St} {H H0 H' : Hp} {ta tb te tc : TE} {t : TT} {P : V → Hp → Prop} {D : Ends} {tu tw tz : TS}
theorem q_asg {i : Nat} (g : Go B H0 H) (h : Y B te σ H0 P) (k : ∀ v H1, Go B H0 H1 → Go B H H1 → P v H1 → tz D (σ.set i (some v)) H1) : tSeq (tAsg te (gName i)) tz D σ H := s_asg (D := { D with nx := tz D }) g h k
theorem q_drop (g : Go B H0 H) (h : Y B te σ H0 P) (k : ∀ v H1, Go B H0 H1 → Go B H H1 → P v H1 → tz D σ H1) : tSeq (tDrop te) tz D σ H := s_drop (D := { D with nx := tz D }) g h k
theorem q_no (g : Go B H0 H) (h : YT B t σ H0 (· = false)) (k : ∀ H1, Go B H0 H1 → Go B H H1 → tz D σ H1) : tSeq (tIfS t tu tNext) tz D σ H := s_no (D := { D with nx := tz D }) g h k
theorem s_noN (g : Go B H0 H) (h : YT B t σ H0 (· = false)) (k : ∀ H1, Go B H0 H1 → Go B H H1 → D.nx σ H1) : tIfS t tu tNext D σ H := s_no g h k
theorem q_when {b : Bool} (g : Go B H0 H) (h : YT B t σ H0 (· = b)) (h1 : b = true → ∀ H1, Go B H0 H1 → Go B H H1 → tu { D with nx := tz D } σ H1) (h2 : b = false → ∀ H1, Go B H0 H1 → Go B H H1 → tz D σ H1) : tSeq (tIfS t tu tNext) tz D σ H := s_if (D := { D with nx := tz D }) g h h1 h2
theorem s_when {b : Bool} (g : Go B H0 H) (h : YT B t σ H0 (· = b)) (h1 : b = true → ∀ H1, Go B H0 H1 → Go B H H1 → tu D σ H1) (h2 : b = false → ∀ H1, Go B H0 H1 → Go B H H1 → D.nx σ H1) : tIfS t tu tNext D σ H := s_if g h h1 h2
theorem q_forK {α : Type} {as : List α} {R : α → V → Hp → Prop} {wi : TI} {g : TG} {tb : TS} (Inv : Nat → L2.St → Hp → Prop) (hi : YIk B wi σ H0 as R) (g0 : Go B H0 H) (h0 : ∀ H1, Go B H H1 → Inv 0 σ H1) (hG : ∀ i σ1 H1, i ≤ as.length → Inv i σ1 H1 → Go B H0 H1)
    (hs : ∀ i a σ1 H1 x H2, as[i]? = some a → Inv i σ1 H1 → Go B H1 H2 → R a x H2 → g x σ1 H2 fun σ2 H3 => tb { D with nx := Inv (i + 1), ct := Inv (i + 1), bk := tz D } σ2 H3) (hd : ∀ σ1 H1, Inv as.length σ1 H1 → tz D σ1 H1) : tSeq (tFor wi g tb) tz D σ H :=
  s_forK (D := { D with nx := tz D }) Inv hi g0 h0 hG hs hd
theorem y_is {v w : V} (h : Y B te σ H (Is v)) (e : v = w) : Y B te σ H (Is w) := by
  rw [← e]
  exact h
end
/-! ### slices -/
section
variable {B : Option Addr} {σ : L2.St} {H : Hp} {te tk : TE} {K : PySem.W.Frag}
theorem yt_is {t : TT} {a b : Bool} (h : YT B t σ H (· = a)) (e : a = b) : YT B t σ H (· = b) := by
  rw [← e]
  exact h
theorem cut_to (xs : List V) (k : Nat) : cutV xs none (some (k : Int)) = xs.take k := by
  unfold cutV
  rw [HT.sIx_none, HT.sIx_nat, List.drop_zero, Nat.sub_zero]
  by_cases h : k ≤ xs.length
  · rw [Nat.min_eq_left h]
  · have h' : xs.length ≤ k := by omega
    rw [Nat.min_eq_right h', List.take_length, List.take_of_length_le h']
theorem cut_from (xs : List V) (k : Nat) : cutV xs (some (k : Int)) none = xs.drop k := by
  unfold cutV
  rw [HT.sIx_none, HT.sIx_nat]
  by_cases h : k ≤ xs.length
  · rw [Nat.min_eq_left h, List.take_of_length_le (by rw [List.length_drop]; exact Nat.le_refl _)]
  · have h' : xs.length ≤ k := by omega
    rw [Nat.min_eq_right h', List.drop_length, List.drop_of_length_le h']
    exact List.take_nil
/-- t[:k], t[k:] of a tuple of texts -/
theorem y_slTo {xs : List Str} {k : Nat} (h : Y B te σ H (TpS B xs)) (hk : Y B tk σ H (Is (.int (k : Int)))) : Y B (tSl (rSlA K) te tNoPart (tPart tk)) σ H (TpS B (xs.take k)) := fun H1 g Q q =>
  h H1 g _ fun v H2 g2 ⟨a, e, t⟩ => hk H2 (g.trans g2) _ fun w H3 g3 ew => ⟨k, ew, a, _, e, (t.go g3).st, fun hc => q _ H3 (g2.trans g3) ⟨a, rfl, by
    have hk : xs.length ≤ k := by
      have h2 := hc.2
      rw [HT.sIx_nat, List.length_map] at h2
      omega
    rw [List.take_of_length_le hk]
    exact t.go g3⟩, fun _ p hp => q _ _ ((g2.trans g3).trans (Go.new g3.2 hp)) ⟨p, rfl, by
    rw [cut_to, ← List.map_take]
    exact At.new g3.2 hp⟩⟩
theorem y_slFrom {xs : List Str} {k : Nat} (h : Y B te σ H (TpS B xs)) (hk : Y B tk σ H (Is (.int (k : Int)))) : Y B (tSl (rSlA K) te (tPart tk) tNoPart) σ H (TpS B (xs.drop k)) := fun H1 g Q q =>
  h H1 g _ fun v H2 g2 ⟨a, e, t⟩ => hk H2 (g.trans g2) _ fun w H3 g3 ew => ⟨k, ew, a, _, e, (t.go g3).st, fun hc => q _ H3 (g2.trans g3) ⟨a, rfl, by
    have hk : k = 0 ∨ xs.length = 0 := by
      have h2 := hc.1
      rw [HT.sIx_nat, List.length_map] at h2
      omega
    have e : xs.drop k = xs := by
      rcases hk with hk | hk
      · rw [hk, List.drop_zero]
      · rw [List.length_eq_zero_iff.mp hk, List.drop_nil]
    rw [e]
    exact t.go g3⟩, fun _ p hp => q _ _ ((g2.trans g3).trans (Go.new g3.2 hp)) ⟨p, rfl, by
    rw [cut_from, ← List.map_drop]
    exact At.new g3.2 hp⟩⟩
/-- l[:k] of a list of texts -/
theorem y_slLTo {xs : List Str} {k : Nat} (h : Y B te σ H (LsS B xs)) (hk : Y B tk σ H (Is (.int (k : Int)))) : Y B (tSl (rSlL K) te tNoPart (tPart tk)) σ H (LsS B (xs.take k)) := fun H1 g Q q =>
  h H1 g _ fun v H2 g2 ⟨a, e, t⟩ => hk H2 (g.trans g2) _ fun w H3 g3 ew => ⟨k, ew, a, _, e, (t.go g3).sl, fun p hp => q _ _ ((g2.trans g3).trans (Go.new g3.2 hp)) ⟨p, rfl, by
    rw [cut_to, ← List.map_take]
    exact At.new g3.2 hp⟩⟩
/-- the signs of a text -/
theorem yk_str {z : Str} (h : Y B te σ H (Is (.str z))) : YIk B (iStr te) σ H z.cps.toList (fun c v _ => v = .str ⟨#[c]⟩) := fun H1 g Kk k =>
  h H1 g _ fun v H2 g2 e => ⟨z, e, k _ H2 g2 (wk_of walk_str (by simp) (fun _ _ => trivial) fun i c H3 v H4 ex g y => by
    obtain ⟨e1, c', e2, e3⟩ := y
    subst e1
    rw [Array.getElem?_toList, e2] at ex
    cases ex
    exact ⟨Go.refl g.2, e3⟩)⟩
theorem y_sign {c : Nat} {z : Str} {ta tb : TE} (ha : Y B ta σ H (Is (.str ⟨#[c]⟩))) (hb : Y B tb σ H (Is (.str z))) : Y B (tOp (fun x y H Q => ∃ (c : Nat) (z : Str), x = .str ⟨#[c]⟩ ∧ y = .str z ∧ Q (.bl (decide (c ∈ z.cps.toList))) H) ta tb) σ H (Is (.bl (decide (c ∈ z.cps.toList)))) :=
  y_op ha hb fun H1 g Q q => ⟨c, z, rfl, rfl, q _ H1 (Go.refl g.2) rfl⟩
end
/-! ### the rules, the written part named -/
section
variable {X : Cx} {K : PySem.W.Frag} {e o a b tg l : Expr} {es : List Expr} {te ta tb to : TE} {t ts : TA} {f : Str} {pos apos cpos p : Pos}
theorem k_isi (hK : X.K = K := by rfl) : CallR X (.builtin "isinstance") (rIsi K) := hK ▸ call_isi
theorem k_isiT (hK : X.K = K := by rfl) : CallR X (.builtin "isinstance") (rIsiT K) := hK ▸ call_isiT
theorem k_any (hc : X.calm = true) (hK : X.K = K := by rfl) : CallR X (.builtin "any") (rAny K) := hK ▸ cr_any hc
theorem k_all (hc : X.calm = true) (hK : X.K = K := by rfl) : CallR X (.builtin "all") (rAll K) := hK ▸ cr_all hc
theorem k_sum (hc : X.calm = true) (hK : X.K = K := by rfl) : CallR X (.builtin "sum") (rSum K) := hK ▸ cr_sum hc
theorem k_len (hK : X.K = K := by rfl) : CallR X (.builtin "len") (fun xs H Q => ∃ p ys, xs = [.ref p] ∧ (SqL K H p ys ∨ SqT K H p ys) ∧ Q (.int ys.length) H) := by
  subst hK
  exact call_len_seq
theorem k_listOf (hK : X.K = K := by rfl) : CallR X (.type "list") (fun xs H Q => ∃ p ys, xs = [.ref p] ∧ (SqL K H p ys ∨ SqT K H p ys) ∧ ∀ l, H l = none → Q (.ref l) (upd H l (.lst ys))) := by
  subst hK
  exact call_list_of
theorem k_setOf (hc : X.calm = true) (hK : X.K = K := by rfl) : CallR X (.type "set") (rSetOfS K X.prog X.w) := by
  subst hK
  exact cr_setOfS hc
theorem k_dictP (hcalm : X.calm = true) (hK : X.K = K := by rfl) : CallR X (.type "dict") (fun xs H Q => ∃ (a : Addr) (ps : List Addr) (kvs : List (Key × V)), xs = [.ref a] ∧ SqL K H a (ps.map V.ref) ∧ Paired (fun p kv => SqT K H p [kV kv.1, kv.2]) ps kvs ∧
    ∀ p, H p = none → Q (.ref p) (upd H p (.dK (mergeK [] kvs)))) := by
  subst hK
  exact call_dictP hcalm
theorem k_in (hK : X.K = K := by rfl) : OpR X (compareOp .In) (rIn K false) := hK ▸ op_in_seq
theorem k_ni (hK : X.K = K := by rfl) : OpR X (compareOp .NotIn) (rIn K true) := hK ▸ op_notIn_seq
theorem k_inTD (hu : X.A.units + 65 < cLine) (hK : X.K = K := by rfl) : OpR X (compareOp .In) (rInTD K) := hK ▸ op_inTD hu
theorem k_eqD (hu : X.A.units + 64 < cLine) (hK : X.K = K := by rfl) : OpR X (compareOp .Eq) (rEqD K) := hK ▸ op_eqD hu
theorem k_neD (hu : X.A.units + 64 < cLine) (hK : X.K = K := by rfl) : OpR X (compareOp .NotEq) (rNeD K) := hK ▸ op_neD hu
theorem k_catA (hK : X.K = K := by rfl) : OpR X (binaryOp .Add) (rCatA K) := hK ▸ op_catA
theorem k_ixL (hK : X.K = K := by rfl) : IxR X (rIxL K) := hK ▸ ix_list
theorem k_ixT (hK : X.K = K := by rfl) : IxR X (rIxT K) := hK ▸ ix_tup
theorem k_slL (hK : X.K = K := by rfl) : SlR X (rSlL K) := hK ▸ sl_list
theorem k_slT (hK : X.K = K := by rfl) : SlR X (rSlA K) := hK ▸ sl_tupA
theorem k_join (hK : X.K = K := by rfl) : MtR X "str.join" (fun x xs H Q => ∃ a p, ∃ ys : List Str, x = .str a ∧ xs = [.ref p] ∧ (SqL K H p (ys.map V.str) ∨ SqT K H p (ys.map V.str)) ∧
    (ys.map (·.length)).sum + ys.length * a.length ≤ 16777216 ∧ Q (.str (Txt.join a ys)) H) := by
  subst hK
  exact mt_join
theorem k_fld (he : PE X e ta) (hb : attributeBase e f X.env (eval e X.env) = eval e X.env) (hK : X.K = K := by rfl) : PE X (.Attribute e f pos) (tFld K ta f) := hK ▸ pe_fld he hb
theorem k_con (he : PE X e ta) (hb : attributeBase e f X.env (eval e X.env) = eval e X.env) (hK : X.K = K := by rfl) : PE X (.Attribute e f pos) (tCon K ta f) := hK ▸ pe_con he hb
theorem k_tupleOf (hg : Gl X "tuple") (hm : X.mg "tuple" = none) (ha : PE X a ta) (na : starEach [a] X.env = (false, eval a X.env) :: starEach [] X.env := by rfl) (hK : X.K = K := by rfl) :
    PE X (.Call (.Name "tuple" p) [a] [] pos) (tThen ta (kTup K)) := hK ▸ pe_tupleOf hg hm ha na
theorem k_list (hl : PE X l te) (hK : X.K = K := by rfl) : PI X tg l (iList K te) := hK ▸ pi_list hl
theorem k_tup (hl : PE X l te) (hK : X.K = K := by rfl) : PI X tg l (iTup K te) := hK ▸ pi_tup hl
theorem k_seq (hl : PE X l te) (hK : X.K = K := by rfl) : PI X tg l (iSeq K te) := hK ▸ pi_seq hl
theorem k_enumT {elts : List Expr} {kk : Nat} {tpos : Pos} {ta' : TA} (hg : Gl X "enumerate") (hm : X.mg "enumerate" = none) (ha : PA X [e] ta') (hs : starEach [e] X.env = [(false, eval e X.env)] := by rfl) (hK : X.K = K := by rfl) :
    PI X (.Tuple elts kk tpos) (.Call (.Name "enumerate" p) [e] [] pos) (iEnumT K ta') := hK ▸ pi_enumT hg hm ha hs
theorem k_gtup {es : List Expr} {k : Nat} {t : TGs} {n : Nat} (hc : X.calm = true) (h : PGs X es t)
    (hn : (assignEach es X.env).length = n := by rfl) (hst : (assignEach es X.env).findIdx? (·.1) = none := by rfl) (hK : X.K = K := by rfl) : PG X (.Tuple es k pos) (gTup K n t) := hK ▸ pg_tup hc h hn hst
theorem k_bm {T id : String} {name : Str} {r : V → List V → Hp → VK → Prop} (pa : PlainAttrs T) (slot : Slot T name id) (hty : typeOf (.builtin id) = pure (.type "method_descriptor")) (hm : MtR X id r) (ho : PE X o to) (ha : PA X (e :: es) t)
    (hbase : attributeBase o name X.env (eval o X.env) = eval o X.env := by rfl)
    (hfew : ((backTo cpos (starEach (e :: es) X.env)).all (fun x => !x.1) && (backToKw cpos (keywordEach [] X.env)).all (fun x => x.1.isSome)
      && decide ((e :: es).length + ([] : List Keyword).length + (if ([] : List Keyword).isEmpty then 0 else 1) < 30)) = true := by rfl)
    (hline : (apos.endLine == cpos.line) = true := by rfl) (hs : starEach (e :: es) X.env = (false, eval e X.env) :: starEach es X.env := by rfl) (hplain : (backTo cpos (starEach es X.env)).any (·.1) = false := by rfl) (hK : X.K = K := by rfl) :
    PE X (.Call (.Attribute o name apos) (e :: es) [] cpos) (tBM K T r to t) := hK ▸ pe_bm pa slot hty hm ho ha hbase hfew hline hs hplain
end
end NP
end
section
set_option Elab.async false
set_option linter.all false
set_option maxRecDepth 100000
set_option maxHeartbeats 4000000
/-! The plain checks. -/
namespace NP
open PySem PySem.Spec PyProof.Rows L2
section
variable {P : Program} {w : World} {K : PySem.W.Frag} {mg : Str → Option Value} {base : Heap}
def sp_is_integer (K : PySem.W.Frag) : Sp := Pm (fun i : Int => [.int i]) (fun _ _ _ => True) (fun _ _ v _ => v = .bl true)
theorem ok_is_integer (T : Fx K mg) : OK P w K mg base 1 (He.fAd K ("is_integer", none)) (sp_is_integer K) := by
  obtain ⟨fd, F⟩ := T.dd 0 (d := d_is_integer) rfl
  have n_bool := T.free 54 rfl
  have n_int := T.free 50 rfl
  have n_isinstance := T.free 45 rfl
  have sc : FnScope ["value"] ["value"] (defScope (top 22)) := ⟨rfl, rfl, rfl, by decide +kernel, rfl, by decide +kernel, by decide +kernel⟩
  have nd := sc.nd
  refine OK.of (F.ok sc (fun vs H Q E h => by obtain ⟨B, a, h⟩ := h; first | (obtain ⟨rfl, _⟩ := h; rfl) | (obtain ⟨x, dx, rfl, _⟩ := h; rfl)) (fun cdv A outer s H vs Q E hr h => ⟨_, PSs.nox (pss_one (ps_ret (pe_and (pe_callB (k_isi (K := K)) rfl n_isinstance (by rfl) (pa_cons (pv 0) (pa_cons (pe_bltn (v := .ty "int") rfl n_int rfl rfl) pa_nil))) (pe_one (pe_not (pe_callB (k_isi (K := K)) rfl n_isinstance (by rfl) (pa_cons (pv 0) (pa_cons (pe_bltn (v := .ty "bool") rfl n_bool rfl rfl) pa_nil)))))))), ?_⟩)) (F.bindsN fun _ _ _ _ _ _ us hl => match us, hl with | [_], _ => rfl)
  obtain ⟨B, a, rfl, hb, hp, hq⟩ := h
  refine s_ret (Go.refl hb) (y_andV (a := true) (b := true) (y_isi (y_var rfl) (fun _ _ => .base (.int a)) (kit_ty (by decide +kernel))) fun _ => y_notV (a := false) (y_isi (y_var rfl) (fun _ _ => .base (.int a)) (kit_ty (by decide +kernel)))) fun v H1 _ g e => hq v H1 g e
/-- the letters -/
def letters : Str := "abcdefghijklmnopqrstuvwxyz"
/-- a name: one to six letters -/
def NameOk (x : Str) : Prop := 1 ≤ x.length ∧ x.length ≤ 6 ∧ ∀ c ∈ x.cps.toList, c ∈ letters.cps.toList
def sp_is_name (K : PySem.W.Frag) : Sp := Pm (fun x : Str => [.str x]) (fun _ x _ => NameOk x) (fun _ _ v _ => v = .bl true)
def sp_are_strings (K : PySem.W.Frag) : Sp := Pm (fun p : Addr × List Str => [.ref p.1]) (fun B p H => At B H p.1 (.tup (p.2.map V.str)) ∧ p.2.length ≤ 1000) (fun _ _ v _ => v = .bl true)
theorem all_true {α : Type} (xs : List α) : (xs.map fun _ => true).all id = true := by simp
theorem ok_are_strings (T : Fx K mg) : OK P w K mg base 1 (He.fAd K ("are_strings", none)) (sp_are_strings K) := by
  obtain ⟨fd, F⟩ := T.dd 2 (d := d_are_strings) rfl
  have n_all := T.free 43 rfl
  have n_isinstance := T.free 45 rfl
  have n_list := T.free 39 rfl
  have n_str := T.free 55 rfl
  have n_tuple := T.free 40 rfl
  have sc : FnScope ["value", "item"] ["value"] (defScope (top 25)) := ⟨rfl, rfl, rfl, by decide +kernel, rfl, by decide +kernel, by decide +kernel⟩
  have nd := sc.nd
  refine OK.of (F.ok sc (fun vs H Q E h => by obtain ⟨B, a, h⟩ := h; first | (obtain ⟨rfl, _⟩ := h; rfl) | (obtain ⟨x, dx, rfl, _⟩ := h; rfl)) (fun cdv A outer s H vs Q E hr h => ⟨_, PSs.nox (pss_one (ps_ret (pe_and (pe_callB (k_isiT (K := K)) rfl n_isinstance (by rfl) (pa_cons (pv 0) (pa_cons (pe_tup (pa_cons (pe_bltn (v := .ty "tuple") rfl n_tuple rfl rfl) (pa_cons (pe_bltn (v := .ty "list") rfl n_list rfl rfl) pa_nil))) pa_nil))) (pe_one (pe_callB (k_all (K := K) rfl) rfl n_all (by rfl) (pa_cons (pe_lc (own := [("item", 1)]) rfl nd (k_tup (K := K) (pv 0)) (blkOk_by (by kernel_rfl)) (fun _ _ _ _ _ => (pg_name (i := 1) nd rfl (Or.inl rfl))) (fun _ _ _ _ _ => pts_nil) (fun _ _ _ _ _ => (pe_callB (k_isi (K := K)) rfl n_isinstance (by rfl) (pa_cons (pv 1) (pa_cons (pe_bltn (v := .ty "str") rfl n_str rfl rfl) pa_nil))))) pa_nil)))))), ?_⟩)) (F.bindsN fun _ _ _ _ _ _ us hl => match us, hl with | [_], _ => rfl)
  obtain ⟨B, ⟨a, xs⟩, rfl, hb, ⟨hp, hz⟩, hq⟩ := h
  refine s_ret (Go.refl hb) (y_andV (a := true) (b := true) (y_isTL (y_var rfl) hp) fun _ => ?_) fun v H1 _ g e => hq v H1 g e
  refine y_is (y_all (y_lcB1 (fun _ : Str => true) (yk_tS (y_var rfl) ⟨a, rfl, hp⟩).yi (by show xs.length ≤ 40000; exact Nat.le_trans hz (by decide)) yg_s fun x σ2 H1 hx g1 s => ?_)) (by rw [all_true])
  subst s
  exact ⟨rfl, y_isi (y_var rfl) (fun _ _ => .base (.str x)) (kit_ty (by decide +kernel))⟩
def sp_are_pairs (K : PySem.W.Frag) : Sp := Pm (fun p : Addr × List (Str × Str) => [.ref p.1]) (fun B p H => TpR B (PrS B) p.2 (.ref p.1) H ∧ p.2.length ≤ 1000) (fun _ _ v _ => v = .bl true)
theorem ok_are_pairs (T : Fx K mg) : OK P w K mg base 4 (He.fAd K ("are_pairs", none)) (sp_are_pairs K) := by
  obtain ⟨fd, F⟩ := T.dd 3 (d := d_are_pairs) rfl
  have g_are_strings := T.glo 2 rfl
  have n_all := T.free 43 rfl
  have n_isinstance := T.free 45 rfl
  have n_len := T.free 38 rfl
  have n_list := T.free 39 rfl
  have n_tuple := T.free 40 rfl
  have ok_are_strings := ok_are_strings (P := P) (w := w) (base := base) T
  obtain ⟨_, F_are_strings⟩ := T.dd 2 (d := d_are_strings) rfl
  have kp_are_strings := F_are_strings.kp
  have sc : FnScope ["value", "pair"] ["value"] (defScope (top 26)) := ⟨rfl, rfl, rfl, by decide +kernel, rfl, by decide +kernel, by decide +kernel⟩
  have nd := sc.nd
  refine OK.of (F.ok sc (fun vs H Q E h => by obtain ⟨B, a, h⟩ := h; first | (obtain ⟨rfl, _⟩ := h; rfl) | (obtain ⟨x, dx, rfl, _⟩ := h; rfl)) (fun cdv A outer s H vs Q E hr h => ⟨_, PSs.nox (pss_cons (ps_if (pt_not (pt_val (pe_callB (k_isiT (K := K)) rfl n_isinstance (by rfl) (pa_cons (pv 0) (pa_cons (pe_tup (pa_cons (pe_bltn (v := .ty "tuple") rfl n_tuple rfl rfl) (pa_cons (pe_bltn (v := .ty "list") rfl n_list rfl rfl) pa_nil))) pa_nil))))) (pss_one (ps_ret pe_bl)) pss_nil)
    (pss_one (ps_ret (pe_callB (k_all (K := K) rfl) rfl n_all (by rfl) (pa_cons (pe_lc (own := [("pair", 1)]) rfl nd (k_tup (K := K) (pv 0)) (blkOk_by (by kernel_rfl)) (fun _ _ _ _ _ => (pg_name (i := 1) nd rfl (Or.inl rfl))) (fun _ _ _ _ _ => pts_nil) (fun _ _ _ _ _ => (pe_and (pe_callB (k_isi (K := K)) rfl n_isinstance (by rfl) (pa_cons (pv 1) (pa_cons (pe_bltn (v := .ty "tuple") rfl n_tuple rfl rfl) pa_nil))) (pe_and (pe_cmpR op_eq (pe_callB (k_len (K := K)) rfl n_len (by rfl) (pa_cons (pv 1) pa_nil)) pe_int (nomark _)) (pe_one (pe_cl ok_are_strings hr (by decide) rfl g_are_strings kp_are_strings (pa_cons (pv 1) pa_nil))))))) pa_nil))))), ?_⟩)) (F.bindsN fun _ _ _ _ _ _ us hl => match us, hl with | [_], _ => rfl)
  obtain ⟨B, ⟨a, xs⟩, rfl, hb, ⟨hp, hz⟩, hq⟩ := h
  have hp' := hp
  obtain ⟨a', zs, ea, t, pr⟩ := hp'
  cases ea
  refine q_no (Go.refl hb) (yt_not (a := true) (yt_BI (y_isTL (y_var rfl) t))) fun H1 g1 _ => ?_
  refine s_ret (Go.refl g1.2) ?_ fun v H2 _ g e => hq v H2 (g1.trans g) e
  refine y_is (y_all (y_lcB1 (fun _ : Str × Str => true) (yk_tR (y_var rfl) (TpR.st (fun _ => PrS.st) _ _ _ g1 hp) fun _ => PrS.st).yi (by show xs.length ≤ 40000; exact Nat.le_trans hz (by decide)) yg_nameR fun x σ2 H2 hx g2 s => ?_)) (by rw [all_true])
  obtain ⟨v, ⟨b, e, tb⟩, s⟩ := s
  subst e s
  refine ⟨rfl, y_andV (a := true) (b := true) (y_isi (y_var rfl) (fun H3 g3 => .base (.tup (tb.go g3).2)) (kit_ty (by decide +kernel))) fun _ => y_andV (a := true) (b := true) ?_ fun _ => ?_⟩
  · exact y_is (y_op (y_lenV (n := 2) ((y_var rfl).rep (R := fun v H => ∃ a, v = .ref a ∧ At B H a (.tup [.str x.1, .str x.2])) ⟨b, rfl, tb⟩ (fun _ _ _ g ⟨a, e, t⟩ => ⟨a, e, t.go g⟩)) fun v H3 ⟨a, e, t⟩ => ⟨a, _, e, .inr t.st, rfl⟩) y_c (o_eq rfl)) rfl
  · exact y_clI (b, [x.1, x.2]) (ya_cons (y_var rfl) ya_nil) fun H3 g3 => ⟨tb.go g3, by show 2 ≤ 1000; decide⟩
theorem ok_is_name (T : Fx K mg) : OK P w K mg base 1 (He.fAd K ("is_name", none)) (sp_is_name K) := by
  obtain ⟨fd, F⟩ := T.dd 1 (d := d_is_name) rfl
  obtain ⟨_, m_LONGEST_NAME⟩ := T.int 56 rfl
  have n_all := T.free 43 rfl
  have n_len := T.free 38 rfl
  obtain ⟨_, m_LETTERS⟩ := T.str 58 rfl
  have sc : FnScope ["text", "sign"] ["text"] (defScope (top 23)) := ⟨rfl, rfl, rfl, by decide +kernel, rfl, by decide +kernel, by decide +kernel⟩
  have nd := sc.nd
  refine OK.of (F.ok sc (fun vs H Q E h => by obtain ⟨B, a, h⟩ := h; first | (obtain ⟨rfl, _⟩ := h; rfl) | (obtain ⟨x, dx, rfl, _⟩ := h; rfl)) (fun cdv A outer s H vs Q E hr h => ⟨_, PSs.nox (pss_one (ps_ret (pe_and (pe_chain op_le op_le pe_int (pe_callB call_len_str rfl n_len (by rfl) (pa_cons (pv 0) pa_nil)) (pe_glob (v := .int 6) rfl m_LONGEST_NAME ⟨_, rfl⟩)) (pe_one (pe_callB (k_all (K := K) rfl) rfl n_all (by rfl) (pa_cons (pe_lc (own := [("sign", 1)]) rfl nd (pi_str (pv 0)) (blkOk_by (by kernel_rfl)) (fun _ _ _ _ _ => (pg_name (i := 1) nd rfl (Or.inl rfl))) (fun _ _ _ _ _ => pts_nil) (fun _ _ _ _ _ => (pe_cmpR op_in_sign (pv 1) (pe_glob (v := .str "abcdefghijklmnopqrstuvwxyz") rfl m_LETTERS ⟨_, rfl⟩) (by with_unfolding_all rfl)))) pa_nil)))))), ?_⟩)) (F.bindsN fun _ _ _ _ _ _ us hl => match us, hl with | [_], _ => rfl)
  obtain ⟨B, x, rfl, hb, ⟨h1, h2, h3⟩, hq⟩ := h
  have hz : x.cps.toList.length ≤ 6 := by
    rw [Array.length_toList]
    exact h2
  refine s_ret (Go.refl hb) (y_is (y_andV (y_chain y_c (y_lenT (y_var rfl) (by omega)) o_le (fun _ => y_c) fun _ => o_le) fun _ => y_all (y_lcB1 (fun c => decide (c ∈ letters.cps.toList)) (yk_str (y_var rfl)).yi (by omega) yg_name fun c σ2 H1 hc g1 s => ?_)) ?_) fun v H1 _ g e => hq v H1 g e
  · subst s
    exact ⟨rfl, y_sign (y_var rfl) y_c⟩
  · have e : ((x.cps.toList.map fun c => decide (c ∈ letters.cps.toList)).all id) = true := by
      rw [List.all_map]
      exact List.all_eq_true.mpr fun c hc => decide_eq_true (h3 c hc)
    have e1 : decide ((1 : Int) ≤ (x.length : Int)) = true := decide_eq_true (by omega)
    have e2 : decide ((x.length : Int) ≤ 6) = true := decide_eq_true (by omega)
    rw [e, e1, e2] <;> rfl
/-- a board's parts: the values, what they hold -/
structure Pa where
  vp : V
  vw : V
  vb : V
  vc : V
  pegs : List Str
  wants : List (Str × Str)
  bars : List (Str × Str)
  costs : List Int
structure PaOk (B : Option Addr) (p : Pa) (H : Hp) : Prop where
  pegs : TpS B p.pegs p.vp H
  wants : TpR B (PrS B) p.wants p.vw H
  bars : TpR B (PrS B) p.bars p.vb H
  costs : TpI B p.costs p.vc H
  z1 : p.pegs.length ≤ 12
  z2 : p.wants.length ≤ 100
  z3 : p.bars.length ≤ 100
  z4 : p.costs.length = p.pegs.length
theorem PaOk.go {B : Option Addr} {p : Pa} {H H' : Hp} (h : PaOk B p H) (g : Go B H H') : PaOk B p H' :=
  ⟨TpS.st _ _ _ g h.pegs, TpR.st (fun _ => PrS.st) _ _ _ g h.wants, TpR.st (fun _ => PrS.st) _ _ _ g h.bars, TpI.st _ _ _ g h.costs, h.z1, h.z2, h.z3, h.z4⟩
theorem TpI.r {B : Option Addr} {H : Hp} {xs : List Int} {v : V} (h : TpI B xs v H) : TpR B IV xs v H := by
  obtain ⟨a, e, t⟩ := h
  exact ⟨a, _, e, t, paired_of_map (F := fun x z => IV x z H) (fun _ => rfl) xs⟩
def sp_check_form (K : PySem.W.Frag) : Sp := Pm (fun p : Pa => [p.vp, p.vw, p.vb, p.vc]) PaOk (fun _ _ v _ => v = .non)
theorem ok_check_form (T : Fx K mg) : OK P w K mg base 7 (He.fAd K ("check_form", none)) (sp_check_form K) := by
  obtain ⟨fd, F⟩ := T.dd 4 (d := d_check_form) rfl
  have g_are_pairs := T.glo 3 rfl
  have g_are_strings := T.glo 2 rfl
  have g_is_integer := T.glo 0 rfl
  have n_all := T.free 43 rfl
  have n_isinstance := T.free 45 rfl
  have n_list := T.free 39 rfl
  have n_tuple := T.free 40 rfl
  have ok_are_pairs := ok_are_pairs (P := P) (w := w) (base := base) T
  obtain ⟨_, F_are_pairs⟩ := T.dd 3 (d := d_are_pairs) rfl
  have kp_are_pairs := F_are_pairs.kp
  have ok_are_strings := ok_are_strings (P := P) (w := w) (base := base) T
  obtain ⟨_, F_are_strings⟩ := T.dd 2 (d := d_are_strings) rfl
  have kp_are_strings := F_are_strings.kp
  have ok_is_integer := ok_is_integer (P := P) (w := w) (base := base) T
  obtain ⟨_, F_is_integer⟩ := T.dd 0 (d := d_is_integer) rfl
  have kp_is_integer := F_is_integer.kp
  have sc : FnScope ["pegs", "needs", "bars", "costs", "has_costs", "cost"] ["pegs", "needs", "bars", "costs"] (defScope (top 32)) := ⟨rfl, rfl, rfl, by decide +kernel, rfl, by decide +kernel, by decide +kernel⟩
  have nd := sc.nd
  refine OK.of (F.ok sc (fun vs H Q E h => by obtain ⟨B, a, h⟩ := h; first | (obtain ⟨rfl, _⟩ := h; rfl) | (obtain ⟨x, dx, rfl, _⟩ := h; rfl)) (fun cdv A outer s H vs Q E hr h => ⟨_, PSs.nox (pss_cons (ps_set (i := 4) nd rfl (Or.inl rfl) (pe_or (pe_cmpR op_isN (pv 3) pe_non (nomark _)) (pe_one (pe_and (pe_callB (k_isiT (K := K)) rfl n_isinstance (by rfl) (pa_cons (pv 3) (pa_cons (pe_tup (pa_cons (pe_bltn (v := .ty "tuple") rfl n_tuple rfl rfl) (pa_cons (pe_bltn (v := .ty "list") rfl n_list rfl rfl) pa_nil))) pa_nil))) (pe_one (pe_callB (k_all (K := K) rfl) rfl n_all (by rfl) (pa_cons (pe_lc (own := [("cost", 5)]) rfl nd (k_tup (K := K) (pv 3)) (blkOk_by (by kernel_rfl)) (fun _ _ _ _ _ => (pg_name (i := 5) nd rfl (Or.inl rfl))) (fun _ _ _ _ _ => pts_nil) (fun _ _ _ _ _ => (pe_cl ok_is_integer hr (by decide) rfl g_is_integer kp_is_integer (pa_cons (pv 5) pa_nil)))) pa_nil)))))))
    (pss_one (ps_if (PW.pt (pw_or (pt_not (pt_val (pe_cl ok_are_strings hr (by decide) rfl g_are_strings kp_are_strings (pa_cons (pv 0) pa_nil)))) (pw_or (pt_not (pt_val (pe_cl ok_are_pairs hr (by decide) rfl g_are_pairs kp_are_pairs (pa_cons (pv 1) pa_nil)))) (pw_or (pt_not (pt_val (pe_cl ok_are_pairs hr (by decide) rfl g_are_pairs kp_are_pairs (pa_cons (pv 2) pa_nil)))) (pw_or1 (pt_not (pt_val (pv 4)))))))) pss_never pss_nil))), ?_⟩)) (F.bindsN fun _ _ _ _ _ _ us hl => match us, hl with | [_, _, _, _], _ => rfl)
  obtain ⟨B, ⟨vp, vw, vb, vc, pegs, wants, bars, costs⟩, rfl, hb, hp, hq⟩ := h
  obtain ⟨pa, rfl, tp⟩ := hp.pegs
  obtain ⟨wa, wz, rfl, tw, pw⟩ := hp.wants
  obtain ⟨ba, bz, rfl, tb, pb⟩ := hp.bars
  obtain ⟨ca, rfl, tc⟩ := hp.costs
  have z1 := hp.z1
  have z2 := hp.z2
  have z3 := hp.z3
  have z4 := hp.z4
  dsimp only at z1 z2 z3 z4
  refine q_asg (P := Is (.bl true)) (Go.refl hb) (y_orV (a := false) (b := true) (y_is (y_op (y_var rfl) y_c o_isN) rfl) fun _ => y_andV (a := true) (b := true) (y_isTL (y_var rfl) tc) fun _ => ?_) fun v H1 g1 _ e => ?_
  · refine y_is (y_all (y_lcB1 (fun _ : Int => true) (yk_tR (y_var rfl) (TpI.r ⟨ca, rfl, tc⟩) fun _ => IV.st).yi (by show costs.length ≤ 40000; omega) (yg_name (f := V.int)) fun x σ2 H2 hx g2 s => ?_)) (by rw [all_true])
    subst s
    exact ⟨rfl, y_clI x (ya_cons (y_var rfl) ya_nil) fun _ _ => trivial⟩
  · rw [show v = _ from e]
    refine s_noN (Go.refl g1.2) (yt_or (a := false) (b := false) (yt_not (a := true) (yt_BI (y_clI (pa, pegs) (ya_cons (y_var rfl) ya_nil) fun H3 g3 => ⟨tp.go (g1.trans g3), by show pegs.length ≤ 1000; omega⟩)))
      fun _ => yt_or (a := false) (b := false) (yt_not (a := true) (yt_BI (y_clI (wa, wants) (ya_cons (y_var rfl) ya_nil) fun H3 g3 => ⟨(hp.go (g1.trans g3)).wants, by show wants.length ≤ 1000; omega⟩)))
      fun _ => yt_or (a := false) (b := false) (yt_not (a := true) (yt_BI (y_clI (ba, bars) (ya_cons (y_var rfl) ya_nil) fun H3 g3 => ⟨(hp.go (g1.trans g3)).bars, by show bars.length ≤ 1000; omega⟩)))
      fun _ => yt_not (a := true) (yt_BI (y_var rfl))) fun H2 g2 _ => hq _ H2 (g1.trans g2) rfl
end
end NP
end
section
set_option Elab.async false
set_option linter.all false
set_option maxRecDepth 100000
set_option maxHeartbeats 4000000
/-! The rules of a board. -/
namespace NP
open PySem PySem.Spec PyProof.Rows L2
section
variable {P : Program} {w : World} {K : PySem.W.Frag} {mg : Str → Option Value} {base : Heap}
/-- pegs, costs, the most -/
structure CkP where
  vp : V
  vc : V
  pegs : List Str
  costs : List Int
def sp_check_pegs (K : PySem.W.Frag) : Sp := Pm (fun p : CkP => [p.vp, p.vc, .int 12]) (fun B p H => TpS B p.pegs p.vp H ∧ TpI B p.costs p.vc H ∧ p.pegs.length ≤ 12 ∧ p.costs.length = p.pegs.length ∧ p.pegs.Nodup ∧ (∀ x ∈ p.pegs, NameOk x) ∧ ∀ c ∈ p.costs, 1 ≤ c ∧ c ≤ 1000) (fun _ _ v _ => v = .non)
theorem nodup_take {α : Type} : ∀ {xs : List α} {i : Nat} {x : α}, xs.Nodup → xs[i]? = some x → x ∉ xs.take i
  | [], _, _, _, h => by cases h
  | y :: ys, 0, x, _, _ => by simp
  | y :: ys, i + 1, x, hn, h => by
    rw [List.take_succ_cons]
    intro hm
    rcases List.mem_cons.mp hm with e | hm
    · exact (List.nodup_cons.mp hn).1 (e ▸ List.mem_of_getElem? (i := i) h)
    · exact nodup_take (List.nodup_cons.mp hn).2 h hm
theorem ok_check_pegs (T : Fx K mg) : OK P w K mg base 4 (He.fAd K ("check_pegs", none)) (sp_check_pegs K) := by
  obtain ⟨fd, F⟩ := T.dd 5 (d := d_check_pegs) rfl
  have g_is_name := T.glo 1 rfl
  obtain ⟨_, m_MOST_COST⟩ := T.int 57 rfl
  have n_enumerate := T.free 47 rfl
  have n_len := T.free 38 rfl
  have ok_is_name := ok_is_name (P := P) (w := w) (base := base) T
  obtain ⟨_, F_is_name⟩ := T.dd 1 (d := d_is_name) rfl
  have kp_is_name := F_is_name.kp
  have sc : FnScope ["pegs", "costs", "most", "at", "peg", "cost"] ["pegs", "costs", "most"] (defScope (top 33)) := ⟨rfl, rfl, rfl, by decide +kernel, rfl, by decide +kernel, by decide +kernel⟩
  have nd := sc.nd
  refine OK.of (F.ok sc (fun vs H Q E h => by obtain ⟨B, a, h⟩ := h; first | (obtain ⟨rfl, _⟩ := h; rfl) | (obtain ⟨x, dx, rfl, _⟩ := h; rfl)) (fun cdv A outer s H vs Q E hr h => ⟨_, PSs.nox (pss_cons (ps_if (pt_cmpR op_gt (pe_callB (k_len (K := K)) rfl n_len (by rfl) (pa_cons (pv 0) pa_nil)) (pv 2) (nomark _)) pss_never pss_nil)
    (pss_cons (ps_for PassesOwn.never rfl (k_enumT (K := K) rfl n_enumerate (pa_cons (pv 0) pa_nil)) (k_gtup (K := K) (n := 2) rfl (pgs_cons (pg_name (i := 3) nd rfl (Or.inl rfl)) (pgs_cons (pg_name (i := 4) nd rfl (Or.inl rfl)) pgs_nil))) (pss_one (ps_if (PW.pt (pw_or (pt_not (pt_val (pe_cl ok_is_name hr (by decide) rfl g_is_name kp_is_name (pa_cons (pv 4) pa_nil)))) (pw_or1 (pt_cmpR (k_in (K := K)) (pv 4) (pe_slice (k_slT (K := K)) (pv 0) po_none (po_some (pv 3))) (by with_unfolding_all rfl))))) pss_never pss_nil)))
    (pss_cons (ps_if (pt_cmpR op_ne (pe_callB (k_len (K := K)) rfl n_len (by rfl) (pa_cons (pv 1) pa_nil)) (pe_callB (k_len (K := K)) rfl n_len (by rfl) (pa_cons (pv 0) pa_nil)) (nomark _)) pss_never pss_nil)
    (pss_one (ps_for PassesOwn.never rfl (k_enumT (K := K) rfl n_enumerate (pa_cons (pv 1) pa_nil)) (k_gtup (K := K) (n := 2) rfl (pgs_cons (pg_name (i := 3) nd rfl (Or.inl rfl)) (pgs_cons (pg_name (i := 5) nd rfl (Or.inl rfl)) pgs_nil))) (pss_one (ps_if (pt_not (pt_chain op_le op_le pe_int (pv 5) (pe_glob (v := .int 1000) rfl m_MOST_COST ⟨_, rfl⟩))) pss_never pss_nil))))))), ?_⟩)) (F.bindsN fun _ _ _ _ _ _ us hl => match us, hl with | [_, _, _], _ => rfl)
  obtain ⟨B, ⟨vp, vc, pegs, costs⟩, rfl, hb, ⟨h1, h2, z1, z2, hn, hm, hc⟩, hq⟩ := h
  dsimp only at z1 z2 hn hm hc
  refine q_no (Go.refl hb) (yt_is (yt_testI (y_op (y_lenS ((y_var rfl).rep (R := SqS B pegs) (.inl h1) SqS.st)) (y_var rfl) o_gt)) (decide_eq_false (by omega))) fun H1 g1 _ => ?_
  have p1 := TpS.st _ _ _ g1 h1
  refine q_forK (fun _ σ1 H2 => Go B H1 H2 ∧ ∃ w1 w2, σ1 = [some vp, some vc, some (.int 12), w1, w2, none]) (yk_enS (y_var rfl) p1) (Go.refl g1.2) (fun H2 g => ⟨g, none, none, rfl⟩) (fun i σ1 H2 _ h => h.1) (fun i x σ1 H2 v H3 hx hI g3 r => ?_) fun σ1 H2 hI => ?_
  · obtain ⟨g2, w1, w2, rfl⟩ := hI
    obtain ⟨i1, i2⟩ := enum_get hx
    refine yg_enum x v H3 g3.2 r _ fun σ2 ⟨z, ez, e⟩ => ?_
    rw [show z = .str x.2 from ez] at e
    subst e
    have g4 := g2.trans g3
    have nx : x.2 ∉ pegs.take x.1 := by rw [i1]; exact nodup_take hn i2
    refine s_noN (Go.refl g3.2) (yt_is (yt_or (yt_not (yt_BI (y_clI (post := fun _ _ v _ => v = .bl true) x.2 (ya_cons (y_var rfl) ya_nil) fun H5 g5 => hm _ (List.mem_of_getElem? i2)))) fun _ => yt_testI (y_in (y_var rfl) (y_slTo ((y_var rfl).rep (TpS.st _ _ _ g4 p1) TpS.st) (y_var rfl)).tp)) ?_) fun H5 g5 _ => ⟨g4.trans g5, _, _, rfl⟩
    rw [decide_eq_false nx] <;> rfl
  · obtain ⟨g2, w1, w2, rfl⟩ := hI
    have g12 := g1.trans g2
    refine q_no (Go.refl g2.2) (yt_is (yt_testI (y_op (y_lenV (n := costs.length) ((y_var rfl).rep (TpI.st _ _ _ g12 h2) TpI.st) fun v H3 ⟨a, e, t⟩ => ⟨a, _, e, .inr t.st, by rw [List.length_map]⟩) (y_lenS ((y_var rfl).rep (TpS.st _ _ _ g12 h1) TpS.st).tp) (o_ne rfl))) (by rw [z2]; simp)) fun H3 g3 _ => ?_
    have c3 := TpI.r (TpI.st _ _ _ (g12.trans g3) h2)
    refine s_forK (fun _ σ1 H4 => Go B H3 H4 ∧ ∃ w1 w2 w3, σ1 = [some vp, some vc, some (.int 12), w1, w2, w3]) (yk_enR (y_var rfl) c3 fun _ => IV.st) (Go.refl g3.2) (fun H4 g => ⟨g, _, _, _, rfl⟩) (fun i σ1 H2 _ h => h.1) (fun i x σ1 H4 v H5 hx hI g5 r => ?_) fun σ1 H4 hI => hq _ H4 ((g12.trans g3).trans hI.1) rfl
    obtain ⟨g4, w1, w2, w3, rfl⟩ := hI
    obtain ⟨i1, i2⟩ := enum_get hx
    refine yg_enum x v H5 g5.2 r _ fun σ2 ⟨z, ez, e⟩ => ?_
    rw [show z = .int x.2 from ez] at e
    subst e
    have hx2 := hc x.2 (List.mem_of_getElem? i2)
    refine s_noN (Go.refl g5.2) (yt_is (yt_not (yt_testI (y_chain y_c (y_var rfl) o_le (fun _ => y_c) fun _ => o_le))) ?_) fun H6 g6 _ => ⟨(g4.trans g5).trans g6, _, _, _, rfl⟩
    rw [decide_eq_true hx2.1, decide_eq_true hx2.2] <;> rfl
end
end NP
end
section
set_option Elab.async false
set_option linter.all false
set_option maxRecDepth 100000
set_option maxHeartbeats 4000000
/-! The rules of a board, continued. -/
namespace NP
open PySem PySem.Spec PyProof.Rows L2
section
variable {P : Program} {w : World} {K : PySem.W.Frag} {mg : Str → Option Value} {base : Heap}
structure CkQ where
  vp : V
  vs : V
  word : Str
  pegs : List Str
  pairs : List (Str × Str)
theorem str_eq {x y : Str} : decide (V.str x = V.str y) = decide (x = y) := by
  by_cases h : x = y
  · rw [h]; simp
  · rw [decide_eq_false h, decide_eq_false]
    intro z
    cases z
    exact h rfl
def sp_check_pairs (K : PySem.W.Frag) : Sp := Pm (fun p : CkQ => [p.vp, p.vs, .str p.word]) (fun B p H => TpS B p.pegs p.vp H ∧ TpR B (PrS B) p.pairs p.vs H ∧ p.pairs.length ≤ 100 ∧ ∀ q ∈ p.pairs, q.1 ∈ p.pegs ∧ q.2 ∈ p.pegs ∧ q.1 ≠ q.2) (fun _ _ v _ => v = .non)
theorem ok_check_pairs (T : Fx K mg) : OK P w K mg base 1 (He.fAd K ("check_pairs", none)) (sp_check_pairs K) := by
  obtain ⟨fd, F⟩ := T.dd 6 (d := d_check_pairs) rfl
  have n_enumerate := T.free 47 rfl
  have sc : FnScope ["pegs", "pairs", "word", "at", "one", "other"] ["pegs", "pairs", "word"] (defScope (top 34)) := ⟨rfl, rfl, rfl, by decide +kernel, rfl, by decide +kernel, by decide +kernel⟩
  have nd := sc.nd
  refine OK.of (F.ok sc (fun vs H Q E h => by obtain ⟨B, a, h⟩ := h; first | (obtain ⟨rfl, _⟩ := h; rfl) | (obtain ⟨x, dx, rfl, _⟩ := h; rfl)) (fun cdv A outer s H vs Q E hr h => ⟨_, PSs.nox (pss_one (ps_for PassesOwn.never rfl (k_enumT (K := K) rfl n_enumerate (pa_cons (pv 1) pa_nil)) (k_gtup (K := K) (n := 2) rfl (pgs_cons (pg_name (i := 3) nd rfl (Or.inl rfl)) (pgs_cons (k_gtup (K := K) (n := 2) rfl (pgs_cons (pg_name (i := 4) nd rfl (Or.inl rfl)) (pgs_cons (pg_name (i := 5) nd rfl (Or.inl rfl)) pgs_nil))) pgs_nil))) (pss_one (ps_if (PW.pt (pw_or (pt_cmpR (k_ni (K := K)) (pv 4) (pv 0) (by with_unfolding_all rfl)) (pw_or (pt_cmpR (k_ni (K := K)) (pv 5) (pv 0) (by with_unfolding_all rfl)) (pw_or1 (pt_cmpR op_eq (pv 4) (pv 5) (nomark _)))))) pss_never pss_nil)))), ?_⟩)) (F.bindsN fun _ _ _ _ _ _ us hl => match us, hl with | [_, _, _], _ => rfl)
  obtain ⟨B, ⟨vp, vs, word, pegs, pairs⟩, rfl, hb, ⟨h1, h2, z1, hm⟩, hq⟩ := h
  dsimp only at z1 hm
  refine s_forK (fun _ σ1 H2 => Go B H H2 ∧ ∃ w1 w2 w3, σ1 = [some vp, some vs, some (.str word), w1, w2, w3]) (yk_enR (y_var rfl) h2 fun _ => PrS.st) (Go.refl hb) (fun H2 g => ⟨g, none, none, none, rfl⟩) (fun i σ1 H2 _ h => h.1) (fun i x σ1 H2 v H3 hx hI g3 r => ?_) fun σ1 H2 hI => hq _ H2 hI.1 rfl
  obtain ⟨g2, w1, w2, w3, rfl⟩ := hI
  obtain ⟨i1, i2⟩ := enum_get hx
  refine yg_enumP x v H3 g3.2 r _ fun σ2 e => ?_
  subst e
  have g4 := g2.trans g3
  obtain ⟨m1, m2, m3⟩ := hm x.2 (List.mem_of_getElem? i2)
  have hp := TpS.st _ _ _ g4 h1
  refine s_noN (Go.refl g3.2) (yt_is (yt_or (yt_testI (y_ni (y_var rfl) ((y_var rfl).rep hp TpS.st).tp)) fun _ => yt_or (yt_testI (y_ni (y_var rfl) ((y_var rfl).rep hp TpS.st).tp)) fun _ => yt_testI (y_op (y_var rfl) (y_var rfl) (o_eq rfl))) ?_) fun H5 g5 _ => ⟨g4.trans g5, _, _, _, rfl⟩
  rw [decide_eq_true m1, decide_eq_true m2, str_eq, decide_eq_false m3] <;> rfl
/-- row, lengthened by what is needed -/
def lr (row : List Str) (peg : Str) (needed : List Str) : List Str := if peg ∈ row then row ++ needed.filter (fun x => !decide (x ∈ row)) else row
theorem y_catL {B : Option Addr} {σ : L2.St} {H : Hp} {ta tb : TE} {xs ys : List Str} (ha : Y B ta σ H (LsS B xs)) (hb : Y B tb σ H (LsS B ys)) (hz : xs.length + ys.length ≤ 100000) : Y B (tOp rCat ta tb) σ H (fun v H1 => LsS B (xs ++ ys) v H1 ∧ ∃ a, v = .ref a ∧ H a = none) :=
  y_opG LsS.st ha hb fun x y H1 g ⟨a, e, t⟩ ⟨b, e2, t2⟩ Q q => ⟨a, b, _, _, e, e2, t.2, t2.2, by rw [List.length_map, List.length_map]; exact zl hz, fun p hp => q _ _ (Go.new g.2 hp) ⟨⟨p, rfl, by rw [List.map_append]; exact At.new g.2 hp⟩, p, rfl, g.fresh hp⟩⟩
structure LrP where
  vr : V
  vn : V
  row : List Str
  peg : Str
  needed : List Str
def sp_longer_row (K : PySem.W.Frag) : Sp := Pm (fun p : LrP => [p.vr, .str p.peg, p.vn]) (fun B p H => LsS B p.row p.vr H ∧ LsS B p.needed p.vn H ∧ p.row.length ≤ 100 ∧ p.needed.length ≤ 100) (fun B p v H => LsS B (lr p.row p.peg p.needed) v H)
theorem ok_longer_row (T : Fx K mg) : OK P w K mg base 1 (He.fAd K ("longer_row", none)) (sp_longer_row K) := by
  obtain ⟨fd, F⟩ := T.dd 8 (d := d_longer_row) rfl
  have sc : FnScope ["row", "peg", "needed", "other"] ["row", "peg", "needed"] (defScope (top 36)) := ⟨rfl, rfl, rfl, by decide +kernel, rfl, by decide +kernel, by decide +kernel⟩
  have nd := sc.nd
  refine OK.of (F.ok sc (fun vs H Q E h => by obtain ⟨B, a, h⟩ := h; first | (obtain ⟨rfl, _⟩ := h; rfl) | (obtain ⟨x, dx, rfl, _⟩ := h; rfl)) (fun cdv A outer s H vs Q E hr h => ⟨_, PSs.nox (pss_one (ps_ret (pe_ifExp (pt_cmpR (k_in (K := K)) (pv 1) (pv 0) (by with_unfolding_all rfl)) (pe_op op_cat (pv 0) (pe_lc (own := [("other", 3)]) rfl nd (k_list (K := K) (pv 2)) (blkOk_by (by kernel_rfl)) (fun _ _ _ _ _ => (pg_name (i := 3) nd rfl (Or.inl rfl))) (fun _ _ _ _ _ => (pts_one (pt_cmpR (k_ni (K := K)) (pv 3) (pv 0) (by with_unfolding_all rfl)))) (fun _ _ _ _ _ => (pv 3)))) (pv 0)))), ?_⟩)) (F.bindsN fun _ _ _ _ _ _ us hl => match us, hl with | [_, _, _], _ => rfl)
  obtain ⟨B, ⟨vr, vn, row, peg, needed⟩, rfl, hb, ⟨h1, h2, z1, z2⟩, hq⟩ := h
  dsimp only at z1 z2
  refine s_ret (Go.refl hb) (y_if (yt_testI (y_in (y_var rfl) ((y_var rfl).rep h1 LsS.st).ls)) (fun e => ?_) fun e => ?_) fun v H1 _ g e => hq v H1 g e
  · have e := of_decide_eq_true e
    show Y B _ _ H (LsS B (lr row peg needed))
    unfold lr
    rw [if_pos e]
    refine (y_catL ((y_var rfl).rep h1 LsS.st) ((y_lcF (fun x => !decide (x ∈ row)) (yk_lS (y_var rfl) h2).yi (by show needed.length ≤ 40000; omega) yg_s fun x σ2 H1 hx g1 s => ?_).imp fun v H1 _ h => h.1) (by
      have := List.length_filter_le (fun x => !decide (x ∈ row)) needed
      show row.length + (needed.filter fun x => !decide (x ∈ row)).length ≤ 100000
      omega)).imp fun v H1 _ h => h.1
    subst s
    exact ⟨rfl, yt_testI (y_ni (y_var rfl) ((y_var rfl).rep (LsS.st _ _ _ g1 h1) LsS.st).ls), fun _ => y_var rfl⟩
  · have e := of_decide_eq_false e
    show Y B _ _ H (LsS B (lr row peg needed))
    unfold lr
    rw [if_neg e]
    exact (y_var rfl).rep h1 LsS.st
/-- a bar between two rows -/
def brd (r o : List Str) (bars : List (Str × Str)) : Bool := bars.any fun p => (decide (p.1 ∈ r) && decide (p.2 ∈ o)) || (decide (p.2 ∈ r) && decide (p.1 ∈ o))
structure BrP where
  vr : V
  vo : V
  vb : V
  row : List Str
  other : List Str
  bars : List (Str × Str)
def sp_barred_in (K : PySem.W.Frag) : Sp := Pm (fun p : BrP => [p.vr, p.vo, p.vb]) (fun B p H => LsS B p.row p.vr H ∧ LsS B p.other p.vo H ∧ TpR B (PrS B) p.bars p.vb H ∧ p.bars.length ≤ 100) (fun B p v H => v = .bl (brd p.row p.other p.bars))
theorem any_map {α : Type} (f : α → Bool) (xs : List α) : (xs.map f).any id = xs.any f := by
  rw [List.any_map]
  rfl
theorem ok_barred_in (T : Fx K mg) : OK P w K mg base 1 (He.fAd K ("barred_in", none)) (sp_barred_in K) := by
  obtain ⟨fd, F⟩ := T.dd 9 (d := d_barred_in) rfl
  have n_any := T.free 44 rfl
  have sc : FnScope ["row", "other_row", "bars", "a", "b"] ["row", "other_row", "bars"] (defScope (top 37)) := ⟨rfl, rfl, rfl, by decide +kernel, rfl, by decide +kernel, by decide +kernel⟩
  have nd := sc.nd
  refine OK.of (F.ok sc (fun vs H Q E h => by obtain ⟨B, a, h⟩ := h; first | (obtain ⟨rfl, _⟩ := h; rfl) | (obtain ⟨x, dx, rfl, _⟩ := h; rfl)) (fun cdv A outer s H vs Q E hr h => ⟨_, PSs.nox (pss_one (ps_ret (pe_callB (k_any (K := K) rfl) rfl n_any (by rfl) (pa_cons (pe_lc (own := [("a", 3), ("b", 4)]) rfl nd (k_tup (K := K) (pv 2)) (blkOk_by (by kernel_rfl)) (fun _ _ _ _ _ => (k_gtup (K := K) (n := 2) rfl (pgs_cons (pg_name (i := 3) nd rfl (Or.inl rfl)) (pgs_cons (pg_name (i := 4) nd rfl (Or.inl rfl)) pgs_nil)))) (fun _ _ _ _ _ => pts_nil) (fun _ _ _ _ _ => (pe_or (pe_and (pe_cmpR (k_in (K := K)) (pv 3) (pv 0) (by with_unfolding_all rfl)) (pe_one (pe_cmpR (k_in (K := K)) (pv 4) (pv 1) (by with_unfolding_all rfl)))) (pe_one (pe_and (pe_cmpR (k_in (K := K)) (pv 4) (pv 0) (by with_unfolding_all rfl)) (pe_one (pe_cmpR (k_in (K := K)) (pv 3) (pv 1) (by with_unfolding_all rfl)))))))) pa_nil)))), ?_⟩)) (F.bindsN fun _ _ _ _ _ _ us hl => match us, hl with | [_, _, _], _ => rfl)
  obtain ⟨B, ⟨vr, vo, vb, row, other, bars⟩, rfl, hb, ⟨h1, h2, h3, z1⟩, hq⟩ := h
  dsimp only at z1
  refine s_ret (Go.refl hb) (y_is (y_any (y_lcB1 (fun p => (decide (p.1 ∈ row) && decide (p.2 ∈ other)) || (decide (p.2 ∈ row) && decide (p.1 ∈ other))) (yk_tR (y_var rfl) h3 fun _ => PrS.st).yi (by show bars.length ≤ 40000; omega) yg_pair fun x σ2 H1 hx g1 s => ?_)) (by rw [any_map] <;> rfl)) fun v H1 _ g e => hq v H1 g e
  subst s
  have r1 := LsS.st _ _ _ g1 h1
  have r2 := LsS.st _ _ _ g1 h2
  exact ⟨rfl, y_orV (y_andV (y_in (y_var rfl) ((y_var rfl).rep r1 LsS.st).ls) fun _ => y_in (y_var rfl) ((y_var rfl).rep r2 LsS.st).ls) fun _ => y_andV (y_in (y_var rfl) ((y_var rfl).rep r1 LsS.st).ls) fun _ => y_in (y_var rfl) ((y_var rfl).rep r2 LsS.st).ls⟩
end
end NP
end
section
set_option Elab.async false
set_option linter.all false
set_option maxRecDepth 100000
set_option maxHeartbeats 4000000
/-! Dicts; what each peg needs; which pegs clash. -/
namespace NP
open PySem PySem.Spec PyProof.Rows L2
section
variable {α : Type} {B : Option Addr} {σ : L2.St} {H H0 H' : Hp} {as : List α} {R : α → V → Hp → Prop} {wi : TI} {g : TG} {tt : TT} {te tk tv ta tb : TE} {vs : List Nat} {S : α → L2.St → Hp → Prop}
/-- a dict, locked or not -/
def DcZ (B : Option Addr) (R : α → V → Hp → Prop) (xs : List (Str × α)) : V → Hp → Prop := fun v H => ∃ a kvs, v = .ref a ∧ (At B H a (.dK kvs) ∨ ∃ o, At B H a (.frz o (.dK kvs))) ∧ Paired (fun x (kv : Key × V) => kv.1 = Sum.inr x.1 ∧ R x.2 kv.2 H) xs kvs
theorem DcR.z {xs : List (Str × α)} {v : V} (h : DcR B R xs v H) : DcZ B R xs v H := let ⟨a, k, e, t, p⟩ := h; ⟨a, k, e, .inl t, p⟩
theorem DcZ.st (hR : ∀ x, St B (R x)) {xs : List (Str × α)} : St B (DcZ B R xs) := fun _ _ _ g ⟨a, zs, e, t, p⟩ => ⟨a, zs, e, t.imp (fun t => t.go g) (fun ⟨o, t⟩ => ⟨o, t.go g⟩), p.mono fun x z q => ⟨q.1, hR x.2 z.2 _ _ g q.2⟩⟩
theorem dc_val {f : Str → α} {H : Hp} {p : Str} : ∀ {pegs : List Str} {kvs : List (Key × V)}, Paired (fun x (kv : Key × V) => kv.1 = Sum.inr x.1 ∧ R x.2 kv.2 H) (pegs.map fun p => (p, f p)) kvs → p ∈ pegs → ∃ v, valV kvs (.inr p) = some v ∧ R (f p) v H
  | [], _, _, h => by cases h
  | q :: pegs, kv :: kvs, .cons a b, h => by
    by_cases e : q = p
    · subst e
      exact ⟨kv.2, valV_pos a.1, a.2⟩
    · have h2 : p ∈ pegs := by
        rcases List.mem_cons.mp h with z | z
        · exact absurd z.symm e
        · exact z
      obtain ⟨v, h3, h4⟩ := dc_val b h2
      exact ⟨v, by rw [valV_neg (by rw [a.1]; intro z; exact e (Sum.inr.inj z))]; exact h3, h4⟩
theorem y_dgetF {f : Str → α} {pegs : List Str} {d : V} {p : Str} (sR : ∀ x, St B (R x)) (hd : Y B ta σ H (Is d)) (hD : DcZ B R (pegs.map fun p => (p, f p)) d H) (hk : Y B tb σ H (Is (.str p))) (hp : p ∈ pegs) : Y B (tDGet ta tb) σ H (R (f p)) :=
  y_dget St.is hd hk fun x y H1 g ex ey => by
    obtain ⟨a, kvs, e, t, q⟩ := DcZ.st sR _ _ _ g hD
    obtain ⟨v, h1, h2⟩ := dc_val q hp
    exact ⟨a, v, by rw [show x = d from ex, e], by
      rw [show y = _ from ey]
      exact .inl ⟨kvs, .inr p, t.imp (fun t => t.2) (fun ⟨o, t⟩ => ⟨o, t.2⟩), rfl, h1.symm⟩, h2⟩
/-- the expression runs while the dict at d is locked -/
theorem y_lock {P P' : V → Hp → Prop} {d : Addr} {u : HO} (hd : At B H d u) (mu : Mut (some u)) (h : ∀ od, Y B te σ (upd H d (.frz od u)) P) (hP : ∀ od v H', Go B H (upd H' d u) → P v H' → H' d = some (.frz od u) → P' v (upd H' d u)) : Y B (tLockE te) σ H P' := fun H1 g Q q =>
  ⟨d, u, (hd.go g).2, mu, fun od => by
    have b1 : Bk B (upd H1 d (.frz od u)) := fun b e => by
      obtain ⟨x, y, z, q⟩ := g.2 b e
      exact ⟨x, y, z, by rw [upd_ne (fun z => hd.1 (by rw [e, z]))]; exact q⟩
    refine h od _ ⟨fun a o hb e => ?_, b1⟩ _ fun v H2 g2 p => ?_
    · by_cases ha : a = d
      · subst ha
        rw [upd_same] at e ⊢
        exact e
      · rw [upd_ne ha] at e ⊢
        exact g.1 a o hb e
    · have e2 : H2 d = some (.frz od u) := g2.1 d _ hd.1 upd_same
      have g3 : Go B H1 (upd H2 d u) := by
        refine ⟨fun a o hb e => ?_, fun b e => ?_⟩
        · by_cases ha : a = d
          · subst ha
            rw [upd_same, ← e]
            exact (hd.go g).2.symm
          · rw [upd_ne ha]
            exact g2.1 a o hb (by rw [upd_ne ha]; exact e)
        · obtain ⟨x, y, z, q⟩ := g2.2 b e
          exact ⟨x, y, z, by rw [upd_ne (fun z => hd.1 (by rw [e, z]))]; exact q⟩
      exact ⟨e2, q v _ g3 (hP od v H2 (g.trans g3) p e2)⟩⟩
/-- a pair of an item: key, value -/
def ItR (B : Option Addr) (R : α → V → Hp → Prop) (x : Str × α) : V → Hp → Prop := fun v H => ∃ T z, v = .ref T ∧ At B H T (.tup [.str x.1, z]) ∧ R x.2 z H
theorem wk_items {d : Addr} {o : Obj} {kvs : List (Key × V)} {xs : List (Str × α)} (t : At B H d (.frz o (.dK kvs))) (p : Paired (fun x (kv : Key × V) => kv.1 = Sum.inr x.1 ∧ R x.2 kv.2 H) xs kvs) (sR : ∀ x, St B (R x)) : Wk B (Iti d o kvs) H xs (ItR B R) :=
  wk_of walk_items p.length.symm (fun H1 g => (t.go g).2) fun i x H1 v H2 ex g y => by
    obtain ⟨T, x1, z, e1, e2, e3, e4, e5⟩ := y
    obtain ⟨kv, hk, e4⟩ := Option.map_eq_some_iff.mp e4
    obtain ⟨kv', hk', e5⟩ := Option.map_eq_some_iff.mp e5
    rw [hk] at hk'
    cases hk'
    obtain ⟨q1, q2⟩ := paired_get p ex hk
    subst e3
    have g' : Go B H1 (upd H1 T (.tup [x1, z])) := Go.new g.2 e2
    refine ⟨g', T, z, e1, ?_, sR _ _ _ _ (g.trans g') (by rw [← e5]; exact q2)⟩
    rw [q1] at e4
    rw [show V.str x.1 = x1 from e4]
    exact At.new g.2 e2
theorem yi_items {d : Addr} {o : Obj} {kvs : List (Key × V)} {xs : List (Str × α)} (h : Y B te σ H (Is (.ref d))) (t : At B H d (.frz o (.dK kvs))) (p : Paired (fun x (kv : Key × V) => kv.1 = Sum.inr x.1 ∧ R x.2 kv.2 H) xs kvs) (sR : ∀ x, St B (R x)) : YIk B (iItems te) σ H xs (ItR B R) := fun H1 g Kk k =>
  h H1 g _ fun v H2 g2 e => ⟨d, o, kvs, e, (t.go (g.trans g2)).2, k _ H2 g2 (wk_items t p sR)⟩
theorem yg_item {K : PySem.W.Frag} {i j : Nat} : YG B (gTup K 2 (gCons (gName i) (gCons (gName j) gNil))) σ (ItR B R) (fun p σ2 H => ∃ z, R p.2 z H ∧ σ2 = (σ.set i (some (.str p.1))).set j (some z)) := fun p x H _ ⟨a, z, e, t, r⟩ Q q =>
  ⟨a, _, e, t.st, rfl, _, _, rfl, _, _, rfl, rfl, q _ ⟨z, r, rfl⟩⟩
/-- told by a rep that a change of a dict, of a locked thing, of an instance leaves -/
def dkO : HO → Prop
  | .dK _ => True
  | .frz _ _ => True
  | .ins _ _ _ => True
  | _ => False
def NoK (P : V → Hp → Prop) : Prop := ∀ v H D o o', P v H → H D = some o → dkO o → P v (upd H D o')
theorem At.nk {a D : Addr} {u o o' : HO} (t : At B H a u) (h : H D = some o) (hd : dkO o) (hu : ¬ dkO u) : At B (upd H D o') a u := ⟨t.1, by
  rw [upd_ne (ne_of t.2 h fun z => hu (z ▸ hd))]
  exact t.2⟩
theorem LsS.nk {xs : List Str} : NoK (LsS B xs) := fun v H D o o' ⟨a, e, t⟩ h hd => ⟨a, e, t.nk h hd (fun z => z)⟩
theorem TpS.nk {xs : List Str} : NoK (TpS B xs) := fun v H D o o' ⟨a, e, t⟩ h hd => ⟨a, e, t.nk h hd (fun z => z)⟩
theorem TpI.nk {xs : List Int} : NoK (TpI B xs) := fun v H D o o' ⟨a, e, t⟩ h hd => ⟨a, e, t.nk h hd (fun z => z)⟩
theorem PrS.nk {p : Str × Str} : NoK (PrS B p) := fun v H D o o' ⟨a, e, t⟩ h hd => ⟨a, e, t.nk h hd (fun z => z)⟩
theorem IV.nk {x : Int} : NoK (IV x) := fun _ _ _ _ _ h _ _ => h
theorem SV.nk {x : Str} : NoK (SV x) := fun _ _ _ _ _ h _ _ => h
theorem TpR.nk {R : α → V → Hp → Prop} (hR : ∀ x, NoK (R x)) {xs : List α} : NoK (TpR B R xs) := fun v H D o o' ⟨a, zs, e, t, p⟩ h hd => ⟨a, zs, e, t.nk h hd (fun z => z), p.mono fun x z q => hR x z H D o o' q h hd⟩
theorem LsR.nk {R : α → V → Hp → Prop} (hR : ∀ x, NoK (R x)) {xs : List α} : NoK (LsR B R xs) := fun v H D o o' ⟨a, zs, e, t, p⟩ h hd => ⟨a, zs, e, t.nk h hd (fun z => z), p.mono fun x z q => hR x z H D o o' q h hd⟩
theorem paired_snoc {β γ : Type} {F : β → γ → Prop} : ∀ {xs : List β} {ys : List γ} {x : β} {y : γ}, Paired F xs ys → F x y → Paired F (xs ++ [x]) (ys ++ [y])
  | _, _, _, _, .nil, h => .cons h .nil
  | _, _, _, _, .cons a b, h => .cons a (paired_snoc b h)
theorem dc_none {f : α → Str} {Rr : α → V → Prop} {k : Str} : ∀ {xs : List α} {kvs : List (Key × V)}, Paired (fun x (kv : Key × V) => kv.1 = Sum.inr (f x) ∧ Rr x kv.2) xs kvs → k ∉ xs.map f → valV kvs (.inr k) = none
  | _, _, .nil, _ => rfl
  | x :: xs, kv :: kvs, .cons a b, h => by
    rw [List.map_cons] at h
    rw [valV_neg (by rw [a.1]; intro z; exact h (by rw [Sum.inr.inj z]; exact List.mem_cons_self))]
    exact dc_none b fun z => h (List.mem_cons_of_mem _ z)
theorem paired_mapL {β γ δ : Type} {F : γ → δ → Prop} {g : β → γ} : ∀ {xs : List β} {ys : List δ}, Paired (fun x y => F (g x) y) xs ys → Paired F (xs.map g) ys
  | _, _, .nil => .nil
  | _, _, .cons a b => .cons a (paired_mapL b)
/-- {f x: .. for x in ..}, the keys distinct -/
theorem y_dcG {β : Type} {vl : β → V → Hp → Prop} (f : α → Str) (e : α → β) (hi : YI B wi σ H as R) (hz : as.length ≤ 40000) (hn : (as.map f).Nodup) (hg : YG B g (wipe σ vs) R S) (sv : ∀ x, St B (vl x)) (sn : ∀ x, NoK (vl x))
    (hb : ∀ a σ2 H1, a ∈ as → Go B H H1 → S a σ2 H1 → wipe σ2 vs = wipe σ vs ∧ Y B tk σ2 H1 (Is (.str (f a))) ∧ Y B tv σ2 H1 (vl (e a))) :
    Y B (tDc wi g tYes tk tv vs) σ H (fun v H' => DcR B vl (as.map fun x => (f x, e x)) v H' ∧ ∃ p, v = .ref p ∧ H p = none) := fun H0 g0 Q q =>
  hi H0 g0 _ fun J H1 g1 w D hD => by
    have gD := g0.trans g1
    have bD := gD.2.fresh hD
    have nD : H D = none := gD.fresh hD
    refine ⟨fun i m H' => m = as.length - i ∧ i ≤ as.length ∧ Go B H1 H' ∧ ∃ kvs, H' D = some (.dK kvs) ∧ Paired (fun x (kv : Key × V) => kv.1 = Sum.inr (f x) ∧ vl (e x) kv.2 H') (as.take i) kvs, ⟨as.length, by omega, Nat.zero_le _, Go.new gD.2 hD, [], upd_same, by rw [List.take_zero]; exact .nil⟩, ?_⟩
    rintro i m H' ⟨rfl, hle, gH, kvs, hl, hc⟩
    by_cases hlt : i < as.length
    · refine .inr ⟨w.go i H' hlt gH, fun H2 => i + 1 ≤ as.length ∧ Go B H1 H2 ∧ ∃ kvs, H2 D = some (.dK kvs) ∧ Paired (fun x (kv : Key × V) => kv.1 = Sum.inr (f x) ∧ vl (e x) kv.2 H2) (as.take (i + 1)) kvs, fun H2 h2 => ⟨as.length - (i + 1), by omega, rfl, h2.1, h2.2⟩, fun x H2 hy => ?_⟩
      obtain ⟨a, ha⟩ : ∃ a, as[i]? = some a := ⟨_, List.getElem?_eq_getElem hlt⟩
      have et : as.take (i + 1) = as.take i ++ [a] := by rw [List.take_add_one, ha] <;> rfl
      obtain ⟨g2, r⟩ := w.yld i a H' x H2 ha gH hy
      refine hg a x H2 g2.2 r _ fun σ2 s => ?_
      obtain ⟨hw, hk, hv⟩ := hb a σ2 H2 (List.mem_of_getElem? ha) ((gD.trans gH).trans g2) s
      refine ⟨hw, ?_⟩
      show tk σ2 H2 _
      refine hk H2 (Go.refl g2.2) _ fun y H3 g3 ey => hv H3 g3 _ fun z H4 g4 pz => ?_
      have g24 := (g2.trans g3).trans g4
      have hl4 : H4 D = some (.dK kvs) := g24.1 D _ bD hl
      have hlen := hc.length
      rw [List.length_take] at hlen
      have gm : Go B H1 (upd H4 D (.dK (putK kvs (.inr (f a)) z))) := (gH.trans g24).mut hD bD
      have nk : valV kvs (.inr (f a)) = none := dc_none (Rr := fun x v => vl (e x) v H') hc (by
        have em := List.map_take (f := f) (l := as) (i := i)
        rw [em]
        exact nodup_take hn (by rw [List.getElem?_map, ha] <;> rfl))
      refine ⟨kvs, .inr (f a), ey, hl4, zt (by omega), hlt, gm, kvs ++ [(.inr (f a), z)], by rw [putK_new z nk]; exact upd_same, ?_⟩
      rw [et, putK_new z nk]
      exact paired_snoc (hc.mono fun x kv h => ⟨h.1, sn (e x) _ H4 D _ _ (sv (e x) _ _ _ g24 h.2) hl4 True.intro⟩) ⟨rfl, sn (e a) z H4 D _ _ pz hl4 True.intro⟩
    · have ei : i = as.length := by omega
      subst ei
      rw [List.take_length] at hc
      refine .inl ⟨w.stop H' gH, q (.ref D) H' (g1.trans gH) ⟨⟨D, kvs, rfl, ⟨bD, hl⟩, ?_⟩, D, rfl, nD⟩⟩
      exact paired_mapL (F := fun (x : Str × β) (kv : Key × V) => kv.1 = Sum.inr x.1 ∧ vl x.2 kv.2 H') (g := fun x => (f x, e x)) hc
end
end NP
end
section
set_option Elab.async false
set_option linter.all false
set_option maxRecDepth 100000
set_option maxHeartbeats 4000000
/-! What each peg needs; which pegs clash. -/
namespace NP
open PySem PySem.Spec PyProof.Rows L2
/-! ### plain -/
/-- what each peg needs, by the pairs in turn -/
def nst (f : Str → List Str) (q : Str × Str) : Str → List Str := fun o => lr (f o) q.1 (f q.2)
def nr (ws : List (Str × Str)) : Str → List Str := ws.foldl nst (fun p => [p])
/-- the pairs name pegs, and there is a rank that falls from each to what it needs -/
structure NdOk (pegs : List Str) (ws : List (Str × Str)) : Prop where
  nd : pegs.Nodup
  z : pegs.length ≤ 12
  in_ : ∀ q ∈ ws, q.1 ∈ pegs ∧ q.2 ∈ pegs ∧ q.1 ≠ q.2
  rk : ∃ r : Str → Nat, ∀ q ∈ ws, r q.2 < r q.1
structure RowOk (pegs : List Str) (r : Str → Nat) (o : Str) (row : List Str) : Prop where
  nd : row.Nodup
  sub : ∀ x ∈ row, x ∈ pegs
  self : o ∈ row
  rk : ∀ x ∈ row, x = o ∨ r x < r o
theorem nodup_len : ∀ {xs ys : List Str}, xs.Nodup → (∀ x ∈ xs, x ∈ ys) → xs.length ≤ ys.length
  | [], _, _, _ => Nat.zero_le _
  | x :: xs, ys, h, hs => by
    have hx : x ∈ ys := hs x List.mem_cons_self
    obtain ⟨h1, h2⟩ := List.nodup_cons.mp h
    have h3 : xs.length ≤ (ys.erase x).length := nodup_len h2 fun z hz => by
      have hne : z ≠ x := fun e => h1 (e ▸ hz)
      exact (List.mem_erase_of_ne hne).mpr (hs z (List.mem_cons_of_mem _ hz))
    have h4 := List.length_erase_of_mem hx
    have h5 : 0 < ys.length := List.length_pos_of_mem hx
    rw [List.length_cons]
    omega
theorem lr_mem {row needed : List Str} {peg x : Str} : x ∈ lr row peg needed ↔ x ∈ row ∨ (peg ∈ row ∧ x ∈ needed) := by
  unfold lr
  split
  · rename_i h
    rw [List.mem_append, List.mem_filter]
    constructor
    · rintro (h1 | h1)
      · exact .inl h1
      · exact .inr ⟨h, h1.1⟩
    · rintro (h1 | h1)
      · exact .inl h1
      · by_cases hx : x ∈ row
        · exact .inl hx
        · exact .inr ⟨h1.2, by simp [hx]⟩
  · rename_i h
    constructor
    · exact .inl
    · rintro (h1 | h1)
      · exact h1
      · exact absurd h1.1 h
theorem lr_nodup {row needed : List Str} {peg : Str} (h1 : row.Nodup) (h2 : needed.Nodup) : (lr row peg needed).Nodup := by
  unfold lr
  split
  · rw [List.nodup_append]
    refine ⟨h1, h2.filter _, fun a ha b hb e => ?_⟩
    subst e
    have := (List.mem_filter.mp hb).2
    simp [ha] at this
  · exact h1
theorem nst_ok {pegs : List Str} {r : Str → Nat} {f : Str → List Str} {q : Str × Str} (h : ∀ o ∈ pegs, RowOk pegs r o (f o)) (q2 : q.2 ∈ pegs) (hr : r q.2 < r q.1) : ∀ o ∈ pegs, RowOk pegs r o (nst f q o) := fun o ho => by
  have a := h o ho
  have b := h q.2 q2
  refine ⟨lr_nodup a.nd b.nd, fun x hx => ?_, lr_mem.mpr (.inl a.self), fun x hx => ?_⟩
  · rcases lr_mem.mp hx with z | z
    · exact a.sub x z
    · exact b.sub x z.2
  · rcases lr_mem.mp hx with z | z
    · exact a.rk x z
    · right
      have h1 : r x ≤ r q.2 := by
        rcases b.rk x z.2 with e | e
        · rw [e]; exact Nat.le_refl _
        · exact Nat.le_of_lt e
      have h2 : r q.1 ≤ r o := by
        rcases a.rk q.1 z.1 with e | e
        · rw [e]; exact Nat.le_refl _
        · exact Nat.le_of_lt e
      omega
theorem fold_ok {pegs : List Str} {r : Str → Nat} : ∀ (ws : List (Str × Str)) (f : Str → List Str), (∀ q ∈ ws, q.2 ∈ pegs ∧ r q.2 < r q.1) → (∀ o ∈ pegs, RowOk pegs r o (f o)) → ∀ o ∈ pegs, RowOk pegs r o (ws.foldl nst f o)
  | [], _, _, h => h
  | q :: ws, f, hw, h => fold_ok ws (nst f q) (fun q' hq => hw q' (List.mem_cons_of_mem _ hq)) (nst_ok h (hw q List.mem_cons_self).1 (hw q List.mem_cons_self).2)
theorem nr_ok {pegs : List Str} {ws : List (Str × Str)} {r : Str → Nat} (hw : ∀ q ∈ ws, q.2 ∈ pegs ∧ r q.2 < r q.1) : ∀ o ∈ pegs, RowOk pegs r o (nr ws o) :=
  fold_ok ws _ hw fun o ho => ⟨by simp, fun x hx => by rw [List.mem_singleton.mp hx]; exact ho, List.mem_singleton.mpr rfl, fun x hx => .inl (List.mem_singleton.mp hx)⟩
theorem nr_take {ws : List (Str × Str)} {i : Nat} {q : Str × Str} (h : ws[i]? = some q) : nr (ws.take (i + 1)) = nst (nr (ws.take i)) q := by
  unfold nr
  rw [List.take_add_one, h, List.foldl_append] <;> rfl
section
variable {P : Program} {w : World} {K : PySem.W.Frag} {mg : Str → Option Value} {base : Heap}
structure NrP where
  vp : V
  vw : V
  pegs : List Str
  wants : List (Str × Str)
def rowsOf (pegs : List Str) (ws : List (Str × Str)) : List (Str × List Str) := pegs.map fun p => (p, nr ws p)
def sp_needed_rows (K : PySem.W.Frag) : Sp := Pm (fun p : NrP => [p.vp, p.vw]) (fun B p H => TpS B p.pegs p.vp H ∧ TpR B (PrS B) p.wants p.vw H ∧ NdOk p.pegs p.wants) (fun B p v H => DcR B (LsS B) (rowsOf p.pegs p.wants) v H)
theorem ok_needed_rows (T : Fx K mg) : OK P w K mg base 4 (He.fAd K ("needed_rows", none)) (sp_needed_rows K) := by
  obtain ⟨fd, F⟩ := T.dd 7 (d := d_needed_rows) rfl
  have g_longer_row := T.glo 8 rfl
  have n_enumerate := T.free 47 rfl
  have ok_longer_row := ok_longer_row (P := P) (w := w) (base := base) T
  obtain ⟨_, F_longer_row⟩ := T.dd 8 (d := d_longer_row) rfl
  have kp_longer_row := F_longer_row.kp
  have sc : FnScope ["pegs", "needs", "rows", "at", "peg", "needed", "own", "row"] ["pegs", "needs"] (defScope (top 35)) := ⟨rfl, rfl, rfl, by decide +kernel, rfl, by decide +kernel, by decide +kernel⟩
  have nd := sc.nd
  refine OK.of (F.ok sc (fun vs H Q E h => by obtain ⟨B, a, h⟩ := h; first | (obtain ⟨rfl, _⟩ := h; rfl) | (obtain ⟨x, dx, rfl, _⟩ := h; rfl)) (fun cdv A outer s H vs Q E hr h => ⟨_, PSs.nox (pss_cons (ps_set (i := 2) nd rfl (Or.inr rfl) (pe_dc (own := [("peg", 4)]) rfl nd (k_tup (K := K) (pv 0)) (blkOk_by (by kernel_rfl)) (fun _ _ _ _ _ => (pg_name (i := 4) nd rfl (Or.inl rfl))) (fun _ _ _ _ _ => pts_nil) (fun _ _ _ _ _ => (pv 4)) (fun _ _ _ _ _ => (pe_lst (pa_cons (pv 4) pa_nil)))))
    (pss_cons (ps_for PassesOwn.never rfl (k_enumT (K := K) rfl n_enumerate (pa_cons (pv 1) pa_nil)) (k_gtup (K := K) (n := 2) rfl (pgs_cons (pg_name (i := 3) nd rfl (Or.inl rfl)) (pgs_cons (k_gtup (K := K) (n := 2) rfl (pgs_cons (pg_name (i := 4) nd rfl (Or.inr rfl)) (pgs_cons (pg_name (i := 5) nd rfl (Or.inr rfl)) pgs_nil))) pgs_nil))) (pss_cons (ps_if (pt_cmpR (k_in (K := K)) (pv 4) (pe_dget (hu_of hr) (pv 2) (pv 5) (fun _ _ => rfl)) (by with_unfolding_all rfl)) pss_never pss_nil)
    (pss_one (ps_set (i := 2) nd rfl (Or.inr rfl) (pe_lock (pe_dc (own := [("own", 6), ("row", 7)]) rfl nd (pi_items (pv 2)) (blkOk_by (by kernel_rfl)) (fun _ _ _ _ _ => (k_gtup (K := K) (n := 2) rfl (pgs_cons (pg_name (i := 6) nd rfl (Or.inl rfl)) (pgs_cons (pg_name (i := 7) nd rfl (Or.inl rfl)) pgs_nil)))) (fun _ _ _ _ _ => pts_nil) (fun _ _ _ _ _ => (pv 6)) (fun _ _ _ _ _ => (pe_cl ok_longer_row hr (by decide) rfl g_longer_row kp_longer_row (pa_cons (pv 7) (pa_cons (pv 4) (pa_cons (pe_dget (hu_of hr) (pv 2) (pv 5) (fun _ _ => rfl)) pa_nil)))))))))))
    (pss_one (ps_ret (pv 2))))), ?_⟩)) (F.bindsN fun _ _ _ _ _ _ us hl => match us, hl with | [_, _], _ => rfl)
  obtain ⟨B, ⟨vp, vw, pegs, wants⟩, rfl, hb, ⟨h1, h2, hn⟩, hq⟩ := h
  dsimp only at h1 h2 hn
  obtain ⟨rk, hrk⟩ := hn.rk
  have hw : ∀ q ∈ wants, q.2 ∈ pegs ∧ rk q.2 < rk q.1 := fun q hq => ⟨(hn.in_ q hq).2.1, hrk q hq⟩
  have hlen : ∀ ws : List (Str × Str), (∀ q ∈ ws, q ∈ wants) → ∀ o ∈ pegs, (nr ws o).length ≤ 100 := fun ws hs o ho => by
    have z := nr_ok (fun q hq => hw q (hs q hq)) o ho
    exact Nat.le_trans (nodup_len z.nd z.sub) (Nat.le_trans hn.z (by decide))
  refine q_asg (Go.refl hb) ((y_dcG (vl := LsS B) (fun x => x) (nr []) (yk_tS (y_var rfl) h1).yi (Nat.le_trans hn.z (by decide)) (by rw [List.map_id']; exact hn.nd) yg_s (fun _ => LsS.st) (fun _ => LsS.nk) fun x σ2 H1 hx g1 s => ?_).imp (P' := DcR B (LsS B) (rowsOf pegs [])) fun v H1 _ h => h.1) fun v H1 g1 _ hv => ?_
  · subst s
    exact ⟨rfl, y_var rfl, (y_lstI (ya_cons (y_var rfl) ya_nil) (by simp)).imp fun v H2 _ ⟨a, e, t, _⟩ => ⟨a, e, t⟩⟩
  · refine q_forK (fun i σ1 H2 => Go B H1 H2 ∧ ∃ d w1 w2 w3, σ1 = [some vp, some vw, some d, w1, w2, w3, none, none] ∧ DcR B (LsS B) (rowsOf pegs (wants.take i)) d H2) (yk_enR (y_var rfl) (TpR.st (fun _ => PrS.st) _ _ _ g1 h2) fun _ => PrS.st) (Go.refl g1.2) (fun H2 g => ⟨g, v, none, none, none, rfl, by rw [List.take_zero]; exact DcR.st (fun _ => LsS.st) _ _ _ g hv⟩) (fun i σ1 H2 _ h => h.1) (fun i x σ1 H2 u H3 hx hI g3 r => ?_) fun σ1 H2 hI => ?_
    · obtain ⟨g2, d, w1, w2, w3, rfl, hd⟩ := hI
      obtain ⟨i1, i2⟩ := enum_get hx
      refine yg_enumP x u H3 g3.2 r _ fun σ2 e => ?_
      subst e
      have hx2 : x.2 ∈ wants := List.mem_of_getElem? i2
      obtain ⟨m1, m2, m3⟩ := hn.in_ _ hx2
      have hsub : ∀ q ∈ wants.take i, q ∈ wants := fun q hq => List.mem_of_mem_take hq
      have ok := nr_ok (fun q hq => hw q (hsub q hq)) x.2.2 m2
      have hd3 := DcR.st (fun _ => LsS.st) _ _ _ g3 hd
      refine q_no (Go.refl g3.2) (yt_is (yt_testI (y_in (y_var rfl) (y_dgetF (fun _ => LsS.st) (y_var rfl) hd3.z (y_var rfl) m2).ls)) (decide_eq_false fun hm => ?_)) fun H4 g4 _ => ?_
      · rcases ok.rk _ hm with e | e
        · exact m3 e
        · exact Nat.lt_asymm e (hrk _ hx2)
      · have hd4 := DcR.st (fun _ => LsS.st) _ _ _ g4 hd3
        obtain ⟨a, kvs, rfl, ta, pa⟩ := hd4
        refine s_asg (P := DcR B (LsS B) (rowsOf pegs (wants.take (i + 1)))) (Go.refl g4.2) (y_lock (P := fun v H' => DcR B (LsS B) (rowsOf pegs (wants.take (i + 1))) v H') ta True.intro (fun od => ?_) fun od v H5 g5 hp e5 => ?_) fun v5 H5 g5 _ hv5 => ⟨((g2.trans g3).trans g4).trans g5, v5, _, _, _, rfl, hv5⟩
        · have hL : At B (upd H4 a (.frz od (.dK kvs))) a (.frz od (.dK kvs)) := ⟨ta.1, upd_same⟩
          have pL : Paired (fun x (kv : Key × V) => kv.1 = Sum.inr x.1 ∧ LsS B x.2 kv.2 (upd H4 a (.frz od (.dK kvs)))) (rowsOf pegs (wants.take i)) kvs := pa.mono fun x kv q => ⟨q.1, LsS.nk _ _ _ _ _ q.2 ta.2 True.intro⟩
          have zL : DcZ B (LsS B) (rowsOf pegs (wants.take i)) (.ref a) (upd H4 a (.frz od (.dK kvs))) := ⟨a, kvs, rfl, .inr ⟨od, hL⟩, pL⟩
          have er : rowsOf pegs (wants.take (i + 1)) = (rowsOf pegs (wants.take i)).map fun y => (y.1, lr y.2 x.2.1 (nr (wants.take i) x.2.2)) := by
            unfold rowsOf
            rw [List.map_map, nr_take i2] <;> rfl
          rw [er]
          refine (y_dcG (vl := LsS B) (fun y : Str × List Str => y.1) (fun y => lr y.2 x.2.1 (nr (wants.take i) x.2.2)) (yi_items (y_var rfl) hL pL fun _ => LsS.st).yi (by show (rowsOf pegs (wants.take i)).length ≤ 40000; unfold rowsOf; rw [List.length_map]; exact Nat.le_trans hn.z (by decide)) (by unfold rowsOf; rw [List.map_map]; show (pegs.map fun p => p).Nodup; rw [List.map_id']; exact hn.nd) yg_item (fun _ => LsS.st) (fun _ => LsS.nk) fun y σ2 H5 hy g5 s => ?_).imp fun v H1 _ h => h.1
          obtain ⟨z, hz, rfl⟩ := s
          obtain ⟨y0, hy0, rfl⟩ := List.mem_map.mp hy
          refine ⟨rfl, y_var rfl, y_cl (ya_consG St.is (y_var rfl) (ya_consG St.is (y_var rfl) (ya_consG LsS.st (y_dgetF (fun _ => LsS.st) (y_var rfl) (DcZ.st (fun _ => LsS.st) _ _ _ g5 zL) (y_var rfl) m2) ya_nil))) fun vs H6 g6 ⟨v1, _, e1, q1, v2, _, e2, q2, v3, _, e3, q3, e4⟩ => ⟨⟨z, v3, _, x.2.1, _⟩, ?_, ⟨LsS.st _ _ _ g6 hz, q3, hlen _ hsub _ hy0, hlen _ hsub _ m2⟩, fun _ _ _ h => h⟩⟩
          rw [e1, e2, e3, show v1 = _ from q1, show v2 = _ from q2]
          rw [show _ = [] from e4]
        · obtain ⟨b, ks, e, t, p⟩ := hp
          refine ⟨b, ks, e, ⟨t.1, ?_⟩, p.mono fun x kv q => ⟨q.1, LsS.nk _ _ _ _ _ q.2 e5 True.intro⟩⟩
          rw [upd_ne (ne_of t.2 e5 fun z => nomatch z)]
          exact t.2
    · obtain ⟨g2, d, w1, w2, w3, rfl, hd⟩ := hI
      rw [enum_len, List.take_length] at hd
      exact s_ret (Go.refl g2.2) (y_var rfl) fun v3 H3 g3 _ e => hq v3 H3 ((g1.trans g2).trans g3) (by
        rw [show v3 = d from e]
        exact DcR.st (fun _ => LsS.st) _ _ _ g3 hd)
end
end NP
end
section
set_option Elab.async false
set_option linter.all false
set_option maxRecDepth 100000
set_option maxHeartbeats 4000000
/-! Which pegs clash. -/
namespace NP
open PySem PySem.Spec PyProof.Rows L2
section
variable {B : Option Addr} {σ : L2.St} {H H0 H' : Hp} {te ta tb : TE} {K : PySem.W.Frag} {D : Ends} {P : V → Hp → Prop} {tz : TS}
theorem y_succ {i : Nat} (h : Y B te σ H (Is (.int (i : Int)))) : Y B (tOp (rI0 fun i j => .int (i + j)) te (tC (.int 1))) σ H (Is (.int ((i + 1 : Nat) : Int))) := y_is (y_op h y_c o_add) (congrArg V.int (by omega))
theorem s_ext {R : List V → Hp → Prop} {i : Nat} {p : Addr} {zs : List V} (g : Go B H0 H) (t : At B H0 p (.lst zs)) (hσ : σ[i]? = some (some (.ref p))) (h : Y B te σ H0 fun v H' => ∃ b ys, v = .ref b ∧ At B H' b (.lst ys) ∧ zs.length + ys.length ≤ 100000 ∧ R ys H')
    (k : ∀ ys H2, Go B H0 H2 → Go B H H2 → R ys H2 → D.nx σ (upd H2 p (.lst (zs ++ ys)))) : tDrop (tBM K "list" rExtend (tVar i) (tCons te tNil)) D σ H := by
  refine ⟨_, hσ, .inl ⟨rfl, zs, (t.go g).sl⟩, ?_⟩
  refine h H g _ fun v H2 g2 ⟨b, ys, e, tb, z, r⟩ => ?_
  exact ⟨p, b, zs, ys, rfl, by rw [e], (t.go (g.trans g2)).2, tb.2, zl z, k ys H2 (g.trans g2) g2 r⟩
theorem s_app {i : Nat} {p : Addr} {zs : List V} (g : Go B H0 H) (t : At B H0 p (.lst zs)) (hσ : σ[i]? = some (some (.ref p))) (hz : zs.length < 100000) (h : Y B te σ H0 P)
    (k : ∀ v H2, Go B H0 H2 → Go B H H2 → P v H2 → D.nx σ (upd H2 p (.lst (zs ++ [v])))) : tDrop (tBM K "list" rAppend (tVar i) (tCons te tNil)) D σ H := by
  refine ⟨_, hσ, .inl ⟨rfl, zs, (t.go g).sl⟩, ?_⟩
  refine h H g _ fun v H2 g2 r => ?_
  exact ⟨p, zs, v, rfl, rfl, (t.go (g.trans g2)).2, zt (Nat.le_of_lt hz), k v H2 (g.trans g2) g2 r⟩
end
theorem flat_len {α β : Type} {f : α → List β} {n : Nat} (h : ∀ x, (f x).length ≤ n) : ∀ xs : List α, (xs.flatMap f).length ≤ xs.length * n
  | [] => by simp
  | x :: xs => by
    rw [List.flatMap_cons, List.length_append, List.length_cons, Nat.succ_mul]
    have h1 := h x
    have h2 := flat_len h xs
    omega
/-- the pairs that clash, found at a peg -/
def clAt (pegs : List Str) (ws bars : List (Str × Str)) (x : Nat × Str) : List (Str × Str) := ((pegs.drop (x.1 + 1)).filter fun o => brd (nr ws x.2) (nr ws o) bars).map fun o => (x.2, o)
def clp (pegs : List Str) (ws bars : List (Str × Str)) : List (Str × Str) := (enum pegs).flatMap (clAt pegs ws bars)
theorem clAt_len {pegs : List Str} {ws bars : List (Str × Str)} (x : Nat × Str) : (clAt pegs ws bars x).length ≤ pegs.length := by
  unfold clAt
  rw [List.length_map]
  refine Nat.le_trans (List.length_filter_le _ _) ?_
  rw [List.length_drop]
  omega
theorem paired_app {β γ : Type} {F : β → γ → Prop} : ∀ {xs xs' : List β} {ys ys' : List γ}, Paired F xs ys → Paired F xs' ys' → Paired F (xs ++ xs') (ys ++ ys')
  | _, _, _, _, .nil, h => h
  | _, _, _, _, .cons a b, h => .cons a (paired_app b h)
section
variable {P : Program} {w : World} {K : PySem.W.Frag} {mg : Str → Option Value} {base : Heap}
structure DdP where
  vp : V
  vr : V
  vb : V
  pegs : List Str
  wants : List (Str × Str)
  bars : List (Str × Str)
structure DdOk (B : Option Addr) (p : DdP) (H : Hp) : Prop where
  pegs : TpS B p.pegs p.vp H
  rows : DcR B (LsS B) (rowsOf p.pegs p.wants) p.vr H
  bars : TpR B (PrS B) p.bars p.vb H
  nd : NdOk p.pegs p.wants
  z : p.bars.length ≤ 100
theorem DdOk.go {B : Option Addr} {p : DdP} {H H' : Hp} (h : DdOk B p H) (g : Go B H H') : DdOk B p H' := ⟨TpS.st _ _ _ g h.pegs, DcR.st (fun _ => LsS.st) _ _ _ g h.rows, TpR.st (fun _ => PrS.st) _ _ _ g h.bars, h.nd, h.z⟩
def sp_check_dead (K : PySem.W.Frag) : Sp := Pm (fun p : DdP => [p.vp, p.vr, p.vb]) (fun B p H => DdOk B p H ∧ ∀ x ∈ p.pegs, brd (nr p.wants x) (nr p.wants x) p.bars = false) (fun _ _ v _ => v = .non)
theorem ok_check_dead (T : Fx K mg) : OK P w K mg base 4 (He.fAd K ("check_dead", none)) (sp_check_dead K) := by
  obtain ⟨fd, F⟩ := T.dd 10 (d := d_check_dead) rfl
  have g_barred_in := T.glo 9 rfl
  have n_enumerate := T.free 47 rfl
  have ok_barred_in := ok_barred_in (P := P) (w := w) (base := base) T
  obtain ⟨_, F_barred_in⟩ := T.dd 9 (d := d_barred_in) rfl
  have kp_barred_in := F_barred_in.kp
  have sc : FnScope ["pegs", "rows", "bars", "at", "peg"] ["pegs", "rows", "bars"] (defScope (top 38)) := ⟨rfl, rfl, rfl, by decide +kernel, rfl, by decide +kernel, by decide +kernel⟩
  have nd := sc.nd
  refine OK.of (F.ok sc (fun vs H Q E h => by obtain ⟨B, a, h⟩ := h; first | (obtain ⟨rfl, _⟩ := h; rfl) | (obtain ⟨x, dx, rfl, _⟩ := h; rfl)) (fun cdv A outer s H vs Q E hr h => ⟨_, PSs.nox (pss_one (ps_for PassesOwn.never rfl (k_enumT (K := K) rfl n_enumerate (pa_cons (pv 0) pa_nil)) (k_gtup (K := K) (n := 2) rfl (pgs_cons (pg_name (i := 3) nd rfl (Or.inl rfl)) (pgs_cons (pg_name (i := 4) nd rfl (Or.inl rfl)) pgs_nil))) (pss_one (ps_if (pt_val (pe_cl ok_barred_in hr (by decide) rfl g_barred_in kp_barred_in (pa_cons (pe_dget (hu_of hr) (pv 1) (pv 4) (fun _ _ => rfl)) (pa_cons (pe_dget (hu_of hr) (pv 1) (pv 4) (fun _ _ => rfl)) (pa_cons (pv 2) pa_nil))))) pss_never pss_nil)))), ?_⟩)) (F.bindsN fun _ _ _ _ _ _ us hl => match us, hl with | [_, _, _], _ => rfl)
  obtain ⟨B, ⟨vp, vr, vb, pegs, wants, bars⟩, rfl, hb, ⟨hp, hd⟩, hq⟩ := h
  dsimp only at hd
  have h1 := hp.pegs
  have h2 := hp.rows
  have h3 := hp.bars
  dsimp only at h1 h2 h3
  refine s_forK (fun _ σ1 H2 => Go B H H2 ∧ ∃ w1 w2, σ1 = [some vp, some vr, some vb, w1, w2]) (yk_enS (y_var rfl) h1) (Go.refl hb) (fun H2 g => ⟨g, none, none, rfl⟩) (fun i σ1 H2 _ h => h.1) (fun i x σ1 H2 v H3 hx hI g3 r => ?_) fun σ1 H2 hI => hq _ H2 hI.1 rfl
  obtain ⟨g2, w1, w2, rfl⟩ := hI
  obtain ⟨i1, i2⟩ := enum_get hx
  refine yg_enum x v H3 g3.2 r _ fun σ2 ⟨z, ez, e⟩ => ?_
  rw [show z = .str x.2 from ez] at e
  subst e
  have g4 := g2.trans g3
  have mx := List.mem_of_getElem? i2
  have zr := DcR.z (DcR.st (fun _ => LsS.st) _ _ _ g4 h2)
  refine s_noN (Go.refl g3.2) (yt_testI (y_is (y_cl (args := fun p : BrP => [p.vr, p.vo, p.vb]) (P := Is (.bl (brd (nr wants x.2) (nr wants x.2) bars))) (ya_consG LsS.st (y_dgetF (fun _ => LsS.st) (y_var rfl) zr (y_var rfl) mx) (ya_consG LsS.st (y_dgetF (fun _ => LsS.st) (y_var rfl) zr (y_var rfl) mx) (ya_consG St.is (y_var rfl) ya_nil))) fun vs H6 g6 ⟨v1, _, e1, q1, v2, _, e2, q2, v3, _, e3, q3, e4⟩ => ⟨⟨v1, v2, vb, nr wants x.2, nr wants x.2, bars⟩, ?_, ⟨q1, q2, TpR.st (fun _ => PrS.st) _ _ _ (g4.trans g6) h3, hp.z⟩, fun _ _ _ h => h⟩) (by rw [hd _ mx]))) fun H5 g5 _ => ⟨g4.trans g5, _, _, rfl⟩
  rw [e1, e2, e3, show v3 = _ from q3]
  rw [show _ = [] from e4]
def sp_clash_pairs (K : PySem.W.Frag) : Sp := Pm (fun p : DdP => [p.vp, p.vr, p.vb]) DdOk (fun B p v H => TpR B (PrS B) (clp p.pegs p.wants p.bars) v H)
theorem ok_clash_pairs (T : Fx K mg) : OK P w K mg base 4 (He.fAd K ("clash_pairs", none)) (sp_clash_pairs K) := by
  obtain ⟨fd, F⟩ := T.dd 11 (d := d_clash_pairs) rfl
  have g_barred_in := T.glo 9 rfl
  have n_enumerate := T.free 47 rfl
  have n_tuple := T.free 40 rfl
  have ok_barred_in := ok_barred_in (P := P) (w := w) (base := base) T
  obtain ⟨_, F_barred_in⟩ := T.dd 9 (d := d_barred_in) rfl
  have kp_barred_in := F_barred_in.kp
  have sc : FnScope ["pegs", "rows", "bars", "found", "at", "one", "other"] ["pegs", "rows", "bars"] (defScope (top 39)) := ⟨rfl, rfl, rfl, by decide +kernel, rfl, by decide +kernel, by decide +kernel⟩
  have nd := sc.nd
  refine OK.of (F.ok sc (fun vs H Q E h => by obtain ⟨B, a, h⟩ := h; first | (obtain ⟨rfl, _⟩ := h; rfl) | (obtain ⟨x, dx, rfl, _⟩ := h; rfl)) (fun cdv A outer s H vs Q E hr h => ⟨_, PSs.nox (pss_cons (ps_set (i := 3) nd rfl (Or.inl rfl) (pe_lst pa_nil))
    (pss_cons (ps_for PassesOwn.never rfl (k_enumT (K := K) rfl n_enumerate (pa_cons (pv 0) pa_nil)) (k_gtup (K := K) (n := 2) rfl (pgs_cons (pg_name (i := 4) nd rfl (Or.inl rfl)) (pgs_cons (pg_name (i := 5) nd rfl (Or.inr rfl)) pgs_nil))) (pss_one (ps_expr (k_bm (K := K) PySem.F.plainAttrs_list PySem.F.slot_list_extend PySem.F.type_list_extend mt_extend (pv 3) (pa_cons (pe_lc (own := [("other", 6)]) rfl nd (k_tup (K := K) (pe_slice (k_slT (K := K)) (pv 0) (po_some (pe_op op_add (pv 4) pe_int)) po_none)) (blkOk_by (by kernel_rfl)) (fun _ _ _ _ _ => (pg_name (i := 6) nd rfl (Or.inl rfl))) (fun _ _ _ _ _ => (pts_one (pt_val (pe_cl ok_barred_in hr (by decide) rfl g_barred_in kp_barred_in (pa_cons (pe_dget (hu_of hr) (pv 1) (pv 5) (fun _ _ => rfl)) (pa_cons (pe_dget (hu_of hr) (pv 1) (pv 6) (fun _ _ => rfl)) (pa_cons (pv 2) pa_nil))))))) (fun _ _ _ _ _ => (pe_tup (pa_cons (pv 5) (pa_cons (pv 6) pa_nil))))) pa_nil)))))
    (pss_one (ps_ret (k_tupleOf (K := K) rfl n_tuple (pv 3)))))), ?_⟩)) (F.bindsN fun _ _ _ _ _ _ us hl => match us, hl with | [_, _, _], _ => rfl)
  obtain ⟨B, ⟨vp, vr, vb, pegs, wants, bars⟩, rfl, hb, hp, hq⟩ := h
  have h1 := hp.pegs
  have h2 := hp.rows
  have h3 := hp.bars
  have hn := hp.nd
  dsimp only at h1 h2 h3 hn
  refine q_asg (Go.refl hb) (y_lstI ya_nil (by decide)) fun v H1 g1 _ ⟨p, ev, tp, np⟩ => ?_
  subst ev
  refine q_forK (fun i σ1 H2 => Go B H H2 ∧ ∃ w1 w2 w3 zs, σ1 = [some vp, some vr, some vb, some (.ref p), w1, w2, w3] ∧ H2 p = some (.lst zs) ∧ Paired (fun x z => PrS B x z H2) (((enum pegs).take i).flatMap (clAt pegs wants bars)) zs) (yk_enS (y_var rfl) h1) g1 (fun H2 g => ⟨g1.trans g, none, none, none, [], rfl, (tp.go g).2, .nil⟩) (fun i σ1 H2 _ h => h.1) (fun i x σ1 H2 v H3 hx hI g3 r => ?_) fun σ1 H2 hI => ?_
  · obtain ⟨g2, w1, w2, w3, zs, rfl, hl, hc⟩ := hI
    obtain ⟨i1, i2⟩ := enum_get hx
    refine yg_enum x v H3 g3.2 r _ fun σ2 ⟨z, ez, e⟩ => ?_
    rw [show z = .str x.2 from ez] at e
    subst e
    have g4 := g2.trans g3
    have mx := List.mem_of_getElem? i2
    have tl : At B H3 p (.lst zs) := At.go ⟨tp.1, hl⟩ g3
    have hlen : zs.length ≤ 1000 := by
      rw [← hc.length]
      refine Nat.le_trans (flat_len (n := 12) (fun y => Nat.le_trans (clAt_len y) hn.z) _) ?_
      rw [List.length_take, enum_len]
      have := hn.z
      omega
    have ht : (enum pegs).take (i + 1) = (enum pegs).take i ++ [x] := by rw [List.take_add_one, hx] <;> rfl
    refine s_ext (R := fun ys H' => Paired (fun x z => PrS B x z H') (clAt pegs wants bars x) ys) (Go.refl g3.2) tl rfl ((y_lcR (fun o => brd (nr wants x.2) (nr wants o) bars) (val := fun o => PrS B (x.2, o)) (fun _ => PrS.st) (fun _ => PrS.nl) (yi_tup ((y_slFrom ((y_var rfl).rep (TpS.st _ _ _ g4 h1) TpS.st) (y_succ (y_var rfl))).imp fun v H1 _ h => h.r) fun _ => SV.st) (by
        rw [List.length_drop]
        have := hn.z
        omega) yg_s fun y σ2 H5 hy g5 s => ?_).imp fun v H5 g5 ⟨⟨q, ys, e, tq, pq⟩, _⟩ => ?_) fun ys H5 g5 _ hy => ?_
    · subst s
      have my := List.mem_of_mem_drop hy
      have g45 := g4.trans g5
      have zr := DcR.z (DcR.st (fun _ => LsS.st) _ _ _ g45 h2)
      refine ⟨rfl, yt_testI (y_cl (args := fun p : BrP => [p.vr, p.vo, p.vb]) (ya_consG LsS.st (y_dgetF (fun _ => LsS.st) (y_var rfl) zr (y_var rfl) mx) (ya_consG LsS.st (y_dgetF (fun _ => LsS.st) (y_var rfl) zr (y_var rfl) my) (ya_consG St.is (y_var rfl) ya_nil))) fun vs H6 g6 ⟨v1, _, e1, q1, v2, _, e2, q2, v3, _, e3, q3, e4⟩ => ⟨⟨v1, v2, vb, nr wants x.2, nr wants y, bars⟩, ?_, ⟨q1, q2, TpR.st (fun _ => PrS.st) _ _ _ (g45.trans g6) h3, hp.z⟩, fun _ _ _ h => h⟩), fun _ => (y_tupI (ya_cons (y_var rfl) (ya_cons (y_var rfl) ya_nil)) (by simp)).imp fun v H6 _ ⟨a, e, t, _⟩ => ⟨a, e, t⟩⟩
      rw [e1, e2, e3, show v3 = _ from q3]
      rw [show _ = [] from e4]
    · refine ⟨q, ys, e, tq, ?_, paired_mapL pq⟩
      have h5 := pq.length
      have h6 := List.length_filter_le (fun o => brd (nr wants x.2) (nr wants o) bars) (pegs.drop (x.1 + 1))
      rw [List.length_drop] at h6
      have := hn.z
      omega
    · refine ⟨(g4.trans g5).mut np tp.1, _, _, _, zs ++ ys, rfl, upd_same, ?_⟩
      rw [ht, List.flatMap_append, List.flatMap_singleton]
      have l5 := (tl.go g5).2
      exact paired_app (hc.mono fun x z q => PrS.nl _ _ _ _ _ (PrS.st _ _ _ (g3.trans g5) q) l5) (hy.mono fun x z q => PrS.nl _ _ _ _ _ q l5)
  · obtain ⟨g2, w1, w2, w3, zs, rfl, hl, hc⟩ := hI
    rw [List.take_length] at hc
    refine s_ret (P := TpR B (PrS B) (clp pegs wants bars)) (Go.refl g2.2) (y_tupLR (fun _ => PrS.st) ((y_var rfl).rep ⟨p, zs, rfl, ⟨tp.1, hl⟩, hc⟩ (LsR.st fun _ => PrS.st))) fun v3 H3 g3 _ e => hq v3 H3 (g2.trans g3) e
end
end NP
end
section
set_option Elab.async false
set_option linter.all false
set_option maxRecDepth 100000
set_option maxHeartbeats 4000000
/-! Data that can be compared; the board. -/
namespace NP
open PySem PySem.Spec PyProof.Rows L2
/-- data that is comparable: equal to itself, laid, of depth n at most -/
structure Gd (n : Nat) (d : PyData) : Prop where
  c : d.canLay0 = true
  e : PyData.eqv d d = true
  z : d.depth ≤ n
theorem Gd.str {x : Str} (h : PyData.strOk x = true) : Gd 0 (.str x) := ⟨by rw [PyData.canLay0]; exact h, by simp [PyData.eqv], by simp [PyData.depth]⟩
theorem Gd.int {x : Int} : Gd 0 (.int x) := ⟨by rw [PyData.canLay0], by simp [PyData.eqv], by simp [PyData.depth]⟩
theorem gd_all {n : Nat} : ∀ {ds : List PyData}, (∀ d ∈ ds, Gd n d) → PyData.canLayAll0 ds = true ∧ PyData.eqvAll ds ds = true ∧ PyData.depthAll ds ≤ n
  | [], _ => ⟨by rw [PyData.canLayAll0], by rw [PyData.eqvAll], by simp [PyData.depthAll]⟩
  | d :: ds, h => by
    obtain ⟨a, b, c⟩ := gd_all (ds := ds) fun d hd => h d (List.mem_cons_of_mem _ hd)
    have g := h d List.mem_cons_self
    refine ⟨by rw [PyData.canLayAll0, g.c, a] <;> rfl, by rw [PyData.eqvAll, g.e, b] <;> rfl, ?_⟩
    rw [PyData.depthAll]
    have := g.z
    omega
theorem Gd.tup {n : Nat} {ds : List PyData} (h : ∀ d ∈ ds, Gd n d) : Gd (n + 1) (.tuple ds) := by
  obtain ⟨a, b, c⟩ := gd_all h
  exact ⟨by rw [PyData.canLay0]; exact a, by rw [PyData.eqv]; exact b, by rw [PyData.depth]; omega⟩
theorem Gd.lst {n : Nat} {ds : List PyData} (h : ∀ d ∈ ds, Gd n d) : Gd (n + 1) (.list ds) := by
  obtain ⟨a, b, c⟩ := gd_all h
  exact ⟨by rw [PyData.canLay0]; exact a, by rw [PyData.eqv]; exact b, by rw [PyData.depth]; omega⟩
theorem Gd.shaped {n : Nat} {d : PyData} (h : Gd n d) (hn : n ≤ 64) : SeqAt.shaped d = true := by
  unfold SeqAt.shaped
  rw [h.c, decide_eq_true (Nat.le_trans h.z hn)] <;> rfl
theorem Gd.up {n m : Nat} {d : PyData} (h : Gd n d) (hn : n ≤ m) : Gd m d := ⟨h.c, h.e, Nat.le_trans h.z hn⟩
def Sk (xs : List Str) : Prop := ∀ x ∈ xs, PyData.strOk x = true
def dS (xs : List Str) : List PyData := xs.map PyData.str
def dI (xs : List Int) : List PyData := xs.map PyData.int
def dP (p : Str × Str) : PyData := .tuple [.str p.1, .str p.2]
theorem gd_S {xs : List Str} (h : Sk xs) : ∀ d ∈ dS xs, Gd 0 d := fun d hd => by
  obtain ⟨x, hx, rfl⟩ := List.mem_map.mp hd
  exact .str (h x hx)
theorem gd_I {xs : List Int} : ∀ d ∈ dI xs, Gd 0 d := fun d hd => by
  obtain ⟨x, hx, rfl⟩ := List.mem_map.mp hd
  exact .int
theorem gd_P {p : Str × Str} (h1 : PyData.strOk p.1 = true) (h2 : PyData.strOk p.2 = true) : Gd 1 (dP p) := .tup fun d hd => by
  rcases List.mem_cons.mp hd with e | hd
  · rw [e]; exact .str h1
  · rw [List.mem_singleton.mp hd]; exact .str h2
section
variable {B : Option Addr} {K : PySem.W.Frag} {H : Hp}
theorem dp_S : ∀ xs : List Str, DpAll K H (xs.map V.str) (dS xs)
  | [] => .nil
  | x :: xs => .cons (.str x) (dp_S xs)
theorem dp_I : ∀ xs : List Int, DpAll K H (xs.map V.int) (dI xs)
  | [] => .nil
  | x :: xs => .cons (.int x) (dp_I xs)
theorem TpS.dp {xs : List Str} {v : V} (h : TpS B xs v H) : Dp K H v (.tuple (dS xs)) := by
  obtain ⟨a, e, t⟩ := h
  subst e
  exact .tup t.st (dp_S xs)
theorem LsS.dp {xs : List Str} {v : V} (h : LsS B xs v H) : Dp K H v (.list (dS xs)) := by
  obtain ⟨a, e, t⟩ := h
  subst e
  exact .lst t.sl (dp_S xs)
theorem TpI.dp {xs : List Int} {v : V} (h : TpI B xs v H) : Dp K H v (.tuple (dI xs)) := by
  obtain ⟨a, e, t⟩ := h
  subst e
  exact .tup t.st (dp_I xs)
theorem PrS.dp {p : Str × Str} {v : V} (h : PrS B p v H) : Dp K H v (dP p) := by
  obtain ⟨a, e, t⟩ := h
  subst e
  exact .tup t.st (.cons (.str _) (.cons (.str _) .nil))
theorem dp_all {α : Type} {R : α → V → Hp → Prop} {f : α → PyData} (hR : ∀ x v, R x v H → Dp K H v (f x)) : ∀ {xs : List α} {zs : List V}, Paired (fun x z => R x z H) xs zs → DpAll K H zs (xs.map f)
  | _, _, .nil => .nil
  | _, _, .cons a b => .cons (hR _ _ a) (dp_all hR b)
theorem TpR.dp {α : Type} {R : α → V → Hp → Prop} {f : α → PyData} {xs : List α} {v : V} (hR : ∀ x v, R x v H → Dp K H v (f x)) (h : TpR B R xs v H) : Dp K H v (.tuple (xs.map f)) := by
  obtain ⟨a, zs, e, t, p⟩ := h
  subst e
  exact .tup t.st (dp_all hR p)
theorem LsR.dp {α : Type} {R : α → V → Hp → Prop} {f : α → PyData} {xs : List α} {v : V} (hR : ∀ x v, R x v H → Dp K H v (f x)) (h : LsR B R xs v H) : Dp K H v (.list (xs.map f)) := by
  obtain ⟨a, zs, e, t, p⟩ := h
  subst e
  exact .lst t.sl (dp_all hR p)
end
/-! ### pairs in a tuple of pairs -/
theorem eqv_dP (p q : Str × Str) : PyData.eqv (dP p) (dP q) = decide (p = q) := by
  obtain ⟨a, b⟩ := p
  obtain ⟨c, d⟩ := q
  unfold dP
  rw [PyData.eqv, PyData.eqvAll, PyData.eqvAll, PyData.eqvAll, PyData.eqv, PyData.eqv]
  by_cases h1 : a = c <;> by_cases h2 : b = d <;> simp [h1, h2]
section
variable {B : Option Addr} {K : PySem.W.Frag} {H : Hp} {σ : L2.St} {ta tb te : TE}
theorem y_inP {ps : List (Str × Str)} {q : Str × Str} (hs : ∀ p ∈ ps, PyData.strOk p.1 = true ∧ PyData.strOk p.2 = true) (hq : PyData.strOk q.1 = true ∧ PyData.strOk q.2 = true) (ha : Y B ta σ H (PrS B q)) (hb : Y B tb σ H (TpR B (PrS B) ps)) : Y B (tOp (rInTD K) ta tb) σ H (Is (.bl (decide (q ∈ ps)))) :=
  y_opG PrS.st ha hb fun x y H1 g1 hx hy Q k => by
    have gp : Gd 2 (.tuple (ps.map dP)) := .tup fun d hd => by
      obtain ⟨p, hp, rfl⟩ := List.mem_map.mp hd
      exact gd_P (hs p hp).1 (hs p hp).2
    refine ⟨dP q, ps.map dP, hx.dp, TpR.dp (fun _ _ h => PrS.dp h) hy, (gd_P hq.1 hq.2).shaped (by decide), gp.shaped (by decide), ?_⟩
    have e : ((ps.map dP).any fun z => PyData.eqv z (dP q)) = decide (q ∈ ps) := by
      rw [List.any_map]
      have e1 : ((fun z => PyData.eqv z (dP q)) ∘ dP) = fun p => decide (p = q) := funext fun p => eqv_dP p q
      rw [e1]
      by_cases hm : q ∈ ps
      · rw [decide_eq_true hm]
        exact List.any_eq_true.mpr ⟨q, hm, decide_eq_true rfl⟩
      · rw [decide_eq_false hm]
        exact List.any_eq_false.mpr fun p hp e => hm (of_decide_eq_true e ▸ hp)
    rw [e]
    exact k _ H1 (Go.refl g1.2) rfl
theorem y_eqD {d e : PyData} {PA PB : V → Hp → Prop} {n : Nat} (sa : St B PA) (ha : Y B ta σ H PA) (hb : Y B tb σ H PB) (da : ∀ v H1, PA v H1 → Dp K H1 v d) (db : ∀ v H1, PB v H1 → Dp K H1 v e) (gd : Gd n d) (ge : Gd n e) (hn : n ≤ 64) : Y B (tOp (rEqD K) ta tb) σ H (Is (.bl (PyData.eqv d e))) :=
  y_opG sa ha hb fun x y H1 g1 hx hy Q k => ⟨d, e, da _ _ hx, db _ _ hy, gd.shaped hn, ge.shaped hn, k _ H1 (Go.refl g1.2) rfl⟩
theorem y_neD {d e : PyData} {PA PB : V → Hp → Prop} {n : Nat} (sa : St B PA) (ha : Y B ta σ H PA) (hb : Y B tb σ H PB) (da : ∀ v H1, PA v H1 → Dp K H1 v d) (db : ∀ v H1, PB v H1 → Dp K H1 v e) (gd : Gd n d) (ge : Gd n e) (hn : n ≤ 64) : Y B (tOp (rNeD K) ta tb) σ H (Is (.bl (!PyData.eqv d e))) :=
  y_opG sa ha hb fun x y H1 g1 hx hy Q k => ⟨d, e, da _ _ hx, db _ _ hy, gd.shaped hn, ge.shaped hn, k _ H1 (Go.refl g1.2) rfl⟩
end
end NP
end
section
set_option Elab.async false
set_option linter.all false
set_option maxRecDepth 100000
set_option maxHeartbeats 4000000
/-! Instances in the making; the board. -/
namespace NP
open PySem PySem.Spec PyProof.Rows L2
theorem paired_map2 {β γ δ : Type} {F : β → δ → Prop} {α : Type} {g : α → β} {h : γ → δ} : ∀ {xs : List α} {ys : List γ}, Paired (fun x y => F (g x) (h y)) xs ys → Paired F (xs.map g) (ys.map h)
  | _, _, .nil => .nil
  | _, _, .cons a b => .cons a (paired_map2 b)
/-- a change of an instance leaves it -/
def NoI (P : V → Hp → Prop) : Prop := ∀ v H x C dx f o', P v H → H x = some (.ins C dx f) → P v (upd H x o')
theorem NoK.ni {P : V → Hp → Prop} (h : NoK P) : NoI P := fun v H x C dx f o' p e => h v H x _ o' p e True.intro
theorem NoI.is {v : V} : NoI (Is v) := fun _ _ _ _ _ _ _ h _ => h
section
variable {α : Type} {B : Option Addr} {σ : L2.St} {H H0 H' : Hp} {te ta tv tb : TE} {K : PySem.W.Frag} {D : Ends} {P : V → Hp → Prop} {tz : TS} {R : α → V → Hp → Prop}
theorem DcR.ni (hR : ∀ x, NoI (R x)) {xs : List (Str × α)} : NoI (DcR B R xs) := fun v H x C dx f o' ⟨a, kvs, e, t, p⟩ h => ⟨a, kvs, e, ⟨t.1, by
  rw [upd_ne (ne_of t.2 h fun z => nomatch z)]
  exact t.2⟩, p.mono fun y z q => ⟨q.1, hR y.2 z.2 H x C dx f o' q.2 h⟩⟩
/-- known stays, then the instance x changes -/
def Gi (B : Option Addr) (x : Addr) (H H' : Hp) : Prop := ∃ H1 C dx f o', Go B H H1 ∧ H1 x = some (.ins C dx f) ∧ H' = upd H1 x o'
theorem Gi.to {x : Addr} {v : V} (g : Gi B x H H') (h : P v H) (s : St B P) (n : NoI P) : P v H' := by
  obtain ⟨H1, C, dx, f, o', g1, e, rfl⟩ := g
  exact n v H1 x C dx f o' (s v _ _ g1 h) e
theorem s_fld {x C dx : Addr} {fs : List (Str × V)} {f : Str} (g : Go B H0 H) (hv : Y B tv σ H0 P) (ha : Y B ta σ H0 (Is (.ref x))) (o : At B H0 x (.ins C dx fs)) (c : Cls K C) (n : NoAttr K C f) (l : fs.length < 1000) (sP : St B P) (nP : NoI P)
    (k : ∀ v H2, Gi B x H0 H2 → Gx B x H0 H2 → P v H2 → At B H2 x (.ins C dx (putF f v fs)) → D.nx σ H2) : sFld K ta tv f D σ H :=
  hv H g _ fun v H1 g1 p => ha H1 (g.trans g1) _ fun v2 H2 g2 e => by
    have g3 := (g.trans g1).trans g2
    have o2 := o.go g3
    refine ⟨x, C, dx, fs, e, o2.2, c, n, l, k v _ ⟨H2, C, dx, fs, _, g3, o2.2, rfl⟩ ⟨fun a u hb hx hu => ?_, fun b eb => ?_⟩ (nP _ _ _ _ _ _ _ (sP _ _ _ g2 p) o2.2) ⟨o2.1, upd_same⟩⟩
    · rw [upd_ne hx]
      exact g3.1 a u hb hu
    · obtain ⟨i, j, m, q⟩ := g3.2 b eb
      exact ⟨i, j, m, by rw [upd_ne (fun z => o2.1 (by rw [eb, z]))]; exact q⟩
theorem q_fld {x C dx : Addr} {fs : List (Str × V)} {f : Str} (g : Go B H0 H) (hv : Y B tv σ H0 P) (ha : Y B ta σ H0 (Is (.ref x))) (o : At B H0 x (.ins C dx fs)) (c : Cls K C) (n : NoAttr K C f) (l : fs.length < 1000) (sP : St B P) (nP : NoI P)
    (k : ∀ v H2, Gi B x H0 H2 → Gx B x H0 H2 → P v H2 → At B H2 x (.ins C dx (putF f v fs)) → tz D σ H2) : tSeq (sFld K ta tv f) tz D σ H := s_fld (D := { D with nx := tz D }) g hv ha o c n l sP nP k
theorem Gx.refl {x : Addr} (h : Bk B H) : Gx B x H H := ⟨fun _ _ _ _ e => e, h⟩
theorem Gx.trans {x : Addr} {H2 : Hp} (g : Gx B x H H') (g2 : Gx B x H' H2) : Gx B x H H2 := ⟨fun a o b n e => g2.1 a o b n (g.1 a o b n e), g2.2⟩
theorem Go.x {x : Addr} (g : Go B H H') : Gx B x H H' := ⟨fun a o b _ e => g.1 a o b e, g.2⟩
/-- tuple(d.values()) -/
theorem y_tupVals {xs : List (Str × α)} (sR : ∀ x, St B (R x)) (h : Y B te σ H (DcR B R xs)) : Y B (tTupVals te) σ H (TpR B R (xs.map (·.2))) := fun H1 g Q q =>
  h H1 g _ fun v H2 g2 ⟨a, kvs, e, t, p⟩ => ⟨a, kvs, e, t.2, fun p' hp => q _ _ (g2.trans (Go.new g2.2 hp)) ⟨p', _, rfl, At.new g2.2 hp, by
    have gn : Go B H2 (upd H2 p' (.tup (kvs.map (·.2)))) := Go.new g2.2 hp
    have z : Paired (fun (x : Str × α) (kv : Key × V) => R x.2 kv.2 (upd H2 p' (.tup (kvs.map (·.2))))) xs kvs := p.mono fun x kv q => sR _ _ _ _ gn q.2
    exact paired_map2 (F := fun x z => R x z _) (g := fun x : Str × α => x.2) (h := fun kv : Key × V => kv.2) z⟩⟩
end
theorem merge_new : ∀ {kvs acc : List (Key × V)}, (kvs.map (·.1)).Nodup → (∀ kv ∈ kvs, valV acc kv.1 = none) → mergeK acc kvs = acc ++ kvs
  | [], acc, _, _ => by rw [List.append_nil] <;> rfl
  | kv :: r, acc, hn, h => by
    have h1 := h kv List.mem_cons_self
    obtain ⟨n1, n2⟩ := List.nodup_cons.mp hn
    show mergeK (putK acc kv.1 kv.2) r = _
    rw [putK_new kv.2 h1, merge_new n2 fun kv' hk => ?_, List.append_assoc] <;> try rfl
    rw [valV_snoc kv.1 kv'.1 kv.2 acc h1, if_neg fun e => n1 (List.mem_map.mpr ⟨kv', hk, e⟩)]
    exact h kv' (List.mem_cons_of_mem _ hk)
/-! ### the board -/
structure Bd where
  pegs : List Str
  costs : List Int
  bel : Str → Str → Bool
  ps : List (Str × Str)
def Bd.cost (b : Bd) (p : Str) : Int := ((b.pegs.zip b.costs).lookup p).getD 0
def Bd.cla (b : Bd) (x y : Str) : Bool := decide ((x, y) ∈ b.ps) || decide ((y, x) ∈ b.ps)
def Bd.row (b : Bd) (p : Str) : List Str := b.pegs.filter (b.bel p)
structure BdW (b : Bd) : Prop where
  nd : b.pegs.Nodup
  z : b.pegs.length ≤ 12
  sk : Sk b.pegs
  len : b.costs.length = b.pegs.length
  ps : ∀ p ∈ b.ps, p.1 ∈ b.pegs ∧ p.2 ∈ b.pegs
def KeyR (B : Option Addr) (b : Bd) : V → Hp → Prop := fun v H => ∃ a k1 k2 k3 k4, v = .ref a ∧ At B H a (.tup [k1, k2, k3, k4]) ∧ TpS B b.pegs k1 H ∧ TpI B b.costs k2 H ∧ TpR B (TpS B) (b.pegs.map b.row) k3 H ∧ TpR B (PrS B) b.ps k4 H
structure BdF (B : Option Addr) (b : Bd) (o pr rw cl ke : V) (H : Hp) : Prop where
  w : BdW b
  order : TpS B b.pegs o H
  prices : DcR B IV (b.pegs.map fun p => (p, b.cost p)) pr H
  rows : DcR B (TpS B) (b.pegs.map fun p => (p, b.row p)) rw H
  clashes : TpR B (PrS B) b.ps cl H
  key : KeyR B b ke H
def bfs (o pr rw cl ke : V) : List (Str × V) := [("order", o), ("prices", pr), ("rows", rw), ("clashes", cl), ("key", ke)]
def BdR (K : PySem.W.Frag) (B : Option Addr) (b : Bd) : V → Hp → Prop := fun v H => ∃ a dx o pr rw cl ke, v = .ref a ∧ At B H a (.ins (He.ga K "Board") dx (bfs o pr rw cl ke)) ∧ BdF B b o pr rw cl ke H
section
variable {B : Option Addr} {b : Bd} {K : PySem.W.Frag}
theorem KeyR.st : St B (KeyR B b) := fun _ _ _ g ⟨a, k1, k2, k3, k4, e, t, h1, h2, h3, h4⟩ => ⟨a, k1, k2, k3, k4, e, t.go g, TpS.st _ _ _ g h1, TpI.st _ _ _ g h2, TpR.st (fun _ => TpS.st) _ _ _ g h3, TpR.st (fun _ => PrS.st) _ _ _ g h4⟩
theorem KeyR.nk : NoK (KeyR B b) := fun v H D o o' ⟨a, k1, k2, k3, k4, e, t, h1, h2, h3, h4⟩ h hd => ⟨a, k1, k2, k3, k4, e, t.nk h hd (fun z => z), TpS.nk _ _ _ _ _ h1 h hd, TpI.nk _ _ _ _ _ h2 h hd, TpR.nk (fun _ => TpS.nk) _ _ _ _ _ h3 h hd, TpR.nk (fun _ => PrS.nk) _ _ _ _ _ h4 h hd⟩
theorem BdF.go {o pr rw cl ke : V} {H H' : Hp} (h : BdF B b o pr rw cl ke H) (g : Go B H H') : BdF B b o pr rw cl ke H' :=
  ⟨h.w, TpS.st _ _ _ g h.order, DcR.st (fun _ => IV.st) _ _ _ g h.prices, DcR.st (fun _ => TpS.st) _ _ _ g h.rows, TpR.st (fun _ => PrS.st) _ _ _ g h.clashes, KeyR.st _ _ _ g h.key⟩
theorem BdF.ni {o pr rw cl ke : V} {H : Hp} {x C dx : Addr} {f : List (Str × V)} {o' : HO} (h : BdF B b o pr rw cl ke H) (e : H x = some (.ins C dx f)) : BdF B b o pr rw cl ke (upd H x o') :=
  ⟨h.w, TpS.nk.ni _ _ _ _ _ _ _ h.order e, DcR.ni (fun _ => IV.nk.ni) _ _ _ _ _ _ _ h.prices e, DcR.ni (fun _ => TpS.nk.ni) _ _ _ _ _ _ _ h.rows e, (TpR.nk fun _ => PrS.nk).ni _ _ _ _ _ _ _ h.clashes e, KeyR.nk.ni _ _ _ _ _ _ _ h.key e⟩
theorem BdR.st : St B (BdR K B b) := fun _ _ _ g ⟨a, dx, o, pr, rw, cl, ke, e, t, h⟩ => ⟨a, dx, o, pr, rw, cl, ke, e, t.go g, h.go g⟩
/-- another instance changes -/
theorem BdR.gi {x : Addr} {v : V} {H H' : Hp} (h : BdR K B b v H) (g : Gi B x H H') (hx : v ≠ .ref x) : BdR K B b v H' := by
  obtain ⟨H1, C, dx, f, o', g1, e, rfl⟩ := g
  obtain ⟨a, dx, o, pr, rw, cl, ke, e1, t, h⟩ := BdR.st _ _ _ g1 h
  refine ⟨a, dx, o, pr, rw, cl, ke, e1, ⟨t.1, ?_⟩, h.ni e⟩
  rw [upd_ne (fun z => hx (by rw [e1, z]))]
  exact t.2
theorem KeyR.dp {v : V} {H : Hp} (h : KeyR B b v H) : Dp K H v (.tuple [.tuple (dS b.pegs), .tuple (dI b.costs), .tuple ((b.pegs.map b.row).map fun r => .tuple (dS r)), .tuple (b.ps.map dP)]) := by
  obtain ⟨a, k1, k2, k3, k4, e, t, h1, h2, h3, h4⟩ := h
  subst e
  exact .tup t.st (.cons h1.dp (.cons h2.dp (.cons (TpR.dp (fun _ _ h => TpS.dp h) h3) (.cons (TpR.dp (fun _ _ h => PrS.dp h) h4) .nil))))
theorem Bd.gd (h : BdW b) : Gd 3 (.tuple [.tuple (dS b.pegs), .tuple (dI b.costs), .tuple ((b.pegs.map b.row).map fun r => .tuple (dS r)), .tuple (b.ps.map dP)]) := .tup fun d hd => by
  rcases List.mem_cons.mp hd with e | hd
  · rw [e]
    exact (Gd.tup (gd_S h.sk)).up (by decide)
  rcases List.mem_cons.mp hd with e | hd
  · rw [e]
    exact (Gd.tup gd_I).up (by decide)
  rcases List.mem_cons.mp hd with e | hd
  · rw [e]
    refine .tup fun d hd => ?_
    obtain ⟨r, hr, rfl⟩ := List.mem_map.mp hd
    obtain ⟨p, hp, rfl⟩ := List.mem_map.mp hr
    exact .tup (gd_S fun x hx => h.sk x (List.mem_filter.mp hx).1)
  · rw [List.mem_singleton.mp hd]
    refine .tup fun d hd => ?_
    obtain ⟨p, hp, rfl⟩ := List.mem_map.mp hd
    exact gd_P (h.sk _ (h.ps p hp).1) (h.sk _ (h.ps p hp).2)
end
end NP
end
section
set_option Elab.async false
set_option linter.all false
set_option maxRecDepth 100000
set_option maxHeartbeats 4000000
/-! The board is made; its methods. -/
namespace NP
open PySem PySem.Spec PyProof.Rows L2
/-! ### plain -/
theorem zip_lookup : ∀ {xs : List Str} {ys : List Int}, xs.Nodup → ys.length = xs.length → xs.zip ys = xs.map fun p => (p, ((xs.zip ys).lookup p).getD 0)
  | [], _, _, _ => rfl
  | x :: xs, [], _, h => by cases h
  | x :: xs, y :: ys, hn, h => by
    obtain ⟨n1, n2⟩ := List.nodup_cons.mp hn
    have ih := zip_lookup (xs := xs) (ys := ys) n2 (Nat.succ.inj h)
    rw [List.zip_cons_cons, List.map_cons, List.lookup_cons_self]
    refine congrArg (List.cons (x, y)) ?_
    refine ih.trans (List.map_congr_left fun p hp => ?_)
    have hne : (p == x) = false := beq_eq_false_iff_ne.mpr fun e => n1 (e ▸ hp)
    rw [List.lookup_cons, hne]
theorem nameOk_sk {x : Str} (h : NameOk x) : PyData.strOk x = true := by
  unfold PyData.strOk
  rw [Array.all_eq_true]
  intro i hi
  have h1 := h.2.2 x.cps[i] (by rw [Array.mem_toList_iff]; exact Array.getElem_mem hi)
  have h2 : ∀ c ∈ letters.cps.toList, c < 0x110000 := by decide +kernel
  exact decide_eq_true (h2 _ h1)
theorem pf {f : Str} {v : V} {n : Nat} : ∀ {fs : List (Str × V)}, fs.length ≤ n → (putF f v fs).length ≤ n + 1
  | [], h => Nat.le_add_left _ _
  | (g, x) :: r, h => by
    unfold putF
    split
    · exact Nat.le_succ_of_le h
    · cases n with
      | zero => cases h
      | succ n => exact Nat.succ_le_succ (pf (Nat.le_of_succ_le_succ h))
/-- valid parts -/
structure PaV (p : Pa) : Prop where
  nd : NdOk p.pegs p.wants
  names : ∀ x ∈ p.pegs, NameOk x
  costs : ∀ c ∈ p.costs, 1 ≤ c ∧ c ≤ 1000
  bars : ∀ q ∈ p.bars, q.1 ∈ p.pegs ∧ q.2 ∈ p.pegs ∧ q.1 ≠ q.2
  dead : ∀ x ∈ p.pegs, brd (nr p.wants x) (nr p.wants x) p.bars = false
def mkB (p : Pa) : Bd := ⟨p.pegs, p.costs, fun x y => decide (y ∈ nr p.wants x), clp p.pegs p.wants p.bars⟩
theorem clp_in {pegs : List Str} {ws bars : List (Str × Str)} {q : Str × Str} (h : q ∈ clp pegs ws bars) : q.1 ∈ pegs ∧ q.2 ∈ pegs := by
  obtain ⟨x, hx, hq⟩ := List.mem_flatMap.mp h
  obtain ⟨o, ho, rfl⟩ := List.mem_map.mp hq
  obtain ⟨i, hi⟩ := List.mem_iff_getElem?.mp hx
  obtain ⟨_, i2⟩ := enum_get hi
  exact ⟨List.mem_of_getElem? i2, List.mem_of_mem_drop (List.mem_filter.mp ho).1⟩
theorem mkB_w {p : Pa} (h : PaV p) (z : p.costs.length = p.pegs.length) : BdW (mkB p) := ⟨h.nd.nd, h.nd.z, fun x hx => nameOk_sk (h.names x hx), z, fun q hq => clp_in hq⟩
section
variable {B : Option Addr} {σ : L2.St} {H : Hp} {K : PySem.W.Frag} {ts tk : TA}
/-- dict(zip(pegs, costs, strict=True)) -/
theorem y_dictZip {pegs : List Str} {costs : List Int} {a b : V} (ha : YA B ts σ H (As [a, b])) (hk : YA B tk σ H (As [.bl true])) (h1 : TpS B pegs a H) (h2 : TpI B costs b H) (hn : pegs.Nodup) (hl : costs.length = pegs.length) : Y B (tDictZip K ts tk) σ H (DcR B IV (pegs.zip costs)) := fun H1 g Q q =>
  ha H1 g _ fun vs H2 g2 e => hk H2 (g.trans g2) _ fun zs H3 g3 e2 => by
    have g4 := (g.trans g2).trans g3
    obtain ⟨p1, e3, t1⟩ := TpS.st _ _ _ g4 h1
    obtain ⟨p2, e4, t2⟩ := TpI.st _ _ _ g4 h2
    have k1 : ((pegs.zip costs).map fun x => ((.inr x.1, .int x.2) : Key × V)).map (fun kv => kV kv.1) = pegs.map V.str := by
      rw [List.map_map]
      show (pegs.zip costs).map (V.str ∘ Prod.fst) = _
      rw [← List.map_map (f := Prod.fst) (g := V.str), List.map_fst_zip (Nat.le_of_eq hl.symm)]
    have k2 : ((pegs.zip costs).map fun x => ((.inr x.1, .int x.2) : Key × V)).map (·.2) = costs.map V.int := by
      rw [List.map_map]
      show (pegs.zip costs).map (V.int ∘ Prod.snd) = _
      rw [← List.map_map (f := Prod.snd) (g := V.int), List.map_snd_zip (Nat.le_of_eq hl)]
    have k3 : mergeK [] ((pegs.zip costs).map fun x => ((.inr x.1, .int x.2) : Key × V)) = (pegs.zip costs).map fun x => ((.inr x.1, .int x.2) : Key × V) := by
      rw [merge_new ?_ fun _ _ => rfl, List.nil_append]
      rw [List.map_map]
      show ((pegs.zip costs).map ((fun x => (Sum.inr x : Key)) ∘ Prod.fst)).Nodup
      rw [← List.map_map (f := Prod.fst) (g := fun x => (Sum.inr x : Key)), List.map_fst_zip (Nat.le_of_eq hl.symm)]
      exact List.Pairwise.map _ (fun a b h e => h (Sum.inr.inj e)) hn
    refine ⟨p1, p2, (pegs.zip costs).map fun x => (.inr x.1, .int x.2), by rw [show vs = _ from e, e3, e4], e2, by rw [k1]; exact t1.st, by rw [k2]; exact t2.st, fun p hp => ?_⟩
    rw [k3]
    exact q _ _ ((g2.trans g3).trans (Go.new g3.2 hp)) ⟨p, _, rfl, At.new g3.2 hp, paired_of_map (F := fun (x : Str × Int) (kv : Key × V) => kv.1 = Sum.inr x.1 ∧ IV x.2 kv.2 _) (fun _ => ⟨rfl, rfl⟩) _⟩
end
section
variable {P : Program} {w : World} {K : PySem.W.Frag} {mg : Str → Option Value} {base : Heap}
def sp_Board___init__ (K : PySem.W.Frag) : Sp := Pi (He.ga K "Board") (fun p : Pa => [p.vp, p.vw, p.vb, p.vc]) (fun B p H => PaOk B p H ∧ PaV p) (fun B p f H => ∃ o pr rw cl ke, f = bfs o pr rw cl ke ∧ BdF B (mkB p) o pr rw cl ke H)
theorem ok_Board___init__ (T : Fx K mg) : ∃ fd, FunD K d_Board___init__.name d_Board___init__.qual d_Board___init__.params d_Board___init__.body d_Board___init__.scope (d_Board___init__.dvs K) (d_Board___init__.kws K) (He.fAd K d_Board___init__.at_) fd ∧ FnOk P w K mg base CX0 10 (He.fAd K ("Board", some "__init__")) fd ["self", "pegs", "needs", "bars", "costs"] (sp_Board___init__ K) := by
  obtain ⟨fd, F⟩ := T.dd 51 (d := d_Board___init__) rfl
  have g_check_dead := T.glo 10 rfl
  have g_check_form := T.glo 4 rfl
  have g_check_pairs := T.glo 6 rfl
  have g_check_pegs := T.glo 5 rfl
  have g_clash_pairs := T.glo 11 rfl
  have g_needed_rows := T.glo 7 rfl
  have n_dict := T.free 51 rfl
  have n_tuple := T.free 40 rfl
  have n_zip := T.free 53 rfl
  have ok_check_dead := ok_check_dead (P := P) (w := w) (base := base) T
  obtain ⟨_, F_check_dead⟩ := T.dd 10 (d := d_check_dead) rfl
  have kp_check_dead := F_check_dead.kp
  have ok_check_form := ok_check_form (P := P) (w := w) (base := base) T
  obtain ⟨_, F_check_form⟩ := T.dd 4 (d := d_check_form) rfl
  have kp_check_form := F_check_form.kp
  have ok_check_pairs := ok_check_pairs (P := P) (w := w) (base := base) T
  obtain ⟨_, F_check_pairs⟩ := T.dd 6 (d := d_check_pairs) rfl
  have kp_check_pairs := F_check_pairs.kp
  have ok_check_pegs := ok_check_pegs (P := P) (w := w) (base := base) T
  obtain ⟨_, F_check_pegs⟩ := T.dd 5 (d := d_check_pegs) rfl
  have kp_check_pegs := F_check_pegs.kp
  have ok_clash_pairs := ok_clash_pairs (P := P) (w := w) (base := base) T
  obtain ⟨_, F_clash_pairs⟩ := T.dd 11 (d := d_clash_pairs) rfl
  have kp_clash_pairs := F_clash_pairs.kp
  have ok_needed_rows := ok_needed_rows (P := P) (w := w) (base := base) T
  obtain ⟨_, F_needed_rows⟩ := T.dd 7 (d := d_needed_rows) rfl
  have kp_needed_rows := F_needed_rows.kp
  have sc : FnScope ["self", "pegs", "needs", "bars", "costs", "prices", "rows", "peg", "other"] ["self", "pegs", "needs", "bars", "costs"] (defScope (mth 56 1)) := ⟨rfl, rfl, rfl, by decide +kernel, rfl, by decide +kernel, by decide +kernel⟩
  have nd := sc.nd
  refine ⟨fd, F, (F.ok sc (fun vs H Q E h => by obtain ⟨B, a, h⟩ := h; obtain ⟨x, dx, rfl, _⟩ := h; rfl) (fun cdv A outer s H vs Q E hr h => ⟨_, PSs.nox (pss_cons (ps_expr (pe_cl ok_check_form hr (by decide) rfl g_check_form kp_check_form (pa_cons (pv 1) (pa_cons (pv 2) (pa_cons (pv 3) (pa_cons (pv 4) pa_nil))))))
    (pss_cons (ps_set (i := 5) nd rfl (Or.inl rfl) (pe_ifExp (pt_cmpR op_isN (pv 4) pe_non (nomark _)) (pe_lc (own := [("peg", 7)]) rfl nd (k_tup (K := K) (pv 1)) (blkOk_by (by kernel_rfl)) (fun _ _ _ _ _ => (pg_name (i := 7) nd rfl (Or.inl rfl))) (fun _ _ _ _ _ => pts_nil) (fun _ _ _ _ _ => pe_int)) (pv 4)))
    (pss_cons (ps_expr (pe_cl ok_check_pegs hr (by decide) rfl g_check_pegs kp_check_pegs (pa_cons (pv 1) (pa_cons (pv 5) (pa_cons (k_con (K := K) (pv 0) rfl) pa_nil)))))
    (pss_cons (ps_expr (pe_cl ok_check_pairs hr (by decide) rfl g_check_pairs kp_check_pairs (pa_cons (pv 1) (pa_cons (pv 2) (pa_cons pe_str pa_nil)))))
    (pss_cons (ps_set (i := 6) nd rfl (Or.inr rfl) (pe_cl ok_needed_rows hr (by decide) rfl g_needed_rows kp_needed_rows (pa_cons (pv 1) (pa_cons (pv 2) pa_nil))))
    (pss_cons (ps_expr (pe_cl ok_check_pairs hr (by decide) rfl g_check_pairs kp_check_pairs (pa_cons (pv 1) (pa_cons (pv 3) (pa_cons pe_str pa_nil)))))
    (pss_cons (ps_expr (pe_cl ok_check_dead hr (by decide) rfl g_check_dead kp_check_dead (pa_cons (pv 1) (pa_cons (pv 6) (pa_cons (pv 3) pa_nil)))))
    (pss_cons (ps_fld (pv 0) (k_tupleOf (K := K) rfl n_tuple (pv 1)) rfl)
    (pss_cons (ps_fld (pv 0) (pe_dictZip rfl rfl n_dict rfl n_zip (pa_cons (pv 1) (pa_cons (pv 5) pa_nil)) (pk_cons pe_bl pk_nil)) rfl)
    (pss_cons (ps_fld (pv 0) (pe_dc (own := [("peg", 7)]) rfl nd (k_tup (K := K) (pv 1)) (blkOk_by (by kernel_rfl)) (fun _ _ _ _ _ => (pg_name (i := 7) nd rfl (Or.inr rfl))) (fun _ _ _ _ _ => pts_nil) (fun _ _ _ _ _ => (pv 7)) (fun _ _ _ _ _ => (k_tupleOf (K := K) rfl n_tuple (pe_lc (own := [("other", 8)]) rfl nd (k_tup (K := K) (pv 1)) (blkOk_by (by kernel_rfl)) (fun _ _ _ _ _ => (pg_name (i := 8) nd rfl (Or.inl rfl))) (fun _ _ _ _ _ => (pts_one (pt_cmpR (k_in (K := K)) (pv 8) (pe_dget (hu_of hr) (pv 6) (pv 7) (fun _ _ => rfl)) (by with_unfolding_all rfl)))) (fun _ _ _ _ _ => (pv 8)))))) rfl)
    (pss_cons (ps_fld (pv 0) (pe_cl ok_clash_pairs hr (by decide) rfl g_clash_pairs kp_clash_pairs (pa_cons (k_fld (K := K) (pv 0) rfl) (pa_cons (pv 6) (pa_cons (pv 3) pa_nil)))) rfl)
    (pss_one (ps_fld (pv 0) (pe_tup (pa_cons (k_fld (K := K) (pv 0) rfl) (pa_cons (k_tupleOf (K := K) rfl n_tuple (pv 5)) (pa_cons (pe_tupVals rfl (k_fld (K := K) (pv 0) rfl) rfl n_tuple) (pa_cons (k_fld (K := K) (pv 0) rfl) pa_nil))))) rfl))))))))))))), ?_⟩))⟩
  obtain ⟨B, ⟨vp, vw, vb, vc, pegs, wants, bars, costs⟩, x, dx, rfl, hb, ho, ⟨hp, hv⟩, hq⟩ := h
  obtain ⟨u_most, con⟩ := He.conB_ok (T.xx 33 rfl) (K := K) (C := "Board") (f := "MOST") (v := .int 12)
  have z1 := hp.z1
  have z2 := hp.z2
  have z3 := hp.z3
  have z4 := hp.z4
  dsimp only at z1 z2 z3 z4
  have hnd := hv.nd
  dsimp only at hnd
  refine q_drop (Go.refl hb) (y_clI ⟨vp, vw, vb, vc, pegs, wants, bars, costs⟩ (ya_cons (y_var rfl) (ya_cons (y_var rfl) (ya_cons (y_var rfl) (ya_cons (y_var rfl) ya_nil)))) fun H1 g1 => hp.go g1) fun _ H1 g1 _ _ => ?_
  refine q_asg (P := Is vc) (Go.refl g1.2) (y_if (b := false) (yt_is (yt_testI (y_op (y_var rfl) y_c o_isN)) (by
    obtain ⟨a, e, _⟩ := hp.costs
    rw [show vc = .ref a from e] <;> rfl)) (fun e => nomatch e) fun _ => y_var rfl) fun v5 H2 g2 _ e5 => ?_
  rw [show v5 = vc from e5]
  have g12 := g1.trans g2
  refine q_drop (Go.refl g2.2) (y_clI ⟨vp, vc, pegs, costs⟩ (ya_cons (y_var rfl) (ya_cons (y_var rfl) (ya_cons (y_con (y_var rfl) (ho.go g12) (T.cls 64 rfl) con rfl) ya_nil))) fun H3 g3 => ⟨(hp.go (g12.trans g3)).pegs, (hp.go (g12.trans g3)).costs, z1, z4, hnd.nd, hv.names, hv.costs⟩) fun _ H3 g3 _ _ => ?_
  have g13 := g12.trans g3
  refine q_drop (Go.refl g3.2) (y_clI ⟨vp, vw, "need", pegs, wants⟩ (ya_cons (y_var rfl) (ya_cons (y_var rfl) (ya_cons y_c ya_nil))) fun H4 g4 => ⟨(hp.go (g13.trans g4)).pegs, (hp.go (g13.trans g4)).wants, z2, hnd.in_⟩) fun _ H4 g4 _ _ => ?_
  have g14 := g13.trans g4
  refine q_asg (P := DcR B (LsS B) (rowsOf pegs wants)) (Go.refl g4.2) (y_clI (post := fun B (p : NrP) v H => DcR B (LsS B) (rowsOf p.pegs p.wants) v H) ⟨vp, vw, pegs, wants⟩ (ya_cons (y_var rfl) (ya_cons (y_var rfl) ya_nil)) fun H5 g5 => ⟨(hp.go (g14.trans g5)).pegs, (hp.go (g14.trans g5)).wants, hnd⟩) fun vr H5 g5 _ hr5 => ?_
  have g15 := g14.trans g5
  refine q_drop (Go.refl g5.2) (y_clI ⟨vp, vb, "bar", pegs, bars⟩ (ya_cons (y_var rfl) (ya_cons (y_var rfl) (ya_cons y_c ya_nil))) fun H6 g6 => ⟨(hp.go (g15.trans g6)).pegs, (hp.go (g15.trans g6)).bars, z3, hv.bars⟩) fun _ H6 g6 _ _ => ?_
  have g16 := g15.trans g6
  have hr6 := DcR.st (fun _ => LsS.st) _ _ _ g6 hr5
  refine q_drop (Go.refl g6.2) (y_clI ⟨vp, vr, vb, pegs, wants, bars⟩ (ya_cons (y_var rfl) (ya_cons (y_var rfl) (ya_cons (y_var rfl) ya_nil))) fun H7 g7 => ⟨⟨(hp.go (g16.trans g7)).pegs, DcR.st (fun _ => LsS.st) _ _ _ g7 hr6, (hp.go (g16.trans g7)).bars, hnd, z3⟩, hv.dead⟩) fun _ H7 g7 _ _ => ?_
  have g17 := g16.trans g7
  have hr7 := DcR.st (fun _ => LsS.st) _ _ _ g7 hr6
  have p7 := (hp.go g17).pegs
  have c7 := (hp.go g17).costs
  have b7 := (hp.go g17).bars
  have o7 := ho.go g17
  have x7 : Gx B x H H7 := g17.x
  dsimp only at p7 c7 b7
  clear g1 g12 g13 g14 g15 g16 g2 g3 g4 g5 g6 g7 hr5 hr6
  -- the fields
  refine q_fld (P := TpS B pegs) (Go.refl g17.2) (y_tupT ((y_var rfl).rep p7 TpS.st) fun v H1 ⟨a, e, t⟩ => ⟨a, _, e, t⟩) (y_var rfl) o7 (T.cls 64 rfl) (T.noat 79 rfl) (by decide) TpS.st TpS.nk.ni fun f1 H8 i8 x8 h8 o8 => ?_
  have p8 := i8.to p7 TpS.st TpS.nk.ni
  have c8 := i8.to c7 TpI.st TpI.nk.ni
  have b8 := i8.to b7 (TpR.st fun _ => PrS.st) (TpR.nk fun _ => PrS.nk).ni
  have r8 := i8.to hr7 (DcR.st fun _ => LsS.st) (DcR.ni fun _ => LsS.nk.ni)
  refine q_fld (P := DcR B IV (pegs.zip costs)) (Go.refl x8.2) (y_dictZip (ya_cons (y_var rfl) (ya_cons (y_var rfl) ya_nil)) (ya_cons y_c ya_nil) p8 c8 hnd.nd z4) (y_var rfl) o8 (T.cls 64 rfl) (T.noat 80 rfl) (Nat.lt_of_le_of_lt (pf (Nat.le_refl 0)) (by decide)) (DcR.st fun _ => IV.st) (DcR.ni fun _ => IV.nk.ni) fun f2 H9 i9 x9 h9 o9 => ?_
  have p9 := i9.to p8 TpS.st TpS.nk.ni
  have c9 := i9.to c8 TpI.st TpI.nk.ni
  have b9 := i9.to b8 (TpR.st fun _ => PrS.st) (TpR.nk fun _ => PrS.nk).ni
  have r9 := i9.to r8 (DcR.st fun _ => LsS.st) (DcR.ni fun _ => LsS.nk.ni)
  have h8_9 := i9.to h8 TpS.st TpS.nk.ni
  refine q_fld (P := DcR B (TpS B) (pegs.map fun p => (p, (mkB ⟨vp, vw, vb, vc, pegs, wants, bars, costs⟩).row p))) (Go.refl x9.2) ((y_dcG (vl := TpS B) (fun x => x) ((mkB ⟨vp, vw, vb, vc, pegs, wants, bars, costs⟩).row) (yk_tS (y_var rfl) p9).yi (Nat.le_trans z1 (by decide)) (by rw [List.map_id']; exact hnd.nd) yg_s (fun _ => TpS.st) (fun _ => TpS.nk) fun y σ2 H10 hy g10 s => ?_).imp fun v H1 _ h => h.1) (y_var rfl) o9 (T.cls 64 rfl) (T.noat 81 rfl) (Nat.lt_of_le_of_lt (pf (pf (Nat.le_refl 0))) (by decide)) (DcR.st fun _ => TpS.st) (DcR.ni fun _ => TpS.nk.ni) fun f3 H10 i10 x10 h10 o10 => ?_
  · subst s
    refine ⟨rfl, y_var rfl, y_tupLS ((y_lcF (fun o => decide (o ∈ nr wants y)) (yk_tS (y_var rfl) (TpS.st _ _ _ g10 p9)).yi (Nat.le_trans z1 (by decide)) yg_s fun z σ3 H11 hz g11 s3 => ?_).imp fun v H1 _ h => h.1)⟩
    subst s3
    exact ⟨rfl, yt_testI (y_in (y_var rfl) (y_dgetF (fun _ => LsS.st) (y_var rfl) (DcR.z (DcR.st (fun _ => LsS.st) _ _ _ (g10.trans g11) r9)) (y_var rfl) hy).ls), fun _ => y_var rfl⟩
  have c10 := i10.to c9 TpI.st TpI.nk.ni
  have b10 := i10.to b9 (TpR.st fun _ => PrS.st) (TpR.nk fun _ => PrS.nk).ni
  have r10 := i10.to r9 (DcR.st fun _ => LsS.st) (DcR.ni fun _ => LsS.nk.ni)
  have h8_10 := i10.to h8_9 TpS.st TpS.nk.ni
  have h9_10 := i10.to h9 (DcR.st fun _ => IV.st) (DcR.ni fun _ => IV.nk.ni)
  refine q_fld (P := TpR B (PrS B) (clp pegs wants bars)) (Go.refl x10.2) (y_clI (post := fun B (p : DdP) v H => TpR B (PrS B) (clp p.pegs p.wants p.bars) v H) ⟨f1, vr, vb, pegs, wants, bars⟩ (ya_cons (y_fld (y_var rfl) o10 (T.cls 64 rfl) (T.noat 79 rfl) rfl) (ya_cons (y_var rfl) (ya_cons (y_var rfl) ya_nil))) fun H11 g11 => ⟨TpS.st _ _ _ g11 h8_10, DcR.st (fun _ => LsS.st) _ _ _ g11 r10, TpR.st (fun _ => PrS.st) _ _ _ g11 b10, hnd, z3⟩) (y_var rfl) o10 (T.cls 64 rfl) (T.noat 82 rfl) (Nat.lt_of_le_of_lt (pf (pf (pf (Nat.le_refl 0)))) (by decide)) (TpR.st fun _ => PrS.st) (TpR.nk fun _ => PrS.nk).ni fun f4 H11 i11 x11 h11 o11 => ?_
  have c11 := i11.to c10 TpI.st TpI.nk.ni
  have h8_11 := i11.to h8_10 TpS.st TpS.nk.ni
  have h9_11 := i11.to h9_10 (DcR.st fun _ => IV.st) (DcR.ni fun _ => IV.nk.ni)
  have h10_11 := i11.to h10 (DcR.st fun _ => TpS.st) (DcR.ni fun _ => TpS.nk.ni)
  refine s_fld (P := KeyR B (mkB ⟨vp, vw, vb, vc, pegs, wants, bars, costs⟩)) (Go.refl x11.2) ((y_tup (ya_consG TpS.st ((y_fld (y_var rfl) o11 (T.cls 64 rfl) (T.noat 79 rfl) rfl).rep h8_11 TpS.st) (ya_consG TpI.st (y_tupT ((y_var rfl).rep c11 TpI.st) fun v H1 ⟨a, e, t⟩ => ⟨a, _, e, t⟩) (ya_consG (TpR.st fun _ => TpS.st) (y_tupVals (fun _ => TpS.st) ((y_fld (y_var rfl) o11 (T.cls 64 rfl) (T.noat 81 rfl) rfl).rep h10_11 (DcR.st fun _ => TpS.st))) (ya_consG (TpR.st fun _ => PrS.st) ((y_fld (y_var rfl) o11 (T.cls 64 rfl) (T.noat 82 rfl) rfl).rep h11 (TpR.st fun _ => PrS.st)) ya_nil)))) (fun vs H1 H2 g ⟨w1, r1, e1, q1, w2, r2, e2, q2, w3, r3, e3, q3, w4, r4, e4, q4, e5⟩ => ⟨w1, r1, e1, TpS.st _ _ _ g q1, w2, r2, e2, TpI.st _ _ _ g q2, w3, r3, e3, TpR.st (fun _ => TpS.st) _ _ _ g q3, w4, r4, e4, TpR.st (fun _ => PrS.st) _ _ _ g q4, e5⟩) (fun vs H1 ⟨w1, r1, e1, q1, w2, r2, e2, q2, w3, r3, e3, q3, w4, r4, e4, q4, e5⟩ => by
    rw [e1, e2, e3, e4, show r4 = [] from e5]
    show 4 ≤ 100000
    decide)).imp fun v H12 _ ⟨a, vs, e, t, _, w1, r1, e1, q1, w2, r2, e2, q2, w3, r3, e3, q3, w4, r4, e4, q4, e5⟩ => ?_) (y_var rfl) o11 (T.cls 64 rfl) (T.noat 83 rfl) (Nat.lt_of_le_of_lt (pf (pf (pf (pf (Nat.le_refl 0))))) (by decide)) KeyR.st KeyR.nk.ni fun f5 H12 i12 x12 h12 o12 => ?_
  · rw [e1, e2, e3, e4, show r4 = [] from e5] at t
    rw [List.map_map] at q3
    exact ⟨a, w1, w2, w3, w4, e, t, q1, q2, q3, q4⟩
  · have zl : pegs.zip costs = pegs.map fun p => (p, (mkB ⟨vp, vw, vb, vc, pegs, wants, bars, costs⟩).cost p) := zip_lookup hnd.nd z4
    refine hq H12 _ (((((x7.trans x8).trans x9).trans x10).trans x11).trans x12) o12.2 ⟨f1, f2, f3, f4, f5, rfl, mkB_w hv z4, i12.to h8_11 TpS.st TpS.nk.ni, ?_, i12.to h10_11 (DcR.st fun _ => TpS.st) (DcR.ni fun _ => TpS.nk.ni), i12.to h11 (TpR.st fun _ => PrS.st) (TpR.nk fun _ => PrS.nk).ni, h12⟩
    have z := i12.to h9_11 (DcR.st fun _ => IV.st) (DcR.ni fun _ => IV.nk.ni)
    rw [zl] at z
    exact z
end
end NP
end
section
set_option Elab.async false
set_option linter.all false
set_option maxRecDepth 100000
set_option maxHeartbeats 4000000
/-! The board's methods. -/
namespace NP
open PySem PySem.Spec PyProof.Rows L2
structure B1 where
  v : V
  b : Bd
  x : Str
structure B2 where
  v : V
  b : Bd
  x : Str
  y : Str
theorem fil_mem {f : Str → Bool} {xs : List Str} {x : Str} (h : x ∈ xs) : decide (x ∈ xs.filter f) = f x := by
  by_cases hf : f x = true
  · rw [hf, decide_eq_true (List.mem_filter.mpr ⟨h, hf⟩)]
  · rw [decide_eq_false fun z => hf (List.mem_filter.mp z).2]
    exact (Bool.eq_false_iff.mpr hf).symm
section
variable {P : Program} {w : World} {K : PySem.W.Frag} {mg : Str → Option Value} {base : Heap}
def sp_Board_pegs (K : PySem.W.Frag) : Sp := Pm (fun p : V × Bd × V => [p.1]) (fun B p H => ∃ a dx pr rw cl ke, p.1 = .ref a ∧ At B H a (.ins (He.ga K "Board") dx (bfs p.2.2 pr rw cl ke)) ∧ BdF B p.2.1 p.2.2 pr rw cl ke H) (fun B p v H => v = p.2.2)
theorem ok_Board_pegs (T : Fx K mg) : OK P w K mg base 1 (gAd K ("Board", some "pegs")) (sp_Board_pegs K) := by
  obtain ⟨fd, F⟩ := T.gd 4 (d := d_Board_pegs) rfl rfl
  have sc : FnScope ["self"] ["self"] (defScope (mth 56 9)) := ⟨rfl, rfl, rfl, by decide +kernel, rfl, by decide +kernel, by decide +kernel⟩
  have nd := sc.nd
  refine OK.of (F.ok sc (fun vs H Q E h => by obtain ⟨B, a, h⟩ := h; first | (obtain ⟨rfl, _⟩ := h; rfl) | (obtain ⟨x, dx, rfl, _⟩ := h; rfl)) (fun cdv A outer s H vs Q E hr h => ⟨_, PSs.nox (pss_one (ps_ret (k_fld (K := K) (pv 0) rfl))), ?_⟩)) (F.bindsN fun _ _ _ _ _ _ us hl => match us, hl with | [_], _ => rfl)
  obtain ⟨B, ⟨v, b, o⟩, rfl, hb, ⟨a, dx, pr, rw, cl, ke, ev, t, hf⟩, hq⟩ := h
  cases (show v = .ref a from ev)
  exact s_ret (Go.refl hb) (y_fld (y_var rfl) t (T.cls 64 rfl) (T.noat 79 rfl) rfl) fun v H1 g _ h => hq v H1 g h
theorem y_bpegs {B : Option Addr} {σ : L2.St} {H : Hp} {te : TE} {a dx : Addr} {b : Bd} {o pr rw cl ke : V} (h : Y B te σ H (Is (.ref a))) (t : At B H a (.ins (He.ga K "Board") dx (bfs o pr rw cl ke))) (hf : BdF B b o pr rw cl ke H) : Y B (tPr (He.ga K "Board") (sp_Board_pegs K) te) σ H (Is o) :=
  (y_pr (args := fun p : V × Bd × V => [p.1]) (post := fun _ (p : V × Bd × V) v _ => v = p.2.2) (.ref a, b, o) h t rfl fun H1 g => ⟨a, dx, pr, rw, cl, ke, rfl, t.go g, hf.go g⟩).imp fun _ _ _ h => h
def sp_Board___contains__ (K : PySem.W.Frag) : Sp := Pm (fun p : B1 => [p.v, .str p.x]) (fun B p H => BdR K B p.b p.v H) (fun B p v H => v = .bl (decide (p.x ∈ p.b.pegs)))
theorem ok_Board___contains__ (T : Fx K mg) : OK P w K mg base 1 (He.fAd K ("Board", some "__contains__")) (sp_Board___contains__ K) := by
  obtain ⟨fd, F⟩ := T.dd 52 (d := d_Board___contains__) rfl
  have sc : FnScope ["self", "peg"] ["self", "peg"] (defScope (mth 56 3)) := ⟨rfl, rfl, rfl, by decide +kernel, rfl, by decide +kernel, by decide +kernel⟩
  have nd := sc.nd
  refine OK.of (F.ok sc (fun vs H Q E h => by obtain ⟨B, a, h⟩ := h; first | (obtain ⟨rfl, _⟩ := h; rfl) | (obtain ⟨x, dx, rfl, _⟩ := h; rfl)) (fun cdv A outer s H vs Q E hr h => ⟨_, PSs.nox (pss_one (ps_ret (pe_cmpR (k_in (K := K)) (pv 1) (k_fld (K := K) (pv 0) rfl) (by with_unfolding_all rfl)))), ?_⟩)) (F.bindsN fun _ _ _ _ _ _ us hl => match us, hl with | [_, _], _ => rfl)
  obtain ⟨B, ⟨v, b, x⟩, rfl, hb, ⟨a, dx, o, pr, rw, cl, ke, ev, t, hf⟩, hq⟩ := h
  cases (show v = .ref a from ev)
  exact s_ret (Go.refl hb) (y_in (y_var rfl) ((y_fld (y_var rfl) t (T.cls 64 rfl) (T.noat 79 rfl) rfl).rep hf.order TpS.st).tp) fun v H1 g _ h => hq v H1 g h
def sp_Board_require (K : PySem.W.Frag) : Sp := Pm (fun p : B1 => [p.v, .str p.x]) (fun B p H => BdR K B p.b p.v H ∧ p.x ∈ p.b.pegs) (fun B p v H => v = .non)
theorem ok_Board_require (T : Fx K mg) : OK P w K mg base 1 (He.fAd K ("Board", some "require")) (sp_Board_require K) := by
  obtain ⟨fd, F⟩ := T.dd 55 (d := d_Board_require) rfl
  have sc : FnScope ["self", "peg"] ["self", "peg"] (defScope (mth 56 11)) := ⟨rfl, rfl, rfl, by decide +kernel, rfl, by decide +kernel, by decide +kernel⟩
  have nd := sc.nd
  refine OK.of (F.ok sc (fun vs H Q E h => by obtain ⟨B, a, h⟩ := h; first | (obtain ⟨rfl, _⟩ := h; rfl) | (obtain ⟨x, dx, rfl, _⟩ := h; rfl)) (fun cdv A outer s H vs Q E hr h => ⟨_, PSs.nox (pss_one (ps_if (pt_cmpR (k_ni (K := K)) (pv 1) (k_fld (K := K) (pv 0) rfl) (by with_unfolding_all rfl)) pss_never pss_nil)), ?_⟩)) (F.bindsN fun _ _ _ _ _ _ us hl => match us, hl with | [_, _], _ => rfl)
  obtain ⟨B, ⟨v, b, x⟩, rfl, hb, ⟨⟨a, dx, o, pr, rw, cl, ke, ev, t, hf⟩, hx⟩, hq⟩ := h
  cases (show v = .ref a from ev)
  exact s_noN (Go.refl hb) (yt_is (yt_testI (y_ni (y_var rfl) ((y_fld (y_var rfl) t (T.cls 64 rfl) (T.noat 79 rfl) rfl).rep hf.order TpS.st).tp)) (by rw [decide_eq_true hx] <;> rfl)) fun H1 g _ => hq _ H1 g rfl
def sp_Board_cost_of (K : PySem.W.Frag) : Sp := Pm (fun p : B1 => [p.v, .str p.x]) (fun B p H => BdR K B p.b p.v H ∧ p.x ∈ p.b.pegs) (fun B p v H => v = .int (p.b.cost p.x))
theorem ok_Board_cost_of (T : Fx K mg) : OK P w K mg base 4 (He.fAd K ("Board", some "cost_of")) (sp_Board_cost_of K) := by
  obtain ⟨fd, F⟩ := T.dd 56 (d := d_Board_cost_of) rfl
  have c_Board := T.cls 64 rfl
  have m_Board_require := T.meth 107 rfl
  have ok_Board_require := ok_Board_require (P := P) (w := w) (base := base) T
  have sc : FnScope ["self", "peg"] ["self", "peg"] (defScope (mth 56 12)) := ⟨rfl, rfl, rfl, by decide +kernel, rfl, by decide +kernel, by decide +kernel⟩
  have nd := sc.nd
  refine OK.of (F.ok sc (fun vs H Q E h => by obtain ⟨B, a, h⟩ := h; first | (obtain ⟨rfl, _⟩ := h; rfl) | (obtain ⟨x, dx, rfl, _⟩ := h; rfl)) (fun cdv A outer s H vs Q E hr h => ⟨_, PSs.nox (pss_cons (ps_expr (pe_mtR ok_Board_require hr (by decide) c_Board m_Board_require (pv 0) (pa_cons (pv 1) pa_nil)))
    (pss_one (ps_ret (pe_dget (hu_of hr) (k_fld (K := K) (pv 0) rfl) (pv 1) (fun _ _ => rfl))))), ?_⟩)) (F.bindsN fun _ _ _ _ _ _ us hl => match us, hl with | [_, _], _ => rfl)
  obtain ⟨B, ⟨v, b, x⟩, rfl, hb, ⟨hR, hx⟩, hq⟩ := h
  have hR' := hR
  obtain ⟨a, dx, o, pr, rw, cl, ke, ev, t, hf⟩ := hR
  cases (show v = .ref a from ev)
  refine q_drop (Go.refl hb) (y_mt ⟨.ref a, b, x⟩ (y_var rfl) t rfl (ya_cons (y_var rfl) ya_nil) rfl fun H1 g1 => ⟨BdR.st _ _ _ g1 hR', hx⟩) fun _ H1 g1 _ _ => ?_
  exact s_ret (Go.refl g1.2) (y_dgetF (fun _ => IV.st) (y_fld (y_var rfl) (t.go g1) (T.cls 64 rfl) (T.noat 80 rfl) rfl) (hf.go g1).prices.z (y_var rfl) hx) fun v H2 g2 _ h => hq v H2 (g1.trans g2) h
def sp_Board_below (K : PySem.W.Frag) : Sp := Pm (fun p : B1 => [p.v, .str p.x]) (fun B p H => BdR K B p.b p.v H ∧ p.x ∈ p.b.pegs) (fun B p v H => TpS B (p.b.row p.x) v H)
theorem ok_Board_below (T : Fx K mg) : OK P w K mg base 4 (He.fAd K ("Board", some "below")) (sp_Board_below K) := by
  obtain ⟨fd, F⟩ := T.dd 57 (d := d_Board_below) rfl
  have c_Board := T.cls 64 rfl
  have m_Board_require := T.meth 107 rfl
  have ok_Board_require := ok_Board_require (P := P) (w := w) (base := base) T
  have sc : FnScope ["self", "peg"] ["self", "peg"] (defScope (mth 56 13)) := ⟨rfl, rfl, rfl, by decide +kernel, rfl, by decide +kernel, by decide +kernel⟩
  have nd := sc.nd
  refine OK.of (F.ok sc (fun vs H Q E h => by obtain ⟨B, a, h⟩ := h; first | (obtain ⟨rfl, _⟩ := h; rfl) | (obtain ⟨x, dx, rfl, _⟩ := h; rfl)) (fun cdv A outer s H vs Q E hr h => ⟨_, PSs.nox (pss_cons (ps_expr (pe_mtR ok_Board_require hr (by decide) c_Board m_Board_require (pv 0) (pa_cons (pv 1) pa_nil)))
    (pss_one (ps_ret (pe_dget (hu_of hr) (k_fld (K := K) (pv 0) rfl) (pv 1) (fun _ _ => rfl))))), ?_⟩)) (F.bindsN fun _ _ _ _ _ _ us hl => match us, hl with | [_, _], _ => rfl)
  obtain ⟨B, ⟨v, b, x⟩, rfl, hb, ⟨hR, hx⟩, hq⟩ := h
  have hR' := hR
  obtain ⟨a, dx, o, pr, rw, cl, ke, ev, t, hf⟩ := hR
  cases (show v = .ref a from ev)
  refine q_drop (Go.refl hb) (y_mt ⟨.ref a, b, x⟩ (y_var rfl) t rfl (ya_cons (y_var rfl) ya_nil) rfl fun H1 g1 => ⟨BdR.st _ _ _ g1 hR', hx⟩) fun _ H1 g1 _ _ => ?_
  exact s_ret (Go.refl g1.2) (y_dgetF (fun _ => TpS.st) (y_fld (y_var rfl) (t.go g1) (T.cls 64 rfl) (T.noat 81 rfl) rfl) (hf.go g1).rows.z (y_var rfl) hx) fun v H2 g2 _ h => hq v H2 (g1.trans g2) h
def sp_Board_above (K : PySem.W.Frag) : Sp := Pm (fun p : B1 => [p.v, .str p.x]) (fun B p H => BdR K B p.b p.v H ∧ p.x ∈ p.b.pegs) (fun B p v H => TpS B (p.b.pegs.filter fun o => p.b.bel o p.x) v H)
theorem ok_Board_above (T : Fx K mg) : OK P w K mg base 4 (He.fAd K ("Board", some "above")) (sp_Board_above K) := by
  obtain ⟨fd, F⟩ := T.dd 58 (d := d_Board_above) rfl
  have c_Board := T.cls 64 rfl
  have m_Board_require := T.meth 107 rfl
  have n_tuple := T.free 40 rfl
  have ok_Board_require := ok_Board_require (P := P) (w := w) (base := base) T
  have sc : FnScope ["self", "peg", "other"] ["self", "peg"] (defScope (mth 56 14)) := ⟨rfl, rfl, rfl, by decide +kernel, rfl, by decide +kernel, by decide +kernel⟩
  have nd := sc.nd
  refine OK.of (F.ok sc (fun vs H Q E h => by obtain ⟨B, a, h⟩ := h; first | (obtain ⟨rfl, _⟩ := h; rfl) | (obtain ⟨x, dx, rfl, _⟩ := h; rfl)) (fun cdv A outer s H vs Q E hr h => ⟨_, PSs.nox (pss_cons (ps_expr (pe_mtR ok_Board_require hr (by decide) c_Board m_Board_require (pv 0) (pa_cons (pv 1) pa_nil)))
    (pss_one (ps_ret (k_tupleOf (K := K) rfl n_tuple (pe_lc (own := [("other", 2)]) rfl nd (k_tup (K := K) (k_fld (K := K) (pv 0) rfl)) (blkOk_by (by kernel_rfl)) (fun _ _ _ _ _ => (pg_name (i := 2) nd rfl (Or.inl rfl))) (fun _ _ _ _ _ => (pts_one (pt_cmpR (k_in (K := K)) (pv 1) (pe_dget (hu_of hr) (k_fld (K := K) (pv 0) rfl) (pv 2) (fun _ _ => rfl)) (by with_unfolding_all rfl)))) (fun _ _ _ _ _ => (pv 2))))))), ?_⟩)) (F.bindsN fun _ _ _ _ _ _ us hl => match us, hl with | [_, _], _ => rfl)
  obtain ⟨B, ⟨v, b, x⟩, rfl, hb, ⟨hR, hx⟩, hq⟩ := h
  have hR' := hR
  obtain ⟨a, dx, o, pr, rw, cl, ke, ev, t, hf⟩ := hR
  cases (show v = .ref a from ev)
  refine q_drop (Go.refl hb) (y_mt ⟨.ref a, b, x⟩ (y_var rfl) t rfl (ya_cons (y_var rfl) ya_nil) rfl fun H1 g1 => ⟨BdR.st _ _ _ g1 hR', hx⟩) fun _ H1 g1 _ _ => ?_
  dsimp only at hx
  refine s_ret (P := TpS B (b.pegs.filter fun o => b.bel o x)) (Go.refl g1.2) (y_tupLS ((y_lcF (fun o => b.bel o x) (yk_tS (y_fld (y_var rfl) (t.go g1) (T.cls 64 rfl) (T.noat 79 rfl) rfl) (hf.go g1).order).yi (Nat.le_trans hf.w.z (by decide)) yg_s fun z σ3 H11 hz g11 s3 => ?_).imp fun v H1 _ h => h.1)) fun v H2 g2 _ h => hq v H2 (g1.trans g2) h
  subst s3
  have g := g1.trans g11
  refine ⟨rfl, yt_is (yt_testI (y_in (y_var rfl) (y_dgetF (fun _ => TpS.st) (y_fld (y_var rfl) (t.go g) (T.cls 64 rfl) (T.noat 81 rfl) rfl) (hf.go g).rows.z (y_var rfl) hz).tp)) (fil_mem hx), fun _ => y_var rfl⟩
def sp_Board_needs (K : PySem.W.Frag) : Sp := Pm (fun p : B2 => [p.v, .str p.x, .str p.y]) (fun B p H => BdR K B p.b p.v H ∧ p.x ∈ p.b.pegs ∧ p.y ∈ p.b.pegs) (fun B p v H => v = .bl (!decide (p.x = p.y) && p.b.bel p.x p.y))
theorem ok_Board_needs (T : Fx K mg) : OK P w K mg base 4 (He.fAd K ("Board", some "needs")) (sp_Board_needs K) := by
  obtain ⟨fd, F⟩ := T.dd 59 (d := d_Board_needs) rfl
  have c_Board := T.cls 64 rfl
  have m_Board_require := T.meth 107 rfl
  have ok_Board_require := ok_Board_require (P := P) (w := w) (base := base) T
  have sc : FnScope ["self", "peg", "other"] ["self", "peg", "other"] (defScope (mth 56 15)) := ⟨rfl, rfl, rfl, by decide +kernel, rfl, by decide +kernel, by decide +kernel⟩
  have nd := sc.nd
  refine OK.of (F.ok sc (fun vs H Q E h => by obtain ⟨B, a, h⟩ := h; first | (obtain ⟨rfl, _⟩ := h; rfl) | (obtain ⟨x, dx, rfl, _⟩ := h; rfl)) (fun cdv A outer s H vs Q E hr h => ⟨_, PSs.nox (pss_cons (ps_expr (pe_mtR ok_Board_require hr (by decide) c_Board m_Board_require (pv 0) (pa_cons (pv 1) pa_nil)))
    (pss_cons (ps_expr (pe_mtR ok_Board_require hr (by decide) c_Board m_Board_require (pv 0) (pa_cons (pv 2) pa_nil)))
    (pss_one (ps_ret (pe_and (pe_cmpR op_ne (pv 1) (pv 2) (nomark _)) (pe_one (pe_cmpR (k_in (K := K)) (pv 2) (pe_dget (hu_of hr) (k_fld (K := K) (pv 0) rfl) (pv 1) (fun _ _ => rfl)) (by with_unfolding_all rfl)))))))), ?_⟩)) (F.bindsN fun _ _ _ _ _ _ us hl => match us, hl with | [_, _, _], _ => rfl)
  obtain ⟨B, ⟨v, b, x, y⟩, rfl, hb, ⟨hR, hx, hy⟩, hq⟩ := h
  have hR' := hR
  obtain ⟨a, dx, o, pr, rw, cl, ke, ev, t, hf⟩ := hR
  cases (show v = .ref a from ev)
  dsimp only at hx hy
  refine q_drop (Go.refl hb) (y_mt ⟨.ref a, b, x⟩ (y_var rfl) t rfl (ya_cons (y_var rfl) ya_nil) rfl fun H1 g1 => ⟨BdR.st _ _ _ g1 hR', hx⟩) fun _ H1 g1 _ _ => ?_
  refine q_drop (Go.refl g1.2) (y_mt ⟨.ref a, b, y⟩ (y_var rfl) (t.go g1) rfl (ya_cons (y_var rfl) ya_nil) rfl fun H2 g2 => ⟨BdR.st _ _ _ (g1.trans g2) hR', hy⟩) fun _ H2 g2 _ _ => ?_
  have g := g1.trans g2
  refine s_ret (Go.refl g.2) (y_andV (y_is (y_op (y_var rfl) (y_var rfl) (o_ne rfl)) (by rw [str_eq])) fun _ => y_is (y_in (y_var rfl) (y_dgetF (fun _ => TpS.st) (y_fld (y_var rfl) (t.go g) (T.cls 64 rfl) (T.noat 81 rfl) rfl) (hf.go g).rows.z (y_var rfl) hx).tp) (congrArg V.bl (fil_mem hy))) fun v H3 g3 _ h => hq v H3 (g.trans g3) h
def sp_Board_clash (K : PySem.W.Frag) : Sp := Pm (fun p : B2 => [p.v, .str p.x, .str p.y]) (fun B p H => BdR K B p.b p.v H ∧ p.x ∈ p.b.pegs ∧ p.y ∈ p.b.pegs) (fun B p v H => v = .bl (p.b.cla p.x p.y))
theorem ok_Board_clash (T : Fx K mg) : OK P w K mg base 4 (He.fAd K ("Board", some "clash")) (sp_Board_clash K) := by
  obtain ⟨fd, F⟩ := T.dd 60 (d := d_Board_clash) rfl
  have c_Board := T.cls 64 rfl
  have m_Board_require := T.meth 107 rfl
  have ok_Board_require := ok_Board_require (P := P) (w := w) (base := base) T
  have sc : FnScope ["self", "peg", "other"] ["self", "peg", "other"] (defScope (mth 56 16)) := ⟨rfl, rfl, rfl, by decide +kernel, rfl, by decide +kernel, by decide +kernel⟩
  have nd := sc.nd
  refine OK.of (F.ok sc (fun vs H Q E h => by obtain ⟨B, a, h⟩ := h; first | (obtain ⟨rfl, _⟩ := h; rfl) | (obtain ⟨x, dx, rfl, _⟩ := h; rfl)) (fun cdv A outer s H vs Q E hr h => ⟨_, PSs.nox (pss_cons (ps_expr (pe_mtR ok_Board_require hr (by decide) c_Board m_Board_require (pv 0) (pa_cons (pv 1) pa_nil)))
    (pss_cons (ps_expr (pe_mtR ok_Board_require hr (by decide) c_Board m_Board_require (pv 0) (pa_cons (pv 2) pa_nil)))
    (pss_one (ps_ret (pe_or (pe_cmpR (k_inTD (K := K) (hu65 hr)) (pe_tup (pa_cons (pv 1) (pa_cons (pv 2) pa_nil))) (k_fld (K := K) (pv 0) rfl) (by with_unfolding_all rfl)) (pe_one (pe_cmpR (k_inTD (K := K) (hu65 hr)) (pe_tup (pa_cons (pv 2) (pa_cons (pv 1) pa_nil))) (k_fld (K := K) (pv 0) rfl) (by with_unfolding_all rfl)))))))), ?_⟩)) (F.bindsN fun _ _ _ _ _ _ us hl => match us, hl with | [_, _, _], _ => rfl)
  obtain ⟨B, ⟨v, b, x, y⟩, rfl, hb, ⟨hR, hx, hy⟩, hq⟩ := h
  have hR' := hR
  obtain ⟨a, dx, o, pr, rw, cl, ke, ev, t, hf⟩ := hR
  cases (show v = .ref a from ev)
  dsimp only at hx hy
  refine q_drop (Go.refl hb) (y_mt ⟨.ref a, b, x⟩ (y_var rfl) t rfl (ya_cons (y_var rfl) ya_nil) rfl fun H1 g1 => ⟨BdR.st _ _ _ g1 hR', hx⟩) fun _ H1 g1 _ _ => ?_
  refine q_drop (Go.refl g1.2) (y_mt ⟨.ref a, b, y⟩ (y_var rfl) (t.go g1) rfl (ya_cons (y_var rfl) ya_nil) rfl fun H2 g2 => ⟨BdR.st _ _ _ (g1.trans g2) hR', hy⟩) fun _ H2 g2 _ _ => ?_
  have g := g1.trans g2
  have hs : ∀ p ∈ b.ps, PyData.strOk p.1 = true ∧ PyData.strOk p.2 = true := fun p hp => ⟨hf.w.sk _ (hf.w.ps p hp).1, hf.w.sk _ (hf.w.ps p hp).2⟩
  have cl' := (y_fld (B := B) (σ := start ["self", "peg", "other"] [.ref a, .str x, .str y]) (y_var (i := 0) rfl) (t.go g) (T.cls 64 rfl) (T.noat 82 rfl) rfl).rep (hf.go g).clashes (TpR.st fun _ => PrS.st)
  refine s_ret (Go.refl g.2) (y_orV (y_inP (q := (x, y)) hs ⟨hf.w.sk _ hx, hf.w.sk _ hy⟩ ((y_tupI (ya_cons (y_var rfl) (ya_cons (y_var rfl) ya_nil)) (by simp)).imp fun v H1 _ ⟨a, e, t, _⟩ => ⟨a, e, t⟩) cl')
    fun _ => y_inP (q := (y, x)) hs ⟨hf.w.sk _ hy, hf.w.sk _ hx⟩ ((y_tupI (ya_cons (y_var rfl) (ya_cons (y_var rfl) ya_nil)) (by simp)).imp fun v H1 _ ⟨a, e, t, _⟩ => ⟨a, e, t⟩) cl') fun v H3 g3 _ h => hq v H3 (g.trans g3) h
def sp_Board___eq__ (K : PySem.W.Frag) : Sp := Pm (fun p : V × Bd => [p.1, p.1]) (fun B p H => BdR K B p.2 p.1 H) (fun B p v H => v = .bl true)
theorem ok_Board___eq__ (T : Fx K mg) : OK P w K mg base 1 (He.fAd K ("Board", some "__eq__")) (sp_Board___eq__ K) := by
  obtain ⟨fd, F⟩ := T.dd 53 (d := d_Board___eq__) rfl
  have g_Board := T.glo 37 rfl
  have n_isinstance := T.free 45 rfl
  have sc : FnScope ["self", "other"] ["self", "other"] (defScope (mth 56 4)) := ⟨rfl, rfl, rfl, by decide +kernel, rfl, by decide +kernel, by decide +kernel⟩
  have nd := sc.nd
  refine OK.of (F.ok sc (fun vs H Q E h => by obtain ⟨B, a, h⟩ := h; first | (obtain ⟨rfl, _⟩ := h; rfl) | (obtain ⟨x, dx, rfl, _⟩ := h; rfl)) (fun cdv A outer s H vs Q E hr h => ⟨_, PSs.nox (pss_one (ps_ret (pe_and (pe_callB (k_isi (K := K)) rfl n_isinstance (by rfl) (pa_cons (pv 1) (pa_cons (pe_glob (v := .ref (He.ga K "Board")) rfl g_Board rfl) pa_nil))) (pe_one (pe_cmpR (k_eqD (K := K) hr.units) (k_fld (K := K) (pv 0) rfl) (k_fld (K := K) (pv 1) rfl) (nomark _)))))), ?_⟩)) (F.bindsN fun _ _ _ _ _ _ us hl => match us, hl with | [_, _], _ => rfl)
  obtain ⟨B, ⟨v, b⟩, rfl, hb, ⟨a, dx, o, pr, rw, cl, ke, ev, t, hf⟩, hq⟩ := h
  cases (show v = .ref a from ev)
  have kk := fun i (hi : [some (V.ref a), some (V.ref a)][i]? = some (some (V.ref a))) => (y_fld (B := B) (σ := [some (V.ref a), some (V.ref a)]) (y_var (i := i) hi) t (T.cls 64 rfl) (T.noat 83 rfl) rfl).rep hf.key KeyR.st
  have gd := Bd.gd hf.w
  refine s_ret (Go.refl hb) (y_andV (a := true) (b := true) (y_isC (y_var rfl) (fun H1 g => .base (.ins (t.go g).2 (T.cls 64 rfl) (of_decide_eq_true (T.xx 41 rfl)) (of_decide_eq_true (T.xx 44 rfl)) (of_decide_eq_true (T.xx 45 rfl)) (of_decide_eq_true (T.xx 42 rfl)))) (of_decide_eq_true (T.xx 43 rfl))) fun _ => y_is (y_eqD KeyR.st (kk 0 rfl) (kk 1 rfl) (fun _ _ h => h.dp) (fun _ _ h => h.dp) gd gd (by decide)) (congrArg V.bl gd.e)) fun v H1 g _ h => hq v H1 g h
end
end NP
end
section
set_option Elab.async false
set_option linter.all false
set_option maxRecDepth 100000
set_option maxHeartbeats 4000000
/-! The stand. -/
namespace NP
open PySem PySem.Spec PyProof.Rows L2
/-! ### more rules -/
section
variable {α : Type} {B : Option Addr} {σ : L2.St} {H H0 H' : Hp} {as : List α} {R : α → V → Hp → Prop} {wi : TI} {g : TG} {tt : TT} {te ta tb : TE} {tu tz : TS} {D : Ends} {K : PySem.W.Frag}
/-- a for, what it walks made at its head -/
theorem s_forM (hi : YI B wi σ H0 as R) (g0 : Go B H0 H)
    (k : ∀ H1, Go B H H1 → ∃ Inv : Nat → L2.St → Hp → Prop, Inv 0 σ H1 ∧ (∀ i σ1 H2, i ≤ as.length → Inv i σ1 H2 → Go B H1 H2) ∧
      (∀ i a σ1 H2 x H3, as[i]? = some a → Inv i σ1 H2 → Go B H2 H3 → R a x H3 → g x σ1 H3 fun σ2 H4 => tu { D with nx := Inv (i + 1), ct := Inv (i + 1), bk := D.nx } σ2 H4) ∧ (∀ σ1 H2, Inv as.length σ1 H2 → D.nx σ1 H2)) : tFor wi g tu D σ H :=
  hi H g0 _ fun J H1 g1 w => by
    obtain ⟨Inv, h0, hG, hs, hd⟩ := k H1 g1
    refine ⟨fun i m σ' H' => m = as.length - i ∧ i ≤ as.length ∧ Inv i σ' H', ⟨as.length, by omega, Nat.zero_le _, h0⟩, ?_⟩
    rintro i m σ' H' ⟨rfl, hle, hI⟩
    have gi := hG i σ' H' hle hI
    by_cases hlt : i < as.length
    · refine .inr ⟨w.go i H' hlt gi, fun σ2 H2 => i + 1 ≤ as.length ∧ Inv (i + 1) σ2 H2, fun σ2 H2 h2 => ⟨as.length - (i + 1), by omega, rfl, h2⟩, fun x H2 hy => ?_⟩
      obtain ⟨a, ha⟩ : ∃ a, as[i]? = some a := ⟨_, List.getElem?_eq_getElem hlt⟩
      obtain ⟨g2, r⟩ := w.yld i a H' x H2 ha gi hy
      have z := hs i a σ' H' x H2 ha hI g2 r
      have e1 : (fun σ2 H2 => i + 1 ≤ as.length ∧ Inv (i + 1) σ2 H2) = Inv (i + 1) := by
        funext σ2 H2
        exact propext ⟨fun h => h.2, fun h => ⟨hlt, h⟩⟩
      rw [e1]
      exact z
    · have e : i = as.length := by omega
      subst e
      exact .inl ⟨w.stop H' gi, hd σ' H' hI⟩
theorem q_forM (hi : YI B wi σ H0 as R) (g0 : Go B H0 H)
    (k : ∀ H1, Go B H H1 → ∃ Inv : Nat → L2.St → Hp → Prop, Inv 0 σ H1 ∧ (∀ i σ1 H2, i ≤ as.length → Inv i σ1 H2 → Go B H1 H2) ∧
      (∀ i a σ1 H2 x H3, as[i]? = some a → Inv i σ1 H2 → Go B H2 H3 → R a x H3 → g x σ1 H3 fun σ2 H4 => tu { D with nx := Inv (i + 1), ct := Inv (i + 1), bk := tz D } σ2 H4) ∧ (∀ σ1 H2, Inv as.length σ1 H2 → tz D σ1 H2)) : tSeq (tFor wi g tu) tz D σ H := s_forM (D := { D with nx := tz D }) hi g0 k
/-- a for over texts whose body only looks: J tells the states; it may be made at its head -/
theorem s_look {xs : List Str} {n : Nat} (J : L2.St → Prop) (hi : YI B wi σ H0 xs SV) (g0 : Go B H0 H) (h0 : J σ) (hg : g = gName n)
    (hs : ∀ x σ1 H2 D', x ∈ xs → J σ1 → Go B H0 H2 → Go B H H2 → (∀ H3, Go B H2 H3 → ∀ σ2, J σ2 → D'.nx σ2 H3) → D'.rt = D.rt → J (σ1.set n (some (.str x))) ∧ tu D' (σ1.set n (some (.str x))) H2) (hd : ∀ σ1 H1, J σ1 → Go B H H1 → D.nx σ1 H1) : tFor wi g tu D σ H := by
  subst hg
  refine s_forM hi g0 fun H1 g1 => ⟨fun _ σ1 H2 => J σ1 ∧ Go B H1 H2, ⟨h0, Go.refl g1.2⟩, fun i σ1 H2 _ h => h.2, fun i x σ1 H2 v H3 hx hI g3 r => ?_, fun σ1 H2 h => hd σ1 H2 h.1 (g1.trans h.2)⟩
  rw [show v = .str x from r]
  exact (hs x σ1 H3 { D with nx := fun σ2 H4 => J σ2 ∧ Go B H1 H4, ct := fun σ2 H4 => J σ2 ∧ Go B H1 H4, bk := D.nx } (List.mem_of_getElem? hx) hI.1 (g0.trans (g1.trans (hI.2.trans g3))) (g1.trans (hI.2.trans g3)) (fun H4 g4 σ2 hj => ⟨hj, (hI.2.trans g3).trans g4⟩) rfl).2
theorem q_look {xs : List Str} {n : Nat} (J : L2.St → Prop) (hi : YI B wi σ H0 xs SV) (g0 : Go B H0 H) (h0 : J σ) (hg : g = gName n)
    (hs : ∀ x σ1 H2 D', x ∈ xs → J σ1 → Go B H0 H2 → Go B H H2 → (∀ H3, Go B H2 H3 → ∀ σ2, J σ2 → D'.nx σ2 H3) → D'.rt = D.rt → J (σ1.set n (some (.str x))) ∧ tu D' (σ1.set n (some (.str x))) H2) (hd : ∀ σ1 H1, J σ1 → Go B H H1 → tz D σ1 H1) : tSeq (tFor wi g tu) tz D σ H := s_look (D := { D with nx := tz D }) J hi g0 h0 hg hs hd
/-- truth of a list of texts -/
theorem yt_truL {xs : List Str} (h : Y B te σ H (LsS B xs)) : YT B (fun σ H Q => te σ H fun x H' => ∃ k, TruV K x H' k ∧ Q k H') σ H (· = !xs.isEmpty) := fun H1 g Q q =>
  h H1 g _ fun v H2 g2 ⟨a, e, t⟩ => ⟨_, by
    subst e
    exact .inl ⟨_, t.sl, rfl⟩, q _ H2 g2 (by cases xs <;> rfl)⟩
theorem eqv_dS : ∀ xs ys : List Str, PyData.eqvAll (dS xs) (dS ys) = decide (xs = ys)
  | [], [] => by
    unfold dS
    rw [List.map_nil, PyData.eqvAll]
    rfl
  | [], y :: ys => by
    unfold dS
    rw [List.map_nil, List.map_cons, PyData.eqvAll]
    rfl
  | x :: xs, [] => by
    unfold dS
    rw [List.map_nil, List.map_cons, PyData.eqvAll]
    rfl
  | x :: xs, y :: ys => by
    have ih := eqv_dS xs ys
    unfold dS at ih ⊢
    rw [List.map_cons, List.map_cons, PyData.eqvAll, ih, PyData.eqv]
    by_cases h1 : x = y <;> by_cases h2 : xs = ys <;> simp [h1, h2]
theorem y_eqS {xs ys : List Str} (h1 : Sk xs) (h2 : Sk ys) (ha : Y B ta σ H (TpS B xs)) (hb : Y B tb σ H (TpS B ys)) : Y B (tOp (rEqD K) ta tb) σ H (Is (.bl (decide (xs = ys)))) :=
  y_is (y_eqD TpS.st ha hb (fun _ _ h => h.dp) (fun _ _ h => h.dp) (Gd.tup (gd_S h1)) (Gd.tup (gd_S h2)) (by decide)) (congrArg V.bl (by rw [PyData.eqv]; exact eqv_dS xs ys))
/-- ==, != of a board with itself -/
theorem y_eqB {b : Bd} {v : V} (ha : Y B ta σ H (Is v)) (hb : Y B tb σ H (Is v)) (h : BdR K B b v H) : Y B (tOp (rOwnEq (He.ga K "Board") false (sp_Board___eq__ K)) ta tb) σ H (Is (.bl true)) :=
  y_opG St.is ha hb fun x y H1 g1 ex ey Q q => by
    rw [show x = v from ex, show y = v from ey]
    have h1 := BdR.st _ _ _ g1 h
    have h2 := h1
    obtain ⟨a, dx, o, pr, rw, cl, ke, e, t, hf⟩ := h2
    refine ⟨a, a, dx, dx, _, _, e, e, t.2, t.2, B, (v, b), rfl, g1.2, h1, fun v2 H2 g2 e2 => ⟨true, e2, q _ H2 g2 rfl⟩⟩
theorem y_neB {b : Bd} {v : V} (ha : Y B ta σ H (Is v)) (hb : Y B tb σ H (Is v)) (h : BdR K B b v H) : Y B (tOp (rOwnEq (He.ga K "Board") true (sp_Board___eq__ K)) ta tb) σ H (Is (.bl false)) :=
  y_opG St.is ha hb fun x y H1 g1 ex ey Q q => by
    rw [show x = v from ex, show y = v from ey]
    have h1 := BdR.st _ _ _ g1 h
    have h2 := h1
    obtain ⟨a, dx, o, pr, rw, cl, ke, e, t, hf⟩ := h2
    refine ⟨a, a, dx, dx, _, _, e, e, t.2, t.2, B, (v, b), rfl, g1.2, h1, fun v2 H2 g2 e2 => ⟨true, e2, q _ H2 g2 rfl⟩⟩
end
/-! ### stands -/
/-- members in the board's order -/
def nrm (b : Bd) (s : List Str) : List Str := b.pegs.filter fun x => decide (x ∈ s)
/-- members that are closed below and free of clashes -/
structure StW (b : Bd) (s : List Str) : Prop where
  nrm : s = nrm b s
  down : ∀ x ∈ s, ∀ y ∈ b.row x, y ∈ s
  free : ∀ x ∈ s, ∀ y ∈ s, b.cla x y = false
theorem StW.sub {b : Bd} {s : List Str} (h : StW b s) : ∀ x ∈ s, x ∈ b.pegs := fun x hx => by
  rw [h.nrm] at hx
  exact (List.mem_filter.mp hx).1
theorem StW.nd {b : Bd} {s : List Str} (h : StW b s) (w : BdW b) : s.Nodup := by
  rw [h.nrm]
  exact w.nd.filter _
theorem StW.z {b : Bd} {s : List Str} (h : StW b s) (w : BdW b) : s.length ≤ 12 := by
  rw [h.nrm]
  exact Nat.le_trans (List.length_filter_le _ _) w.z
theorem StW.sk {b : Bd} {s : List Str} (h : StW b s) (w : BdW b) : Sk s := fun x hx => w.sk x (h.sub x hx)
theorem BdR.wf {K : PySem.W.Frag} {B : Option Addr} {b : Bd} {v : V} {H : Hp} (h : BdR K B b v H) : BdW b := let ⟨_, _, _, _, _, _, _, _, _, hf⟩ := h; hf.w
def sfs (vb m : V) : List (Str × V) := [("ground", vb), ("members", m)]
def StR (K : PySem.W.Frag) (B : Option Addr) (vb : V) (b : Bd) (s : List Str) : V → Hp → Prop := fun v H => ∃ a dx m, v = .ref a ∧ At B H a (.ins (He.ga K "Stand") dx (sfs vb m)) ∧ BdR K B b vb H ∧ TpS B s m H ∧ StW b s
theorem StR.st {K : PySem.W.Frag} {B : Option Addr} {vb : V} {b : Bd} {s : List Str} : St B (StR K B vb b s) := fun _ _ _ g ⟨a, dx, m, e, t, h1, h2, h3⟩ => ⟨a, dx, m, e, t.go g, BdR.st _ _ _ g h1, TpS.st _ _ _ g h2, h3⟩
section
variable {P : Program} {w : World} {K : PySem.W.Frag} {mg : Str → Option Value} {base : Heap}
structure M1 where
  vb : V
  vm : V
  b : Bd
  s : List Str
def sp_check_members (K : PySem.W.Frag) : Sp := Pm (fun p : M1 => [p.vb, p.vm]) (fun B p H => BdR K B p.b p.vb H ∧ TpS B p.s p.vm H ∧ StW p.b p.s) (fun B p v H => v = .non)
theorem ok_check_members (T : Fx K mg) : OK P w K mg base 7 (He.fAd K ("check_members", none)) (sp_check_members K) := by
  obtain ⟨fd, F⟩ := T.dd 15 (d := d_check_members) rfl
  have c_Board := T.cls 64 rfl
  have m_Board_below := T.meth 109 rfl
  have m_Board_clash := T.meth 112 rfl
  have n_enumerate := T.free 47 rfl
  have ok_Board_below := ok_Board_below (P := P) (w := w) (base := base) T
  have ok_Board_clash := ok_Board_clash (P := P) (w := w) (base := base) T
  have sc : FnScope ["board", "members", "peg", "needed", "at", "other"] ["board", "members"] (defScope (top 53)) := ⟨rfl, rfl, rfl, by decide +kernel, rfl, by decide +kernel, by decide +kernel⟩
  have nd := sc.nd
  refine OK.of (F.ok sc (fun vs H Q E h => by obtain ⟨B, a, h⟩ := h; first | (obtain ⟨rfl, _⟩ := h; rfl) | (obtain ⟨x, dx, rfl, _⟩ := h; rfl)) (fun cdv A outer s H vs Q E hr h => ⟨_, PSs.nox (pss_cons (ps_for PassesOwn.never rfl (k_tup (K := K) (pv 1)) (pg_name (i := 2) nd rfl (Or.inl rfl)) (pss_one (ps_for PassesOwn.never rfl (k_tup (K := K) (pe_mtR ok_Board_below hr (by decide) c_Board m_Board_below (pv 0) (pa_cons (pv 2) pa_nil))) (pg_name (i := 3) nd rfl (Or.inl rfl)) (pss_one (ps_if (pt_cmpR (k_ni (K := K)) (pv 3) (pv 1) (by with_unfolding_all rfl)) pss_never pss_nil)))))
    (pss_one (ps_for PassesOwn.never rfl (k_enumT (K := K) rfl n_enumerate (pa_cons (pv 1) pa_nil)) (k_gtup (K := K) (n := 2) rfl (pgs_cons (pg_name (i := 4) nd rfl (Or.inl rfl)) (pgs_cons (pg_name (i := 2) nd rfl (Or.inl rfl)) pgs_nil))) (pss_one (ps_for PassesOwn.never rfl (k_tup (K := K) (pe_slice (k_slT (K := K)) (pv 1) (po_some (pe_op op_add (pv 4) pe_int)) po_none)) (pg_name (i := 5) nd rfl (Or.inl rfl)) (pss_one (ps_if (pt_val (pe_mtR ok_Board_clash hr (by decide) c_Board m_Board_clash (pv 0) (pa_cons (pv 2) (pa_cons (pv 5) pa_nil)))) pss_never pss_nil))))))), ?_⟩)) (F.bindsN fun _ _ _ _ _ _ us hl => match us, hl with | [_, _], _ => rfl)
  obtain ⟨B, ⟨vb, vm, b, st⟩, rfl, hb, ⟨hR, hm, hw⟩, hq⟩ := h
  dsimp only at hR hm hw
  have hR' := hR
  obtain ⟨a, dx, o, pr, rw, cl, ke, ev, t, hf⟩ := hR
  subst ev
  refine q_look (fun σ1 => ∃ w1 w2, σ1 = [some (.ref a), some vm, w1, w2, none, none]) (yk_tS (y_var rfl) hm).yi (Go.refl hb) ⟨none, none, rfl⟩ rfl (fun x σ1 H2 D' hx hJ g2 _ hn hrt => ?_) fun σ1 H1 hJ g1 => ?_
  · obtain ⟨w1, w2, rfl⟩ := hJ
    refine ⟨⟨_, _, rfl⟩, ?_⟩
    refine s_look (fun σ1 => ∃ w2, σ1 = [some (.ref a), some vm, some (.str x), w2, none, none]) (yi_tup ((y_mt ⟨.ref a, b, x⟩ (y_var rfl) (t.go g2) rfl (ya_cons (y_var rfl) ya_nil) rfl fun H1 g1 => ⟨BdR.st _ _ _ (g2.trans g1) hR', hw.sub x hx⟩).imp fun v H1 _ h => TpS.r h) fun _ => SV.st) (Go.refl g2.2) ⟨w2, rfl⟩ rfl (fun y σ1 H3 D' hy hJ g3 _ hn hrt => ?_) fun σ1 H3 hJ g3 => ?_
    · obtain ⟨w2, rfl⟩ := hJ
      refine ⟨⟨_, rfl⟩, s_noN (Go.refl g3.2) (yt_is (yt_testI (y_ni (y_var rfl) ((y_var rfl).rep (TpS.st _ _ _ (g2.trans g3) hm) TpS.st).tp)) (by rw [decide_eq_true (hw.down x hx y hy)] <;> rfl)) fun H4 g4 _ => hn H4 g4 _ ⟨_, rfl⟩⟩
    · obtain ⟨w2, rfl⟩ := hJ
      exact hn H3 g3 _ ⟨_, _, rfl⟩
  · obtain ⟨w1, w2, rfl⟩ := hJ
    refine s_forK (fun _ σ1 H2 => Go B H1 H2 ∧ ∃ w1 w2 w3 w4, σ1 = [some (.ref a), some vm, w1, w2, w3, w4]) (yk_enS (y_var rfl) (TpS.st _ _ _ g1 hm)) (Go.refl g1.2) (fun H2 g => ⟨g, _, _, _, _, rfl⟩) (fun i σ1 H2 _ h => h.1) (fun i x σ1 H2 v H3 hx hI g3 r => ?_) fun σ1 H2 hI => hq _ H2 (g1.trans hI.1) rfl
    obtain ⟨g2, w1, w2, w3, w4, rfl⟩ := hI
    obtain ⟨i1, i2⟩ := enum_get hx
    refine yg_enum x v H3 g3.2 r _ fun σ2 ⟨z, ez, e⟩ => ?_
    rw [show z = .str x.2 from ez] at e
    subst e
    have g4 := g2.trans g3
    have g5 := g1.trans g4
    have mx := List.mem_of_getElem? i2
    refine s_look (fun σ1 => ∃ w4, σ1 = [some (.ref a), some vm, some (.str x.2), w2, some (.int (x.1 : Nat)), w4]) (yi_tup ((y_slFrom ((y_var rfl).rep (TpS.st _ _ _ g5 hm) TpS.st) (y_succ (y_var rfl))).imp fun v H1 _ h => h.r) fun _ => SV.st) (Go.refl g3.2) ⟨w4, rfl⟩ rfl (fun y σ1 H4 D' hy hJ g6 _ hn hrt => ?_) fun σ1 H4 hJ g6 => ?_
    · obtain ⟨w4, rfl⟩ := hJ
      have my := List.mem_of_mem_drop hy
      refine ⟨⟨_, rfl⟩, s_noN (Go.refl g6.2) (yt_is (yt_testI (y_mt (args := fun p : B2 => [p.v, .str p.x, .str p.y]) (post := fun _ p v _ => v = .bl (p.b.cla p.x p.y)) ⟨.ref a, b, x.2, y⟩ (y_var rfl) (t.go (g5.trans g6)) rfl (ya_cons (y_var rfl) (ya_cons (y_var rfl) ya_nil)) rfl fun H7 g7 => ⟨BdR.st _ _ _ ((g5.trans g6).trans g7) hR', hw.sub _ mx, hw.sub _ my⟩)) (hw.free _ mx _ my)) fun H7 g7 _ => hn H7 g7 _ ⟨_, rfl⟩⟩
    · obtain ⟨w4, rfl⟩ := hJ
      exact ⟨g4.trans g6, _, _, _, _, rfl⟩
/-- Stand(board, pegs) -/
structure S1 where
  vb : V
  vp : V
  b : Bd
  xs : List Str
structure S1Ok (K : PySem.W.Frag) (B : Option Addr) (p : S1) (H : Hp) : Prop where
  b : BdR K B p.b p.vb H
  xs : SqS B p.xs p.vp H
  sub : ∀ x ∈ p.xs, x ∈ p.b.pegs
  w : StW p.b (nrm p.b p.xs)
theorem S1Ok.go {B : Option Addr} {p : S1} {H H' : Hp} (h : S1Ok K B p H) (g : Go B H H') : S1Ok K B p H' := ⟨BdR.st _ _ _ g h.b, SqS.st _ _ _ g h.xs, h.sub, h.w⟩
def sp_Stand___init__ (K : PySem.W.Frag) : Sp := Pi (He.ga K "Stand") (fun p : S1 => [p.vb, p.vp]) (S1Ok K) (fun B p f H => ∃ m, f = sfs p.vb m ∧ BdR K B p.b p.vb H ∧ TpS B (nrm p.b p.xs) m H ∧ StW p.b (nrm p.b p.xs))
theorem ok_Stand___init__ (T : Fx K mg) : OK P w K mg base 10 (He.fAd K ("Stand", some "__init__")) (sp_Stand___init__ K) := by
  obtain ⟨fd, F⟩ := T.dd 42 (d := d_Stand___init__) rfl
  have c_Board := T.cls 64 rfl
  have g_check_members := T.glo 15 rfl
  have m_Board_require := T.meth 107 rfl
  have n_tuple := T.free 40 rfl
  have ok_Board_pegs := ok_Board_pegs (P := P) (w := w) (base := base) T
  have p_Board_pegs := T.prop 16 rfl rfl rfl rfl
  have ok_Board_require := ok_Board_require (P := P) (w := w) (base := base) T
  have ok_check_members := ok_check_members (P := P) (w := w) (base := base) T
  obtain ⟨_, F_check_members⟩ := T.dd 15 (d := d_check_members) rfl
  have kp_check_members := F_check_members.kp
  have sc : FnScope ["self", "board", "pegs", "peg", "members"] ["self", "board", "pegs"] (defScope (mth 54 0)) := ⟨rfl, rfl, rfl, by decide +kernel, rfl, by decide +kernel, by decide +kernel⟩
  have nd := sc.nd
  refine OK.of (F.ok sc (fun vs H Q E h => by obtain ⟨B, a, h⟩ := h; first | (obtain ⟨rfl, _⟩ := h; rfl) | (obtain ⟨x, dx, rfl, _⟩ := h; rfl)) (fun cdv A outer s H vs Q E hr h => ⟨_, PSs.nox (pss_cons (ps_for PassesOwn.never rfl (k_seq (K := K) (pv 2)) (pg_name (i := 3) nd rfl (Or.inl rfl)) (pss_one (ps_expr (pe_mtR ok_Board_require hr (by decide) c_Board m_Board_require (pv 1) (pa_cons (pv 3) pa_nil)))))
    (pss_cons (ps_set (i := 4) nd rfl (Or.inl rfl) (k_tupleOf (K := K) rfl n_tuple (pe_lc (own := [("peg", 3)]) rfl nd (k_tup (K := K) (pe_prR ok_Board_pegs hr (by decide) c_Board p_Board_pegs (pv 1))) (blkOk_by (by kernel_rfl)) (fun _ _ _ _ _ => (pg_name (i := 3) nd rfl (Or.inl rfl))) (fun _ _ _ _ _ => (pts_one (pt_cmpR (k_in (K := K)) (pv 3) (pv 2) (by with_unfolding_all rfl)))) (fun _ _ _ _ _ => (pv 3)))))
    (pss_cons (ps_expr (pe_cl ok_check_members hr (by decide) rfl g_check_members kp_check_members (pa_cons (pv 1) (pa_cons (pv 4) pa_nil))))
    (pss_cons (ps_fld (pv 0) (pv 1) rfl)
    (pss_one (ps_fld (pv 0) (pv 4) rfl)))))), ?_⟩)) (F.bindsN fun _ _ _ _ _ _ us hl => match us, hl with | [_, _, _], _ => rfl)
  obtain ⟨B, ⟨vb, vp, b, xs⟩, x, dx, rfl, hb, ho, hp, hq⟩ := h
  have hR := hp.b
  have hx := hp.xs
  have hs := hp.sub
  have hw := hp.w
  dsimp only at hR hx hs hw
  have hR' := hR
  obtain ⟨a, dxb, o, pr, rw, cl, ke, ev, t, hf⟩ := hR
  subst ev
  have hne : (V.ref a) ≠ .ref x := fun e => by
    cases e
    have z := t.2
    rw [ho.2] at z
    have z2 := (HO.ins.inj (Option.some.inj z)).2.2
    cases z2
  refine q_look (fun σ1 => ∃ w1, σ1 = [some (.ref x), some (.ref a), some vp, w1, none]) (yk_sS (y_var rfl) hx).yi (Go.refl hb) ⟨none, rfl⟩ rfl (fun y σ1 H2 D' hy hJ g2 _ hn hrt => ?_) fun σ1 H1 hJ g1 => ?_
  · obtain ⟨w1, rfl⟩ := hJ
    exact ⟨⟨_, rfl⟩, s_drop (Go.refl g2.2) (y_mt ⟨.ref a, b, y⟩ (y_var rfl) (t.go g2) rfl (ya_cons (y_var rfl) ya_nil) rfl fun H1 g1 => ⟨BdR.st _ _ _ (g2.trans g1) hR', hs y hy⟩) fun _ H3 g3 _ _ => hn H3 g3 _ ⟨_, rfl⟩⟩
  obtain ⟨w1, rfl⟩ := hJ
  have x1 := SqS.st _ _ _ g1 hx
  refine q_asg (P := TpS B (nrm b xs)) (Go.refl g1.2) (y_tupLS ((y_lcF (xs := b.pegs) (fun y => decide (y ∈ xs)) (yk_tS (y_bpegs (y_var rfl) (t.go g1) (hf.go g1)) (hf.go g1).order).yi (Nat.le_trans hf.w.z (by decide)) yg_s fun y σ2 H2 hy g2 s => ?_).imp fun v H1 _ h => h.1)) fun m H2 g2 _ hm => ?_
  · subst s
    exact ⟨rfl, yt_testI (y_in (y_var rfl) ((y_var rfl).rep (SqS.st _ _ _ g2 x1) SqS.st)), fun _ => y_var rfl⟩
  refine q_drop (Go.refl g2.2) (y_clI ⟨.ref a, m, b, nrm b xs⟩ (ya_cons (y_var rfl) (ya_cons (y_var rfl) ya_nil)) fun H3 g3 => ⟨BdR.st _ _ _ ((g1.trans g2).trans g3) hR', TpS.st _ _ _ g3 hm, hw⟩) fun _ H3 g3 _ _ => ?_
  have g13 := (g1.trans g2).trans g3
  have hm3 := TpS.st _ _ _ g3 hm
  have hR3 := BdR.st _ _ _ g13 hR'
  refine q_fld (P := Is (.ref a)) (Go.refl g3.2) (y_var rfl) (y_var rfl) (ho.go g13) (T.cls 63 rfl) (T.noat 77 rfl) (by decide) St.is NoI.is fun f1 H4 i4 x4 h4 o4 => ?_
  have hm4 := i4.to hm3 TpS.st TpS.nk.ni
  have hR4 := hR3.gi i4 hne
  refine s_fld (P := Is m) (Go.refl x4.2) (y_var rfl) (y_var rfl) o4 (T.cls 63 rfl) (T.noat 78 rfl) (Nat.lt_of_le_of_lt (pf (Nat.le_refl 0)) (by decide)) St.is NoI.is fun f2 H5 i5 x5 h5 o5 => ?_
  rw [show f1 = _ from h4, show f2 = _ from h5] at o5
  exact hq H5 _ ((g13.x.trans x4).trans x5) o5.2 ⟨m, rfl, hR4.gi i5 hne, i5.to hm4 TpS.st TpS.nk.ni, hw⟩
/-- a new stand -/
theorem y_mkS {B : Option Addr} {σ : L2.St} {H : Hp} {ts : TA} {R : List V → Hp → Prop} {vb : V} {b : Bd} {s : List Str} (h : YA B ts σ H R) (hr : ∀ vs H1, Go B H H1 → R vs H1 → ∃ vp xs, vs = [vb, vp] ∧ nrm b xs = s ∧ S1Ok K B ⟨vb, vp, b, xs⟩ H1) : Y B (StX.tMakeR (He.ga K "Stand") (sp_Stand___init__ K) E0 ts) σ H (StR K B vb b s) :=
  y_mk h fun vs H1 g r => by
    obtain ⟨vp, xs, e, en, ok⟩ := hr vs H1 g r
    refine ⟨⟨vb, vp, b, xs⟩, e, fun H2 g2 => ok.go g2, fun x dx f H2 g2 nx t ⟨m, ef, h1, h2, h3⟩ => ?_⟩
    dsimp only at ef h1 h2 h3
    rw [ef] at t
    rw [en] at h2 h3
    exact ⟨x, dx, m, rfl, t, h1, h2, h3⟩
def sp_Board___call__ (K : PySem.W.Frag) : Sp := Pm (fun p : S1 => [p.vb, p.vp]) (S1Ok K) (fun B p v H => StR K B p.vb p.b (nrm p.b p.xs) v H)
theorem ok_Board___call__ (T : Fx K mg) : OK P w K mg base 13 (He.fAd K ("Board", some "__call__")) (sp_Board___call__ K) := by
  obtain ⟨fd, F⟩ := T.dd 54 (d := d_Board___call__) rfl
  have g_Stand := T.glo 36 rfl
  have k_Stand := T.mkr 69 rfl
  have ok_Stand___init__ := ok_Stand___init__ (P := P) (w := w) (base := base) T
  have sc : FnScope ["self", "pegs"] ["self", "pegs"] (defScope (mth 56 6)) := ⟨rfl, rfl, rfl, by decide +kernel, rfl, by decide +kernel, by decide +kernel⟩
  have nd := sc.nd
  refine OK.of (F.ok sc (fun vs H Q E h => by obtain ⟨B, a, h⟩ := h; first | (obtain ⟨rfl, _⟩ := h; rfl) | (obtain ⟨x, dx, rfl, _⟩ := h; rfl)) (fun cdv A outer s H vs Q E hr h => ⟨_, PSs.nox (pss_one (ps_ret (pe_mkR ok_Stand___init__ hr (by decide) k_Stand rfl g_Stand (pa_cons (pv 0) (pa_cons (pv 1) pa_nil))))), ?_⟩)) (F.bindsN fun _ _ _ _ _ _ us hl => match us, hl with | [_, _], _ => rfl)
  obtain ⟨B, ⟨vb, vp, b, xs⟩, rfl, hb, hp, hq⟩ := h
  exact s_ret (Go.refl hb) (y_mkS (ya_cons (y_var rfl) (ya_cons (y_var rfl) ya_nil)) fun vs H1 g e => ⟨vp, xs, e, rfl, hp.go g⟩) fun v H1 g _ h => hq v H1 g h
def sp_Stand_board (K : PySem.W.Frag) : Sp := Pm (fun p : V × V × Bd × List Str => [p.1]) (fun B p H => StR K B p.2.1 p.2.2.1 p.2.2.2 p.1 H) (fun B p v H => v = p.2.1)
theorem ok_Stand_board (T : Fx K mg) : OK P w K mg base 1 (gAd K ("Stand", some "board")) (sp_Stand_board K) := by
  obtain ⟨fd, F⟩ := T.gd 2 (d := d_Stand_board) rfl rfl
  have sc : FnScope ["self"] ["self"] (defScope (mth 54 11)) := ⟨rfl, rfl, rfl, by decide +kernel, rfl, by decide +kernel, by decide +kernel⟩
  have nd := sc.nd
  refine OK.of (F.ok sc (fun vs H Q E h => by obtain ⟨B, a, h⟩ := h; first | (obtain ⟨rfl, _⟩ := h; rfl) | (obtain ⟨x, dx, rfl, _⟩ := h; rfl)) (fun cdv A outer s H vs Q E hr h => ⟨_, PSs.nox (pss_one (ps_ret (k_fld (K := K) (pv 0) rfl))), ?_⟩)) (F.bindsN fun _ _ _ _ _ _ us hl => match us, hl with | [_], _ => rfl)
  obtain ⟨B, ⟨v, vb, b, st⟩, rfl, hb, ⟨a, dx, m, ev, t, h1, h2, h3⟩, hq⟩ := h
  cases (show v = .ref a from ev)
  exact s_ret (Go.refl hb) (y_fld (y_var rfl) t (T.cls 63 rfl) (T.noat 77 rfl) rfl) fun v H1 g _ h => hq v H1 g h
def sp_Stand_pegs (K : PySem.W.Frag) : Sp := Pm (fun p : V × V × Bd × List Str => [p.1]) (fun B p H => StR K B p.2.1 p.2.2.1 p.2.2.2 p.1 H) (fun B p v H => TpS B p.2.2.2 v H)
theorem ok_Stand_pegs (T : Fx K mg) : OK P w K mg base 1 (gAd K ("Stand", some "pegs")) (sp_Stand_pegs K) := by
  obtain ⟨fd, F⟩ := T.gd 3 (d := d_Stand_pegs) rfl rfl
  have sc : FnScope ["self"] ["self"] (defScope (mth 54 12)) := ⟨rfl, rfl, rfl, by decide +kernel, rfl, by decide +kernel, by decide +kernel⟩
  have nd := sc.nd
  refine OK.of (F.ok sc (fun vs H Q E h => by obtain ⟨B, a, h⟩ := h; first | (obtain ⟨rfl, _⟩ := h; rfl) | (obtain ⟨x, dx, rfl, _⟩ := h; rfl)) (fun cdv A outer s H vs Q E hr h => ⟨_, PSs.nox (pss_one (ps_ret (k_fld (K := K) (pv 0) rfl))), ?_⟩)) (F.bindsN fun _ _ _ _ _ _ us hl => match us, hl with | [_], _ => rfl)
  obtain ⟨B, ⟨v, vb, b, st⟩, rfl, hb, ⟨a, dx, m, ev, t, h1, h2, h3⟩, hq⟩ := h
  cases (show v = .ref a from ev)
  exact s_ret (Go.refl hb) ((y_fld (y_var rfl) t (T.cls 63 rfl) (T.noat 78 rfl) rfl).rep h2 TpS.st) fun v H1 g _ h => hq v H1 g h
structure S2 where
  v : V
  u : V
  vb : V
  b : Bd
  s : List Str
  t : List Str
def S2Ok (K : PySem.W.Frag) (B : Option Addr) (p : S2) (H : Hp) : Prop := StR K B p.vb p.b p.s p.v H ∧ StR K B p.vb p.b p.t p.u H
def sp_Stand___eq__ (K : PySem.W.Frag) : Sp := Pm (fun p : S2 => [p.v, p.u]) (S2Ok K) (fun B p v H => v = .bl (decide (p.s = p.t)))
theorem ok_Stand___eq__ (T : Fx K mg) : OK P w K mg base 4 (He.fAd K ("Stand", some "__eq__")) (sp_Stand___eq__ K) := by
  obtain ⟨fd, F⟩ := T.dd 43 (d := d_Stand___eq__) rfl
  have g_Stand := T.glo 36 rfl
  have m_Board___eq__ := T.meth 105 rfl
  have n_isinstance := T.free 45 rfl
  have ok_Board___eq__ := ok_Board___eq__ (P := P) (w := w) (base := base) T
  have sc : FnScope ["self", "other"] ["self", "other"] (defScope (mth 54 4)) := ⟨rfl, rfl, rfl, by decide +kernel, rfl, by decide +kernel, by decide +kernel⟩
  have nd := sc.nd
  refine OK.of (F.ok sc (fun vs H Q E h => by obtain ⟨B, a, h⟩ := h; first | (obtain ⟨rfl, _⟩ := h; rfl) | (obtain ⟨x, dx, rfl, _⟩ := h; rfl)) (fun cdv A outer s H vs Q E hr h => ⟨_, PSs.nox (pss_one (ps_ret (pe_and (pe_callB (k_isi (K := K)) rfl n_isinstance (by rfl) (pa_cons (pv 1) (pa_cons (pe_glob (v := .ref (He.ga K "Stand")) rfl g_Stand rfl) pa_nil))) (pe_and (pe_cmpR (op_ownEq ok_Board___eq__ hr (by decide) m_Board___eq__) (k_fld (K := K) (pv 0) rfl) (k_fld (K := K) (pv 1) rfl) (nomark _)) (pe_one (pe_cmpR (k_eqD (K := K) hr.units) (k_fld (K := K) (pv 0) rfl) (k_fld (K := K) (pv 1) rfl) (nomark _))))))), ?_⟩)) (F.bindsN fun _ _ _ _ _ _ us hl => match us, hl with | [_, _], _ => rfl)
  obtain ⟨B, ⟨v, u, vb, b, st, tt⟩, rfl, hb, ⟨⟨a, dx, m, ev, t, h1, h2, h3⟩, ⟨a', dx', m', ev', t', h1', h2', h3'⟩⟩, hq⟩ := h
  cases (show v = .ref a from ev)
  cases (show u = .ref a' from ev')
  dsimp only at t t' h1 h2 h3 h1' h2' h3'
  refine s_ret (P := Is (.bl (decide (st = tt)))) (Go.refl hb) (y_is (y_andV (a := true) (y_isC (y_var rfl) (fun H1 g => .base (.ins (t'.go g).2 (T.cls 63 rfl) (of_decide_eq_true (T.xx 36 rfl)) (of_decide_eq_true (T.xx 44 rfl)) (of_decide_eq_true (T.xx 45 rfl)) (of_decide_eq_true (T.xx 37 rfl)))) (of_decide_eq_true (T.xx 38 rfl))) fun _ => y_andV (a := true) (y_eqB (y_fld (y_var rfl) t (T.cls 63 rfl) (T.noat 77 rfl) rfl) (y_fld (y_var rfl) t' (T.cls 63 rfl) (T.noat 77 rfl) rfl) h1) fun _ => y_eqS (h3.sk h1.wf) (h3'.sk h1.wf) ((y_fld (y_var rfl) t (T.cls 63 rfl) (T.noat 78 rfl) rfl).rep h2 TpS.st) ((y_fld (y_var rfl) t' (T.cls 63 rfl) (T.noat 78 rfl) rfl).rep h2' TpS.st)) rfl) fun v H1 g _ h => hq v H1 g h
def sp_check_board (K : PySem.W.Frag) : Sp := Pm (fun p : V × V × Bd × List Str => [p.2.1, p.1]) (fun B p H => StR K B p.2.1 p.2.2.1 p.2.2.2 p.1 H) (fun B p v H => v = .non)
theorem ok_check_board (T : Fx K mg) : OK P w K mg base 4 (He.fAd K ("check_board", none)) (sp_check_board K) := by
  obtain ⟨fd, F⟩ := T.dd 12 (d := d_check_board) rfl
  have c_Stand := T.cls 63 rfl
  have m_Board___eq__ := T.meth 105 rfl
  have ok_Board___eq__ := ok_Board___eq__ (P := P) (w := w) (base := base) T
  have ok_Stand_board := ok_Stand_board (P := P) (w := w) (base := base) T
  have p_Stand_board := T.prop 8 rfl rfl rfl rfl
  have ne_Board : NeOk K (He.ga K "Board") := ⟨of_decide_eq_true (T.xx 39 rfl), of_decide_eq_true (T.xx 40 rfl)⟩
  have sc : FnScope ["board", "thing"] ["board", "thing"] (defScope (top 45)) := ⟨rfl, rfl, rfl, by decide +kernel, rfl, by decide +kernel, by decide +kernel⟩
  have nd := sc.nd
  refine OK.of (F.ok sc (fun vs H Q E h => by obtain ⟨B, a, h⟩ := h; first | (obtain ⟨rfl, _⟩ := h; rfl) | (obtain ⟨x, dx, rfl, _⟩ := h; rfl)) (fun cdv A outer s H vs Q E hr h => ⟨_, PSs.nox (pss_one (ps_if (pt_cmpR (op_ownNe ok_Board___eq__ hr (by decide) m_Board___eq__ ne_Board) (pe_prR ok_Stand_board hr (by decide) c_Stand p_Stand_board (pv 1)) (pv 0) (nomark _)) pss_never pss_nil)), ?_⟩)) (F.bindsN fun _ _ _ _ _ _ us hl => match us, hl with | [_, _], _ => rfl)
  obtain ⟨B, ⟨v, vb, b, st⟩, rfl, hb, hS, hq⟩ := h
  have hS' := hS
  obtain ⟨a, dx, m, ev, t, h1, h2, h3⟩ := hS
  cases (show v = .ref a from ev)
  exact s_noN (Go.refl hb) (yt_testI (y_neB ((y_pr (.ref a, vb, b, st) (y_var rfl) t rfl fun H2 g2 => StR.st _ _ _ g2 hS').imp fun v H1 _ h => h) (y_var rfl) h1)) fun H1 g _ => hq _ H1 g rfl
end
end NP
end
section
set_option Elab.async false
set_option linter.all false
set_option maxRecDepth 100000
set_option maxHeartbeats 4000000
/-! The stand's methods. -/
namespace NP
open PySem PySem.Spec PyProof.Rows L2
theorem filter_filter {α : Type} (p q : α → Bool) (xs : List α) : (xs.filter p).filter q = xs.filter fun x => p x && q x := by
  rw [List.filter_filter]
  exact List.filter_congr fun x _ => Bool.and_comm _ _
theorem all_map {α : Type} (f : α → Bool) (xs : List α) : (xs.map f).all id = xs.all f := by
  rw [List.all_map]
  rfl
section
variable {P : Program} {w : World} {K : PySem.W.Frag} {mg : Str → Option Value} {base : Heap}
structure S3 where
  v : V
  vb : V
  b : Bd
  s : List Str
  x : Str
/-- tuple + (x,) -/
theorem y_catT {B : Option Addr} {σ : L2.St} {H : Hp} {ta tb : TE} {xs ys : List Str} (ha : Y B ta σ H (TpS B xs)) (hb : Y B tb σ H (TpS B ys)) (hz : xs.length + ys.length ≤ 100000) : Y B (tOp (rCatA K) ta tb) σ H (TpS B (xs ++ ys)) :=
  y_opG TpS.st ha hb fun x y H1 g ⟨a, e, t⟩ ⟨b, e2, t2⟩ Q q => ⟨a, b, _, _, e, e2, t.st, t2.st, by rw [List.length_map, List.length_map]; exact zl hz, fun h => q _ _ (Go.refl g.2) ⟨b, rfl, by
    rw [List.map_append, h, List.nil_append]
    exact t2⟩, fun _ h => q _ _ (Go.refl g.2) ⟨a, rfl, by
    rw [List.map_append, h, List.append_nil]
    exact t⟩, fun _ _ p hp => q _ _ (Go.new g.2 hp) ⟨p, rfl, by rw [List.map_append]; exact At.new g.2 hp⟩⟩
def sp_Stand_needed_by (K : PySem.W.Frag) : Sp := Pm (fun p : S3 => [p.v, .str p.x]) (fun B p H => StR K B p.vb p.b p.s p.v H ∧ p.x ∈ p.b.pegs ∧ ∀ o ∈ p.s, p.b.bel o p.x = true → o = p.x) (fun B p v H => v = .non)
theorem ok_Stand_needed_by (T : Fx K mg) : OK P w K mg base 7 (He.fAd K ("Stand", some "needed_by")) (sp_Stand_needed_by K) := by
  obtain ⟨fd, F⟩ := T.dd 46 (d := d_Stand_needed_by) rfl
  have c_Board := T.cls 64 rfl
  have m_Board_above := T.meth 110 rfl
  have ok_Board_above := ok_Board_above (P := P) (w := w) (base := base) T
  have sc : FnScope ["self", "peg", "above", "other"] ["self", "peg"] (defScope (mth 54 16)) := ⟨rfl, rfl, rfl, by decide +kernel, rfl, by decide +kernel, by decide +kernel⟩
  have nd := sc.nd
  refine OK.of (F.ok sc (fun vs H Q E h => by obtain ⟨B, a, h⟩ := h; first | (obtain ⟨rfl, _⟩ := h; rfl) | (obtain ⟨x, dx, rfl, _⟩ := h; rfl)) (fun cdv A outer s H vs Q E hr h => ⟨_, PSs.nox (pss_cons (ps_setLc (i := 2) rfl nd rfl rfl (sw_true rfl rfl rfl (by decide +kernel)) (own := [("other", 3)]) (k_tup (K := K) (pe_mtR ok_Board_above hr (by decide) c_Board m_Board_above (k_fld (K := K) (pv 0) rfl) (pa_cons (pv 1) pa_nil))) (blkOk_by (by kernel_rfl)) (fun _ _ _ _ _ => (pg_name (i := 3) nd rfl (Or.inl rfl))) (fun _ _ _ _ _ => (pts_one (PW.pt (pw_and (pt_cmpR op_ne (pv 3) (pv 1) (nomark _)) (pw_and1 (pt_cmpR (k_in (K := K)) (pv 3) (k_fld (K := K) (pv 0) rfl) (by with_unfolding_all rfl))))))) (fun _ _ _ _ _ => (pv 3)))
    (pss_one (ps_ret (pe_ifExp (pt_truth (pv 2) (by intro _; rfl)) (pe_ix (k_ixL (K := K)) (pv 2) pe_int (fun _ _ => rfl)) pe_non)))), ?_⟩)) (F.bindsN fun _ _ _ _ _ _ us hl => match us, hl with | [_, _], _ => rfl)
  obtain ⟨B, ⟨v, vb, b, st, x⟩, rfl, hb, ⟨hS, hx, hl⟩, hq⟩ := h
  obtain ⟨a, dx, m, ev, t, h1, h2, h3⟩ := hS
  cases (show v = .ref a from ev)
  dsimp only at t h1 h2 h3 hx hl
  have w1 := h1.wf
  have h1' := h1
  obtain ⟨ab, dxb, o, pr, rw, cl, ke, eb, tb, hf⟩ := h1'
  subst eb
  have e0 : (b.pegs.filter fun o => b.bel o x).filter (fun o => !decide (o = x) && decide (o ∈ st)) = [] := List.filter_eq_nil_iff.mpr fun o ho e => by
    obtain ⟨e1, e2⟩ := Bool.and_eq_true_iff.mp e
    have z := hl o (of_decide_eq_true e2) (List.mem_filter.mp ho).2
    rw [decide_eq_true z] at e1
    cases e1
  refine q_asg (P := LsS B []) (Go.refl hb) ((y_lcF (xs := b.pegs.filter fun o => b.bel o x) (fun o => !decide (o = x) && decide (o ∈ st)) (yi_tup ((y_mt (args := fun p : B1 => [p.v, .str p.x]) (post := fun B (p : B1) v H => TpS B (p.b.pegs.filter fun o => p.b.bel o p.x) v H) ⟨.ref ab, b, x⟩ (y_fld (y_var rfl) t (T.cls 63 rfl) (T.noat 77 rfl) rfl) tb rfl (ya_cons (y_var rfl) ya_nil) rfl fun H2 g2 => ⟨BdR.st _ _ _ g2 h1, hx⟩).imp fun v H1 _ h => TpS.r h) fun _ => SV.st) (Nat.le_trans (List.length_filter_le _ _) (Nat.le_trans w1.z (by decide))) yg_s fun o σ2 H2 ho g2 s => ?_).imp fun v H1 _ h => by
      rw [← e0]
      exact h.1) fun l H1 g1 _ hl1 => ?_
  · subst s
    exact ⟨rfl, yt_and (yt_is (yt_testI (y_op (y_var rfl) (y_var rfl) (o_ne rfl))) (by rw [str_eq])) fun _ => yt_testI (y_in (y_var rfl) ((y_fld (y_var rfl) (t.go g2) (T.cls 63 rfl) (T.noat 78 rfl) rfl).rep (TpS.st _ _ _ g2 h2) TpS.st).tp), fun _ => y_var rfl⟩
  · exact s_ret (P := Is .non) (Go.refl g1.2) (y_if (b := false) (yt_is (yt_truL ((y_var rfl).rep hl1 LsS.st)) rfl) (fun e => nomatch e) fun _ => y_c) fun v H2 g2 _ h => hq v H2 (g1.trans g2) h
def sp_Stand_with_peg (K : PySem.W.Frag) : Sp := Pm (fun p : S3 => [p.v, .str p.x]) (fun B p H => StR K B p.vb p.b p.s p.v H ∧ p.x ∈ p.b.pegs ∧ p.x ∉ p.s ∧ StW p.b (nrm p.b (p.s ++ [p.x]))) (fun B p v H => StR K B p.vb p.b (nrm p.b (p.s ++ [p.x])) v H)
theorem nrm_mem {b : Bd} {s : List Str} {x : Str} : x ∈ nrm b s ↔ x ∈ b.pegs ∧ x ∈ s := by
  unfold nrm
  rw [List.mem_filter, decide_eq_true_iff]
theorem ok_Stand_with_peg (T : Fx K mg) : OK P w K mg base 13 (He.fAd K ("Stand", some "with_peg")) (sp_Stand_with_peg K) := by
  obtain ⟨fd, F⟩ := T.dd 47 (d := d_Stand_with_peg) rfl
  have c_Board := T.cls 64 rfl
  have g_Stand := T.glo 36 rfl
  have k_Stand := T.mkr 69 rfl
  have m_Board_below := T.meth 109 rfl
  have m_Board_clash := T.meth 112 rfl
  have m_Board_require := T.meth 107 rfl
  have ok_Board_below := ok_Board_below (P := P) (w := w) (base := base) T
  have ok_Board_clash := ok_Board_clash (P := P) (w := w) (base := base) T
  have ok_Board_require := ok_Board_require (P := P) (w := w) (base := base) T
  have ok_Stand___init__ := ok_Stand___init__ (P := P) (w := w) (base := base) T
  have sc : FnScope ["self", "peg", "needed", "other"] ["self", "peg"] (defScope (mth 54 19)) := ⟨rfl, rfl, rfl, by decide +kernel, rfl, by decide +kernel, by decide +kernel⟩
  have nd := sc.nd
  refine OK.of (F.ok sc (fun vs H Q E h => by obtain ⟨B, a, h⟩ := h; first | (obtain ⟨rfl, _⟩ := h; rfl) | (obtain ⟨x, dx, rfl, _⟩ := h; rfl)) (fun cdv A outer s H vs Q E hr h => ⟨_, PSs.nox (pss_cons (ps_expr (pe_mtR ok_Board_require hr (by decide) c_Board m_Board_require (k_fld (K := K) (pv 0) rfl) (pa_cons (pv 1) pa_nil)))
    (pss_cons (ps_if (pt_cmpR (k_in (K := K)) (pv 1) (k_fld (K := K) (pv 0) rfl) (by with_unfolding_all rfl)) pss_never pss_nil)
    (pss_cons (ps_for PassesOwn.never rfl (k_tup (K := K) (pe_mtR ok_Board_below hr (by decide) c_Board m_Board_below (k_fld (K := K) (pv 0) rfl) (pa_cons (pv 1) pa_nil))) (pg_name (i := 2) nd rfl (Or.inl rfl)) (pss_one (ps_if (PW.pt (pw_and (pt_cmpR op_ne (pv 2) (pv 1) (nomark _)) (pw_and1 (pt_cmpR (k_ni (K := K)) (pv 2) (k_fld (K := K) (pv 0) rfl) (by with_unfolding_all rfl))))) pss_never pss_nil)))
    (pss_cons (ps_for PassesOwn.never rfl (k_tup (K := K) (k_fld (K := K) (pv 0) rfl)) (pg_name (i := 3) nd rfl (Or.inl rfl)) (pss_one (ps_if (pt_val (pe_mtR ok_Board_clash hr (by decide) c_Board m_Board_clash (k_fld (K := K) (pv 0) rfl) (pa_cons (pv 1) (pa_cons (pv 3) pa_nil)))) pss_never pss_nil)))
    (pss_one (ps_ret (pe_mkR ok_Stand___init__ hr (by decide) k_Stand rfl g_Stand (pa_cons (k_fld (K := K) (pv 0) rfl) (pa_cons (pe_op (k_catA (K := K)) (k_fld (K := K) (pv 0) rfl) (pe_tup (pa_cons (pv 1) pa_nil))) pa_nil))))))))), ?_⟩)) (F.bindsN fun _ _ _ _ _ _ us hl => match us, hl with | [_, _], _ => rfl)
  obtain ⟨B, ⟨v, vb, b, st, x⟩, rfl, hb, ⟨hS, hx, hn, hw⟩, hq⟩ := h
  obtain ⟨a, dx, m, ev, t, h1, h2, h3⟩ := hS
  cases (show v = .ref a from ev)
  dsimp only at t h1 h2 h3 hx hn hw
  have w1 := h1.wf
  have h1' := h1
  obtain ⟨ab, dxb, o, pr, rw, cl, ke, eb, tb, hf⟩ := h1'
  subst eb
  have mx : x ∈ nrm b (st ++ [x]) := nrm_mem.mpr ⟨hx, by simp⟩
  have ms : ∀ y ∈ st, y ∈ nrm b (st ++ [x]) := fun y hy => nrm_mem.mpr ⟨h3.sub y hy, by simp [hy]⟩
  refine q_drop (Go.refl hb) (y_mt ⟨.ref ab, b, x⟩ (y_fld (y_var rfl) t (T.cls 63 rfl) (T.noat 77 rfl) rfl) tb rfl (ya_cons (y_var rfl) ya_nil) rfl fun H1 g1 => ⟨BdR.st _ _ _ g1 h1, hx⟩) fun _ H1 g1 _ _ => ?_
  refine q_no (Go.refl g1.2) (yt_is (yt_testI (y_in (y_var rfl) ((y_fld (y_var rfl) (t.go g1) (T.cls 63 rfl) (T.noat 78 rfl) rfl).rep (TpS.st _ _ _ g1 h2) TpS.st).tp)) (decide_eq_false hn)) fun H2 g2 _ => ?_
  have g12 := g1.trans g2
  refine q_look (fun σ1 => ∃ w1, σ1 = [some (.ref a), some (.str x), w1, none]) (yi_tup ((y_mt (args := fun p : B1 => [p.v, .str p.x]) (post := fun B (p : B1) v H => TpS B (p.b.row p.x) v H) ⟨.ref ab, b, x⟩ (y_fld (y_var rfl) (t.go g12) (T.cls 63 rfl) (T.noat 77 rfl) rfl) (tb.go g12) rfl (ya_cons (y_var rfl) ya_nil) rfl fun H3 g3 => ⟨BdR.st _ _ _ (g12.trans g3) h1, hx⟩).imp fun v H1 _ h => TpS.r h) fun _ => SV.st) (Go.refl g2.2) ⟨none, rfl⟩ rfl (fun y σ1 H3 D' hy hJ g3 _ hn2 hrt => ?_) fun σ1 H3 hJ g3 => ?_
  · obtain ⟨w1, rfl⟩ := hJ
    have g13 := g12.trans g3
    refine ⟨⟨_, rfl⟩, s_noN (Go.refl g3.2) (yt_is (yt_and (a := !decide (y = x)) (b := !decide (y ∈ st)) (yt_is (yt_testI (y_op (y_var rfl) (y_var rfl) (o_ne rfl))) (by rw [str_eq])) fun _ => yt_testI (y_ni (y_var rfl) ((y_fld (y_var rfl) (t.go g13) (T.cls 63 rfl) (T.noat 78 rfl) rfl).rep (TpS.st _ _ _ g13 h2) TpS.st).tp)) ?_) fun H4 g4 _ => hn2 H4 g4 _ ⟨_, rfl⟩⟩
    have z := (nrm_mem.mp (hw.down x mx y hy)).2
    rcases List.mem_append.mp z with z | z
    · rw [decide_eq_true z]
      exact Bool.and_false _
    · rw [decide_eq_true (List.mem_singleton.mp z)]
      rfl
  obtain ⟨w1, rfl⟩ := hJ
  have g13 := g12.trans g3
  refine q_look (fun σ1 => ∃ w2, σ1 = [some (.ref a), some (.str x), w1, w2]) (yi_tup (((y_fld (y_var rfl) (t.go g13) (T.cls 63 rfl) (T.noat 78 rfl) rfl).rep (TpS.st _ _ _ g13 h2) TpS.st).imp fun v H1 _ h => TpS.r h) fun _ => SV.st) (Go.refl g3.2) ⟨none, rfl⟩ rfl (fun y σ1 H4 D' hy hJ g4 _ hn2 hrt => ?_) fun σ1 H4 hJ g4 => ?_
  · obtain ⟨w2, rfl⟩ := hJ
    have g14 := g13.trans g4
    refine ⟨⟨_, rfl⟩, s_noN (Go.refl g4.2) (yt_is (yt_testI (y_mt (args := fun p : B2 => [p.v, .str p.x, .str p.y]) (post := fun _ p v _ => v = .bl (p.b.cla p.x p.y)) ⟨.ref ab, b, x, y⟩ (y_fld (y_var rfl) (t.go g14) (T.cls 63 rfl) (T.noat 77 rfl) rfl) (tb.go g14) rfl (ya_cons (y_var rfl) (ya_cons (y_var rfl) ya_nil)) rfl fun H7 g7 => ⟨BdR.st _ _ _ (g14.trans g7) h1, hx, h3.sub y hy⟩)) (hw.free x mx y (ms y hy))) fun H7 g7 _ => hn2 H7 g7 _ ⟨_, rfl⟩⟩
  obtain ⟨w2, rfl⟩ := hJ
  have g14 := g13.trans g4
  refine s_ret (P := StR K B (.ref ab) b (nrm b (st ++ [x]))) (Go.refl g4.2) (y_mkS (R := fun vs H' => ∃ w, vs = [.ref ab, w] ∧ TpS B (st ++ [x]) w H') ((ya_consG St.is (y_fld (y_var rfl) (t.go g14) (T.cls 63 rfl) (T.noat 77 rfl) rfl) (ya_consG TpS.st (y_catT ((y_fld (y_var rfl) (t.go g14) (T.cls 63 rfl) (T.noat 78 rfl) rfl).rep (TpS.st _ _ _ g14 h2) TpS.st) ((y_tupI (ya_cons (y_var rfl) ya_nil) (by simp)).imp fun v H1 _ ⟨a, e, t, _⟩ => (⟨a, e, t⟩ : TpS B [x] v H1)) (by
    have := h3.z h1.wf
    show st.length + 1 ≤ 100000
    omega)) ya_nil)).imp fun vs H5 _ ⟨v1, r1, e1, q1, v2, r2, e2, q2, e3⟩ => ⟨v2, by rw [e1, e2, show v1 = _ from q1, show r2 = [] from e3], q2⟩) fun vs H5 g5 ⟨v2, e, h⟩ => ⟨v2, st ++ [x], e, rfl, BdR.st _ _ _ (g14.trans g5) h1, .inl h, fun y hy => by
      rcases List.mem_append.mp hy with z | z
      · exact h3.sub y z
      · rw [List.mem_singleton.mp z]
        exact hx, hw⟩) fun v H5 g5 _ h => hq v H5 (g14.trans g5) h
def sp_Stand_without_peg (K : PySem.W.Frag) : Sp := Pm (fun p : S3 => [p.v, .str p.x]) (fun B p H => StR K B p.vb p.b p.s p.v H ∧ p.x ∈ p.s ∧ (∀ o ∈ p.s, p.b.bel o p.x = true → o = p.x) ∧ StW p.b (nrm p.b (p.s.filter fun y => !decide (y = p.x)))) (fun B p v H => StR K B p.vb p.b (nrm p.b (p.s.filter fun y => !decide (y = p.x))) v H)
theorem ok_Stand_without_peg (T : Fx K mg) : OK P w K mg base 13 (He.fAd K ("Stand", some "without_peg")) (sp_Stand_without_peg K) := by
  obtain ⟨fd, F⟩ := T.dd 48 (d := d_Stand_without_peg) rfl
  have c_Board := T.cls 64 rfl
  have c_Stand := T.cls 63 rfl
  have g_Stand := T.glo 36 rfl
  have k_Stand := T.mkr 69 rfl
  have m_Board_require := T.meth 107 rfl
  have m_Stand_needed_by := T.meth 98 rfl
  have ok_Board_require := ok_Board_require (P := P) (w := w) (base := base) T
  have ok_Stand___init__ := ok_Stand___init__ (P := P) (w := w) (base := base) T
  have ok_Stand_needed_by := ok_Stand_needed_by (P := P) (w := w) (base := base) T
  have sc : FnScope ["self", "peg", "by", "other"] ["self", "peg"] (defScope (mth 54 20)) := ⟨rfl, rfl, rfl, by decide +kernel, rfl, by decide +kernel, by decide +kernel⟩
  have nd := sc.nd
  refine OK.of (F.ok sc (fun vs H Q E h => by obtain ⟨B, a, h⟩ := h; first | (obtain ⟨rfl, _⟩ := h; rfl) | (obtain ⟨x, dx, rfl, _⟩ := h; rfl)) (fun cdv A outer s H vs Q E hr h => ⟨_, PSs.nox (pss_cons (ps_expr (pe_mtR ok_Board_require hr (by decide) c_Board m_Board_require (k_fld (K := K) (pv 0) rfl) (pa_cons (pv 1) pa_nil)))
    (pss_cons (ps_if (pt_cmpR (k_ni (K := K)) (pv 1) (k_fld (K := K) (pv 0) rfl) (by with_unfolding_all rfl)) pss_never pss_nil)
    (pss_cons (ps_set (i := 2) nd rfl (Or.inl rfl) (pe_mtR ok_Stand_needed_by hr (by decide) c_Stand m_Stand_needed_by (pv 0) (pa_cons (pv 1) pa_nil)))
    (pss_cons (ps_if (pt_cmpR op_notN (pv 2) pe_non (nomark _)) pss_never pss_nil)
    (pss_one (ps_ret (pe_mkR ok_Stand___init__ hr (by decide) k_Stand rfl g_Stand (pa_cons (k_fld (K := K) (pv 0) rfl) (pa_cons (pe_lc (own := [("other", 3)]) rfl nd (k_tup (K := K) (k_fld (K := K) (pv 0) rfl)) (blkOk_by (by kernel_rfl)) (fun _ _ _ _ _ => (pg_name (i := 3) nd rfl (Or.inl rfl))) (fun _ _ _ _ _ => (pts_one (pt_cmpR op_ne (pv 3) (pv 1) (nomark _)))) (fun _ _ _ _ _ => (pv 3))) pa_nil))))))))), ?_⟩)) (F.bindsN fun _ _ _ _ _ _ us hl => match us, hl with | [_, _], _ => rfl)
  obtain ⟨B, ⟨v, vb, b, st, x⟩, rfl, hb, ⟨hS, hx, hl, hw⟩, hq⟩ := h
  have hS' := hS
  obtain ⟨a, dx, m, ev, t, h1, h2, h3⟩ := hS
  cases (show v = .ref a from ev)
  dsimp only at t h1 h2 h3 hx hl hw hS'
  have w1 := h1.wf
  have h1' := h1
  obtain ⟨ab, dxb, o, pr, rw, cl, ke, eb, tb, hf⟩ := h1'
  subst eb
  have px := h3.sub x hx
  refine q_drop (Go.refl hb) (y_mt ⟨.ref ab, b, x⟩ (y_fld (y_var rfl) t (T.cls 63 rfl) (T.noat 77 rfl) rfl) tb rfl (ya_cons (y_var rfl) ya_nil) rfl fun H1 g1 => ⟨BdR.st _ _ _ g1 h1, px⟩) fun _ H1 g1 _ _ => ?_
  refine q_no (Go.refl g1.2) (yt_is (yt_testI (y_ni (y_var rfl) ((y_fld (y_var rfl) (t.go g1) (T.cls 63 rfl) (T.noat 78 rfl) rfl).rep (TpS.st _ _ _ g1 h2) TpS.st).tp)) (by rw [decide_eq_true hx] <;> rfl)) fun H2 g2 _ => ?_
  have g12 := g1.trans g2
  refine q_asg (P := Is .non) (Go.refl g2.2) ((y_mt (args := fun p : S3 => [p.v, .str p.x]) (post := fun _ (_ : S3) v _ => v = .non) ⟨.ref a, .ref ab, b, st, x⟩ (y_var rfl) (t.go g12) rfl (ya_cons (y_var rfl) ya_nil) rfl fun H3 g3 => ⟨StR.st _ _ _ (g12.trans g3) hS', px, hl⟩).imp fun v H1 _ h => h) fun by_ H3 g3 _ e3 => ?_
  rw [show by_ = _ from e3]
  have g13 := g12.trans g3
  refine q_no (Go.refl g3.2) (yt_is (yt_testI (y_op (y_var rfl) y_c o_notN)) rfl) fun H4 g4 _ => ?_
  have g14 := g13.trans g4
  refine s_ret (P := StR K B (.ref ab) b (nrm b (st.filter fun y => !decide (y = x)))) (Go.refl g4.2) (y_mkS (R := fun vs H' => ∃ w, vs = [.ref ab, w] ∧ LsS B (st.filter fun y => !decide (y = x)) w H') ((ya_consG St.is (y_fld (y_var rfl) (t.go g14) (T.cls 63 rfl) (T.noat 77 rfl) rfl) (ya_consG LsS.st ((y_lcF (fun y => !decide (y = x)) (yi_tup (((y_fld (y_var rfl) (t.go g14) (T.cls 63 rfl) (T.noat 78 rfl) rfl).rep (TpS.st _ _ _ g14 h2) TpS.st).imp fun v H1 _ h => TpS.r h) fun _ => SV.st) (Nat.le_trans (h3.z w1) (by decide)) yg_s fun y σ2 H5 hy g5 s => ?_).imp fun v H1 _ h => h.1) ya_nil)).imp fun vs H5 _ ⟨v1, r1, e1, q1, v2, r2, e2, q2, e3⟩ => ⟨v2, by rw [e1, e2, show v1 = _ from q1, show r2 = [] from e3], q2⟩) fun vs H5 g5 ⟨v2, e, h⟩ => ⟨v2, st.filter fun y => !decide (y = x), e, rfl, BdR.st _ _ _ (g14.trans g5) h1, .inr h, fun y hy => h3.sub y (List.mem_filter.mp hy).1, hw⟩) fun v H5 g5 _ h => hq v H5 (g14.trans g5) h
  subst s
  exact ⟨rfl, yt_is (yt_testI (y_op (y_var rfl) (y_var rfl) (o_ne rfl))) (by rw [str_eq]), fun _ => y_var rfl⟩
/-- the pegs in which two stands differ -/
def unl (b : Bd) (s t : List Str) : List Str := b.pegs.filter fun x => !decide (decide (x ∈ s) = decide (x ∈ t))
def dist (b : Bd) (s t : List Str) : Int := ((unl b s t).map b.cost).sum
theorem bl_eq {x y : Bool} : decide (V.bl x = V.bl y) = decide (x = y) := by
  cases x <;> cases y <;> rfl
def sp_Stand_distance (K : PySem.W.Frag) : Sp := Pm (fun p : S2 => [p.v, p.u]) (S2Ok K) (fun B p v H => v = .int (dist p.b p.s p.t))
theorem ok_Stand_distance (T : Fx K mg) : OK P w K mg base 7 (He.fAd K ("Stand", some "distance")) (sp_Stand_distance K) := by
  obtain ⟨fd, F⟩ := T.dd 49 (d := d_Stand_distance) rfl
  have c_Board := T.cls 64 rfl
  have g_check_board := T.glo 12 rfl
  have m_Board_cost_of := T.meth 108 rfl
  have n_sum := T.free 52 rfl
  have ok_Board_cost_of := ok_Board_cost_of (P := P) (w := w) (base := base) T
  have ok_Board_pegs := ok_Board_pegs (P := P) (w := w) (base := base) T
  have p_Board_pegs := T.prop 16 rfl rfl rfl rfl
  have ok_check_board := ok_check_board (P := P) (w := w) (base := base) T
  obtain ⟨_, F_check_board⟩ := T.dd 12 (d := d_check_board) rfl
  have kp_check_board := F_check_board.kp
  have sc : FnScope ["self", "other", "unlike", "peg"] ["self", "other"] (defScope (mth 54 22)) := ⟨rfl, rfl, rfl, by decide +kernel, rfl, by decide +kernel, by decide +kernel⟩
  have nd := sc.nd
  refine OK.of (F.ok sc (fun vs H Q E h => by obtain ⟨B, a, h⟩ := h; first | (obtain ⟨rfl, _⟩ := h; rfl) | (obtain ⟨x, dx, rfl, _⟩ := h; rfl)) (fun cdv A outer s H vs Q E hr h => ⟨_, PSs.nox (pss_cons (ps_expr (pe_cl ok_check_board hr (by decide) rfl g_check_board kp_check_board (pa_cons (k_fld (K := K) (pv 0) rfl) (pa_cons (pv 1) pa_nil))))
    (pss_cons (ps_setLc (i := 2) rfl nd rfl rfl (sw_true rfl rfl rfl (by decide +kernel)) (own := [("peg", 3)]) (k_tup (K := K) (pe_prR ok_Board_pegs hr (by decide) c_Board p_Board_pegs (k_fld (K := K) (pv 0) rfl))) (blkOk_by (by kernel_rfl)) (fun _ _ _ _ _ => (pg_name (i := 3) nd rfl (Or.inl rfl))) (fun _ _ _ _ _ => (pts_one (pt_cmpR op_ne (pe_cmpR (k_in (K := K)) (pv 3) (k_fld (K := K) (pv 0) rfl) (by with_unfolding_all rfl)) (pe_cmpR (k_in (K := K)) (pv 3) (k_fld (K := K) (pv 1) rfl) (by with_unfolding_all rfl)) (nomark _)))) (fun _ _ _ _ _ => (pv 3)))
    (pss_one (ps_ret (pe_callB (k_sum (K := K) rfl) rfl n_sum (by rfl) (pa_cons (pe_lc (own := [("peg", 3)]) rfl nd (k_list (K := K) (pv 2)) (blkOk_by (by kernel_rfl)) (fun _ _ _ _ _ => (pg_name (i := 3) nd rfl (Or.inl rfl))) (fun _ _ _ _ _ => pts_nil) (fun _ _ _ _ _ => (pe_mtR ok_Board_cost_of hr (by decide) c_Board m_Board_cost_of (k_fld (K := K) (pv 0) rfl) (pa_cons (pv 3) pa_nil)))) pa_nil)))))), ?_⟩)) (F.bindsN fun _ _ _ _ _ _ us hl => match us, hl with | [_, _], _ => rfl)
  obtain ⟨B, ⟨v, u, vb, b, st, tt⟩, rfl, hb, ⟨hS, hS2⟩, hq⟩ := h
  have hS2' := hS2
  obtain ⟨a, dx, m, ev, t, h1, h2, h3⟩ := hS
  obtain ⟨a', dx', m', ev', t', h1', h2', h3'⟩ := hS2
  cases (show v = .ref a from ev)
  cases (show u = .ref a' from ev')
  dsimp only at t t' h1 h2 h3 h1' h2' h3' hS2'
  have w1 := h1.wf
  have h1' := h1
  obtain ⟨ab, dxb, o, pr, rw, cl, ke, eb, tb, hf⟩ := h1'
  subst eb
  refine q_drop (Go.refl hb) (y_clI (.ref a', .ref ab, b, tt) (ya_cons (y_fld (y_var rfl) t (T.cls 63 rfl) (T.noat 77 rfl) rfl) (ya_cons (y_var rfl) ya_nil)) fun H1 g1 => StR.st _ _ _ g1 hS2') fun _ H1 g1 _ _ => ?_
  refine q_asg (P := LsS B (unl b st tt)) (Go.refl g1.2) ((y_lcF (xs := b.pegs) (fun x => !decide (decide (x ∈ st) = decide (x ∈ tt))) (yk_tS (y_bpegs (y_fld (y_var rfl) (t.go g1) (T.cls 63 rfl) (T.noat 77 rfl) rfl) (tb.go g1) (hf.go g1)) (hf.go g1).order).yi (Nat.le_trans w1.z (by decide)) yg_s fun x σ2 H2 hx g2 s => ?_).imp fun v H1 _ h => h.1) fun l H2 g2 _ hl => ?_
  · subst s
    have g := g1.trans g2
    exact ⟨rfl, yt_is (yt_testI (y_op (y_in (y_var rfl) ((y_fld (y_var rfl) (t.go g) (T.cls 63 rfl) (T.noat 78 rfl) rfl).rep (TpS.st _ _ _ g h2) TpS.st).tp) (y_in (y_var rfl) ((y_fld (y_var rfl) (t'.go g) (T.cls 63 rfl) (T.noat 78 rfl) rfl).rep (TpS.st _ _ _ g h2') TpS.st).tp) (o_ne rfl))) (by rw [bl_eq]), fun _ => y_var rfl⟩
  · have g := g1.trans g2
    refine s_ret (P := Is (.int (dist b st tt))) (Go.refl g2.2) (y_sum (y_lcI1 b.cost (yk_lS (y_var rfl) hl).yi (Nat.le_trans (List.length_filter_le _ _) (Nat.le_trans w1.z (by decide))) yg_s fun x σ2 H3 hx g3 s => ?_)) fun v H3 g3 _ h => hq v H3 (g.trans g3) h
    subst s
    have g13 := g.trans g3
    exact ⟨rfl, y_mt (args := fun p : B1 => [p.v, .str p.x]) (post := fun _ (p : B1) v _ => v = .int (p.b.cost p.x)) ⟨.ref ab, b, x⟩ (y_fld (y_var rfl) (t.go g13) (T.cls 63 rfl) (T.noat 77 rfl) rfl) (tb.go g13) rfl (ya_cons (y_var rfl) ya_nil) rfl fun H4 g4 => ⟨BdR.st _ _ _ (g13.trans g4) h1, (List.mem_filter.mp hx).1⟩⟩
structure S4 where
  v : V
  u1 : V
  u2 : V
  vb : V
  b : Bd
  s : List Str
  t1 : List Str
  t2 : List Str
/-- between -/
def btw (s t1 t2 : List Str) : Bool := (t1.filter fun x => decide (x ∈ t2)).all (fun x => decide (x ∈ s)) && s.all fun x => decide (x ∈ t1) || decide (x ∈ t2)
def sp_Stand_is_between (K : PySem.W.Frag) : Sp := Pm (fun p : S4 => [p.v, p.u1, p.u2]) (fun B p H => StR K B p.vb p.b p.s p.v H ∧ StR K B p.vb p.b p.t1 p.u1 H ∧ StR K B p.vb p.b p.t2 p.u2 H) (fun B p v H => v = .bl (btw p.s p.t1 p.t2))
theorem ok_Stand_is_between (T : Fx K mg) : OK P w K mg base 7 (He.fAd K ("Stand", some "is_between")) (sp_Stand_is_between K) := by
  obtain ⟨fd, F⟩ := T.dd 50 (d := d_Stand_is_between) rfl
  have g_check_board := T.glo 12 rfl
  have n_all := T.free 43 rfl
  have ok_check_board := ok_check_board (P := P) (w := w) (base := base) T
  obtain ⟨_, F_check_board⟩ := T.dd 12 (d := d_check_board) rfl
  have kp_check_board := F_check_board.kp
  have sc : FnScope ["self", "one", "other", "common", "peg"] ["self", "one", "other"] (defScope (mth 54 24)) := ⟨rfl, rfl, rfl, by decide +kernel, rfl, by decide +kernel, by decide +kernel⟩
  have nd := sc.nd
  refine OK.of (F.ok sc (fun vs H Q E h => by obtain ⟨B, a, h⟩ := h; first | (obtain ⟨rfl, _⟩ := h; rfl) | (obtain ⟨x, dx, rfl, _⟩ := h; rfl)) (fun cdv A outer s H vs Q E hr h => ⟨_, PSs.nox (pss_cons (ps_expr (pe_cl ok_check_board hr (by decide) rfl g_check_board kp_check_board (pa_cons (k_fld (K := K) (pv 0) rfl) (pa_cons (pv 1) pa_nil))))
    (pss_cons (ps_expr (pe_cl ok_check_board hr (by decide) rfl g_check_board kp_check_board (pa_cons (k_fld (K := K) (pv 0) rfl) (pa_cons (pv 2) pa_nil))))
    (pss_cons (ps_setLc (i := 3) rfl nd rfl rfl (sw_true rfl rfl rfl (by decide +kernel)) (own := [("peg", 4)]) (k_tup (K := K) (k_fld (K := K) (pv 1) rfl)) (blkOk_by (by kernel_rfl)) (fun _ _ _ _ _ => (pg_name (i := 4) nd rfl (Or.inl rfl))) (fun _ _ _ _ _ => (pts_one (pt_cmpR (k_in (K := K)) (pv 4) (k_fld (K := K) (pv 2) rfl) (by with_unfolding_all rfl)))) (fun _ _ _ _ _ => (pv 4)))
    (pss_cons (ps_if (pt_not (pt_val (pe_callB (k_all (K := K) rfl) rfl n_all (by rfl) (pa_cons (pe_lc (own := [("peg", 4)]) rfl nd (k_list (K := K) (pv 3)) (blkOk_by (by kernel_rfl)) (fun _ _ _ _ _ => (pg_name (i := 4) nd rfl (Or.inl rfl))) (fun _ _ _ _ _ => pts_nil) (fun _ _ _ _ _ => (pe_cmpR (k_in (K := K)) (pv 4) (k_fld (K := K) (pv 0) rfl) (by with_unfolding_all rfl)))) pa_nil)))) (pss_one (ps_ret pe_bl)) pss_nil)
    (pss_one (ps_ret (pe_callB (k_all (K := K) rfl) rfl n_all (by rfl) (pa_cons (pe_lc (own := [("peg", 4)]) rfl nd (k_tup (K := K) (k_fld (K := K) (pv 0) rfl)) (blkOk_by (by kernel_rfl)) (fun _ _ _ _ _ => (pg_name (i := 4) nd rfl (Or.inl rfl))) (fun _ _ _ _ _ => pts_nil) (fun _ _ _ _ _ => (pe_or (pe_cmpR (k_in (K := K)) (pv 4) (k_fld (K := K) (pv 1) rfl) (by with_unfolding_all rfl)) (pe_one (pe_cmpR (k_in (K := K)) (pv 4) (k_fld (K := K) (pv 2) rfl) (by with_unfolding_all rfl)))))) pa_nil)))))))), ?_⟩)) (F.bindsN fun _ _ _ _ _ _ us hl => match us, hl with | [_, _, _], _ => rfl)
  obtain ⟨B, ⟨v, u1, u2, vb, b, st, t1, t2⟩, rfl, hb, ⟨hS, hS1, hS2⟩, hq⟩ := h
  have hS1' := hS1
  have hS2' := hS2
  obtain ⟨a, dx, m, ev, t, h1, h2, h3⟩ := hS
  obtain ⟨a1, dx1, m1, ev1, tt1, h11, h21, h31⟩ := hS1
  obtain ⟨a2, dx2, m2, ev2, tt2, h12, h22, h32⟩ := hS2
  cases (show v = .ref a from ev)
  cases (show u1 = .ref a1 from ev1)
  cases (show u2 = .ref a2 from ev2)
  dsimp only at t tt1 tt2 h1 h2 h3 h11 h21 h31 h12 h22 h32 hS1' hS2'
  have w1 := h1.wf
  have mem1 := fun (σ : L2.St) (H' : Hp) (g : Go B H H') (i : Nat) (hi : σ[i]? = some (some (V.ref a))) => (y_fld (B := B) (σ := σ) (y_var (i := i) hi) (t.go g) (T.cls 63 rfl) (T.noat 78 rfl) rfl).rep (TpS.st _ _ _ g h2) TpS.st
  have mem2 := fun (σ : L2.St) (H' : Hp) (g : Go B H H') (i : Nat) (hi : σ[i]? = some (some (V.ref a1))) => (y_fld (B := B) (σ := σ) (y_var (i := i) hi) (tt1.go g) (T.cls 63 rfl) (T.noat 78 rfl) rfl).rep (TpS.st _ _ _ g h21) TpS.st
  have mem3 := fun (σ : L2.St) (H' : Hp) (g : Go B H H') (i : Nat) (hi : σ[i]? = some (some (V.ref a2))) => (y_fld (B := B) (σ := σ) (y_var (i := i) hi) (tt2.go g) (T.cls 63 rfl) (T.noat 78 rfl) rfl).rep (TpS.st _ _ _ g h22) TpS.st
  refine q_drop (Go.refl hb) (y_clI (.ref a1, vb, b, t1) (ya_cons (y_fld (y_var rfl) t (T.cls 63 rfl) (T.noat 77 rfl) rfl) (ya_cons (y_var rfl) ya_nil)) fun H1 g1 => StR.st _ _ _ g1 hS1') fun _ H1 g1 _ _ => ?_
  refine q_drop (Go.refl g1.2) (y_clI (.ref a2, vb, b, t2) (ya_cons (y_fld (y_var rfl) (t.go g1) (T.cls 63 rfl) (T.noat 77 rfl) rfl) (ya_cons (y_var rfl) ya_nil)) fun H2 g2 => StR.st _ _ _ (g1.trans g2) hS2') fun _ H2 g2 _ _ => ?_
  have g12 := g1.trans g2
  refine q_asg (P := LsS B (t1.filter fun x => decide (x ∈ t2))) (Go.refl g2.2) ((y_lcF (fun x => decide (x ∈ t2)) (yi_tup ((mem2 _ _ g12 1 rfl).imp fun v H1 _ h => TpS.r h) fun _ => SV.st) (Nat.le_trans (h31.z w1) (by decide)) yg_s fun x σ2 H3 hx g3 s => ?_).imp fun v H1 _ h => h.1) fun l H3 g3 _ hl => ?_
  · subst s
    exact ⟨rfl, yt_testI (y_in (y_var rfl) (mem3 _ _ (g12.trans g3) 2 rfl).tp), fun _ => y_var rfl⟩
  have g13 := g12.trans g3
  refine q_when (b := !((t1.filter fun x => decide (x ∈ t2)).all (fun x => decide (x ∈ st)))) (Go.refl g3.2) (yt_not (yt_testI (y_is (y_all (y_lcB1 (fun x => decide (x ∈ st)) (yk_lS (y_var rfl) hl).yi (Nat.le_trans (List.length_filter_le _ _) (Nat.le_trans (h31.z w1) (by decide))) yg_s fun x σ2 H4 hx g4 s => ?_)) (congrArg V.bl (all_map _ _))))) (fun e H4 g4 _ => ?_) fun e H4 g4 _ => ?_
  · subst s
    exact ⟨rfl, y_in (y_var rfl) (mem1 _ _ (g13.trans g4) 0 rfl).tp⟩
  · refine s_ret (Go.refl g4.2) y_c fun v H5 g5 _ h => hq v H5 (g13.trans (g4.trans g5)) ?_
    rw [show v = _ from h]
    show V.bl false = V.bl (btw st t1 t2)
    unfold btw
    rw [show (t1.filter fun x => decide (x ∈ t2)).all (fun x => decide (x ∈ st)) = false from by simpa using e] <;> rfl
  · have g14 := g13.trans g4
    refine s_ret (P := Is (.bl (st.all fun x => decide (x ∈ t1) || decide (x ∈ t2)))) (Go.refl g4.2) (y_is (y_all (y_lcB1 (fun x => decide (x ∈ t1) || decide (x ∈ t2)) (yi_tup ((mem1 _ _ g14 0 rfl).imp fun v H1 _ h => TpS.r h) fun _ => SV.st) (Nat.le_trans (h3.z w1) (by decide)) yg_s fun x σ2 H5 hx g5 s => ?_)) (congrArg V.bl (all_map _ _))) fun v H5 g5 _ h => hq v H5 (g14.trans g5) ?_
    · subst s
      exact ⟨rfl, y_orV (y_in (y_var rfl) (mem2 _ _ (g14.trans g5) 1 rfl).tp) fun _ => y_in (y_var rfl) (mem3 _ _ (g14.trans g5) 2 rfl).tp⟩
    · rw [show v = _ from h]
      show _ = V.bl (btw st t1 t2)
      unfold btw
      rw [show (t1.filter fun x => decide (x ∈ t2)).all (fun x => decide (x ∈ st)) = true from by simpa using e] <;> rfl
end
end NP
end
section
set_option Elab.async false
set_option linter.all false
set_option maxRecDepth 100000
set_option maxHeartbeats 4000000
/-! Turns, ways. -/
namespace NP
open PySem PySem.Spec PyProof.Rows L2
/-- a change of the instance x leaves it -/
def NoX (x : Addr) (P : V → Hp → Prop) : Prop := ∀ v H C dx f o', P v H → H x = some (.ins C dx f) → P v (upd H x o')
section
variable {α : Type} {B : Option Addr} {σ : L2.St} {H H0 H' : Hp} {te ta tv tb : TE} {K : PySem.W.Frag} {D : Ends} {P : V → Hp → Prop} {tz : TS} {R : α → V → Hp → Prop}
theorem NoI.x {x : Addr} (h : NoI P) : NoX x P := fun v H C dx f o' p e => h v H x C dx f o' p e
theorem Gi.tx {x : Addr} {v : V} (g : Gi B x H H') (h : P v H) (s : St B P) (n : NoX x P) : P v H' := by
  obtain ⟨H1, C, dx, f, o', g1, e, rfl⟩ := g
  exact n v H1 C dx f o' (s v _ _ g1 h) e
theorem s_fldX {x C dx : Addr} {fs : List (Str × V)} {f : Str} (g : Go B H0 H) (hv : Y B tv σ H0 P) (ha : Y B ta σ H0 (Is (.ref x))) (o : At B H0 x (.ins C dx fs)) (c : Cls K C) (n : NoAttr K C f) (l : fs.length < 1000) (sP : St B P) (nP : NoX x P)
    (k : ∀ v H2, Gi B x H0 H2 → Gx B x H0 H2 → P v H2 → At B H2 x (.ins C dx (putF f v fs)) → D.nx σ H2) : sFld K ta tv f D σ H :=
  hv H g _ fun v H1 g1 p => ha H1 (g.trans g1) _ fun v2 H2 g2 e => by
    have g3 := (g.trans g1).trans g2
    have o2 := o.go g3
    refine ⟨x, C, dx, fs, e, o2.2, c, n, l, k v _ ⟨H2, C, dx, fs, _, g3, o2.2, rfl⟩ ⟨fun a u hb hx hu => ?_, fun b eb => ?_⟩ (nP _ _ _ _ _ _ (sP _ _ _ g2 p) o2.2) ⟨o2.1, upd_same⟩⟩
    · rw [upd_ne hx]
      exact g3.1 a u hb hu
    · obtain ⟨i, j, m, q⟩ := g3.2 b eb
      exact ⟨i, j, m, by rw [upd_ne (fun z => o2.1 (by rw [eb, z]))]; exact q⟩
theorem TpR.nx {x : Addr} (hR : ∀ y, NoX x (R y)) {xs : List α} : NoX x (TpR B R xs) := fun v H C dx f o' ⟨a, zs, e, t, p⟩ h => ⟨a, zs, e, t.nk h True.intro (fun z => z), p.mono fun y z q => hR y z H C dx f o' q h⟩
theorem LsR.nx {x : Addr} (hR : ∀ y, NoX x (R y)) {xs : List α} : NoX x (LsR B R xs) := fun v H C dx f o' ⟨a, zs, e, t, p⟩ h => ⟨a, zs, e, t.nk h True.intro (fun z => z), p.mono fun y z q => hR y z H C dx f o' q h⟩
end
theorem yi_enumT {α : Type} {B : Option Addr} {σ : L2.St} {H : Hp} {te : TE} {K : PySem.W.Frag} {R : α → V → Hp → Prop} {as : List α} (h : Y B te σ H (TpR B R as)) (sR : ∀ x, St B (R x)) : YI B (iEnumT K (tCons te tNil)) σ H (enum as) (EnR B R) := fun H1 g Kk k =>
  h H1 g _ fun v H2 g2 ⟨a, zs, e, t, p⟩ => ⟨a, zs, by rw [e], t.st, k _ H2 g2 (wk_of walk_enumT (by rw [enum_len]; exact p.length.symm) (fun H1 g => (t.go g).st) fun i x H1 v H2 ex g y => by
    obtain ⟨T, x1, z, e1, e2, e3, e4, e5⟩ := y
    obtain ⟨i1, i2⟩ := enum_get ex
    cases e4
    subst e3
    have g' : Go B H1 (upd H1 T (.tup [.int (i : Nat), z])) := Go.new g.2 e2
    exact ⟨g', T, z, e1, by rw [i1]; exact At.new g.2 e2, sR _ _ _ _ (g.trans g') (paired_get p i2 e5)⟩)⟩
/-! ### turns -/
abbrev Tn := Bool × Str
def tnC (K : PySem.W.Frag) (b : Bool) : Addr := if b = true then He.ga K "Put" else He.ga K "Take"
def tnS (b : Bool) : Str := if b = true then "+" else "-"
def tfs (x : Str) : List (Str × V) := [("peg", .str x)]
def TnR (K : PySem.W.Frag) (B : Option Addr) (t : Tn) : V → Hp → Prop := fun v H => ∃ a dx, v = .ref a ∧ At B H a (.ins (tnC K t.1) dx (tfs t.2))
theorem TnR.st {K : PySem.W.Frag} {B : Option Addr} {t : Tn} : St B (TnR K B t) := fun _ _ _ g ⟨a, dx, e, q⟩ => ⟨a, dx, e, q.go g⟩
theorem TnR.nl {K : PySem.W.Frag} {B : Option Addr} {t : Tn} : NoL (TnR K B t) := fun v H D zs zs' ⟨a, dx, e, q⟩ h => ⟨a, dx, e, q.1, by
  rw [upd_ne (ne_of q.2 h fun z => nomatch z)]
  exact q.2⟩
/-- .. another one than x -/
def TnX (K : PySem.W.Frag) (B : Option Addr) (x : Addr) (t : Tn) : V → Hp → Prop := fun v H => TnR K B t v H ∧ v ≠ .ref x
theorem TnX.st {K : PySem.W.Frag} {B : Option Addr} {x : Addr} {t : Tn} : St B (TnX K B x t) := fun _ _ _ g h => ⟨TnR.st _ _ _ g h.1, h.2⟩
theorem TnX.nx {K : PySem.W.Frag} {B : Option Addr} {x : Addr} {t : Tn} : NoX x (TnX K B x t) := fun v H C dx f o' ⟨⟨a, dx', e, q⟩, hx⟩ h => ⟨⟨a, dx', e, q.1, by
  rw [upd_ne fun z => hx (by rw [e, z])]
  exact q.2⟩, hx⟩
/-- one turn, several -/
def stp (b : Bd) (s : List Str) (t : Tn) : List Str := if t.1 = true then nrm b (s ++ [t.2]) else nrm b (s.filter fun y => !decide (y = t.2))
def StpOk (b : Bd) (s : List Str) (t : Tn) : Prop := StW b (stp b s t) ∧ if t.1 = true then t.2 ∈ b.pegs ∧ t.2 ∉ s else t.2 ∈ s ∧ ∀ o ∈ s, b.bel o t.2 = true → o = t.2
def RunOk (b : Bd) : List Str → List Tn → Prop
  | _, [] => True
  | s, t :: ts => StpOk b s t ∧ RunOk b (stp b s t) ts
def wfs (vb r : V) : List (Str × V) := [("ground", vb), ("row", r)]
def WyR (K : PySem.W.Frag) (B : Option Addr) (vb : V) (b : Bd) (ts : List Tn) : V → Hp → Prop := fun v H => ∃ a dx r, v = .ref a ∧ At B H a (.ins (He.ga K "Way") dx (wfs vb r)) ∧ TpR B (TnR K B) ts r H
theorem WyR.st {K : PySem.W.Frag} {B : Option Addr} {vb : V} {b : Bd} {ts : List Tn} : St B (WyR K B vb b ts) := fun _ _ _ g ⟨a, dx, m, e, t, h⟩ => ⟨a, dx, m, e, t.go g, TpR.st (fun _ => TnR.st) _ _ _ g h⟩
section
variable {P : Program} {w : World} {K : PySem.W.Frag} {mg : Str → Option Value} {base : Heap}
def sp_Put___init__ (K : PySem.W.Frag) : Sp := Pi (He.ga K "Put") (fun x : Str => [.str x]) (fun _ _ _ => True) (fun B x f H => f = tfs x)
theorem ok_Put___init__ (T : Fx K mg) : OK P w K mg base 1 (He.fAd K ("Put", some "__init__")) (sp_Put___init__ K) := by
  obtain ⟨fd, F⟩ := T.dd 38 (d := d_Put___init__) rfl
  have sc : FnScope ["self", "peg"] ["self", "peg"] (defScope (mth 42 1)) := ⟨rfl, rfl, rfl, by decide +kernel, rfl, by decide +kernel, by decide +kernel⟩
  have nd := sc.nd
  refine OK.of (F.ok sc (fun vs H Q E h => by obtain ⟨B, a, h⟩ := h; first | (obtain ⟨rfl, _⟩ := h; rfl) | (obtain ⟨x, dx, rfl, _⟩ := h; rfl)) (fun cdv A outer s H vs Q E hr h => ⟨_, PSs.nox (pss_one (ps_fld (pv 0) (pv 1) rfl)), ?_⟩)) (F.bindsN fun _ _ _ _ _ _ us hl => match us, hl with | [_, _], _ => rfl)
  obtain ⟨B, y, x, dx, rfl, hb, ho, hp, hq⟩ := h
  refine s_fld (P := Is (.str y)) (Go.refl hb) (y_var rfl) (y_var rfl) ho (T.cls 60 rfl) (T.noat 73 rfl) (by decide) St.is NoI.is fun f1 H4 i4 x4 h4 o4 => ?_
  rw [show f1 = _ from h4] at o4
  exact hq H4 _ x4 o4.2 rfl
def sp_Take___init__ (K : PySem.W.Frag) : Sp := Pi (He.ga K "Take") (fun x : Str => [.str x]) (fun _ _ _ => True) (fun B x f H => f = tfs x)
theorem ok_Take___init__ (T : Fx K mg) : OK P w K mg base 1 (He.fAd K ("Take", some "__init__")) (sp_Take___init__ K) := by
  obtain ⟨fd, F⟩ := T.dd 39 (d := d_Take___init__) rfl
  have sc : FnScope ["self", "peg"] ["self", "peg"] (defScope (mth 43 1)) := ⟨rfl, rfl, rfl, by decide +kernel, rfl, by decide +kernel, by decide +kernel⟩
  have nd := sc.nd
  refine OK.of (F.ok sc (fun vs H Q E h => by obtain ⟨B, a, h⟩ := h; first | (obtain ⟨rfl, _⟩ := h; rfl) | (obtain ⟨x, dx, rfl, _⟩ := h; rfl)) (fun cdv A outer s H vs Q E hr h => ⟨_, PSs.nox (pss_one (ps_fld (pv 0) (pv 1) rfl)), ?_⟩)) (F.bindsN fun _ _ _ _ _ _ us hl => match us, hl with | [_, _], _ => rfl)
  obtain ⟨B, y, x, dx, rfl, hb, ho, hp, hq⟩ := h
  refine s_fld (P := Is (.str y)) (Go.refl hb) (y_var rfl) (y_var rfl) ho (T.cls 61 rfl) (T.noat 74 rfl) (by decide) St.is NoI.is fun f1 H4 i4 x4 h4 o4 => ?_
  rw [show f1 = _ from h4] at o4
  exact hq H4 _ x4 o4.2 rfl
theorem y_put {B : Option Addr} {σ : L2.St} {H : Hp} {te : TE} {x : Str} (h : Y B te σ H (Is (.str x))) : Y B (StX.tMakeR (He.ga K "Put") (sp_Put___init__ K) E0 (tCons te tNil)) σ H (TnR K B (true, x)) :=
  y_mk (ya_cons h ya_nil) fun vs H1 g e => ⟨x, e, fun _ _ => trivial, fun a dx f H2 g2 nx t ef => ⟨a, dx, rfl, by rw [ef] at t; exact t⟩⟩
theorem y_take {B : Option Addr} {σ : L2.St} {H : Hp} {te : TE} {x : Str} (h : Y B te σ H (Is (.str x))) : Y B (StX.tMakeR (He.ga K "Take") (sp_Take___init__ K) E0 (tCons te tNil)) σ H (TnR K B (false, x)) :=
  y_mk (ya_cons h ya_nil) fun vs H1 g e => ⟨x, e, fun _ _ => trivial, fun a dx f H2 g2 nx t ef => ⟨a, dx, rfl, by rw [ef] at t; exact t⟩⟩
theorem tn_fld (T : Fx K mg) {B : Option Addr} {σ : L2.St} {H : Hp} {te : TE} {t : Tn} {v : V} (h : Y B te σ H (Is v)) (r : TnR K B t v H) : Y B (tFld K te "peg") σ H (Is (.str t.2)) := by
  obtain ⟨a, dx, e, q⟩ := r
  subst e
  obtain ⟨c, x⟩ := t
  cases c with
  | true => exact y_fld h q (T.cls 60 rfl) (T.noat 73 rfl) rfl
  | false => exact y_fld h q (T.cls 61 rfl) (T.noat 74 rfl) rfl
theorem tn_sign (T : Fx K mg) {B : Option Addr} {σ : L2.St} {H : Hp} {te : TE} {t : Tn} {v : V} (h : Y B te σ H (Is v)) (r : TnR K B t v H) : Y B (tCon K te "sign") σ H (Is (.str (tnS t.1))) := by
  obtain ⟨a, dx, e, q⟩ := r
  subst e
  obtain ⟨c, x⟩ := t
  cases c with
  | true =>
    obtain ⟨u, con⟩ := He.conB_ok (T.xx 31 rfl) (K := K) (C := "Put") (f := "sign") (v := .str "+")
    exact y_con h q (T.cls 60 rfl) con rfl
  | false =>
    obtain ⟨u, con⟩ := He.conB_ok (T.xx 32 rfl) (K := K) (C := "Take") (f := "sign") (v := .str "-")
    exact y_con h q (T.cls 61 rfl) con rfl
/-- Way(board, turns) -/
structure W1 where
  vb : V
  vl : V
  b : Bd
  ts : List Tn
structure W1Ok (K : PySem.W.Frag) (B : Option Addr) (p : W1) (H : Hp) : Prop where
  b : BdR K B p.b p.vb H
  ts : LsR B (TnR K B) p.ts p.vl H
  sub : ∀ t ∈ p.ts, t.2 ∈ p.b.pegs
theorem W1Ok.go {B : Option Addr} {p : W1} {H H' : Hp} (h : W1Ok K B p H) (g : Go B H H') : W1Ok K B p H' := ⟨BdR.st _ _ _ g h.b, LsR.st (fun _ => TnR.st) _ _ _ g h.ts, h.sub⟩
def sp_Way___init__ (K : PySem.W.Frag) : Sp := Pi (He.ga K "Way") (fun p : W1 => [p.vb, p.vl]) (W1Ok K) (fun B p f H => ∃ r, f = wfs p.vb r ∧ TpR B (TnR K B) p.ts r H)
theorem y_ownNi {B : Option Addr} {σ : L2.St} {H : Hp} {ta tb : TE} {b : Bd} {v : V} {x : Str} (ha : Y B ta σ H (Is (.str x))) (hb : Y B tb σ H (Is v)) (h : BdR K B b v H) : Y B (tOp (rOwnIn (He.ga K "Board") true (sp_Board___contains__ K)) ta tb) σ H (Is (.bl (!decide (x ∈ b.pegs)))) :=
  y_opG St.is ha hb fun x' y H1 g1 ex ey Q q => by
    rw [show x' = _ from ex, show y = v from ey]
    have h1 := BdR.st _ _ _ g1 h
    have h2 := h1
    obtain ⟨a, dx, o, pr, rw, cl, ke, e, t, hf⟩ := h2
    subst e
    exact ⟨a, dx, _, rfl, t.2, B, ⟨.ref a, b, x⟩, rfl, g1.2, h1, fun v2 H2 g2 e2 => ⟨_, e2, q _ H2 g2 rfl⟩⟩
theorem LsR.imp {α : Type} {B : Option Addr} {R R' : α → V → Hp → Prop} {xs : List α} {v : V} {H : Hp} (h : LsR B R xs v H) (i : ∀ x z, R x z H → R' x z H) : LsR B R' xs v H := let ⟨a, zs, e, t, p⟩ := h; ⟨a, zs, e, t, p.mono fun x z => i x z⟩
theorem TpR.imp {α : Type} {B : Option Addr} {R R' : α → V → Hp → Prop} {xs : List α} {v : V} {H : Hp} (h : TpR B R xs v H) (i : ∀ x z, R x z H → R' x z H) : TpR B R' xs v H := let ⟨a, zs, e, t, p⟩ := h; ⟨a, zs, e, t, p.mono fun x z => i x z⟩
theorem yk_lR {α : Type} {B : Option Addr} {σ : L2.St} {H : Hp} {R : α → V → Hp → Prop} {as : List α} {tl : TE} {v : V} (h : Y B tl σ H (Is v)) (t : LsR B R as v H) (sR : ∀ x, St B (R x)) : YIk B (iList K tl) σ H as R := by
  obtain ⟨a, zs, e, t, p⟩ := t
  subst e
  exact yk_list h t p sR
theorem ok_Way___init__ (T : Fx K mg) : OK P w K mg base 4 (He.fAd K ("Way", some "__init__")) (sp_Way___init__ K) := by
  obtain ⟨fd, F⟩ := T.dd 40 (d := d_Way___init__) rfl
  have m_Board___contains__ := T.meth 104 rfl
  have n_tuple := T.free 40 rfl
  have ok_Board___contains__ := ok_Board___contains__ (P := P) (w := w) (base := base) T
  have sc : FnScope ["self", "board", "turns", "turn"] ["self", "board", "turns"] (defScope (mth 48 0)) := ⟨rfl, rfl, rfl, by decide +kernel, rfl, by decide +kernel, by decide +kernel⟩
  have nd := sc.nd
  obtain ⟨ds, hds, hbi⟩ := F.binds1 (ps := ["self", "board", "turns"]) 3 1 (by intro z; cases z) rfl (fun _ _ _ _ _ _ _ us its hl hi => match us, its, hl, hi with | [_, _, _], [_], _, _ => ⟨_, rfl, rfl⟩)
  have eds : ds = [] := by cases ds with | nil => rfl | cons a b => cases hds
  subst eds
  refine OK.of (F.ok sc (fun vs H Q E h => by obtain ⟨B, a, h⟩ := h; first | (obtain ⟨rfl, _⟩ := h; rfl) | (obtain ⟨x, dx, rfl, _⟩ := h; rfl)) (fun cdv A outer s H vs Q E hr h => ⟨_, PSs.nox (pss_cons (ps_for PassesOwn.never rfl (k_list (K := K) (pv 2)) (pg_name (i := 3) nd rfl (Or.inl rfl)) (pss_one (ps_if (pt_cmpR (op_ownNotIn ok_Board___contains__ hr (by decide) m_Board___contains__) (k_fld (K := K) (pv 3) rfl) (pv 1) (by with_unfolding_all rfl)) pss_never pss_nil)))
    (pss_cons (ps_fld (pv 0) (pv 1) rfl)
    (pss_one (ps_fld (pv 0) (k_tupleOf (K := K) rfl n_tuple (pv 2)) rfl)))), ?_⟩)) hbi
  obtain ⟨B, ⟨vb, vl, b, ts⟩, x, dx, rfl, hb, ho, hp, hq⟩ := h
  have hR := hp.b
  have hl := hp.ts
  have hs := hp.sub
  dsimp only at hR hl hs
  refine q_forK (fun _ σ1 H2 => Go B H H2 ∧ ∃ w1, σ1 = [some (.ref x), some vb, some vl, w1]) (yk_lR (y_var rfl) hl fun _ => TnR.st) (Go.refl hb) (fun H2 g => ⟨g, none, rfl⟩) (fun i σ1 H2 _ h => h.1) (fun i t σ1 H2 v H3 ht hI g3 r => ?_) fun σ1 H1 hI => ?_
  · obtain ⟨g2, w1, rfl⟩ := hI
    have g4 := g2.trans g3
    refine s_noN (Go.refl g3.2) (yt_is (yt_testI (y_ownNi (tn_fld T (y_var rfl) r) (y_var rfl) (BdR.st _ _ _ g4 hR))) (by rw [decide_eq_true (hs t (List.mem_of_getElem? ht))] <;> rfl)) fun H5 g5 _ => ⟨g4.trans g5, _, rfl⟩
  obtain ⟨g1, w1, rfl⟩ := hI
  have hX : LsR B (TnX K B x) ts vl H1 := (LsR.st (fun _ => TnR.st) _ _ _ g1 hl).imp fun t z q => ⟨q, fun e => by
    obtain ⟨a, dx', e2, t2⟩ := q
    rw [e] at e2
    cases e2
    have z := (ho.go g1).2
    rw [t2.2] at z
    have z2 := (HO.ins.inj (Option.some.inj z)).2.2
    cases z2⟩
  refine q_fld (P := Is vb) (Go.refl g1.2) (y_var rfl) (y_var rfl) (ho.go g1) (T.cls 62 rfl) (T.noat 75 rfl) (by decide) St.is NoI.is fun f1 H4 i4 x4 h4 o4 => ?_
  have hX4 := i4.tx hX (LsR.st fun _ => TnX.st) (LsR.nx fun _ => TnX.nx)
  refine s_fldX (P := TpR B (TnX K B x) ts) (Go.refl x4.2) (y_tupLR (fun _ => TnX.st) ((y_var rfl).rep hX4 (LsR.st fun _ => TnX.st))) (y_var rfl) o4 (T.cls 62 rfl) (T.noat 76 rfl) (Nat.lt_of_le_of_lt (pf (Nat.le_refl 0)) (by decide)) (TpR.st fun _ => TnX.st) (TpR.nx fun _ => TnX.nx) fun f2 H5 i5 x5 h5 o5 => ?_
  rw [show f1 = _ from h4] at o5
  exact hq H5 _ ((g1.x.trans x4).trans x5) o5.2 ⟨f2, rfl, h5.imp fun _ _ q => q.1⟩
theorem y_mkW {B : Option Addr} {σ : L2.St} {H : Hp} {ta : TA} {R : List V → Hp → Prop} {vb : V} {b : Bd} {ts : List Tn} (h : YA B ta σ H R) (hr : ∀ vs H1, Go B H H1 → R vs H1 → ∃ vl, vs = [vb, vl] ∧ W1Ok K B ⟨vb, vl, b, ts⟩ H1) : Y B (StX.tMakeR (He.ga K "Way") (sp_Way___init__ K) E0 ta) σ H (WyR K B vb b ts) :=
  y_mk h fun vs H1 g r => by
    obtain ⟨vl, e, ok⟩ := hr vs H1 g r
    refine ⟨⟨vb, vl, b, ts⟩, e, fun H2 g2 => ok.go g2, fun x dx f H2 g2 nx t ⟨m, ef, h1⟩ => ?_⟩
    dsimp only at ef h1
    rw [ef] at t
    exact ⟨x, dx, m, rfl, t, h1⟩
def sp_Way_board (K : PySem.W.Frag) : Sp := Pm (fun p : V × V × Bd × List Tn => [p.1]) (fun B p H => WyR K B p.2.1 p.2.2.1 p.2.2.2 p.1 H) (fun B p v H => v = p.2.1)
theorem ok_Way_board (T : Fx K mg) : OK P w K mg base 1 (gAd K ("Way", some "board")) (sp_Way_board K) := by
  obtain ⟨fd, F⟩ := T.gd 0 (d := d_Way_board) rfl rfl
  have sc : FnScope ["self"] ["self"] (defScope (mth 48 9)) := ⟨rfl, rfl, rfl, by decide +kernel, rfl, by decide +kernel, by decide +kernel⟩
  have nd := sc.nd
  refine OK.of (F.ok sc (fun vs H Q E h => by obtain ⟨B, a, h⟩ := h; first | (obtain ⟨rfl, _⟩ := h; rfl) | (obtain ⟨x, dx, rfl, _⟩ := h; rfl)) (fun cdv A outer s H vs Q E hr h => ⟨_, PSs.nox (pss_one (ps_ret (k_fld (K := K) (pv 0) rfl))), ?_⟩)) (F.bindsN fun _ _ _ _ _ _ us hl => match us, hl with | [_], _ => rfl)
  obtain ⟨B, ⟨v, vb, b, ts⟩, rfl, hb, ⟨a, dx, r, ev, t, h1⟩, hq⟩ := h
  cases (show v = .ref a from ev)
  exact s_ret (Go.refl hb) (y_fld (y_var rfl) t (T.cls 62 rfl) (T.noat 75 rfl) rfl) fun v H1 g _ h => hq v H1 g h
def sp_Way_turns (K : PySem.W.Frag) : Sp := Pm (fun p : V × V × Bd × List Tn => [p.1]) (fun B p H => WyR K B p.2.1 p.2.2.1 p.2.2.2 p.1 H) (fun B p v H => TpR B (TnR K B) p.2.2.2 v H)
theorem ok_Way_turns (T : Fx K mg) : OK P w K mg base 1 (gAd K ("Way", some "turns")) (sp_Way_turns K) := by
  obtain ⟨fd, F⟩ := T.gd 1 (d := d_Way_turns) rfl rfl
  have sc : FnScope ["self"] ["self"] (defScope (mth 48 10)) := ⟨rfl, rfl, rfl, by decide +kernel, rfl, by decide +kernel, by decide +kernel⟩
  have nd := sc.nd
  refine OK.of (F.ok sc (fun vs H Q E h => by obtain ⟨B, a, h⟩ := h; first | (obtain ⟨rfl, _⟩ := h; rfl) | (obtain ⟨x, dx, rfl, _⟩ := h; rfl)) (fun cdv A outer s H vs Q E hr h => ⟨_, PSs.nox (pss_one (ps_ret (k_fld (K := K) (pv 0) rfl))), ?_⟩)) (F.bindsN fun _ _ _ _ _ _ us hl => match us, hl with | [_], _ => rfl)
  obtain ⟨B, ⟨v, vb, b, ts⟩, rfl, hb, ⟨a, dx, r, ev, t, h1⟩, hq⟩ := h
  cases (show v = .ref a from ev)
  exact s_ret (Go.refl hb) ((y_fld (y_var rfl) t (T.cls 62 rfl) (T.noat 76 rfl) rfl).rep h1 (TpR.st fun _ => TnR.st)) fun v H1 g _ h => hq v H1 g h
structure R1 where
  v : V
  vt : V
  vb : V
  b : Bd
  s : List Str
  t : Tn
def sp_turned (K : PySem.W.Frag) : Sp := Pm (fun p : R1 => [p.v, p.vt]) (fun B p H => StR K B p.vb p.b p.s p.v H ∧ TnR K B p.t p.vt H ∧ StpOk p.b p.s p.t) (fun B p v H => StR K B p.vb p.b (stp p.b p.s p.t) v H)
theorem ok_turned (T : Fx K mg) : OK P w K mg base 16 (He.fAd K ("turned", none)) (sp_turned K) := by
  obtain ⟨fd, F⟩ := T.dd 14 (d := d_turned) rfl
  have c_Stand := T.cls 63 rfl
  have m_Stand_with_peg := T.meth 99 rfl
  have m_Stand_without_peg := T.meth 100 rfl
  have ok_Stand_with_peg := ok_Stand_with_peg (P := P) (w := w) (base := base) T
  have ok_Stand_without_peg := ok_Stand_without_peg (P := P) (w := w) (base := base) T
  have sc : FnScope ["stand", "turn"] ["stand", "turn"] (defScope (top 47)) := ⟨rfl, rfl, rfl, by decide +kernel, rfl, by decide +kernel, by decide +kernel⟩
  have nd := sc.nd
  refine OK.of (F.ok sc (fun vs H Q E h => by obtain ⟨B, a, h⟩ := h; first | (obtain ⟨rfl, _⟩ := h; rfl) | (obtain ⟨x, dx, rfl, _⟩ := h; rfl)) (fun cdv A outer s H vs Q E hr h => ⟨_, PSs.nox (pss_one (ps_ret (pe_ifExp (pt_cmpR op_eq (k_con (K := K) (pv 1) rfl) pe_str (nomark _)) (pe_mtR ok_Stand_with_peg hr (by decide) c_Stand m_Stand_with_peg (pv 0) (pa_cons (k_fld (K := K) (pv 1) rfl) pa_nil)) (pe_mtR ok_Stand_without_peg hr (by decide) c_Stand m_Stand_without_peg (pv 0) (pa_cons (k_fld (K := K) (pv 1) rfl) pa_nil))))), ?_⟩)) (F.bindsN fun _ _ _ _ _ _ us hl => match us, hl with | [_, _], _ => rfl)
  obtain ⟨B, ⟨v, vt, vb, b, st, t⟩, rfl, hb, ⟨hS, hT, hk⟩, hq⟩ := h
  have hS' := hS
  obtain ⟨a, dx, m, ev, ta, h1, h2, h3⟩ := hS
  cases (show v = .ref a from ev)
  dsimp only at ta h1 h2 h3 hT hk hS'
  refine s_ret (P := StR K B vb b (stp b st t)) (Go.refl hb) (y_if (b := t.1) (yt_is (yt_testI (y_op (tn_sign T (y_var rfl) hT) y_c (o_eq rfl))) ?_) (fun e => ?_) fun e => ?_) fun v H1 g _ h => hq v H1 g h
  · cases t.1 <;> rfl
  · unfold StpOk stp at hk
    unfold stp
    rw [if_pos e] at hk ⊢
    rw [if_pos e] at hk
    exact y_mt (args := fun p : S3 => [p.v, .str p.x]) (post := fun B (p : S3) v H => StR K B p.vb p.b (nrm p.b (p.s ++ [p.x])) v H) ⟨.ref a, vb, b, st, t.2⟩ (y_var rfl) ta rfl (ya_cons (tn_fld T (y_var rfl) hT) ya_nil) rfl fun H2 g2 => ⟨StR.st _ _ _ g2 hS', hk.2.1, hk.2.2, hk.1⟩
  · unfold StpOk stp at hk
    unfold stp
    rw [if_neg (by rw [e]; decide)] at hk ⊢
    rw [if_neg (by rw [e]; decide)] at hk
    exact y_mt (args := fun p : S3 => [p.v, .str p.x]) (post := fun B (p : S3) v H => StR K B p.vb p.b (nrm p.b (p.s.filter fun y => !decide (y = p.x))) v H) ⟨.ref a, vb, b, st, t.2⟩ (y_var rfl) ta rfl (ya_cons (tn_fld T (y_var rfl) hT) ya_nil) rfl fun H2 g2 => ⟨StR.st _ _ _ g2 hS', hk.2.1, hk.2.2, hk.1⟩
structure A1 where
  v : V
  vw : V
  vb : V
  b : Bd
  s : List Str
  ts : List Tn
def A1Ok (K : PySem.W.Frag) (B : Option Addr) (p : A1) (H : Hp) : Prop := StR K B p.vb p.b p.s p.v H ∧ WyR K B p.vb p.b p.ts p.vw H ∧ RunOk p.b p.s p.ts
def sp_stand_after (K : PySem.W.Frag) : Sp := Pm (fun p : A1 => [p.v, p.vw]) (A1Ok K) (fun B p v H => StR K B p.vb p.b (p.ts.foldl (stp p.b) p.s) v H)
theorem run_at {b : Bd} : ∀ {ts : List Tn} {s : List Str} {i : Nat} {t : Tn}, RunOk b s ts → ts[i]? = some t → StpOk b ((ts.take i).foldl (stp b) s) t
  | [], _, _, _, _, h => by cases h
  | t :: ts, s, 0, _, h, e => by
    cases e
    exact h.1
  | t :: ts, s, i + 1, t', h, e => run_at (ts := ts) (i := i) h.2 e
theorem fold_take {b : Bd} {ts : List Tn} {s : List Str} {i : Nat} {t : Tn} (e : ts[i]? = some t) : (ts.take (i + 1)).foldl (stp b) s = stp b ((ts.take i).foldl (stp b) s) t := by
  rw [List.take_add_one, e, List.foldl_append] <;> rfl
theorem ok_stand_after (T : Fx K mg) : OK P w K mg base 19 (He.fAd K ("stand_after", none)) (sp_stand_after K) := by
  obtain ⟨fd, F⟩ := T.dd 13 (d := d_stand_after) rfl
  have c_Way := T.cls 62 rfl
  have g_check_board := T.glo 12 rfl
  have g_turned := T.glo 14 rfl
  have n_enumerate := T.free 47 rfl
  have ok_Way_board := ok_Way_board (P := P) (w := w) (base := base) T
  have p_Way_board := T.prop 0 rfl rfl rfl rfl
  have ok_Way_turns := ok_Way_turns (P := P) (w := w) (base := base) T
  have p_Way_turns := T.prop 4 rfl rfl rfl rfl
  have ok_check_board := ok_check_board (P := P) (w := w) (base := base) T
  obtain ⟨_, F_check_board⟩ := T.dd 12 (d := d_check_board) rfl
  have kp_check_board := F_check_board.kp
  have ok_turned := ok_turned (P := P) (w := w) (base := base) T
  obtain ⟨_, F_turned⟩ := T.dd 14 (d := d_turned) rfl
  have kp_turned := F_turned.kp
  have sc : FnScope ["stand", "way", "at", "turn"] ["stand", "way"] (defScope (top 46)) := ⟨rfl, rfl, rfl, by decide +kernel, rfl, by decide +kernel, by decide +kernel⟩
  have nd := sc.nd
  refine OK.of (F.ok sc (fun vs H Q E h => by obtain ⟨B, a, h⟩ := h; first | (obtain ⟨rfl, _⟩ := h; rfl) | (obtain ⟨x, dx, rfl, _⟩ := h; rfl)) (fun cdv A outer s H vs Q E hr h => ⟨_, PSs.nox (pss_cons (ps_expr (pe_cl ok_check_board hr (by decide) rfl g_check_board kp_check_board (pa_cons (pe_prR ok_Way_board hr (by decide) c_Way p_Way_board (pv 1)) (pa_cons (pv 0) pa_nil))))
    (pss_cons (ps_for PassesOwn.never rfl (k_enumT (K := K) rfl n_enumerate (pa_cons (pe_prR ok_Way_turns hr (by decide) c_Way p_Way_turns (pv 1)) pa_nil)) (k_gtup (K := K) (n := 2) rfl (pgs_cons (pg_name (i := 2) nd rfl (Or.inl rfl)) (pgs_cons (pg_name (i := 3) nd rfl (Or.inl rfl)) pgs_nil))) (pss_one (ps_try_thru0 (pss_one (ps_set (i := 0) nd rfl (Or.inl rfl) (pe_cl ok_turned hr (by decide) rfl g_turned kp_turned (pa_cons (pv 0) (pa_cons (pv 3) pa_nil))))))))
    (pss_one (ps_ret (pv 0))))), ?_⟩)) (F.bindsN fun _ _ _ _ _ _ us hl => match us, hl with | [_, _], _ => rfl)
  obtain ⟨B, ⟨v, vw, vb, b, st, ts⟩, rfl, hb, ⟨hS, hW, hk⟩, hq⟩ := h
  dsimp only at hS hW hk
  have hW' := hW
  obtain ⟨aw, dw, r, ew, tw, hr2⟩ := hW
  subst ew
  refine q_drop (Go.refl hb) (y_cl (args := fun p : V × V × Bd × List Str => [p.2.1, p.1]) (P := fun _ _ => True) (ya_cons (x := vb) ((y_pr (.ref aw, vb, b, ts) (y_var rfl) tw rfl fun H2 g2 => WyR.st _ _ _ g2 hW').imp fun _ _ _ h => h) (ya_cons (y_var rfl) ya_nil)) fun vs H1 g e => ⟨(v, vb, b, st), e, StR.st _ _ _ g hS, fun _ _ _ _ => trivial⟩) fun _ H1 g1 _ _ => ?_
  refine q_forM (R := EnR B (TnR K B)) (as := enum ts) (H0 := H1) ?_ (Go.refl g1.2) fun H2 g2 => ⟨fun i σ1 H3 => Go B H2 H3 ∧ ∃ v' w1 w2, σ1 = [some v', some (.ref aw), w1, w2] ∧ StR K B vb b ((ts.take i).foldl (stp b) st) v' H3, ⟨Go.refl g2.2, v, none, none, rfl, StR.st _ _ _ (g1.trans g2) hS⟩, fun i σ1 H3 _ h => h.1, fun i x σ1 H3 u H4 hx hI g4 r => ?_, fun σ1 H3 hI => ?_⟩
  · exact yi_enumT ((y_pr (args := fun p : V × V × Bd × List Tn => [p.1]) (pre := fun B (p : V × V × Bd × List Tn) H => WyR K B p.2.1 p.2.2.1 p.2.2.2 p.1 H) (post := fun B (p : V × V × Bd × List Tn) v H => TpR B (TnR K B) p.2.2.2 v H) (.ref aw, vb, b, ts) (y_var rfl) (tw.go g1) rfl fun H2 g2 => WyR.st _ _ _ (g1.trans g2) hW').imp fun _ _ _ h => h) fun _ => TnR.st
  · obtain ⟨g3, v', w1, w2, rfl, hv⟩ := hI
    obtain ⟨i1, i2⟩ := enum_get hx
    refine yg_enum x u H4 g4.2 r _ fun σ2 ⟨z, ez, e⟩ => ?_
    subst e
    have hv4 := StR.st _ _ _ g4 hv
    refine s_asg (P := StR K B vb b ((ts.take (i + 1)).foldl (stp b) st)) (Go.refl g4.2) ((y_clI (args := fun p : R1 => [p.v, p.vt]) (post := fun B (p : R1) v H => StR K B p.vb p.b (stp p.b p.s p.t) v H) ⟨v', z, vb, b, (ts.take i).foldl (stp b) st, x.2⟩ (ya_cons (y_var rfl) (ya_cons (y_var rfl) ya_nil)) fun H5 g5 => ⟨StR.st _ _ _ g5 hv4, TnR.st _ _ _ g5 ez, run_at hk i2⟩).imp fun v H5 _ h => by
      rw [fold_take i2]
      exact h) fun v5 H5 g5 _ hv5 => ⟨(g3.trans g4).trans g5, v5, _, _, rfl, hv5⟩
  · obtain ⟨g3, v', w1, w2, rfl, hv⟩ := hI
    rw [enum_len, List.take_length] at hv
    exact s_ret (Go.refl g3.2) ((y_var rfl).rep hv StR.st) fun v H4 g4 _ h => hq v H4 (((g1.trans g2).trans g3).trans g4) h
def sp_Stand___add__ (K : PySem.W.Frag) : Sp := Pm (fun p : A1 => [p.v, p.vw]) (A1Ok K) (fun B p v H => StR K B p.vb p.b (p.ts.foldl (stp p.b) p.s) v H)
theorem ok_Stand___add__ (T : Fx K mg) : OK P w K mg base 22 (He.fAd K ("Stand", some "__add__")) (sp_Stand___add__ K) := by
  obtain ⟨fd, F⟩ := T.dd 45 (d := d_Stand___add__) rfl
  have g_stand_after := T.glo 13 rfl
  have ok_stand_after := ok_stand_after (P := P) (w := w) (base := base) T
  obtain ⟨_, F_stand_after⟩ := T.dd 13 (d := d_stand_after) rfl
  have kp_stand_after := F_stand_after.kp
  have sc : FnScope ["self", "way"] ["self", "way"] (defScope (mth 54 10)) := ⟨rfl, rfl, rfl, by decide +kernel, rfl, by decide +kernel, by decide +kernel⟩
  have nd := sc.nd
  refine OK.of (F.ok sc (fun vs H Q E h => by obtain ⟨B, a, h⟩ := h; first | (obtain ⟨rfl, _⟩ := h; rfl) | (obtain ⟨x, dx, rfl, _⟩ := h; rfl)) (fun cdv A outer s H vs Q E hr h => ⟨_, PSs.nox (pss_one (ps_ret (pe_cl ok_stand_after hr (by decide) rfl g_stand_after kp_stand_after (pa_cons (pv 0) (pa_cons (pv 1) pa_nil))))), ?_⟩)) (F.bindsN fun _ _ _ _ _ _ us hl => match us, hl with | [_, _], _ => rfl)
  obtain ⟨B, p, rfl, hb, hp, hq⟩ := h
  refine s_ret (Go.refl hb) (y_clI (args := fun p : A1 => [p.v, p.vw]) p (ya_cons (y_var rfl) (ya_cons (y_var rfl) ya_nil)) fun H1 g1 => ⟨StR.st _ _ _ g1 hp.1, WyR.st _ _ _ g1 hp.2.1, hp.2.2⟩) fun v H1 g _ h => hq v H1 g h
end
end NP
end
section
set_option Elab.async false
set_option linter.all false
set_option maxRecDepth 100000
set_option maxHeartbeats 4000000
/-! Wishes. -/
namespace NP
open PySem PySem.Spec PyProof.Rows L2
theorem any_iff {xs ys : List Str} (h : ∀ k, k ∈ xs ↔ k ∈ ys) (f : Str → Bool) : xs.any f = ys.any f := by
  rw [Bool.eq_iff_iff, List.any_eq_true, List.any_eq_true]
  constructor
  · rintro ⟨x, a, b⟩
    exact ⟨x, (h x).mp a, b⟩
  · rintro ⟨x, a, b⟩
    exact ⟨x, (h x).mpr a, b⟩
def insOf (b : Bd) (I : List Str) : List Str := b.pegs.filter fun p => I.any fun q => b.bel q p || decide (q = p)
def outsOf (b : Bd) (I O : List Str) : List Str := b.pegs.filter fun p => (insOf b I).any (fun q => b.cla p q) || (b.row p).any fun q => decide (q ∈ O)
def near (b : Bd) (I O s : List Str) : List Str := nrm b (s.filter (fun p => !decide (p ∈ outsOf b I O)) ++ insOf b I)
structure WiOk (b : Bd) (I O : List Str) : Prop where
  i : ∀ x ∈ I, x ∈ b.pegs
  o : ∀ x ∈ O, x ∈ b.pegs
  io : ∀ x ∈ I, ∀ y ∈ O, x ≠ y ∧ b.bel x y = false
  ii : ∀ x ∈ I, ∀ y ∈ I, b.cla x y = false
def ifs (w u : V) : List (Str × V) := [("wanted", w), ("unwanted", u)]
structure WsF (B : Option Addr) (I O : List Str) (ws us : List Str) (w u : V) (H : Hp) : Prop where
  w : TpS B ws w H
  u : TpS B us u H
  mw : ∀ k, k ∈ ws ↔ k ∈ I
  mu : ∀ k, k ∈ us ↔ k ∈ O
  zw : ws.length ≤ 64
  zu : us.length ≤ 64
theorem WsF.go {B : Option Addr} {I O ws us : List Str} {w u : V} {H H' : Hp} (h : WsF B I O ws us w u H) (g : Go B H H') : WsF B I O ws us w u H' := ⟨TpS.st _ _ _ g h.w, TpS.st _ _ _ g h.u, h.mw, h.mu, h.zw, h.zu⟩
def WsR (K : PySem.W.Frag) (B : Option Addr) (I O : List Str) : V → Hp → Prop := fun v H => ∃ a dx w u ws us, v = .ref a ∧ At B H a (.ins (He.ga K "Wish") dx (ifs w u)) ∧ WsF B I O ws us w u H
theorem WsR.st {K : PySem.W.Frag} {B : Option Addr} {I O : List Str} : St B (WsR K B I O) := fun _ _ _ g ⟨a, dx, w, u, ws, us, e, t, h⟩ => ⟨a, dx, w, u, ws, us, e, t.go g, h.go g⟩
section
variable {P : Program} {w : World} {K : PySem.W.Frag} {mg : Str → Option Value} {base : Heap}
/-- sorted(set(xs)) -/
theorem y_sset {B : Option Addr} {σ : L2.St} {H : Hp} {te : TE} {xs : List Str} (h : Y B te σ H (LsS B xs)) (hz : xs.length < 64) : Y B (tCB (rSortedSetS P w) (tCons (tCB (rSetOfS K P w) (tCons te tNil)) tNil)) σ H (fun v H' => ∃ ys, LsS B ys v H' ∧ (∀ k, k ∈ ys ↔ k ∈ xs) ∧ ys.length ≤ 64) := fun H1 g Q q =>
  h H1 g _ fun v H2 g2 ⟨l, e, t⟩ => ⟨l, xs, by rw [e], t.sl, hz, fun a ha => ⟨a, xs, rfl, upd_same, hz, fun ys p h1 h2 h3 h4 hp => by
    have gn : Go B H2 (upd H2 a (SetTx P w a xs)) := Go.new g2.2 ha
    exact q _ _ ((g2.trans gn).trans (Go.new gn.2 hp)) ⟨ys, ⟨p, rfl, At.new gn.2 hp⟩, h3, by omega⟩⟩⟩
structure I1 where
  vi : V
  vo : V
  I : List Str
  O : List Str
def sp_Wish___init__ (K : PySem.W.Frag) : Sp := Pi (He.ga K "Wish") (fun p : I1 => [p.vi, p.vo]) (fun B p H => LsS B p.I p.vi H ∧ LsS B p.O p.vo H ∧ p.I.length < 64 ∧ p.O.length < 64) (fun B p f H => ∃ w u ws us, f = ifs w u ∧ WsF B p.I p.O ws us w u H)
def TpE (B : Option Addr) (xs : List Str) : V → Hp → Prop := fun v H => ∃ ys, TpS B ys v H ∧ (∀ k, k ∈ ys ↔ k ∈ xs) ∧ ys.length ≤ 64
theorem TpE.st {B : Option Addr} {xs : List Str} : St B (TpE B xs) := fun _ _ _ g ⟨ys, h, e⟩ => ⟨ys, TpS.st _ _ _ g h, e⟩
theorem TpE.ni {B : Option Addr} {xs : List Str} : NoI (TpE B xs) := fun v H x C dx f o' ⟨ys, h, e⟩ h2 => ⟨ys, TpS.nk.ni _ _ _ _ _ _ _ h h2, e⟩
theorem y_tupE {B : Option Addr} {σ : L2.St} {H : Hp} {te : TE} {xs : List Str} (h : Y B te σ H (fun v H' => ∃ ys, LsS B ys v H' ∧ (∀ k, k ∈ ys ↔ k ∈ xs) ∧ ys.length ≤ 64)) : Y B (tThen te (kTup K)) σ H (TpE B xs) :=
  y_then h fun x H1 g ⟨ys, ⟨a, e, t⟩, h2⟩ Q q => .inl ⟨a, _, e, t.sl, fun p hp => q _ _ (Go.new g.2 hp) ⟨ys, ⟨p, rfl, At.new g.2 hp⟩, h2⟩⟩
theorem ok_Wish___init__ (T : Fx K mg) : OK P w K mg base 1 (He.fAd K ("Wish", some "__init__")) (sp_Wish___init__ K) := by
  obtain ⟨fd, F⟩ := T.dd 32 (d := d_Wish___init__) rfl
  have n_set := T.free 42 rfl
  have n_sorted := T.free 41 rfl
  have n_tuple := T.free 40 rfl
  have sc : FnScope ["self", "inside", "outside"] ["self", "inside", "outside"] (defScope (mth 15 0)) := ⟨rfl, rfl, rfl, by decide +kernel, rfl, by decide +kernel, by decide +kernel⟩
  have nd := sc.nd
  obtain ⟨ds, hds, hbi⟩ := F.binds1 (ps := ["self", "inside", "outside"]) 3 2 (by intro z; cases z) rfl (fun _ _ _ _ _ _ _ us its hl hi => match us, its, hl, hi with | [_, _, _], [_, _], _, _ => ⟨_, rfl, rfl⟩)
  have eds : ds = [] := by cases ds with | nil => rfl | cons a b => cases hds
  subst eds
  refine OK.of (F.ok sc (fun vs H Q E h => by obtain ⟨B, a, h⟩ := h; first | (obtain ⟨rfl, _⟩ := h; rfl) | (obtain ⟨x, dx, rfl, _⟩ := h; rfl)) (fun cdv A outer s H vs Q E hr h => ⟨_, PSs.nox (pss_cons (ps_fld (pv 0) (k_tupleOf (K := K) rfl n_tuple (pe_callB (cr_sortedSetS rfl) rfl n_sorted (by rfl) (pa_cons (pe_callTy (k_setOf (K := K) rfl) rfl n_set (by rfl) (pa_cons (pv 1) pa_nil)) pa_nil))) rfl)
    (pss_one (ps_fld (pv 0) (k_tupleOf (K := K) rfl n_tuple (pe_callB (cr_sortedSetS rfl) rfl n_sorted (by rfl) (pa_cons (pe_callTy (k_setOf (K := K) rfl) rfl n_set (by rfl) (pa_cons (pv 2) pa_nil)) pa_nil))) rfl))), ?_⟩)) hbi
  obtain ⟨B, ⟨vi, vo, I, O⟩, x, dx, rfl, hb, ho, ⟨h1, h2, z1, z2⟩, hq⟩ := h
  dsimp only at h1 h2 z1 z2
  refine q_fld (P := TpE B I) (Go.refl hb) (y_tupE (y_sset ((y_var rfl).rep h1 LsS.st) z1)) (y_var rfl) ho (T.cls 59 rfl) (T.noat 71 rfl) (by decide) TpE.st TpE.ni fun f1 H4 i4 x4 h4 o4 => ?_
  have h24 := i4.to h2 LsS.st LsS.nk.ni
  refine s_fld (P := TpE B O) (Go.refl x4.2) (y_tupE (y_sset ((y_var rfl).rep h24 LsS.st) z2)) (y_var rfl) o4 (T.cls 59 rfl) (T.noat 72 rfl) (Nat.lt_of_le_of_lt (pf (Nat.le_refl 0)) (by decide)) TpE.st TpE.ni fun f2 H5 i5 x5 h5 o5 => ?_
  obtain ⟨ws, q1, q2, q3⟩ := i5.to h4 TpE.st TpE.ni
  obtain ⟨us, r1, r2, r3⟩ := h5
  exact hq H5 _ (x4.trans x5) o5.2 ⟨f1, f2, ws, us, rfl, q1, r1, q2, r2, q3, r3⟩
theorem y_mkI {B : Option Addr} {σ : L2.St} {H : Hp} {ta tb : TE} {vi vo : V} {I O : List Str} (h1 : Y B ta σ H (Is vi)) (h2 : Y B tb σ H (Is vo)) (hi : LsS B I vi H) (ho : LsS B O vo H) (z1 : I.length < 64) (z2 : O.length < 64) : Y B (StX.tMakeR (He.ga K "Wish") (sp_Wish___init__ K) E0 (tCons ta (tCons tb tNil))) σ H (WsR K B I O) :=
  y_mk (ya_cons h1 (ya_cons h2 ya_nil)) fun vs H1 g r => ⟨⟨vi, vo, I, O⟩, r, fun H2 g2 => ⟨LsS.st _ _ _ (g.trans g2) hi, LsS.st _ _ _ (g.trans g2) ho, z1, z2⟩, fun x dx f H2 g2 nx t ⟨w, u, ws, us, ef, hf⟩ => by
    dsimp only at hf
    rw [ef] at t
    exact ⟨x, dx, w, u, ws, us, rfl, t, hf⟩⟩
structure P1 where
  v : V
  vb : V
  b : Bd
  I : List Str
  O : List Str
def P1Ok (K : PySem.W.Frag) (B : Option Addr) (p : P1) (H : Hp) : Prop := WsR K B p.I p.O p.v H ∧ BdR K B p.b p.vb H ∧ WiOk p.b p.I p.O
theorem P1Ok.go {B : Option Addr} {p : P1} {H H' : Hp} (h : P1Ok K B p H) (g : Go B H H') : P1Ok K B p H' := ⟨WsR.st _ _ _ g h.1, BdR.st _ _ _ g h.2.1, h.2.2⟩
def sp_Wish_check_pegs (K : PySem.W.Frag) : Sp := Pm (fun p : P1 => [p.v, p.vb]) (P1Ok K) (fun B p v H => v = .non)
theorem ok_Wish_check_pegs (T : Fx K mg) : OK P w K mg base 4 (He.fAd K ("Wish", some "check_pegs")) (sp_Wish_check_pegs K) := by
  obtain ⟨fd, F⟩ := T.dd 34 (d := d_Wish_check_pegs) rfl
  have c_Board := T.cls 64 rfl
  have m_Board_require := T.meth 107 rfl
  have ok_Board_require := ok_Board_require (P := P) (w := w) (base := base) T
  have sc : FnScope ["self", "board", "peg"] ["self", "board"] (defScope (mth 15 9)) := ⟨rfl, rfl, rfl, by decide +kernel, rfl, by decide +kernel, by decide +kernel⟩
  have nd := sc.nd
  refine OK.of (F.ok sc (fun vs H Q E h => by obtain ⟨B, a, h⟩ := h; first | (obtain ⟨rfl, _⟩ := h; rfl) | (obtain ⟨x, dx, rfl, _⟩ := h; rfl)) (fun cdv A outer s H vs Q E hr h => ⟨_, PSs.nox (pss_one (ps_for PassesOwn.never rfl (k_tup (K := K) (pe_op (k_catA (K := K)) (k_fld (K := K) (pv 0) rfl) (k_fld (K := K) (pv 0) rfl))) (pg_name (i := 2) nd rfl (Or.inl rfl)) (pss_one (ps_expr (pe_mtR ok_Board_require hr (by decide) c_Board m_Board_require (pv 1) (pa_cons (pv 2) pa_nil)))))), ?_⟩)) (F.bindsN fun _ _ _ _ _ _ us hl => match us, hl with | [_, _], _ => rfl)
  obtain ⟨B, ⟨v, vb, b, I, O⟩, rfl, hb, ⟨⟨a, dx, w, u, ws, us, ev, t, hf⟩, hR, hw⟩, hq⟩ := h
  cases (show v = .ref a from ev)
  dsimp only at t hf hR hw
  have hR' := hR
  obtain ⟨ab, dxb, o, pr, rw, cl, ke, eb, tb, hfb⟩ := hR'
  subst eb
  refine s_look (fun σ1 => ∃ w1, σ1 = [some (.ref a), some (.ref ab), w1]) (yi_tup ((y_catT ((y_fld (y_var rfl) t (T.cls 59 rfl) (T.noat 71 rfl) rfl).rep hf.w TpS.st) ((y_fld (y_var rfl) t (T.cls 59 rfl) (T.noat 72 rfl) rfl).rep hf.u TpS.st) (by
    have := hf.zw
    have := hf.zu
    omega)).imp fun v H1 _ h => TpS.r h) fun _ => SV.st) (Go.refl hb) ⟨none, rfl⟩ rfl (fun y σ1 H2 D' hy hJ g2 _ hn hrt => ?_) fun σ1 H1 hJ g1 => hq _ H1 g1 rfl
  obtain ⟨w1, rfl⟩ := hJ
  have my : y ∈ b.pegs := by
    rcases List.mem_append.mp hy with z | z
    · exact hw.i y ((hf.mw y).mp z)
    · exact hw.o y ((hf.mu y).mp z)
  exact ⟨⟨_, rfl⟩, s_drop (Go.refl g2.2) (y_mt (args := fun p : B1 => [p.v, .str p.x]) (post := fun _ (_ : B1) v _ => v = .non) ⟨.ref ab, b, y⟩ (y_var rfl) (tb.go g2) rfl (ya_cons (y_var rfl) ya_nil) rfl fun H1 g1 => ⟨BdR.st _ _ _ (g2.trans g1) hR, my⟩) fun _ H3 g3 _ _ => hn H3 g3 _ ⟨_, rfl⟩⟩
def sp_Wish_obstacle (K : PySem.W.Frag) : Sp := Pm (fun p : P1 => [p.v, p.vb]) (P1Ok K) (fun B p v H => v = .non)
theorem ok_Wish_obstacle (T : Fx K mg) : OK P w K mg base 7 (He.fAd K ("Wish", some "obstacle")) (sp_Wish_obstacle K) := by
  obtain ⟨fd, F⟩ := T.dd 35 (d := d_Wish_obstacle) rfl
  have c_Board := T.cls 64 rfl
  have c_Wish := T.cls 59 rfl
  have m_Board_clash := T.meth 112 rfl
  have m_Board_needs := T.meth 111 rfl
  have m_Wish_check_pegs := T.meth 86 rfl
  have n_enumerate := T.free 47 rfl
  have ok_Board_clash := ok_Board_clash (P := P) (w := w) (base := base) T
  have ok_Board_needs := ok_Board_needs (P := P) (w := w) (base := base) T
  have ok_Wish_check_pegs := ok_Wish_check_pegs (P := P) (w := w) (base := base) T
  have sc : FnScope ["self", "board", "peg", "other", "at"] ["self", "board"] (defScope (mth 15 10)) := ⟨rfl, rfl, rfl, by decide +kernel, rfl, by decide +kernel, by decide +kernel⟩
  have nd := sc.nd
  refine OK.of (F.ok sc (fun vs H Q E h => by obtain ⟨B, a, h⟩ := h; first | (obtain ⟨rfl, _⟩ := h; rfl) | (obtain ⟨x, dx, rfl, _⟩ := h; rfl)) (fun cdv A outer s H vs Q E hr h => ⟨_, PSs.nox (pss_cons (ps_expr (pe_mtR ok_Wish_check_pegs hr (by decide) c_Wish m_Wish_check_pegs (pv 0) (pa_cons (pv 1) pa_nil)))
    (pss_cons (ps_for PassesOwn.never rfl (k_tup (K := K) (k_fld (K := K) (pv 0) rfl)) (pg_name (i := 2) nd rfl (Or.inl rfl)) (pss_one (ps_for PassesOwn.never rfl (k_tup (K := K) (k_fld (K := K) (pv 0) rfl)) (pg_name (i := 3) nd rfl (Or.inl rfl)) (pss_one (ps_if (PW.pt (pw_or (pt_cmpR op_eq (pv 2) (pv 3) (nomark _)) (pw_or1 (pt_val (pe_mtR ok_Board_needs hr (by decide) c_Board m_Board_needs (pv 1) (pa_cons (pv 2) (pa_cons (pv 3) pa_nil))))))) (pss_one (ps_ret (pe_tup (pa_cons pe_str (pa_cons (pv 2) (pa_cons (pv 3) pa_nil)))))) pss_nil)))))
    (pss_cons (ps_for PassesOwn.never rfl (k_enumT (K := K) rfl n_enumerate (pa_cons (k_fld (K := K) (pv 0) rfl) pa_nil)) (k_gtup (K := K) (n := 2) rfl (pgs_cons (pg_name (i := 4) nd rfl (Or.inl rfl)) (pgs_cons (pg_name (i := 2) nd rfl (Or.inl rfl)) pgs_nil))) (pss_one (ps_for PassesOwn.never rfl (k_tup (K := K) (pe_slice (k_slT (K := K)) (k_fld (K := K) (pv 0) rfl) (po_some (pe_op op_add (pv 4) pe_int)) po_none)) (pg_name (i := 3) nd rfl (Or.inl rfl)) (pss_one (ps_if (pt_val (pe_mtR ok_Board_clash hr (by decide) c_Board m_Board_clash (pv 1) (pa_cons (pv 2) (pa_cons (pv 3) pa_nil)))) (pss_one (ps_ret (pe_tup (pa_cons pe_str (pa_cons (pv 2) (pa_cons (pv 3) pa_nil)))))) pss_nil)))))
    (pss_one (ps_ret pe_non))))), ?_⟩)) (F.bindsN fun _ _ _ _ _ _ us hl => match us, hl with | [_, _], _ => rfl)
  obtain ⟨B, ⟨v, vb, b, I, O⟩, rfl, hb, hp, hq⟩ := h
  have hp' := hp
  obtain ⟨⟨a, dx, w, u, ws, us, ev, t, hf⟩, hR, hw⟩ := hp
  cases (show v = .ref a from ev)
  dsimp only at t hf hR hw
  have hR' := hR
  obtain ⟨ab, dxb, o, pr, rw, cl, ke, eb, tb, hfb⟩ := hR'
  subst eb
  refine q_drop (Go.refl hb) (y_mt ⟨.ref a, .ref ab, b, I, O⟩ (y_var rfl) t rfl (ya_cons (y_var rfl) ya_nil) rfl fun H1 g1 => hp'.go g1) fun _ H1 g1 _ _ => ?_
  have wn := fun (σ : L2.St) (H' : Hp) (g : Go B H H') (hi : σ[0]? = some (some (V.ref a))) => (y_fld (B := B) (σ := σ) (y_var (i := 0) hi) (t.go g) (T.cls 59 rfl) (T.noat 71 rfl) rfl).rep (TpS.st _ _ _ g hf.w) TpS.st
  have un := fun (σ : L2.St) (H' : Hp) (g : Go B H H') (hi : σ[0]? = some (some (V.ref a))) => (y_fld (B := B) (σ := σ) (y_var (i := 0) hi) (t.go g) (T.cls 59 rfl) (T.noat 72 rfl) rfl).rep (TpS.st _ _ _ g hf.u) TpS.st
  refine q_look (fun σ1 => ∃ w1 w2, σ1 = [some (.ref a), some (.ref ab), w1, w2, none]) (yi_tup ((wn _ _ g1 rfl).imp fun v H1 _ h => TpS.r h) fun _ => SV.st) (Go.refl g1.2) ⟨none, none, rfl⟩ rfl (fun x σ1 H2 D' hx hJ g2 _ hn hrt => ?_) fun σ1 H2 hJ g2 => ?_
  · obtain ⟨w1, w2, rfl⟩ := hJ
    have mx := (hf.mw x).mp hx
    have g12 := g1.trans g2
    refine ⟨⟨_, _, rfl⟩, s_look (fun σ1 => ∃ w2, σ1 = [some (.ref a), some (.ref ab), some (.str x), w2, none]) (yi_tup ((un _ _ g12 rfl).imp fun v H1 _ h => TpS.r h) fun _ => SV.st) (Go.refl g2.2) ⟨w2, rfl⟩ rfl (fun y σ1 H3 D' hy hJ g3 _ hn hrt => ?_) fun σ1 H3 hJ g3 => ?_⟩
    · obtain ⟨w2, rfl⟩ := hJ
      have my := (hf.mu y).mp hy
      obtain ⟨ne, nb⟩ := hw.io x mx y my
      have g13 := g12.trans g3
      exact ⟨⟨_, rfl⟩, s_noN (Go.refl g3.2) (yt_is (yt_or (yt_is (yt_testI (y_op (y_var rfl) (y_var rfl) (o_eq rfl))) str_eq) fun _ => yt_testI (y_mt (args := fun p : B2 => [p.v, .str p.x, .str p.y]) (post := fun _ p v _ => v = .bl (!decide (p.x = p.y) && p.b.bel p.x p.y)) ⟨.ref ab, b, x, y⟩ (y_var rfl) (tb.go g13) rfl (ya_cons (y_var rfl) (ya_cons (y_var rfl) ya_nil)) rfl fun H7 g7 => ⟨BdR.st _ _ _ (g13.trans g7) hR, hw.i x mx, hw.o y my⟩)) (by rw [decide_eq_false ne, show b.bel x y = false from nb] <;> rfl)) fun H4 g4 _ => hn H4 g4 _ ⟨_, rfl⟩⟩
    · obtain ⟨w2, rfl⟩ := hJ
      exact hn H3 g3 _ ⟨_, _, rfl⟩
  obtain ⟨w1, w2, rfl⟩ := hJ
  have g12 := g1.trans g2
  refine q_forM (R := EnR B SV) (as := enum ws) (H0 := H2) (yi_enumT ((wn _ _ g12 rfl).imp fun v H1 _ h => TpS.r h) fun _ => SV.st) (Go.refl g2.2) fun H3 g3 => ⟨fun i σ1 H4 => Go B H3 H4 ∧ ∃ w1 w2 w3, σ1 = [some (.ref a), some (.ref ab), w1, w2, w3], ⟨Go.refl g3.2, _, _, _, rfl⟩, fun i σ1 H4 _ h => h.1, fun i x σ1 H4 v H5 hx hI g5 r => ?_, fun σ1 H4 hI => ?_⟩
  · obtain ⟨g4, w1, w2, w3, rfl⟩ := hI
    obtain ⟨i1, i2⟩ := enum_get hx
    refine yg_enum x v H5 g5.2 r _ fun σ2 ⟨z, ez, e⟩ => ?_
    rw [show z = .str x.2 from ez] at e
    subst e
    have g15 := ((g12.trans g3).trans g4).trans g5
    have mx := (hf.mw x.2).mp (List.mem_of_getElem? i2)
    refine s_look (fun σ1 => ∃ w4, σ1 = [some (.ref a), some (.ref ab), some (.str x.2), w4, some (.int (x.1 : Nat))]) (yi_tup ((y_slFrom (wn _ _ g15 rfl) (y_succ (y_var rfl))).imp fun v H1 _ h => h.r) fun _ => SV.st) (Go.refl g5.2) ⟨w2, rfl⟩ rfl (fun y σ1 H6 D' hy hJ g6 _ hn hrt => ?_) fun σ1 H6 hJ g6 => ?_
    · obtain ⟨w4, rfl⟩ := hJ
      have my := (hf.mw y).mp (List.mem_of_mem_drop hy)
      exact ⟨⟨_, rfl⟩, s_noN (Go.refl g6.2) (yt_is (yt_testI (y_mt (args := fun p : B2 => [p.v, .str p.x, .str p.y]) (post := fun _ p v _ => v = .bl (p.b.cla p.x p.y)) ⟨.ref ab, b, x.2, y⟩ (y_var rfl) (tb.go (g15.trans g6)) rfl (ya_cons (y_var rfl) (ya_cons (y_var rfl) ya_nil)) rfl fun H7 g7 => ⟨BdR.st _ _ _ ((g15.trans g6).trans g7) hR, hw.i _ mx, hw.i _ my⟩)) (hw.ii _ mx _ my)) fun H7 g7 _ => hn H7 g7 _ ⟨_, rfl⟩⟩
    · obtain ⟨w4, rfl⟩ := hJ
      exact ⟨(g4.trans g5).trans g6, _, _, _, rfl⟩
  · obtain ⟨g4, w1, w2, w3, rfl⟩ := hI
    exact s_ret (Go.refl g4.2) y_c fun v H5 g5 _ h => hq v H5 (((g12.trans g3).trans g4).trans g5) h
def sp_Wish_check_possible (K : PySem.W.Frag) : Sp := Pm (fun p : P1 => [p.v, p.vb]) (P1Ok K) (fun B p v H => v = .non)
theorem ok_Wish_check_possible (T : Fx K mg) : OK P w K mg base 10 (He.fAd K ("Wish", some "check_possible")) (sp_Wish_check_possible K) := by
  obtain ⟨fd, F⟩ := T.dd 36 (d := d_Wish_check_possible) rfl
  have c_Wish := T.cls 59 rfl
  have m_Wish_obstacle := T.meth 87 rfl
  have ok_Wish_obstacle := ok_Wish_obstacle (P := P) (w := w) (base := base) T
  have sc : FnScope ["self", "board", "found", "word", "peg", "other"] ["self", "board"] (defScope (mth 15 12)) := ⟨rfl, rfl, rfl, by decide +kernel, rfl, by decide +kernel, by decide +kernel⟩
  have nd := sc.nd
  refine OK.of (F.ok sc (fun vs H Q E h => by obtain ⟨B, a, h⟩ := h; first | (obtain ⟨rfl, _⟩ := h; rfl) | (obtain ⟨x, dx, rfl, _⟩ := h; rfl)) (fun cdv A outer s H vs Q E hr h => ⟨_, PSs.nox (pss_cons (ps_set (i := 2) nd rfl (Or.inl rfl) (pe_mtR ok_Wish_obstacle hr (by decide) c_Wish m_Wish_obstacle (pv 0) (pa_cons (pv 1) pa_nil)))
    (pss_one (ps_if (pt_cmpR op_notN (pv 2) pe_non (nomark _)) (pss_cons (ps_asg (pv 2) (k_gtup (K := K) (n := 3) rfl (pgs_cons (pg_name (i := 3) nd rfl (Or.inl rfl)) (pgs_cons (pg_name (i := 4) nd rfl (Or.inl rfl)) (pgs_cons (pg_name (i := 5) nd rfl (Or.inl rfl)) pgs_nil)))))
    pss_never) pss_nil))), ?_⟩)) (F.bindsN fun _ _ _ _ _ _ us hl => match us, hl with | [_, _], _ => rfl)
  obtain ⟨B, ⟨v, vb, b, I, O⟩, rfl, hb, hp, hq⟩ := h
  have hp' := hp
  obtain ⟨⟨a, dx, w, u, ws, us, ev, t, hf⟩, hR, hw⟩ := hp
  cases (show v = .ref a from ev)
  refine q_asg (P := Is .non) (Go.refl hb) ((y_mt (args := fun p : P1 => [p.v, p.vb]) (post := fun _ (_ : P1) v _ => v = .non) ⟨.ref a, vb, b, I, O⟩ (y_var rfl) t rfl (ya_cons (y_var rfl) ya_nil) rfl fun H1 g1 => hp'.go g1).imp fun _ _ _ h => h) fun r H1 g1 _ e => ?_
  rw [show r = _ from e]
  exact s_noN (Go.refl g1.2) (yt_is (yt_testI (y_op (y_var rfl) y_c o_notN)) rfl) fun H4 g4 _ => hq _ H4 (g1.trans g4) rfl
def sp_Wish_forced (K : PySem.W.Frag) : Sp := Pm (fun p : P1 => [p.v, p.vb]) (P1Ok K) (fun B p v H => ∃ a i o, v = .ref a ∧ At B H a (.tup [i, o]) ∧ TpS B (insOf p.b p.I) i H ∧ TpS B (outsOf p.b p.I p.O) o H)
theorem ok_Wish_forced (T : Fx K mg) : OK P w K mg base 13 (He.fAd K ("Wish", some "forced")) (sp_Wish_forced K) := by
  obtain ⟨fd, F⟩ := T.dd 37 (d := d_Wish_forced) rfl
  have c_Board := T.cls 64 rfl
  have c_Wish := T.cls 59 rfl
  have m_Board_below := T.meth 109 rfl
  have m_Board_clash := T.meth 112 rfl
  have m_Board_needs := T.meth 111 rfl
  have m_Wish_check_possible := T.meth 88 rfl
  have n_any := T.free 44 rfl
  have n_tuple := T.free 40 rfl
  have ok_Board_below := ok_Board_below (P := P) (w := w) (base := base) T
  have ok_Board_clash := ok_Board_clash (P := P) (w := w) (base := base) T
  have ok_Board_needs := ok_Board_needs (P := P) (w := w) (base := base) T
  have ok_Board_pegs := ok_Board_pegs (P := P) (w := w) (base := base) T
  have p_Board_pegs := T.prop 16 rfl rfl rfl rfl
  have ok_Wish_check_possible := ok_Wish_check_possible (P := P) (w := w) (base := base) T
  have sc : FnScope ["self", "board", "ins", "outs", "peg", "is_barred", "own"] ["self", "board"] (defScope (mth 15 13)) := ⟨rfl, rfl, rfl, by decide +kernel, rfl, by decide +kernel, by decide +kernel⟩
  have nd := sc.nd
  refine OK.of (F.ok sc (fun vs H Q E h => by obtain ⟨B, a, h⟩ := h; first | (obtain ⟨rfl, _⟩ := h; rfl) | (obtain ⟨x, dx, rfl, _⟩ := h; rfl)) (fun cdv A outer s H vs Q E hr h => ⟨_, PSs.nox (pss_cons (ps_expr (pe_mtR ok_Wish_check_possible hr (by decide) c_Wish m_Wish_check_possible (pv 0) (pa_cons (pv 1) pa_nil)))
    (pss_cons (ps_setLc (i := 2) rfl nd rfl rfl (sw_true rfl rfl rfl (by decide +kernel)) (own := [("peg", 4)]) (k_tup (K := K) (pe_prR ok_Board_pegs hr (by decide) c_Board p_Board_pegs (pv 1))) (blkOk_by (by kernel_rfl)) (fun _ _ _ _ _ => (pg_name (i := 4) nd rfl (Or.inr rfl))) (fun _ _ _ _ _ => (pts_one (pt_val (pe_callB (k_any (K := K) rfl) rfl n_any (by rfl) (pa_cons (pe_lc (own := [("own", 6)]) rfl nd (k_tup (K := K) (k_fld (K := K) (pv 0) rfl)) (blkOk_by (by kernel_rfl)) (fun _ _ _ _ _ => (pg_name (i := 6) nd rfl (Or.inl rfl))) (fun _ _ _ _ _ => pts_nil) (fun _ _ _ _ _ => (pe_or (pe_mtR ok_Board_needs hr (by decide) c_Board m_Board_needs (pv 1) (pa_cons (pv 6) (pa_cons (pv 4) pa_nil))) (pe_one (pe_cmpR op_eq (pv 6) (pv 4) (nomark _)))))) pa_nil))))) (fun _ _ _ _ _ => (pv 4)))
    (pss_cons (ps_set (i := 3) nd rfl (Or.inl rfl) (pe_lst pa_nil))
    (pss_cons (ps_for PassesOwn.never rfl (k_tup (K := K) (pe_prR ok_Board_pegs hr (by decide) c_Board p_Board_pegs (pv 1))) (pg_name (i := 4) nd rfl (Or.inr rfl)) (pss_cons (ps_set (i := 5) nd rfl (Or.inl rfl) (pe_callB (k_any (K := K) rfl) rfl n_any (by rfl) (pa_cons (pe_lc (own := [("own", 6)]) rfl nd (k_list (K := K) (pv 2)) (blkOk_by (by kernel_rfl)) (fun _ _ _ _ _ => (pg_name (i := 6) nd rfl (Or.inl rfl))) (fun _ _ _ _ _ => pts_nil) (fun _ _ _ _ _ => (pe_mtR ok_Board_clash hr (by decide) c_Board m_Board_clash (pv 1) (pa_cons (pv 4) (pa_cons (pv 6) pa_nil))))) pa_nil)))
    (pss_one (ps_if (PW.pt (pw_or (pt_val (pv 5)) (pw_or1 (pt_val (pe_callB (k_any (K := K) rfl) rfl n_any (by rfl) (pa_cons (pe_lc (own := [("own", 6)]) rfl nd (k_tup (K := K) (pe_mtR ok_Board_below hr (by decide) c_Board m_Board_below (pv 1) (pa_cons (pv 4) pa_nil))) (blkOk_by (by kernel_rfl)) (fun _ _ _ _ _ => (pg_name (i := 6) nd rfl (Or.inl rfl))) (fun _ _ _ _ _ => pts_nil) (fun _ _ _ _ _ => (pe_cmpR (k_in (K := K)) (pv 6) (k_fld (K := K) (pv 0) rfl) (by with_unfolding_all rfl)))) pa_nil)))))) (pss_one (ps_expr (k_bm (K := K) PySem.F.plainAttrs_list PySem.F.slot_list_append PySem.F.type_list_append mt_append (pv 3) (pa_cons (pv 4) pa_nil)))) pss_nil))))
    (pss_one (ps_ret (pe_tup (pa_cons (k_tupleOf (K := K) rfl n_tuple (pv 2)) (pa_cons (k_tupleOf (K := K) rfl n_tuple (pv 3)) pa_nil))))))))), ?_⟩)) (F.bindsN fun _ _ _ _ _ _ us hl => match us, hl with | [_, _], _ => rfl)
  obtain ⟨B, ⟨v, vb, b, I, O⟩, rfl, hb, hp, hq⟩ := h
  have hp' := hp
  obtain ⟨⟨a, dx, w, u, ws, us, ev, t, hf⟩, hR, hw⟩ := hp
  cases (show v = .ref a from ev)
  dsimp only at t hf hR hw
  have hR' := hR
  obtain ⟨ab, dxb, o, pr, rw, cl, ke, eb, tb, hfb⟩ := hR'
  subst eb
  have w0 := hR.wf
  refine q_drop (Go.refl hb) (y_mt ⟨.ref a, .ref ab, b, I, O⟩ (y_var rfl) t rfl (ya_cons (y_var rfl) ya_nil) rfl fun H1 g1 => hp'.go g1) fun _ H1 g1 _ _ => ?_
  have wn := fun (σ : L2.St) (H' : Hp) (g : Go B H H') (hi : σ[0]? = some (some (V.ref a))) => (y_fld (B := B) (σ := σ) (y_var (i := 0) hi) (t.go g) (T.cls 59 rfl) (T.noat 71 rfl) rfl).rep (TpS.st _ _ _ g hf.w) TpS.st
  have un := fun (σ : L2.St) (H' : Hp) (g : Go B H H') (hi : σ[0]? = some (some (V.ref a))) => (y_fld (B := B) (σ := σ) (y_var (i := 0) hi) (t.go g) (T.cls 59 rfl) (T.noat 72 rfl) rfl).rep (TpS.st _ _ _ g hf.u) TpS.st
  refine q_asg (P := LsS B (insOf b I)) (Go.refl g1.2) ((y_lcF (xs := b.pegs) (fun p => I.any fun q => b.bel q p || decide (q = p)) (yk_tS (y_bpegs (y_var rfl) (tb.go g1) (hfb.go g1)) (hfb.go g1).order).yi (Nat.le_trans w0.z (by decide)) yg_s fun x σ2 H2 hx g2 s => ?_).imp fun v H1 _ h => h.1) fun l H2 g2 _ hl => ?_
  · subst s
    have g12 := g1.trans g2
    refine ⟨rfl, yt_testI (y_is (y_any (y_lcB1 (fun q => b.bel q x || decide (q = x)) (yi_tup ((wn _ _ g12 rfl).imp fun v H1 _ h => TpS.r h) fun _ => SV.st) (Nat.le_trans hf.zw (by decide)) yg_s fun q σ3 H3 hq3 g3 s => ?_)) (congrArg V.bl (by rw [any_map, any_iff hf.mw]))), fun _ => y_var rfl⟩
    subst s
    have g13 := g12.trans g3
    refine ⟨rfl, y_is (y_orV (y_mt (args := fun p : B2 => [p.v, .str p.x, .str p.y]) (post := fun _ p v _ => v = .bl (!decide (p.x = p.y) && p.b.bel p.x p.y)) ⟨.ref ab, b, q, x⟩ (y_var rfl) (tb.go g13) rfl (ya_cons (y_var rfl) (ya_cons (y_var rfl) ya_nil)) rfl fun H7 g7 => ⟨BdR.st _ _ _ (g13.trans g7) hR, hw.i q ((hf.mw q).mp hq3), hx⟩) fun _ => y_is (y_op (y_var rfl) (y_var rfl) (o_eq rfl)) (congrArg V.bl str_eq)) (congrArg V.bl ?_)⟩
    show (!decide (q = x) && b.bel q x || decide (q = x)) = _
    cases decide (q = x) <;> cases b.bel q x <;> rfl
  have g12 := g1.trans g2
  refine q_asg (Go.refl g2.2) (y_lstI ya_nil (by decide)) fun v H3 g3 _ ⟨p, ev, tp, np⟩ => ?_
  subst ev
  have g13 := g12.trans g3
  have hl3 := LsS.st _ _ _ g3 hl
  have ez : (insOf b I).length ≤ 12 := Nat.le_trans (List.length_filter_le _ _) w0.z
  refine q_forK (fun i σ1 H5 => Go B H2 H5 ∧ ∃ w1 w2, σ1 = [some (.ref a), some (.ref ab), some l, some (.ref p), w1, w2, none] ∧ H5 p = some (.lst (((b.pegs.take i).filter fun x => (insOf b I).any (fun q => b.cla x q) || (b.row x).any fun q => decide (q ∈ O)).map V.str))) (yk_tS (y_bpegs (y_var rfl) (tb.go g12) (hfb.go g12)) (hfb.go g12).order) g3 (fun H4 g4 => ⟨g3.trans g4, none, none, rfl, by rw [List.take_zero]; exact (tp.go g4).2⟩) (fun i σ1 H5 _ h => h.1) (fun i x σ1 H5 v H6 hx hI g6 r => ?_) fun σ1 H5 hI => ?_
  · obtain ⟨g5, w1, w2, rfl, hl5⟩ := hI
    rw [show v = .str x from r]
    show tSeq _ _ _ [some (.ref a), some (.ref ab), some l, some (.ref p), some (.str x), w2, none] H6
    have g26 := g5.trans g6
    have g16 := g12.trans g26
    have px : x ∈ b.pegs := List.mem_of_getElem? hx
    have hl6 := LsS.st _ _ _ g26 hl
    have tl6 : At B H6 p _ := At.go ⟨tp.1, hl5⟩ g6
    have ht : b.pegs.take (i + 1) = b.pegs.take i ++ [x] := by rw [List.take_add_one, hx] <;> rfl
    refine q_asg (P := Is (.bl ((insOf b I).any fun q => b.cla x q))) (Go.refl g6.2) (y_is (y_any (y_lcB1 (fun q => b.cla x q) (yk_lS (y_var rfl) hl6).yi (Nat.le_trans ez (by decide)) yg_s fun q σ3 H7 hq7 g7 s => ?_)) (congrArg V.bl (any_map _ _))) fun vb5 H7 g7 _ e7 => ?_
    · subst s
      exact ⟨rfl, y_mt (args := fun p : B2 => [p.v, .str p.x, .str p.y]) (post := fun _ p v _ => v = .bl (p.b.cla p.x p.y)) ⟨.ref ab, b, x, q⟩ (y_var rfl) (tb.go (g16.trans g7)) rfl (ya_cons (y_var rfl) (ya_cons (y_var rfl) ya_nil)) rfl fun H8 g8 => ⟨BdR.st _ _ _ ((g16.trans g7).trans g8) hR, px, (List.mem_filter.mp hq7).1⟩⟩
    · rw [show vb5 = _ from e7]
      have g17 := g16.trans g7
      have ez2 : (b.row x).length ≤ 12 := Nat.le_trans (List.length_filter_le _ _) w0.z
      refine s_when (b := (insOf b I).any (fun q => b.cla x q) || (b.row x).any fun q => decide (q ∈ O)) (Go.refl g7.2) (yt_or (yt_testI (y_var rfl)) fun _ => yt_testI (y_is (y_any (y_lcB1 (fun q => decide (q ∈ us)) (yi_tup ((y_mt (args := fun p : B1 => [p.v, .str p.x]) (post := fun B (p : B1) v H => TpS B (p.b.row p.x) v H) ⟨.ref ab, b, x⟩ (y_var rfl) (tb.go g17) rfl (ya_cons (y_var rfl) ya_nil) rfl fun H8 g8 => ⟨BdR.st _ _ _ (g17.trans g8) hR, px⟩).imp fun v H1 _ h => TpS.r h) fun _ => SV.st) (Nat.le_trans ez2 (by decide)) yg_s fun q σ3 H8 hq8 g8 s => ?_)) (congrArg V.bl ?_))) (fun e H8 g8 _ => ?_) fun e H8 g8 _ => ?_
      · subst s
        exact ⟨rfl, y_in (y_var rfl) (un _ _ (g17.trans g8) rfl).tp⟩
      · rw [any_map]
        exact congrArg (fun f => (b.row x).any f) (funext fun q => decide_eq_decide.mpr (hf.mu q))
      · have tl8 := tl6.go (g7.trans g8)
        refine s_app (Go.refl g8.2) tl8 rfl ?_ (y_var rfl) fun v9 H9 g9 _ e9 => ?_
        · rw [List.length_map]
          refine Nat.lt_of_le_of_lt (List.length_filter_le _ _) ?_
          rw [List.length_take]
          have := w0.z
          omega
        · have g29 := ((g26.trans g7).trans g8).trans g9
          refine ⟨g29.mut np tp.1, _, _, rfl, ?_⟩
          · rw [upd_same, ht, List.filter_append, List.map_append, show v9 = _ from e9]
            rw [List.filter_cons_of_pos (by exact e)]
            rfl
      · refine ⟨(g26.trans g7).trans g8, _, _, rfl, ?_⟩
        rw [ht, List.filter_append, List.filter_cons_of_neg (by rw [e]; decide), List.filter_nil, List.append_nil]
        exact (tl6.go (g7.trans g8)).2
  · obtain ⟨g5, w1, w2, rfl, hl5⟩ := hI
    rw [List.take_length] at hl5
    have hl6 := LsS.st _ _ _ g5 hl
    have ho5 : LsS B (outsOf b I O) (.ref p) H5 := ⟨p, rfl, tp.1, hl5⟩
    exact s_ret (Go.refl g5.2) (y_tup (ya_consG TpS.st (y_tupLS ((y_var rfl).rep hl6 LsS.st)) (ya_consG TpS.st (y_tupLS ((y_var rfl).rep ho5 LsS.st)) ya_nil)) (fun vs H1 H2 g ⟨w1, r1, e1, q1, w2, r2, e2, q2, e3⟩ => ⟨w1, r1, e1, TpS.st _ _ _ g q1, w2, r2, e2, TpS.st _ _ _ g q2, e3⟩) fun vs H1 ⟨w1, r1, e1, q1, w2, r2, e2, q2, e3⟩ => by
      rw [e1, e2, show r2 = [] from e3]
      show 2 ≤ 100000
      decide) fun v H6 g6 _ ⟨q, vs, e, t, _, w1, r1, e1, q1, w2, r2, e2, q2, e3⟩ => hq v H6 ((g12.trans g5).trans g6) ⟨q, w1, w2, e, by
        rw [e1, e2, show r2 = [] from e3] at t
        exact t, q1, q2⟩
structure C1 where
  v : V
  vs : V
  vb : V
  b : Bd
  I : List Str
  O : List Str
  s : List Str
def C1Ok (K : PySem.W.Frag) (B : Option Addr) (p : C1) (H : Hp) : Prop := WsR K B p.I p.O p.v H ∧ StR K B p.vb p.b p.s p.vs H ∧ WiOk p.b p.I p.O ∧ StW p.b (near p.b p.I p.O p.s)
theorem y_cat {B : Option Addr} {σ : L2.St} {H : Hp} {ta tb : TE} {xs ys : List Str} (ha : Y B ta σ H (LsS B xs)) (hb : Y B tb σ H (LsS B ys)) (hz : xs.length + ys.length ≤ 100000) : Y B (tOp rCat ta tb) σ H (LsS B (xs ++ ys)) := (y_catL ha hb hz).imp fun v H1 _ h => h.1
def sp_Wish___call__ (K : PySem.W.Frag) : Sp := Pm (fun p : C1 => [p.v, p.vs]) (C1Ok K) (fun B p v H => StR K B p.vb p.b (near p.b p.I p.O p.s) v H)
theorem ok_Wish___call__ (T : Fx K mg) : OK P w K mg base 16 (He.fAd K ("Wish", some "__call__")) (sp_Wish___call__ K) := by
  obtain ⟨fd, F⟩ := T.dd 33 (d := d_Wish___call__) rfl
  have c_Stand := T.cls 63 rfl
  have c_Wish := T.cls 59 rfl
  have m_Wish_forced := T.meth 89 rfl
  have n_list := T.free 39 rfl
  have ok_Board___call__ := ok_Board___call__ (P := P) (w := w) (base := base) T
  have co_Board : StX.CallO K (He.ga K "Board") (He.fAd K ("Board", some "__call__")) := ⟨of_decide_eq_true (T.xx 28 rfl), T.xx 29 rfl, T.xx 30 rfl⟩
  have ok_Stand_board := ok_Stand_board (P := P) (w := w) (base := base) T
  have p_Stand_board := T.prop 8 rfl rfl rfl rfl
  have ok_Stand_pegs := ok_Stand_pegs (P := P) (w := w) (base := base) T
  have p_Stand_pegs := T.prop 12 rfl rfl rfl rfl
  have ok_Wish_forced := ok_Wish_forced (P := P) (w := w) (base := base) T
  have sc : FnScope ["self", "stand", "board", "ins", "outs", "peg"] ["self", "stand"] (defScope (mth 15 6)) := ⟨rfl, rfl, rfl, by decide +kernel, rfl, by decide +kernel, by decide +kernel⟩
  have nd := sc.nd
  refine OK.of (F.ok sc (fun vs H Q E h => by obtain ⟨B, a, h⟩ := h; first | (obtain ⟨rfl, _⟩ := h; rfl) | (obtain ⟨x, dx, rfl, _⟩ := h; rfl)) (fun cdv A outer s H vs Q E hr h => ⟨_, PSs.nox (pss_cons (ps_set (i := 2) nd rfl (Or.inl rfl) (pe_prR ok_Stand_board hr (by decide) c_Stand p_Stand_board (pv 1)))
    (pss_cons (ps_asg (pe_mtR ok_Wish_forced hr (by decide) c_Wish m_Wish_forced (pv 0) (pa_cons (pv 2) pa_nil)) (k_gtup (K := K) (n := 2) rfl (pgs_cons (pg_name (i := 3) nd rfl (Or.inl rfl)) (pgs_cons (pg_name (i := 4) nd rfl (Or.inr rfl)) pgs_nil))))
    (pss_one (ps_ret (pe_coR ok_Board___call__ hr (by decide) co_Board (pv 2) (pa_cons (pe_op op_cat (pe_lc (own := [("peg", 5)]) rfl nd (k_tup (K := K) (pe_prR ok_Stand_pegs hr (by decide) c_Stand p_Stand_pegs (pv 1))) (blkOk_by (by kernel_rfl)) (fun _ _ _ _ _ => (pg_name (i := 5) nd rfl (Or.inl rfl))) (fun _ _ _ _ _ => (pts_one (pt_cmpR (k_ni (K := K)) (pv 5) (pv 4) (by with_unfolding_all rfl)))) (fun _ _ _ _ _ => (pv 5))) (pe_callTy (k_listOf (K := K)) rfl n_list (by rfl) (pa_cons (pv 3) pa_nil))) pa_nil)))))), ?_⟩)) (F.bindsN fun _ _ _ _ _ _ us hl => match us, hl with | [_, _], _ => rfl)
  obtain ⟨B, ⟨v, vs, vb, b, I, O, st⟩, rfl, hb, ⟨hW, hS, hw, hn⟩, hq⟩ := h
  have hW' := hW
  have hS' := hS
  obtain ⟨a, dx, w, u, ws, us, ev, t, hf⟩ := hW
  obtain ⟨a2, dx2, m, ev2, t2, hR, hm, h3⟩ := hS
  cases (show v = .ref a from ev)
  cases (show vs = .ref a2 from ev2)
  dsimp only at t hf hw hn t2 hR hm h3 hW' hS'
  have hR' := hR
  obtain ⟨ab, dxb, o, pr, rw, cl, ke, eb, tb, hfb⟩ := hR'
  subst eb
  have w0 := hR.wf
  refine q_asg (P := Is (.ref ab)) (Go.refl hb) ((y_pr (args := fun p : V × V × Bd × List Str => [p.1]) (pre := fun B (p : V × V × Bd × List Str) H => StR K B p.2.1 p.2.2.1 p.2.2.2 p.1 H) (post := fun B (p : V × V × Bd × List Str) v H => v = p.2.1) (.ref a2, .ref ab, b, st) (y_var rfl) t2 rfl fun H2 g2 => StR.st _ _ _ g2 hS').imp fun _ _ _ h => h) fun vb2 H1 g1 _ e1 => ?_
  rw [show vb2 = _ from e1]
  refine s_asgT (D := { nx := _, rt := _, bk := _, ct := _ }) (P := fun v H => ∃ a i o, v = .ref a ∧ At B H a (.tup [i, o]) ∧ TpS B (insOf b I) i H ∧ TpS B (outsOf b I O) o H) (Go.refl g1.2) ((y_mt (args := fun p : P1 => [p.v, p.vb]) (pre := P1Ok K) (post := fun B (p : P1) v H => ∃ a i o, v = .ref a ∧ At B H a (.tup [i, o]) ∧ TpS B (insOf p.b p.I) i H ∧ TpS B (outsOf p.b p.I p.O) o H) ⟨.ref a, .ref ab, b, I, O⟩ (y_var rfl) (t.go g1) rfl (ya_cons (y_var rfl) ya_nil) rfl fun H2 g2 => ⟨WsR.st _ _ _ (g1.trans g2) hW', BdR.st _ _ _ (g1.trans g2) hR, hw⟩).imp fun v H2 _ ⟨q, i, o, e, tq, q1, q2⟩ => ⟨q, _, e, tq, rfl, q, i, o, e, tq, q1, q2⟩) fun q vs2 H2 g2 _ tq ⟨q', i, o', e, tq', hi, ho⟩ => ?_
  cases e
  have e2 : vs2 = [i, o'] := HO.tup.inj (Option.some.inj (tq.2.symm.trans tq'.2))
  subst e2
  have g12 := g1.trans g2
  refine ⟨_, _, rfl, _, _, rfl, rfl, ?_⟩
  have z1 : (insOf b I).length ≤ 12 := Nat.le_trans (List.length_filter_le _ _) w0.z
  refine s_ret (P := StR K B (.ref ab) b (near b I O st)) (Go.refl g2.2) (y_co (R := fun vs H' => ∃ w, vs = [w] ∧ LsS B (st.filter (fun p => !decide (p ∈ outsOf b I O)) ++ insOf b I) w H') (y_var rfl) (tb.go g12) ((ya_consG LsS.st (y_cat ((y_lcF (fun p => !decide (p ∈ outsOf b I O)) (yi_tup ((y_pr (args := fun p : V × V × Bd × List Str => [p.1]) (pre := fun B (p : V × V × Bd × List Str) H => StR K B p.2.1 p.2.2.1 p.2.2.2 p.1 H) (post := fun B (p : V × V × Bd × List Str) v H => TpS B p.2.2.2 v H) (.ref a2, .ref ab, b, st) (y_var rfl) (t2.go g12) rfl fun H3 g3 => StR.st _ _ _ (g12.trans g3) hS').imp fun v H1 _ h => TpS.r h) fun _ => SV.st) (Nat.le_trans (h3.z w0) (by decide)) yg_s fun x σ2 H3 hx g3 s => ?_).imp fun v H1 _ h => h.1) ((y_listS ((y_var rfl).rep hi TpS.st).tp).imp fun v H1 _ h => h.1) (by
    have := List.length_filter_le (fun p => !decide (p ∈ outsOf b I O)) st
    have := h3.z w0
    show (st.filter fun p => !decide (p ∈ outsOf b I O)).length + (insOf b I).length ≤ 100000
    omega)) ya_nil).imp fun vs H3 _ ⟨w1, r1, e1, q1, e2⟩ => ⟨w1, by rw [e1, show r1 = [] from e2], q1⟩) fun vs H3 g3 ⟨w1, e1, q1⟩ => ⟨⟨.ref ab, w1, b, _⟩, by rw [e1], ⟨BdR.st _ _ _ (g12.trans g3) hR, .inr q1, fun x hx => ?_, hn⟩, fun v H4 g4 h => h⟩) fun v H3 g3 _ h => hq v H3 (g12.trans g3) h
  · subst s
    exact ⟨rfl, yt_testI (y_ni (y_var rfl) ((y_var rfl).rep (TpS.st _ _ _ g3 ho) TpS.st).tp), fun _ => y_var rfl⟩
  · rcases List.mem_append.mp hx with z | z
    · exact h3.sub x (List.mem_filter.mp z).1
    · exact (List.mem_filter.mp z).1
end
end NP
end
section
set_option Elab.async false
set_option linter.all false
set_option maxRecDepth 100000
set_option maxHeartbeats 4000000
/-! The law's helpers: the box, draws, mixing. -/
namespace NP
open PySem PySem.Spec PyProof.Rows L2
section
variable {B : Option Addr} {σ : L2.St} {H H0 : Hp} {te ta tb : TE} {K : PySem.W.Frag} {D : Ends} {tz : TS}
theorem q_setL {bx : Addr} {xs : List V} {k : Int} {j n : Nat} {v : V} (g : Go B H0 H) (t : At B H0 bx (.lst xs)) (hσ : σ[n]? = some (some (.ref bx))) (h : Y B te σ H0 (Is v)) (hj : ixN xs.length k = some j) (kk : ∀ H1, Go B H0 H1 → tz D σ (upd H1 bx (.lst (xs.set j v)))) : tSeq (tAsg te (gSub (tVar n) (tC (.int k)) rSetL)) tz D σ H :=
  h H g _ fun v1 H1 g1 e => ⟨_, hσ, bx, xs, k, j, rfl, rfl, (t.go (g.trans g1)).2, hj, by rw [show v1 = v from e]; exact kk H1 (g.trans g1)⟩
theorem y_ixL {p : Addr} {xs : List V} {i : Int} {v : V} (h : Y B ta σ H (Is (.ref p))) (t : At B H p (.lst xs)) (hk : Y B tb σ H (Is (.int i))) (e : atI xs i = some v) : Y B (tOp (rIxL K) ta tb) σ H (Is v) :=
  y_op h hk fun H1 g Q q => ⟨p, xs, i, v, rfl, rfl, (t.go g).sl, e, q v H1 (Go.refl g.2) rfl⟩
theorem y_ixT {p : Addr} {xs : List V} {i : Int} {v : V} (h : Y B ta σ H (Is (.ref p))) (t : At B H p (.tup xs)) (hk : Y B tb σ H (Is (.int i))) (e : atI xs i = some v) : Y B (tOp (rIxT K) ta tb) σ H (Is v) :=
  y_op h hk fun H1 g Q q => ⟨p, xs, i, v, rfl, rfl, (t.go g).st, e, q v H1 (Go.refl g.2) rfl⟩
theorem q_par {i j : Nat} {PA : V → Hp → Prop} {PB : V → V → Hp → Prop} (g : Go B H0 H) (ha : Y B ta σ H0 PA) (k : ∀ v H1, Go B H0 H1 → PA v H1 → Y B tb σ H1 (PB v) ∧ ∀ w H2, Go B H1 H2 → PB v w H2 → tz D ((σ.set i (some v)).set j (some w)) H2) : tSeq (tPar i j (tCons ta (tCons tb tNil))) tz D σ H :=
  ha H g _ fun v H1 g1 p => by
    obtain ⟨hb, kk⟩ := k v H1 (g.trans g1) p
    exact hb H1 (Go.refl g1.2) _ fun w H2 g2 q => ⟨v, w, rfl, kk w H2 g2 q⟩
theorem o_mul {i j : Int} (h : CMul i j) : Op2 B (rI CMul fun i j => .int (i * j)) (.int i) (.int j) H (Is (.int (i * j))) := o_I h
theorem o_mod {i j : Int} (h : 0 < j) : Op2 B (rI (fun _ j => 0 < j) fun i j => .int (i % j)) (.int i) (.int j) H (Is (.int (i % j))) := o_I (C := fun _ j => 0 < j) h
theorem o_fdiv {i j : Int} (h : CDiv i j) : Op2 B (rI CDiv fun i j => .int (i / j)) (.int i) (.int j) H (Is (.int (i / j))) := o_I h
theorem cm1 {i j : Int} (h : -(2 ^ 64) < i ∧ i < 2 ^ 64) : CMul i j := .inl h
theorem cm2 {i j : Int} (h : -(2 ^ 64) < j ∧ j < 2 ^ 64) : CMul i j := .inr h
end
section
variable {P : Program} {w : World} {K : PySem.W.Frag} {mg : Str → Option Value} {base : Heap}
def sp__law_take (K : PySem.W.Frag) : Sp := Pm (fun p : Addr × Nat => [.ref p.1, .int (p.2 : Int)]) (fun B p H => B = some p.1 ∧ 0 < p.2 ∧ p.2 < 1000000) (fun B p v H => ∃ d : Nat, d < p.2 ∧ v = .int (d : Int))
theorem emod_nat {i : Int} {n : Nat} (h : 0 < n) : ∃ d : Nat, d < n ∧ i % (n : Int) = (d : Int) := by
  have h1 := Int.emod_nonneg i (b := (n : Int)) (by omega)
  have h2 := Int.emod_lt_of_pos i (b := (n : Int)) (by omega)
  exact ⟨(i % (n : Int)).toNat, by omega, by omega⟩
theorem ok__law_take (T : Fx K mg) : OK P w K mg base 1 (He.fAd K ("_law_take", none)) (sp__law_take K) := by
  obtain ⟨fd, F⟩ := T.dd 17 (d := d__law_take) rfl
  have sc : FnScope ["_law_box_here", "_law_many", "_law_digit", "_law_one"] ["_law_box_here", "_law_many"] (defScope (top 63)) := ⟨rfl, rfl, rfl, by decide +kernel, rfl, by decide +kernel, by decide +kernel⟩
  have nd := sc.nd
  refine OK.of (F.ok sc (fun vs H Q E h => by obtain ⟨B, a, h⟩ := h; first | (obtain ⟨rfl, _⟩ := h; rfl) | (obtain ⟨x, dx, rfl, _⟩ := h; rfl)) (fun cdv A outer s H vs Q E hr h => ⟨_, PSs.nox (pss_cons (ps_if (pt_cmpR op_gt (pe_ix (k_ixL (K := K)) (pv 0) pe_int (fun _ _ => rfl)) pe_int (nomark _)) (pss_cons (ps_set (i := 2) nd rfl (Or.inl rfl) (pe_op op_mod (pe_ix (k_ixL (K := K)) (pv 0) pe_int (fun _ _ => rfl)) (pv 1)))
    (pss_cons (ps_asg (pe_op op_fdiv (pe_ix (k_ixL (K := K)) (pv 0) pe_int (fun _ _ => rfl)) (pv 1)) (pg_sub (pv 0) pe_int set_list))
    (pss_one (ps_ret (pv 2))))) pss_nil)
    (pss_cons (ps_asg (pe_op op_add (pe_ix (k_ixL (K := K)) (pv 0) pe_int (fun _ _ => rfl)) pe_int) (pg_sub (pv 0) pe_int set_list))
    (pss_cons (ps_set (i := 3) nd rfl (Or.inl rfl) (pe_op op_mod (pe_op op_mul (pe_op op_add (pe_ix (k_ixL (K := K)) (pv 0) pe_int (fun _ _ => rfl)) (pe_op op_mul pe_int (pe_ix (k_ixL (K := K)) (pv 0) pe_int (fun _ _ => rfl)))) pe_int) pe_int))
    (pss_cons (ps_asg (pe_op op_add (pe_op op_mod (pe_op op_add (pe_op op_mul (pv 3) pe_int) pe_int) pe_int) pe_int) (pg_sub (pv 0) pe_int set_list))
    (pss_one (ps_ret (pe_op op_mod (pe_op op_fdiv (pe_op op_add (pe_op op_mul (pv 3) pe_int) (pe_ix (k_ixL (K := K)) (pv 0) pe_int (fun _ _ => rfl))) pe_int) (pv 1)))))))), ?_⟩)) (F.bindsN fun _ _ _ _ _ _ us hl => match us, hl with | [_, _], _ => rfl)
  obtain ⟨B, ⟨bx, n⟩, rfl, hb, ⟨hB, h0, h1⟩, hq⟩ := h
  dsimp only at hB h0 h1
  subst hB
  obtain ⟨x, y, z, hbx⟩ := hb bx rfl
  have kb : Bk none H := fun b e => nomatch e
  have t0 : At none H bx (.lst [.int x, .int y, .int z]) := ⟨(fun e => nomatch e), hbx⟩
  have fin : ∀ H1 : Hp, (∀ a o, a ≠ bx → H a = some o → H1 a = some o) → Bok bx H1 → Go (some bx) H H1 := fun H1 h hb => ⟨fun a o hne e => h a o (fun z => hne (by rw [z])) e, fun b e => by
    cases e
    exact hb⟩
  have n1 : (0 : Int) < n := by omega
  refine q_when (b := decide (0 < x)) (Go.refl kb) (yt_testI (y_op (y_ixL (y_var rfl) t0 y_c rfl) y_c o_gt)) (fun e H1 g1 _ => ?_) fun e H1 g1 _ => ?_
  · refine q_asg (P := Is (.int (x % n))) (Go.refl g1.2) (y_op (y_ixL (y_var rfl) (t0.go g1) y_c rfl) (y_var rfl) (o_mod n1)) fun v2 H2 g2 _ e2 => ?_
    have g12 := g1.trans g2
    refine q_setL (j := 0) (Go.refl g2.2) (t0.go g12) rfl (y_op (y_ixL (y_var rfl) (t0.go g12) y_c rfl) (y_var rfl) (o_fdiv ⟨n1, by omega⟩)) rfl fun H3 g3 => ?_
    have g13 := g12.trans g3
    obtain ⟨d, hd, ed⟩ := emod_nat (i := x) h0
    refine s_ret (B := none) (Go.refl fun b e => nomatch e) (y_var rfl) fun v3 H4 g4 _ e4 => hq v3 H4 (fin H4 (fun a o hne ea => g4.1 a o (fun z => nomatch z) (by rw [upd_ne hne]; exact g13.1 a o (fun z => nomatch z) ea)) ⟨_, _, _, g4.1 bx _ (fun z => nomatch z) upd_same⟩) ⟨d, hd, by rw [show v3 = _ from e4, show v2 = _ from e2, ed]⟩
  · refine q_setL (j := 2) (Go.refl g1.2) (t0.go g1) rfl (y_op (y_ixL (y_var rfl) (t0.go g1) y_c rfl) y_c o_add) rfl fun H2 g2 => ?_
    have g12 := g1.trans g2
    have t2 : At none (upd H2 bx (.lst [.int x, .int y, .int (z + 1)])) bx (.lst [.int x, .int y, .int (z + 1)]) := ⟨(fun e => nomatch e), upd_same⟩
    show tSeq _ _ _ _ (upd H2 bx (.lst [.int x, .int y, .int (z + 1)]))
    refine q_asg (B := none) (Go.refl fun b e => nomatch e) (y_op (y_op (y_op (y_ixL (y_var rfl) t2 y_c rfl) (y_op y_c (y_ixL (y_var rfl) t2 y_c rfl) (o_mul (cm1 (by decide)))) o_add) y_c (o_mul (cm2 (by decide)))) y_c (o_mod (by decide))) fun v3 H3 g3 _ e3 => ?_
    rw [show v3 = _ from e3]
    have t3 := t2.go g3
    refine q_setL (j := 1) (Go.refl g3.2) t3 rfl (y_op (y_op (y_op (y_op (y_var rfl) y_c (o_mul (cm2 (by decide)))) y_c o_add) y_c (o_mod (by decide))) y_c o_add) rfl fun H4 g4 => ?_
    generalize hv : ((y + 104729 * (z + 1)) * 69623 % 2147483647 : Int) = one
    generalize hy : ((one * 48271 + 30103) % 2147483629 + 1 : Int) = y2
    have t4 : At none (upd H4 bx (.lst [.int x, .int y2, .int (z + 1)])) bx (.lst [.int x, .int y2, .int (z + 1)]) := ⟨(fun e => nomatch e), upd_same⟩
    show tRet _ _ _ (upd H4 bx (.lst [.int x, .int y2, .int (z + 1)]))
    obtain ⟨d, hd, ed⟩ := emod_nat (i := (one * 2147483647 + y2) / 8191) h0
    refine s_ret (B := none) (Go.refl fun b e => nomatch e) (y_op (y_op (y_op (y_op (y_var rfl) y_c (o_mul (cm2 (by decide)))) (y_ixL (y_var rfl) t4 y_c rfl) o_add) y_c (o_fdiv ⟨by decide, by decide⟩)) (y_var rfl) (o_mod n1)) fun v5 H5 g5 _ e5 => hq v5 H5 (fin H5 (fun a o hne ea => g5.1 a o (fun z => nomatch z) (by
        rw [upd_ne hne]
        exact g4.1 a o (fun z => nomatch z) (g3.1 a o (fun z => nomatch z) (by
          rw [upd_ne hne]
          exact g12.1 a o (fun z => nomatch z) ea)))) ⟨_, _, _, g5.1 bx _ (fun z => nomatch z) upd_same⟩) ⟨d, hd, by rw [show v5 = _ from e5, ed]⟩
theorem y_takeG {bx : Addr} {σ : L2.St} {H : Hp} {ta tb : TE} {n : Nat} (ha : Y (some bx) ta σ H (Is (.ref bx))) (hb : Y (some bx) tb σ H (Is (.int (n : Int)))) (h0 : 0 < n) (h1 : n < 1000000) : Y (some bx) (tCl (sp__law_take K) (tCons ta (tCons tb tNil))) σ H (fun v _ => ∃ d : Nat, d < n ∧ v = .int (d : Int)) :=
  y_clI (args := fun p : Addr × Nat => [.ref p.1, .int (p.2 : Int)]) (bx, n) (ya_cons ha (ya_cons hb ya_nil)) fun _ _ => ⟨rfl, h0, h1⟩
structure X1 where
  bx : Addr
  vt : V
  xs : List Str
def sp__law_mixed (K : PySem.W.Frag) : Sp := Pm (fun p : X1 => [.ref p.bx, p.vt]) (fun B p H => B = some p.bx ∧ SqS B p.xs p.vt H ∧ Sk p.xs ∧ p.xs.length ≤ 1000) (fun B p v H => ∃ ys, LsS B ys v H ∧ ys.Perm p.xs)
theorem seqIx_nat {d n : Nat} (h : d < n) : seqIndex? (d : Int) n = some d := by
  unfold seqIndex?
  have h1 : ¬ ((d : Int) < 0) := by omega
  simp [h1, h]
theorem map_erase {α β : Type} (f : α → β) : ∀ (xs : List α) (i : Nat), (xs.map f).eraseIdx i = (xs.eraseIdx i).map f
  | [], _ => rfl
  | _ :: _, 0 => rfl
  | x :: xs, i + 1 => by
    rw [List.map_cons, List.eraseIdx_cons_succ, List.eraseIdx_cons_succ, List.map_cons, map_erase f xs i]
theorem perm_erase {α : Type} : ∀ {xs : List α} {i : Nat} {y : α}, xs[i]? = some y → ([y] ++ xs.eraseIdx i).Perm xs
  | [], _, _, h => by cases h
  | x :: xs, 0, y, h => by
    cases h
    exact List.Perm.refl _
  | x :: xs, i + 1, y, h => by
    have z := perm_erase (xs := xs) (i := i) h
    rw [List.eraseIdx_cons_succ]
    exact (List.Perm.swap _ _ _).trans (z.cons x)
theorem dL_ne {xs : List Str} : (!PyData.eqv (.list (dS xs)) (.list [])) = !decide (xs = []) := by
  rw [PyData.eqv]
  exact congrArg (!·) (eqv_dS xs [])
theorem ok__law_mixed (T : Fx K mg) : OK P w K mg base 4 (He.fAd K ("_law_mixed", none)) (sp__law_mixed K) := by
  obtain ⟨fd, F⟩ := T.dd 18 (d := d__law_mixed) rfl
  have g__law_take := T.glo 17 rfl
  have n_len := T.free 38 rfl
  have n_list := T.free 39 rfl
  have ok__law_take := ok__law_take (P := P) (w := w) (base := base) T
  obtain ⟨_, F__law_take⟩ := T.dd 17 (d := d__law_take) rfl
  have kp__law_take := F__law_take.kp
  have sc : FnScope ["_law_box_here", "_law_things", "_law_left", "_law_found"] ["_law_box_here", "_law_things"] (defScope (top 64)) := ⟨rfl, rfl, rfl, by decide +kernel, rfl, by decide +kernel, by decide +kernel⟩
  have nd := sc.nd
  refine OK.of (F.ok sc (fun vs H Q E h => by obtain ⟨B, a, h⟩ := h; first | (obtain ⟨rfl, _⟩ := h; rfl) | (obtain ⟨x, dx, rfl, _⟩ := h; rfl)) (fun cdv A outer s H vs Q E hr h => ⟨_, PSs.nox (pss_cons (ps_par (i := 2) (j := 3) rfl nd rfl rfl (by decide) rfl rfl (pa_cons (pe_callTy (k_listOf (K := K)) rfl n_list (by rfl) (pa_cons (pv 1) pa_nil)) (pa_cons (pe_lst pa_nil) pa_nil)) (by rfl))
    (pss_cons (ps_while PassesOwn.never (pt_cmpR (k_neD (K := K) hr.units) (pv 2) (pe_lst pa_nil) (nomark _)) (pss_one (ps_expr (k_bm (K := K) PySem.F.plainAttrs_list PySem.F.slot_list_append PySem.F.type_list_append mt_append (pv 3) (pa_cons (k_bm (K := K) PySem.F.plainAttrs_list PySem.F.slot_list_pop PySem.F.type_list_pop mt_popAt (pv 2) (pa_cons (pe_cl ok__law_take hr (by decide) rfl g__law_take kp__law_take (pa_cons (pv 0) (pa_cons (pe_callB (k_len (K := K)) rfl n_len (by rfl) (pa_cons (pv 2) pa_nil)) pa_nil))) pa_nil)) pa_nil)))))
    (pss_one (ps_ret (pv 3))))), ?_⟩)) (F.bindsN fun _ _ _ _ _ _ us hl => match us, hl with | [_, _], _ => rfl)
  obtain ⟨B, ⟨bx, vt, xs⟩, rfl, hb, ⟨hB, hx, hk, hz⟩, hq⟩ := h
  dsimp only at hB hx hk hz
  subst hB
  refine q_par (PB := fun v1 v H' => ∀ Hz : Hp, Hz = Hz → ∃ a, v = .ref a ∧ At (some bx) H' a (.lst []) ∧ (v1 ≠ .ref a ∧ H a = none)) (Go.refl hb) (y_listS (K := K) ((y_var rfl).rep hx SqS.st)) fun v1 Ha ga ⟨⟨p1, ep1, t1a⟩, q1, eq1, n1⟩ => ⟨(y_lstI ya_nil (by decide)).imp fun v H' _ ⟨a, e, t, n⟩ _ _ => ⟨a, e, t, (fun z => by
    rw [ep1] at z
    cases z
    rw [t1a.2] at n
    cases n), ga.fresh n⟩, fun v2 H1 gb hv2 => ?_⟩
  obtain ⟨p2, ep2, t2, n2b, n2⟩ := hv2 H rfl
  rw [ep1] at eq1
  cases eq1
  have g1 := ga.trans gb
  have t1 := t1a.go gb
  have hne : p1 ≠ p2 := fun e => n2b (by rw [ep1, e])
  rw [ep1, ep2]
  refine ⟨fun m σ1 H2 => σ1 = [some (.ref bx), some vt, some (.ref p1), some (.ref p2)] ∧ Go (some bx) H H2 ∧ ∃ ls fs : List Str, H2 p1 = some (.lst (ls.map V.str)) ∧ H2 p2 = some (.lst (fs.map V.str)) ∧ (fs ++ ls).Perm xs ∧ m = ls.length, ⟨xs.length, rfl, g1, xs, [], t1.2, t2.2, by rw [List.nil_append], rfl⟩, ?_⟩
  rintro m σ1 H2 ⟨rfl, g2, ls, fs, hl1, hl2, hp, rfl⟩
  have T1 : At (some bx) H2 p1 (.lst (ls.map V.str)) := ⟨t1.1, hl1⟩
  have T2 : At (some bx) H2 p2 (.lst (fs.map V.str)) := ⟨t2.1, hl2⟩
  have hlen := hp.length_eq
  rw [List.length_append] at hlen
  have skl : Sk ls := fun x hx => hk x (hp.mem_iff.mp (List.mem_append.mpr (.inr hx)))
  refine (yt_testI (y_is (y_neD (d := .list (dS ls)) (e := .list []) (n := 1) (PA := LsS (some bx) ls) (PB := LsS (some bx) []) LsS.st ((y_var rfl).rep ⟨p1, rfl, T1⟩ LsS.st) ((y_lstI ya_nil (by decide)).imp fun v H1 _ ⟨a, e, t, _⟩ => ⟨a, e, t⟩) (fun _ _ h => h.dp) (fun _ _ h => h.dp) (.lst (gd_S skl)) (.lst (fun d hd => nomatch hd)) (by decide)) (congrArg V.bl dL_ne))) H2 (Go.refl g2.2) _ fun b H3 g3 eb => ?_
  have T13 := T1.go g3
  have T23 := T2.go g3
  have g03 := g2.trans g3
  by_cases hem : ls = []
  · rw [eb, decide_eq_true hem, if_neg (by decide)]
    subst hem
    rw [List.append_nil] at hp
    exact s_ret (Go.refl g3.2) ((y_var rfl).rep ⟨p2, rfl, T23⟩ LsS.st) fun v H4 g4 _ h => hq v H4 (g03.trans g4) ⟨fs, h, hp⟩
  · rw [eb, decide_eq_false hem, if_pos (show (!false) = true from rfl)]
    have hpos : 0 < ls.length := List.length_pos_iff.mpr hem
    refine ⟨fun σ4 H4 => σ4 = [some (.ref bx), some vt, some (.ref p1), some (.ref p2)] ∧ Go (some bx) H H4 ∧ ∃ ls' fs' : List Str, H4 p1 = some (.lst (ls'.map V.str)) ∧ H4 p2 = some (.lst (fs'.map V.str)) ∧ (fs' ++ ls').Perm xs ∧ ls'.length < ls.length, fun σ4 H4 ⟨a, b, ls', fs', c, d, e, f⟩ => ⟨ls'.length, f, a, b, ls', fs', c, d, e, rfl⟩, ?_⟩
    refine ⟨_, rfl, .inl ⟨rfl, _, T23.sl⟩, ?_⟩
    refine ⟨_, rfl, .inl ⟨rfl, _, T13.sl⟩, ?_⟩
    refine y_takeG (y_var rfl) (y_lenS ((y_var rfl).rep (R := LsS (some bx) ls) ⟨p1, rfl, T13⟩ LsS.st).ls) hpos (by omega) H3 (Go.refl g3.2) _ fun v H4 g4 ⟨d, hd, ev⟩ => ?_
    have T14 := T13.go g4
    have T24 := T23.go g4
    obtain ⟨y, hy⟩ : ∃ y, ls[d]? = some y := ⟨_, List.getElem?_eq_getElem hd⟩
    refine ⟨p1, _, d, d, .str y, rfl, by rw [ev], T14.2, by omega, by omega, ?_, by rw [List.getElem?_map, hy] <;> rfl, ?_⟩
    · rw [List.length_map]
      exact seqIx_nat hd
    · have g5 : Go (some bx) H (upd H4 p1 (.lst ((ls.map V.str).eraseIdx d))) := (g03.trans g4).mut n1 t1.1
      refine ⟨p2, _, .str y, rfl, rfl, by rw [upd_ne (Ne.symm hne)]; exact T24.2, by
        rw [List.length_map]
        exact zt (by omega), ?_⟩
      refine ⟨rfl, g5.mut n2 t2.1, ls.eraseIdx d, fs ++ [y], ?_, ?_, ?_, ?_⟩
      · rw [upd_ne hne, upd_same, map_erase]
      · rw [upd_same, List.map_append] <;> rfl
      · refine List.Perm.trans ?_ hp
        rw [List.append_assoc]
        refine List.Perm.append_left _ ?_
        exact perm_erase hy
      · rw [List.length_eraseIdx_of_lt hd]
        omega
end
end NP
end
section
set_option Elab.async false
set_option linter.all false
set_option maxRecDepth 100000
set_option maxHeartbeats 4000000
/-! The law's helpers that answer yes or no. -/
namespace NP
open PySem PySem.Spec PyProof.Rows L2
/-! ### lists of ones -/
theorem LsI.dp {B : Option Addr} {K : PySem.W.Frag} {H : Hp} {xs : List Int} {v : V} (h : LsI B xs v H) : Dp K H v (.list (dI xs)) := by
  obtain ⟨a, e, t⟩ := h
  subst e
  exact .lst t.sl (dp_I xs)
theorem eqv_nil (ds : List PyData) : PyData.eqv (.list ds) (.list []) = ds.isEmpty := by
  rw [PyData.eqv]
  cases ds <;> rw [PyData.eqvAll] <;> rfl
section
variable {B : Option Addr} {σ : L2.St} {H : Hp} {ta tb : TE} {K : PySem.W.Frag}
theorem dp_nil {v : V} {H1 : Hp} (h : ∃ a, v = .ref a ∧ At B H1 a (.lst [])) : Dp K H1 v (.list []) := by
  obtain ⟨a, e, t⟩ := h
  subst e
  exact .lst t.sl .nil
/-- a list of data that is | is not empty -/
theorem y_nonempty {PA : V → Hp → Prop} {ds : List PyData} {n : Nat} (sa : St B PA) (ha : Y B ta σ H PA) (hd : ∀ v H1, PA v H1 → Dp K H1 v (.list ds)) (gd : ∀ d ∈ ds, Gd n d) (hn : n ≤ 63) : Y B (tOp (rNeD K) ta (tLst tNil)) σ H (Is (.bl (!ds.isEmpty))) :=
  y_is (y_neD sa ha ((y_lstI ya_nil (by decide)).imp (P' := fun v H1 => ∃ a, v = .ref a ∧ At B H1 a (.lst [])) fun v H1 _ ⟨a, e, t, _⟩ => ⟨a, e, t⟩) hd (fun _ _ h => dp_nil h) (.lst gd) (.lst (fun d hd => nomatch hd)) (by omega)) (congrArg V.bl (congrArg (!·) (eqv_nil ds)))
theorem y_empty {PA : V → Hp → Prop} {ds : List PyData} {n : Nat} (sa : St B PA) (ha : Y B ta σ H PA) (hd : ∀ v H1, PA v H1 → Dp K H1 v (.list ds)) (gd : ∀ d ∈ ds, Gd n d) (hn : n ≤ 63) : Y B (tOp (rEqD K) ta (tLst tNil)) σ H (Is (.bl ds.isEmpty)) :=
  y_is (y_eqD sa ha ((y_lstI ya_nil (by decide)).imp (P' := fun v H1 => ∃ a, v = .ref a ∧ At B H1 a (.lst [])) fun v H1 _ ⟨a, e, t, _⟩ => ⟨a, e, t⟩) hd (fun _ _ h => dp_nil h) (.lst gd) (.lst (fun d hd => nomatch hd)) (by omega)) (congrArg V.bl (eqv_nil ds))
theorem y_nonemptyI {xs : List Int} (ha : Y B ta σ H (LsI B xs)) : Y B (tOp (rNeD K) ta (tLst tNil)) σ H (Is (.bl (!xs.isEmpty))) :=
  y_is (y_nonempty (n := 0) LsI.st ha (fun _ _ h => h.dp) gd_I (by decide)) (by cases xs <;> rfl)
theorem y_emptyI {xs : List Int} (ha : Y B ta σ H (LsI B xs)) : Y B (tOp (rEqD K) ta (tLst tNil)) σ H (Is (.bl xs.isEmpty)) :=
  y_is (y_empty (n := 0) LsI.st ha (fun _ _ h => h.dp) gd_I (by decide)) (by cases xs <;> rfl)
theorem y_emptyS {xs : List Str} (hk : Sk xs) (ha : Y B ta σ H (LsS B xs)) : Y B (tOp (rEqD K) ta (tLst tNil)) σ H (Is (.bl xs.isEmpty)) :=
  y_is (y_empty (n := 0) LsS.st ha (fun _ _ h => h.dp) (gd_S hk) (by decide)) (by cases xs <;> rfl)
end
theorem ne_any {α : Type} (p : α → Bool) (f : α → Int) : ∀ xs : List α, (!((xs.filter p).map f).isEmpty) = xs.any p
  | [] => rfl
  | x :: xs => by
    rw [List.filter_cons, List.any_cons]
    by_cases h : p x = true
    · rw [if_pos h, h] <;> rfl
    · rw [if_neg h, ne_any p f xs, Bool.eq_false_iff.mpr h] <;> rfl
theorem em_any {α : Type} (p : α → Bool) (f : α → Int) (xs : List α) : ((xs.filter p).map f).isEmpty = !xs.any p := by
  rw [← ne_any p f xs, Bool.not_not]
theorem emp_app {α : Type} (xs ys : List α) : (xs ++ ys).isEmpty = (xs.isEmpty && ys.isEmpty) := by
  cases xs <;> rfl
/-! ### parts, hopes -/
/-- parts: a tuple of four -/
structure PtF (B : Option Addr) (p : Pa) (H : Hp) : Prop where
  ok : PaOk B p H
  v : PaV p
  rk : ∃ r : Str → Nat, (∀ q ∈ p.wants, r q.2 < r q.1) ∧ ∀ x ∈ p.pegs, r x ≤ p.pegs.length
theorem PtF.go {B : Option Addr} {p : Pa} {H H' : Hp} (h : PtF B p H) (g : Go B H H') : PtF B p H' := ⟨h.ok.go g, h.v, h.rk⟩
def PtR (B : Option Addr) (p : Pa) : V → Hp → Prop := fun v H => ∃ a, v = .ref a ∧ At B H a (.tup [p.vp, p.vw, p.vb, p.vc]) ∧ PtF B p H
theorem PtR.st {B : Option Addr} {p : Pa} : St B (PtR B p) := fun _ _ _ g ⟨a, e, t, h⟩ => ⟨a, e, t.go g, h.go g⟩
structure Ho where
  vi : V
  vo : V
  I : List Str
  O : List Str
def HoR (B : Option Addr) (h : Ho) : V → Hp → Prop := fun v H => ∃ a, v = .ref a ∧ At B H a (.tup [h.vi, h.vo]) ∧ LsS B h.I h.vi H ∧ LsS B h.O h.vo H
theorem HoR.st {B : Option Addr} {p : Ho} : St B (HoR B p) := fun _ _ _ g ⟨a, e, t, h, h2⟩ => ⟨a, e, t.go g, LsS.st _ _ _ g h, LsS.st _ _ _ g h2⟩
/-- pairs, a list or a tuple -/
def SqP (B : Option Addr) (ps : List (Str × Str)) : V → Hp → Prop := fun v H => TpR B (PrS B) ps v H ∨ LsR B (PrS B) ps v H
theorem SqP.st {B : Option Addr} {ps : List (Str × Str)} : St B (SqP B ps) := fun v H H' g h => h.imp (TpR.st (fun _ => PrS.st) v H H' g) (LsR.st (fun _ => PrS.st) v H H' g)
/-- a stand by the parts -/
def lst (p : Pa) (row : List Str) : Bool := !(p.wants.any fun q => decide (q.1 ∈ row) && !decide (q.2 ∈ row)) && !(p.bars.any fun q => decide (q.1 ∈ row) && decide (q.2 ∈ row))
def mts (I O row : List Str) : Bool := !(I.any fun x => !decide (x ∈ row)) && !(O.any fun x => decide (x ∈ row))
section
variable {P : Program} {w : World} {K : PySem.W.Frag} {mg : Str → Option Value} {base : Heap}
structure IB where
  v1 : V
  v2 : V
  v3 : V
  row : List Str
  other : List Str
  bars : List (Str × Str)
def sp__law_is_barred (K : PySem.W.Frag) : Sp := Pm (fun p : IB => [p.v1, p.v2, p.v3]) (fun B p H => TpS B p.row p.v1 H ∧ TpS B p.other p.v2 H ∧ SqP B p.bars p.v3 H ∧ p.bars.length ≤ 1000) (fun B p v H => v = .bl (brd p.row p.other p.bars))
theorem ok__law_is_barred (T : Fx K mg) : OK P w K mg base 1 (He.fAd K ("_law_is_barred", none)) (sp__law_is_barred K) := by
  obtain ⟨fd, F⟩ := T.dd 21 (d := d__law_is_barred) rfl
  have sc : FnScope ["_law_row", "_law_other", "_law_blocks", "_law_a", "_law_b"] ["_law_row", "_law_other", "_law_blocks"] (defScope (top 67)) := ⟨rfl, rfl, rfl, by decide +kernel, rfl, by decide +kernel, by decide +kernel⟩
  have nd := sc.nd
  refine OK.of (F.ok sc (fun vs H Q E h => by obtain ⟨B, a, h⟩ := h; first | (obtain ⟨rfl, _⟩ := h; rfl) | (obtain ⟨x, dx, rfl, _⟩ := h; rfl)) (fun cdv A outer s H vs Q E hr h => ⟨_, PSs.nox (pss_one (ps_ret (pe_cmpR (k_neD (K := K) hr.units) (pe_lc (own := [("_law_a", 3), ("_law_b", 4)]) rfl nd (k_seq (K := K) (pv 2)) (blkOk_by (by kernel_rfl)) (fun _ _ _ _ _ => (k_gtup (K := K) (n := 2) rfl (pgs_cons (pg_name (i := 3) nd rfl (Or.inl rfl)) (pgs_cons (pg_name (i := 4) nd rfl (Or.inl rfl)) pgs_nil)))) (fun _ _ _ _ _ => (pts_one (PW.pt (pw_or (PW.pt (pw_and (pt_cmpR (k_in (K := K)) (pv 3) (pv 0) (by with_unfolding_all rfl)) (pw_and1 (pt_cmpR (k_in (K := K)) (pv 4) (pv 1) (by with_unfolding_all rfl))))) (pw_or1 (PW.pt (pw_and (pt_cmpR (k_in (K := K)) (pv 4) (pv 0) (by with_unfolding_all rfl)) (pw_and1 (pt_cmpR (k_in (K := K)) (pv 3) (pv 1) (by with_unfolding_all rfl)))))))))) (fun _ _ _ _ _ => pe_int)) (pe_lst pa_nil) (nomark _)))), ?_⟩)) (F.bindsN fun _ _ _ _ _ _ us hl => match us, hl with | [_, _, _], _ => rfl)
  obtain ⟨B, ⟨v1, v2, v3, row, other, bars⟩, rfl, hb, ⟨h1, h2, h3, hz⟩, hq⟩ := h
  dsimp only at h1 h2 h3 hz
  refine s_ret (P := Is (.bl (brd row other bars))) (Go.refl hb) (y_is (y_nonemptyI (y_lcI (fun p => (decide (p.1 ∈ row) && decide (p.2 ∈ other)) || (decide (p.2 ∈ row) && decide (p.1 ∈ other))) (fun _ => 1) (yk_sR (y_var rfl) h3 fun _ => PrS.st).yi (Nat.le_trans hz (by decide)) yg_pair fun x σ2 H1 hx g1 s => ?_)) (congrArg V.bl (ne_any _ _ _))) fun v H1 _ g e => hq v H1 g e
  subst s
  have r1 := TpS.st _ _ _ g1 h1
  have r2 := TpS.st _ _ _ g1 h2
  exact ⟨rfl, yt_or (yt_and (yt_testI (y_in (y_var rfl) ((y_var rfl).rep r1 TpS.st).tp)) fun _ => yt_testI (y_in (y_var rfl) ((y_var rfl).rep r2 TpS.st).tp)) fun _ => yt_and (yt_testI (y_in (y_var rfl) ((y_var rfl).rep r1 TpS.st).tp)) fun _ => yt_testI (y_in (y_var rfl) ((y_var rfl).rep r2 TpS.st).tp), fun _ => y_c⟩
structure IS where
  v1 : V
  v2 : V
  p : Pa
  row : List Str
def sp__law_is_stand (K : PySem.W.Frag) : Sp := Pm (fun p : IS => [p.v1, p.v2]) (fun B p H => PtR B p.p p.v1 H ∧ SqS B p.row p.v2 H) (fun B p v H => v = .bl (lst p.p p.row))
theorem y_part {B : Option Addr} {σ : L2.St} {H : Hp} {i : Nat} {a : Addr} {zs : List V} {k : Int} {v : V} (hi : σ[i]? = some (some (.ref a))) (t : At B H a (.tup zs)) (e : atI zs k = some v) : Y B (tOp (rIxT K) (tVar i) (tC (.int k))) σ H (Is v) := y_ixT (y_var hi) t y_c e
theorem ok__law_is_stand (T : Fx K mg) : OK P w K mg base 1 (He.fAd K ("_law_is_stand", none)) (sp__law_is_stand K) := by
  obtain ⟨fd, F⟩ := T.dd 24 (d := d__law_is_stand) rfl
  have sc : FnScope ["_law_parts_here", "_law_row", "_law_peg", "_law_needed", "_law_a", "_law_b"] ["_law_parts_here", "_law_row"] (defScope (top 70)) := ⟨rfl, rfl, rfl, by decide +kernel, rfl, by decide +kernel, by decide +kernel⟩
  have nd := sc.nd
  refine OK.of (F.ok sc (fun vs H Q E h => by obtain ⟨B, a, h⟩ := h; first | (obtain ⟨rfl, _⟩ := h; rfl) | (obtain ⟨x, dx, rfl, _⟩ := h; rfl)) (fun cdv A outer s H vs Q E hr h => ⟨_, PSs.nox (pss_cons (ps_if (pt_cmpR (k_neD (K := K) hr.units) (pe_lc (own := [("_law_peg", 2), ("_law_needed", 3)]) rfl nd (k_tup (K := K) (pe_ix (k_ixT (K := K)) (pv 0) pe_int (fun _ _ => rfl))) (blkOk_by (by kernel_rfl)) (fun _ _ _ _ _ => (k_gtup (K := K) (n := 2) rfl (pgs_cons (pg_name (i := 2) nd rfl (Or.inl rfl)) (pgs_cons (pg_name (i := 3) nd rfl (Or.inl rfl)) pgs_nil)))) (fun _ _ _ _ _ => (pts_one (PW.pt (pw_and (pt_cmpR (k_in (K := K)) (pv 2) (pv 1) (by with_unfolding_all rfl)) (pw_and1 (pt_cmpR (k_ni (K := K)) (pv 3) (pv 1) (by with_unfolding_all rfl))))))) (fun _ _ _ _ _ => pe_int)) (pe_lst pa_nil) (nomark _)) (pss_one (ps_ret pe_bl)) pss_nil)
    (pss_one (ps_ret (pe_cmpR (k_eqD (K := K) hr.units) (pe_lc (own := [("_law_a", 4), ("_law_b", 5)]) rfl nd (k_tup (K := K) (pe_ix (k_ixT (K := K)) (pv 0) pe_int (fun _ _ => rfl))) (blkOk_by (by kernel_rfl)) (fun _ _ _ _ _ => (k_gtup (K := K) (n := 2) rfl (pgs_cons (pg_name (i := 4) nd rfl (Or.inl rfl)) (pgs_cons (pg_name (i := 5) nd rfl (Or.inl rfl)) pgs_nil)))) (fun _ _ _ _ _ => (pts_one (PW.pt (pw_and (pt_cmpR (k_in (K := K)) (pv 4) (pv 1) (by with_unfolding_all rfl)) (pw_and1 (pt_cmpR (k_in (K := K)) (pv 5) (pv 1) (by with_unfolding_all rfl))))))) (fun _ _ _ _ _ => pe_int)) (pe_lst pa_nil) (nomark _))))), ?_⟩)) (F.bindsN fun _ _ _ _ _ _ us hl => match us, hl with | [_, _], _ => rfl)
  obtain ⟨B, ⟨v1, v2, ⟨vp, vw, vb, vc, pegs, wants, bars, costs⟩, row⟩, rfl, hb, ⟨⟨a, ea, ta, hp⟩, hr2⟩, hq⟩ := h
  cases (show v1 = .ref a from ea)
  dsimp only at ta hp hr2
  have hw := hp.ok.wants
  have hbr := hp.ok.bars
  have z2 := hp.ok.z2
  have z3 := hp.ok.z3
  dsimp only at hw hbr z2 z3
  refine q_when (b := wants.any fun q => decide (q.1 ∈ row) && !decide (q.2 ∈ row)) (Go.refl hb) (yt_testI (y_is (y_nonemptyI (y_lcI (fun q => decide (q.1 ∈ row) && !decide (q.2 ∈ row)) (fun _ => 1) (yk_tR (y_part rfl ta rfl) hw fun _ => PrS.st).yi (Nat.le_trans z2 (by decide)) yg_pair fun x σ2 H1 hx g1 s => ?_)) (congrArg V.bl (ne_any _ _ _)))) (fun e H1 g1 _ => ?_) fun e H1 g1 _ => ?_
  · subst s
    have r1 := SqS.st _ _ _ g1 hr2
    exact ⟨rfl, yt_and (yt_testI (y_in (y_var rfl) ((y_var rfl).rep r1 SqS.st))) fun _ => yt_testI (y_ni (y_var rfl) ((y_var rfl).rep r1 SqS.st)), fun _ => y_c⟩
  · refine s_ret (Go.refl g1.2) y_c fun v H2 g2 _ h => hq v H2 (g1.trans g2) ?_
    rw [show v = _ from h]
    show V.bl false = V.bl (lst _ row)
    unfold lst
    dsimp only
    rw [e] <;> rfl
  · refine s_ret (P := Is (.bl (!bars.any fun q => decide (q.1 ∈ row) && decide (q.2 ∈ row)))) (Go.refl g1.2) (y_is (y_emptyI (y_lcI (fun q => decide (q.1 ∈ row) && decide (q.2 ∈ row)) (fun _ => 1) (yk_tR (y_part rfl (ta.go g1) rfl) (TpR.st (fun _ => PrS.st) _ _ _ g1 hbr) fun _ => PrS.st).yi (Nat.le_trans z3 (by decide)) yg_pair fun x σ2 H2 hx g2 s => ?_)) (congrArg V.bl (em_any _ _ _))) fun v H2 g2 _ h => hq v H2 (g1.trans g2) ?_
    · subst s
      have r1 := SqS.st _ _ _ (g1.trans g2) hr2
      exact ⟨rfl, yt_and (yt_testI (y_in (y_var rfl) ((y_var rfl).rep r1 SqS.st))) fun _ => yt_testI (y_in (y_var rfl) ((y_var rfl).rep r1 SqS.st)), fun _ => y_c⟩
    · rw [show v = _ from h]
      show _ = V.bl (lst _ row)
      unfold lst
      dsimp only
      rw [e] <;> rfl
structure MT where
  v1 : V
  v2 : V
  row : List Str
  h : Ho
def sp__law_meets (K : PySem.W.Frag) : Sp := Pm (fun p : MT => [p.v1, p.v2]) (fun B p H => SqS B p.row p.v1 H ∧ HoR B p.h p.v2 H ∧ p.h.I.length ≤ 100 ∧ p.h.O.length ≤ 100) (fun B p v H => v = .bl (mts p.h.I p.h.O p.row))
theorem y_catI {B : Option Addr} {σ : L2.St} {H : Hp} {ta tb : TE} {xs ys : List Int} (ha : Y B ta σ H (LsI B xs)) (hb : Y B tb σ H (LsI B ys)) (hz : xs.length + ys.length ≤ 100000) : Y B (tOp rCat ta tb) σ H (LsI B (xs ++ ys)) :=
  y_opG LsI.st ha hb fun x y H1 g ⟨a, e, t⟩ ⟨b, e2, t2⟩ Q q => ⟨a, b, _, _, e, e2, t.2, t2.2, by rw [List.length_map, List.length_map]; exact zl hz, fun p hp => q _ _ (Go.new g.2 hp) ⟨p, rfl, by rw [List.map_append]; exact At.new g.2 hp⟩⟩
theorem ok__law_meets (T : Fx K mg) : OK P w K mg base 1 (He.fAd K ("_law_meets", none)) (sp__law_meets K) := by
  obtain ⟨fd, F⟩ := T.dd 27 (d := d__law_meets) rfl
  have sc : FnScope ["_law_row", "_law_hopes", "_law_peg"] ["_law_row", "_law_hopes"] (defScope (top 73)) := ⟨rfl, rfl, rfl, by decide +kernel, rfl, by decide +kernel, by decide +kernel⟩
  have nd := sc.nd
  refine OK.of (F.ok sc (fun vs H Q E h => by obtain ⟨B, a, h⟩ := h; first | (obtain ⟨rfl, _⟩ := h; rfl) | (obtain ⟨x, dx, rfl, _⟩ := h; rfl)) (fun cdv A outer s H vs Q E hr h => ⟨_, PSs.nox (pss_one (ps_ret (pe_cmpR (k_eqD (K := K) hr.units) (pe_op op_cat (pe_lc (own := [("_law_peg", 2)]) rfl nd (k_list (K := K) (pe_ix (k_ixT (K := K)) (pv 1) pe_int (fun _ _ => rfl))) (blkOk_by (by kernel_rfl)) (fun _ _ _ _ _ => (pg_name (i := 2) nd rfl (Or.inl rfl))) (fun _ _ _ _ _ => (pts_one (pt_cmpR (k_ni (K := K)) (pv 2) (pv 0) (by with_unfolding_all rfl)))) (fun _ _ _ _ _ => pe_int)) (pe_lc (own := [("_law_peg", 2)]) rfl nd (k_list (K := K) (pe_ix (k_ixT (K := K)) (pv 1) pe_int (fun _ _ => rfl))) (blkOk_by (by kernel_rfl)) (fun _ _ _ _ _ => (pg_name (i := 2) nd rfl (Or.inl rfl))) (fun _ _ _ _ _ => (pts_one (pt_cmpR (k_in (K := K)) (pv 2) (pv 0) (by with_unfolding_all rfl)))) (fun _ _ _ _ _ => pe_int))) (pe_lst pa_nil) (nomark _)))), ?_⟩)) (F.bindsN fun _ _ _ _ _ _ us hl => match us, hl with | [_, _], _ => rfl)
  obtain ⟨B, ⟨v1, v2, row, ⟨vi, vo, I, O⟩⟩, rfl, hb, ⟨h1, ⟨a, ea, ta, hi, ho⟩, z1, z2⟩, hq⟩ := h
  cases (show v2 = .ref a from ea)
  dsimp only at ta h1 hi ho z1 z2
  have l1 := List.length_filter_le (fun x => !decide (x ∈ row)) I
  have l2 := List.length_filter_le (fun x => decide (x ∈ row)) O
  refine s_ret (P := Is (.bl (mts I O row))) (Go.refl hb) (y_is (y_emptyI (y_catI (y_lcI (fun x => !decide (x ∈ row)) (fun _ => 1) (yk_lS (y_part rfl ta rfl) hi).yi (Nat.le_trans z1 (by decide)) yg_s fun x σ2 H1 hx g1 s => ?_) (y_lcI (fun x => decide (x ∈ row)) (fun _ => 1) (yk_lS (y_part rfl ta rfl) ho).yi (Nat.le_trans z2 (by decide)) yg_s fun x σ2 H1 hx g1 s => ?_) (by rw [List.length_map, List.length_map]; omega))) (congrArg V.bl ?_)) fun v H1 _ g e => hq v H1 g e
  · subst s
    exact ⟨rfl, yt_testI (y_ni (y_var rfl) ((y_var rfl).rep (SqS.st _ _ _ g1 h1) SqS.st)), fun _ => y_c⟩
  · subst s
    exact ⟨rfl, yt_testI (y_in (y_var rfl) ((y_var rfl).rep (SqS.st _ _ _ g1 h1) SqS.st)), fun _ => y_c⟩
  · unfold mts
    rw [emp_app, em_any, em_any]
end
end NP
end
section
set_option Elab.async false
set_option linter.all false
set_option maxRecDepth 100000
set_option maxHeartbeats 4000000
/-! The law's rows. -/
namespace NP
open PySem PySem.Spec PyProof.Rows L2
/-! ### plain: what is reached -/
inductive Rch (ws : List (Str × Str)) : Str → Str → Prop
  | refl (p : Str) : Rch ws p p
  | step {p q x : Str} : (p, q) ∈ ws → Rch ws q x → Rch ws p x
theorem Rch.mono {ws ws' : List (Str × Str)} (h : ∀ q ∈ ws, q ∈ ws') {p x : Str} (r : Rch ws p x) : Rch ws' p x := by
  induction r with
  | refl p => exact .refl p
  | step a _ ih => exact .step (h _ a) ih
theorem Rch.trans {ws : List (Str × Str)} {p x y : Str} (r : Rch ws p x) (s : Rch ws x y) : Rch ws p y := by
  induction r with
  | refl p => exact s
  | step a _ ih => exact .step a (ih s)
theorem rch_snoc {ws : List (Str × Str)} {q : Str × Str} {p x : Str} : Rch (ws ++ [q]) p x ↔ Rch ws p x ∨ (Rch ws p q.1 ∧ Rch ws q.2 x) := by
  constructor
  · intro r
    induction r with
    | refl p => exact .inl (.refl p)
    | @step p r x a _ ih =>
      rcases List.mem_append.mp a with a | a
      · rcases ih with ih | ih
        · exact .inl (.step a ih)
        · exact .inr ⟨.step a ih.1, ih.2⟩
      · have e := List.mem_singleton.mp a
        subst e
        rcases ih with ih | ih
        · exact .inr ⟨.refl _, ih⟩
        · exact .inr ⟨.refl _, ih.2⟩
  · rintro (h | h)
    · exact h.mono fun q' hq => List.mem_append.mpr (.inl hq)
    · refine (h.1.mono fun q' hq => List.mem_append.mpr (.inl hq)).trans (.step (q := q.2) (List.mem_append.mpr (.inr (List.mem_singleton.mpr rfl))) (h.2.mono fun q' hq => List.mem_append.mpr (.inl hq)))
theorem fold_rch : ∀ (ws vs : List (Str × Str)) (f : Str → List Str), (∀ p x, x ∈ f p ↔ Rch vs p x) → ∀ p x, x ∈ ws.foldl nst f p ↔ Rch (vs ++ ws) p x
  | [], vs, f, h, p, x => by rw [List.append_nil]; exact h p x
  | q :: ws, vs, f, h, p, x => by
    have z := fold_rch ws (vs ++ [q]) (nst f q) (fun p x => by
      show x ∈ lr (f p) q.1 (f q.2) ↔ _
      rw [lr_mem, rch_snoc, h, h, h]) p x
    rw [List.append_assoc] at z
    exact z
theorem nr_rch {ws : List (Str × Str)} {p x : Str} : x ∈ nr ws p ↔ Rch ws p x := by
  have z := fold_rch ws [] (fun p => [p]) (fun p x => by
    rw [List.mem_singleton]
    constructor
    · rintro rfl
      exact .refl _
    · intro r
      cases r with
      | refl => rfl
      | step a _ => cases a) p x
  exact z
/-- the law's step, a pass, passes -/
def lst1 (f : Str → List Str) (q : Str × Str) : Str → List Str := fun o => if o = q.1 then f q.1 ++ (f q.2).filter (fun x => !decide (x ∈ f q.1)) else f o
def pass (ws : List (Str × Str)) (f : Str → List Str) : Str → List Str := ws.foldl lst1 f
def passes (ws : List (Str × Str)) : Nat → Str → List Str
  | 0 => fun p => [p]
  | n + 1 => pass ws (passes ws n)
theorem lst1_mem {f : Str → List Str} {q : Str × Str} {o x : Str} : x ∈ lst1 f q o ↔ x ∈ f o ∨ (o = q.1 ∧ x ∈ f q.2) := by
  unfold lst1
  split
  · rename_i h
    subst h
    rw [List.mem_append, List.mem_filter]
    constructor
    · rintro (h1 | h1)
      · exact .inl h1
      · exact .inr ⟨rfl, h1.1⟩
    · rintro (h1 | h1)
      · exact .inl h1
      · by_cases hx : x ∈ f q.1
        · exact .inl hx
        · exact .inr ⟨h1.2, by simp [hx]⟩
  · rename_i h
    constructor
    · exact .inl
    · rintro (h1 | h1)
      · exact h1
      · exact absurd h1.1 h
theorem pass_mono : ∀ (ws : List (Str × Str)) (f : Str → List Str) {o x : Str}, x ∈ f o → x ∈ pass ws f o
  | [], _, _, _, h => h
  | q :: ws, f, _, _, h => pass_mono ws (lst1 f q) (lst1_mem.mpr (.inl h))
theorem pass_has : ∀ (ws : List (Str × Str)) (f : Str → List Str) {p q x : Str}, (p, q) ∈ ws → x ∈ f q → x ∈ pass ws f p
  | [], _, _, _, _, h, _ => by cases h
  | a :: ws, f, p, q, x, h, hx => by
    rcases List.mem_cons.mp h with e | h
    · subst e
      exact pass_mono ws _ (lst1_mem.mpr (.inr ⟨rfl, hx⟩))
    · exact pass_has ws (lst1 f a) h (lst1_mem.mpr (.inl hx))
/-- what holds of the rows on the way -/
structure PsOk (pegs : List Str) (ws : List (Str × Str)) (o : Str) (row : List Str) : Prop where
  nd : row.Nodup
  sub : ∀ x ∈ row, x ∈ pegs
  rch : ∀ x ∈ row, Rch ws o x
  self : o ∈ row
theorem lst1_ok {pegs : List Str} {ws : List (Str × Str)} {f : Str → List Str} {q : Str × Str} (h : ∀ o ∈ pegs, PsOk pegs ws o (f o)) (hq : q ∈ ws) (q1 : q.1 ∈ pegs) (q2 : q.2 ∈ pegs) : ∀ o ∈ pegs, PsOk pegs ws o (lst1 f q o) := fun o ho => by
  refine ⟨?_, fun x hx => ?_, fun x hx => ?_, lst1_mem.mpr (.inl (h o ho).self)⟩
  · unfold lst1
    split
    · rw [List.nodup_append]
      refine ⟨(h _ q1).nd, (h _ q2).nd.filter _, fun a ha b hb e => ?_⟩
      subst e
      have := (List.mem_filter.mp hb).2
      simp [ha] at this
    · exact (h o ho).nd
  · rcases lst1_mem.mp hx with z | z
    · exact (h o ho).sub x z
    · exact (h _ q2).sub x z.2
  · rcases lst1_mem.mp hx with z | z
    · exact (h o ho).rch x z
    · rw [z.1]
      exact .step hq ((h _ q2).rch x z.2)
theorem fold1_ok {pegs : List Str} {ws : List (Str × Str)} : ∀ (vs : List (Str × Str)) (f : Str → List Str), (∀ q ∈ vs, q ∈ ws ∧ q.1 ∈ pegs ∧ q.2 ∈ pegs) → (∀ o ∈ pegs, PsOk pegs ws o (f o)) → ∀ o ∈ pegs, PsOk pegs ws o (vs.foldl lst1 f o)
  | [], _, _, h => h
  | q :: vs, f, hv, h => fold1_ok vs (lst1 f q) (fun q' hq => hv q' (List.mem_cons_of_mem _ hq)) (lst1_ok h (hv q List.mem_cons_self).1 (hv q List.mem_cons_self).2.1 (hv q List.mem_cons_self).2.2)
theorem passes_ok {pegs : List Str} {ws : List (Str × Str)} (hw : ∀ q ∈ ws, q.1 ∈ pegs ∧ q.2 ∈ pegs) : ∀ n, ∀ o ∈ pegs, PsOk pegs ws o (passes ws n o)
  | 0 => fun o ho => ⟨by show [o].Nodup; simp, fun x hx => by rw [List.mem_singleton.mp hx]; exact ho, fun x hx => by rw [List.mem_singleton.mp hx]; exact .refl _, List.mem_singleton.mpr rfl⟩
  | n + 1 => fold1_ok ws _ (fun q hq => ⟨hq, hw q hq⟩) (passes_ok hw n)
theorem passes_self {ws : List (Str × Str)} : ∀ (n : Nat) (p : Str), p ∈ passes ws n p
  | 0, p => List.mem_singleton.mpr rfl
  | n + 1, p => pass_mono ws _ (passes_self n p)
theorem passes_full {ws : List (Str × Str)} {r : Str → Nat} (hr : ∀ q ∈ ws, r q.2 < r q.1) : ∀ (n : Nat) {p x : Str}, r p ≤ n → Rch ws p x → x ∈ passes ws n p
  | 0, p, x, h, hx => by
    cases hx with
    | refl => exact List.mem_singleton.mpr rfl
    | step a _ =>
      have := hr _ a
      dsimp only at this
      omega
  | n + 1, p, x, h, hx => by
    cases hx with
    | refl => exact passes_self (n + 1) p
    | step a b => exact pass_has ws _ a (passes_full hr n (by have := hr _ a; dsimp only at this; omega) b)
end NP
end
section
set_option Elab.async false
set_option linter.all false
set_option maxRecDepth 100000
set_option maxHeartbeats 4000000
/-! The law's rows: the walk. -/
namespace NP
open PySem PySem.Spec PyProof.Rows L2
section
variable {α : Type} {B : Option Addr} {σ : L2.St} {H H0 : Hp} {te td ty tv : TE} {K : PySem.W.Frag} {D : Ends} {R : α → V → Hp → Prop} {xs : List (Str × α)}
theorem it_split {H : Hp} : ∀ {xs : List (Str × α)} {zs : List V}, Paired (fun x z => ItR B R x z H) xs zs → ∃ (ps : List Addr) (kvs : List (Key × V)), zs = ps.map V.ref ∧ Paired (fun p kv => SqT K H p [kV kv.1, kv.2]) ps kvs ∧ Paired (fun (x : Str × α) (kv : Key × V) => kv.1 = Sum.inr x.1 ∧ R x.2 kv.2 H) xs kvs
  | _, _, .nil => ⟨[], [], rfl, .nil, .nil⟩
  | x :: xs, z :: zs, .cons hx hr => by
    obtain ⟨ps, kvs, e1, e2, e3⟩ := it_split hr
    obtain ⟨T, z', ez, tz, rz⟩ := hx
    exact ⟨T :: ps, (.inr x.1, z') :: kvs, by rw [ez, e1] <;> rfl, .cons tz.st e2, .cons ⟨rfl, rz⟩ e3⟩
theorem keys_of {β : Type} {Q : α → V → Prop} : ∀ {xs : List (Str × α)} {kvs : List (Key × V)}, Paired (fun (x : Str × α) (kv : Key × V) => kv.1 = Sum.inr x.1 ∧ Q x.2 kv.2) xs kvs → kvs.map (·.1) = xs.map fun x => (Sum.inr x.1 : Key)
  | _, _, .nil => rfl
  | x :: xs, kv :: kvs, .cons hx hr => by rw [List.map_cons, List.map_cons, keys_of (β := β) hr, hx.1]
/-- dict([(k, v), ..]), the keys distinct -/
theorem y_dictP (sR : ∀ x, St B (R x)) (hn : (xs.map (·.1)).Nodup) (h : Y B te σ H (LsR B (ItR B R) xs)) : Y B (tCB (fun xs H Q => ∃ (a : Addr) (ps : List Addr) (kvs : List (Key × V)), xs = [.ref a] ∧ SqL K H a (ps.map V.ref) ∧ Paired (fun p kv => SqT K H p [kV kv.1, kv.2]) ps kvs ∧
    ∀ p, H p = none → Q (.ref p) (upd H p (.dK (mergeK [] kvs)))) (tCons te tNil)) σ H (fun v H' => DcR B R xs v H' ∧ ∃ a, v = .ref a ∧ H a = none) := fun H1 g Q q =>
  h H1 g _ fun v H2 g2 ⟨a, zs, e, t, p⟩ => by
    obtain ⟨ps, kvs, e1, e2, e3⟩ := it_split (K := K) p
    subst e1
    have ek : mergeK [] kvs = kvs := by
      rw [merge_new ?_ fun _ _ => rfl, List.nil_append]
      rw [keys_of (β := Nat) (Q := fun x v => R x v H2) e3]
      show (xs.map ((fun x => (Sum.inr x : Key)) ∘ (·.1))).Nodup
      rw [← List.map_map]
      exact List.Pairwise.map _ (fun a b h e => h (Sum.inr.inj e)) hn
    refine ⟨a, ps, kvs, by rw [e], t.sl, e2, fun p' hp => ?_⟩
    rw [ek]
    have gn : Go B H2 (upd H2 p' (.dK kvs)) := Go.new g2.2 hp
    exact q _ _ (g2.trans gn) ⟨⟨p', kvs, rfl, At.new g2.2 hp, e3.mono fun x kv h => ⟨h.1, sR _ _ _ _ gn h.2⟩⟩, p', rfl, (g.trans g2).fresh hp⟩
theorem put_paired {f : Str → α} {p : Str} {r : α} {v : V} {H : Hp} (hr : R r v H) : ∀ {pegs : List Str} {kvs : List (Key × V)}, Paired (fun (x : Str × α) (kv : Key × V) => kv.1 = Sum.inr x.1 ∧ R x.2 kv.2 H) (pegs.map fun o => (o, f o)) kvs → Paired (fun (x : Str × α) (kv : Key × V) => kv.1 = Sum.inr x.1 ∧ R x.2 kv.2 H) (pegs.map fun o => (o, if o = p then r else f o)) (kvs.map fun kv => if kv.1 = Sum.inr p then (kv.1, v) else kv)
  | [], _, .nil => .nil
  | o :: pegs, kv :: kvs, .cons a b => by
    refine .cons ?_ (put_paired hr b)
    dsimp only
    by_cases e : o = p
    · subst e
      rw [if_pos a.1, if_pos rfl]
      exact ⟨a.1, hr⟩
    · rw [if_neg (fun z => e (Sum.inr.inj (a.1.symm.trans z))), if_neg e]
      exact a
theorem putK_has {kvs : List (Key × V)} {k : Key} {v u : V} (h : valV kvs k = some u) : putK kvs k v = kvs.map fun kv => if kv.1 = k then (kv.1, v) else kv := by
  unfold putK
  rw [valV_any, h]
  exact if_pos rfl
/-- d[k] = v, the key there -/
theorem s_dput {f : Str → α} {pegs : List Str} {d : Addr} {n m : Nat} {p : Str} {r : α} {kvs : List (Key × V)} (sR : ∀ x, St B (R x)) (nR : ∀ x, NoK (R x)) (g : Go B H0 H) (hσ : σ[n]? = some (some (.ref d))) (hσ2 : σ[m]? = some (some (.str p))) (t : At B H0 d (.dK kvs)) (hD : Paired (fun (x : Str × α) (kv : Key × V) => kv.1 = Sum.inr x.1 ∧ R x.2 kv.2 H0) (pegs.map fun o => (o, f o)) kvs) (hp : p ∈ pegs) (hz : pegs.length < 100000) (hv : Y B tv σ H0 (R r))
    (k : ∀ H2 kvs', Go B H0 H2 → Paired (fun (x : Str × α) (kv : Key × V) => kv.1 = Sum.inr x.1 ∧ R x.2 kv.2 (upd H2 d (.dK kvs'))) (pegs.map fun o => (o, if o = p then r else f o)) kvs' → D.nx σ (upd H2 d (.dK kvs'))) : sDPut (tVar n) (tVar m) tv D σ H :=
  hv H g _ fun v H1 g1 hr => by
    have g01 := g.trans g1
    have hD1 : Paired (fun (x : Str × α) (kv : Key × V) => kv.1 = Sum.inr x.1 ∧ R x.2 kv.2 H1) (pegs.map fun o => (o, f o)) kvs := hD.mono fun x kv h => ⟨h.1, sR _ _ _ _ g01 h.2⟩
    obtain ⟨u, hu, _⟩ := dc_val hD1 hp
    have hl := hD1.length
    rw [List.length_map] at hl
    refine ⟨_, hσ, _, hσ2, d, upd H1 d (.dK (putK kvs (.inr p) v)), rfl, .inl ⟨kvs, .inr p, (t.go g01).2, rfl, zt (by omega), rfl⟩, k H1 _ g01 ?_⟩
    rw [putK_has hu]
    exact (put_paired hr hD1).mono fun x kv h => ⟨h.1, nR _ _ _ _ _ _ h.2 (t.go g01).2 True.intro⟩
end
theorem Cmp.all {α β : Type} {val : α → β → Prop} : ∀ {xs : List α} {ys : List β}, Cmp (fun _ b => b = true) val xs ys → Paired val xs ys
  | _, _, .nil => .nil
  | _, _, .skip a b => nomatch a
  | _, _, .take a b c => .cons b c.all
theorem fold_take1 {ws : List (Str × Str)} {f : Str → List Str} {i : Nat} {q : Str × Str} (h : ws[i]? = some q) : (ws.take (i + 1)).foldl lst1 f = lst1 ((ws.take i).foldl lst1 f) q := by
  rw [List.take_add_one, h, List.foldl_append] <;> rfl
section
variable {P : Program} {w : World} {K : PySem.W.Frag} {mg : Str → Option Value} {base : Heap}
structure LR where
  v1 : V
  v2 : V
  pegs : List Str
  wants : List (Str × Str)
structure LrOk (pegs : List Str) (wants : List (Str × Str)) : Prop where
  nd : pegs.Nodup
  z : pegs.length ≤ 12
  in_ : ∀ q ∈ wants, q.1 ∈ pegs ∧ q.2 ∈ pegs
  rk : ∃ r : Str → Nat, (∀ q ∈ wants, r q.2 < r q.1) ∧ ∀ x ∈ pegs, r x ≤ pegs.length
/-- the law's row of a peg -/
def lrow (pegs : List Str) (wants : List (Str × Str)) (p : Str) : List Str := pegs.filter fun x => decide (x ∈ nr wants p)
def sp__law_rows (K : PySem.W.Frag) : Sp := Pm (fun p : LR => [p.v1, p.v2]) (fun B p H => SqS B p.pegs p.v1 H ∧ SqP B p.wants p.v2 H ∧ LrOk p.pegs p.wants) (fun B p v H => DcR B (TpS B) (p.pegs.map fun x => (x, lrow p.pegs p.wants x)) v H)
theorem lrow_eq {pegs : List Str} {wants : List (Str × Str)} (h : LrOk pegs wants) {p : Str} (hp : p ∈ pegs) : (pegs.filter fun x => decide (x ∈ passes wants pegs.length p)) = lrow pegs wants p := by
  refine List.filter_congr fun x hx => decide_eq_decide.mpr ?_
  obtain ⟨r, h1, h2⟩ := h.rk
  rw [nr_rch]
  exact ⟨(passes_ok h.in_ _ p hp).rch x, passes_full h1 _ (h2 p hp)⟩
theorem ok__law_rows (T : Fx K mg) : OK P w K mg base 1 (He.fAd K ("_law_rows", none)) (sp__law_rows K) := by
  obtain ⟨fd, F⟩ := T.dd 20 (d := d__law_rows) rfl
  have n_dict := T.free 51 rfl
  have n_len := T.free 38 rfl
  have n_range := T.free 46 rfl
  have n_tuple := T.free 40 rfl
  have sc : FnScope ["_law_pegs", "_law_wants", "_law_found", "_law_turn", "_law_peg", "_law_needed", "_law_one"] ["_law_pegs", "_law_wants"] (defScope (top 66)) := ⟨rfl, rfl, rfl, by decide +kernel, rfl, by decide +kernel, by decide +kernel⟩
  have nd := sc.nd
  refine OK.of (F.ok sc (fun vs H Q E h => by obtain ⟨B, a, h⟩ := h; first | (obtain ⟨rfl, _⟩ := h; rfl) | (obtain ⟨x, dx, rfl, _⟩ := h; rfl)) (fun cdv A outer s H vs Q E hr h => ⟨_, PSs.nox (pss_cons (ps_set (i := 2) nd rfl (Or.inr rfl) (pe_callTy (k_dictP (K := K) rfl) rfl n_dict (by rfl) (pa_cons (pe_lc (own := [("_law_peg", 4)]) rfl nd (k_seq (K := K) (pv 0)) (blkOk_by (by kernel_rfl)) (fun _ _ _ _ _ => (pg_name (i := 4) nd rfl (Or.inl rfl))) (fun _ _ _ _ _ => pts_nil) (fun _ _ _ _ _ => (pe_tup (pa_cons (pv 4) (pa_cons (pe_lst (pa_cons (pv 4) pa_nil)) pa_nil))))) pa_nil)))
    (pss_cons (ps_for PassesOwn.never rfl (pi_range1 rfl n_range (pa_cons (pe_callB (k_len (K := K)) rfl n_len (by rfl) (pa_cons (pv 0) pa_nil)) pa_nil)) (pg_name (i := 3) nd rfl (Or.inl rfl)) (pss_one (ps_for PassesOwn.never rfl (k_seq (K := K) (pv 1)) (k_gtup (K := K) (n := 2) rfl (pgs_cons (pg_name (i := 4) nd rfl (Or.inr rfl)) (pgs_cons (pg_name (i := 5) nd rfl (Or.inl rfl)) pgs_nil))) (pss_one (ps_dput (hu_of hr) (pv 2) (pv 4) (pe_op op_cat (pe_dget (hu_of hr) (pv 2) (pv 4) (fun _ _ => rfl)) (pe_lc (own := [("_law_one", 6)]) rfl nd (k_list (K := K) (pe_dget (hu_of hr) (pv 2) (pv 5) (fun _ _ => rfl))) (blkOk_by (by kernel_rfl)) (fun _ _ _ _ _ => (pg_name (i := 6) nd rfl (Or.inl rfl))) (fun _ _ _ _ _ => (pts_one (pt_cmpR (k_ni (K := K)) (pv 6) (pe_dget (hu_of hr) (pv 2) (pv 4) (fun _ _ => rfl)) (by with_unfolding_all rfl)))) (fun _ _ _ _ _ => (pv 6)))) rfl)))))
    (pss_one (ps_ret (pe_callTy (k_dictP (K := K) rfl) rfl n_dict (by rfl) (pa_cons (pe_lc (own := [("_law_peg", 4)]) rfl nd (k_seq (K := K) (pv 0)) (blkOk_by (by kernel_rfl)) (fun _ _ _ _ _ => (pg_name (i := 4) nd rfl (Or.inr rfl))) (fun _ _ _ _ _ => pts_nil) (fun _ _ _ _ _ => (pe_tup (pa_cons (pv 4) (pa_cons (k_tupleOf (K := K) rfl n_tuple (pe_lc (own := [("_law_one", 6)]) rfl nd (k_seq (K := K) (pv 0)) (blkOk_by (by kernel_rfl)) (fun _ _ _ _ _ => (pg_name (i := 6) nd rfl (Or.inl rfl))) (fun _ _ _ _ _ => (pts_one (pt_cmpR (k_in (K := K)) (pv 6) (pe_dget (hu_of hr) (pv 2) (pv 4) (fun _ _ => rfl)) (by with_unfolding_all rfl)))) (fun _ _ _ _ _ => (pv 6)))) pa_nil))))) pa_nil)))))), ?_⟩)) (F.bindsN fun _ _ _ _ _ _ us hl => match us, hl with | [_, _], _ => rfl)
  obtain ⟨B, ⟨v1, v2, pegs, wants⟩, rfl, hb, ⟨h1, h2, hk⟩, hq⟩ := h
  dsimp only at h1 h2 hk
  have hz := hk.z
  have idn : (pegs.map fun x => x).Nodup := by rw [List.map_id']; exact hk.nd
  refine q_asg (P := fun v H' => DcR B (LsS B) (pegs.map fun p => (p, [p])) v H' ∧ ∃ a, v = .ref a ∧ H a = none) (Go.refl hb) (y_dictP (fun _ => LsS.st) (by rw [List.map_map]; exact idn) ((y_lcG (as := pegs) (R := SV) (S := fun a σ2 _ => σ2 = [some v1, some v2, none, none, some (.str a), none, none]) (tst := fun _ b => b = true) (val := fun D a z H => ∃ T l, z = .ref T ∧ At B H T (.tup [.str a, .ref l]) ∧ At B H l (.lst [.str a]) ∧ l ≠ D) (yk_sS (y_var rfl) h1).yi (Nat.le_trans hz (by decide)) (fun a x H _ e Q q => by
      rw [show x = .str a from e]
      exact q _ rfl) (fun D x v H H' g ⟨T, l, e, t1, t2, n⟩ => ⟨T, l, e, t1.go g, t2.go g, n⟩) (fun D x v H zs zs' ⟨T, l, e, t1, t2, n⟩ hD => ⟨T, l, e, ⟨t1.1, by rw [upd_ne (ne_of t1.2 hD fun z => nomatch z)]; exact t1.2⟩, ⟨t2.1, by rw [upd_ne n]; exact t2.2⟩, n⟩) fun D a σ2 H1 ha g1 s hD => ?_).imp fun v H1 _ ⟨p, zs, e, t, _, c⟩ => ?_)) fun vd H1 g1 _ ⟨⟨d, kvs, ed, td, pd⟩, d', ed', nd'⟩ => ?_
  · subst s
    obtain ⟨zs0, hD⟩ := hD
    refine ⟨rfl, yt_yes, fun _ => (y_tup (ya_consG St.is (y_var rfl) (ya_consG (PA := fun v H' => ∃ l, v = .ref l ∧ At B H' l (.lst [.str a]) ∧ H1 l = none) (fun _ _ _ g ⟨l, e, t, n⟩ => ⟨l, e, t.go g, n⟩) (y_lstI (ya_cons (y_var rfl) ya_nil) (by simp)) ya_nil)) (fun vs H1 H2 g ⟨w1, r1, e1, q1, w2, r2, e2, ⟨l, e, t, n⟩, e3⟩ => ⟨w1, r1, e1, q1, w2, r2, e2, ⟨l, e, t.go g, n⟩, e3⟩) fun vs H1 ⟨w1, r1, e1, q1, w2, r2, e2, q2, e3⟩ => by
      rw [e1, e2, show r2 = [] from e3]
      show 2 ≤ 100000
      decide).imp fun v H2 _ ⟨T, vs, e, t, _, w1, r1, e1, q1, w2, r2, e2, ⟨l, el, tl, nl⟩, e3⟩ => ⟨T, l, e, ?_, tl, fun z => ?_⟩⟩
    · rw [e1, e2, show r2 = [] from e3, show w1 = _ from q1, el] at t
      exact t
    · rw [z, hD] at nl
      cases nl
  · exact ⟨p, zs, e, t, paired_mapL (c.all.mono fun a z ⟨T, l, e1, t1, t2, _⟩ => ⟨T, .ref l, e1, t1, l, rfl, t2⟩)⟩
  · rw [ed] at ed'
    cases ed'
    rw [ed]
    refine q_forK (R := fun i v _ => v = .int ((i : Nat) : Int)) (as := List.range pegs.length) (H0 := H) (fun i σ1 H2 => Go B H H2 ∧ ∃ w1 w2 w3, σ1 = [some v1, some v2, some (.ref d), w1, w2, w3, none] ∧ ∃ kvs, H2 d = some (.dK kvs) ∧ Paired (fun (x : Str × List Str) (kv : Key × V) => kv.1 = Sum.inr x.1 ∧ LsS B x.2 kv.2 H2) (pegs.map fun o => (o, passes wants i o)) kvs) (yk_rng (ya_cons (y_lenS ((y_var rfl).rep h1 SqS.st)) ya_nil) (Nat.le_trans hz (by decide))) g1 (fun H2 g2 => ⟨g1.trans g2, none, none, none, rfl, kvs, (td.go g2).2, pd.mono fun x kv h => ⟨h.1, LsS.st _ _ _ g2 h.2⟩⟩) (fun i σ1 H2 _ h => h.1) (fun i x σ1 H2 v H3 hx hI g3 r => ?_) fun σ1 H2 hI => ?_
    · obtain ⟨g2, w1, w2, w3, rfl, kvs2, hd2, pd2⟩ := hI
      rw [show v = _ from r]
      refine s_forK (R := PrS B) (as := wants) (H0 := H) (fun j σ1 H4 => Go B H H4 ∧ ∃ w2 w3, σ1 = [some v1, some v2, some (.ref d), some (.int (x : Nat)), w2, w3, none] ∧ ∃ kvs, H4 d = some (.dK kvs) ∧ Paired (fun (x : Str × List Str) (kv : Key × V) => kv.1 = Sum.inr x.1 ∧ LsS B x.2 kv.2 H4) (pegs.map fun o => (o, (wants.take j).foldl lst1 (passes wants i) o)) kvs) (yk_sR (y_var rfl) h2 fun _ => PrS.st) (g2.trans g3) (fun H4 g4 => ⟨(g2.trans g3).trans g4, w2, w3, rfl, kvs2, (At.go ⟨td.1, hd2⟩ (g3.trans g4)).2, pd2.mono fun x kv h => ⟨h.1, LsS.st _ _ _ (g3.trans g4) h.2⟩⟩) (fun j σ1 H4 _ h => h.1) (fun j y σ1 H4 v5 H5 hy hI g5 r5 => ?_) fun σ1 H4 hI => ?_
      · obtain ⟨g4, w2, w3, rfl, kvs4, hd4, pd4⟩ := hI
        refine yg_pair y v5 H5 g5.2 r5 _ fun σ2 e => ?_
        subst e
        have my := List.mem_of_getElem? hy
        obtain ⟨m1, m2⟩ := hk.in_ y my
        have td5 : At B H5 d (.dK kvs4) := At.go ⟨td.1, hd4⟩ g5
        have pd5 : Paired (fun (x : Str × List Str) (kv : Key × V) => kv.1 = Sum.inr x.1 ∧ LsS B x.2 kv.2 H5) (pegs.map fun o => (o, (wants.take j).foldl lst1 (passes wants i) o)) kvs4 := pd4.mono fun x kv h => ⟨h.1, LsS.st _ _ _ g5 h.2⟩
        have dz : DcZ B (LsS B) (pegs.map fun o => (o, (wants.take j).foldl lst1 (passes wants i) o)) (.ref d) H5 := ⟨d, kvs4, rfl, .inl td5, pd5⟩
        have ok := fold1_ok (pegs := pegs) (ws := wants) (wants.take j) (passes wants i) (fun q hq => ⟨List.mem_of_mem_take hq, hk.in_ q (List.mem_of_mem_take hq)⟩) (passes_ok hk.in_ i)
        have l1 : ((wants.take j).foldl lst1 (passes wants i) y.1).length ≤ 12 := Nat.le_trans (nodup_len (ok _ m1).nd (ok _ m1).sub) hz
        have l2 : ((wants.take j).foldl lst1 (passes wants i) y.2).length ≤ 12 := Nat.le_trans (nodup_len (ok _ m2).nd (ok _ m2).sub) hz
        refine s_dput (R := LsS B) (r := lst1 ((wants.take j).foldl lst1 (passes wants i)) y y.1) (fun _ => LsS.st) (fun _ => LsS.nk) (Go.refl g5.2) rfl rfl td5 pd5 m1 (Nat.lt_of_le_of_lt hz (by decide)) ?_ fun H6 kvs6 g6 p6 => ?_
        · have e : lst1 ((wants.take j).foldl lst1 (passes wants i)) y y.1 = (wants.take j).foldl lst1 (passes wants i) y.1 ++ ((wants.take j).foldl lst1 (passes wants i) y.2).filter (fun x => !decide (x ∈ (wants.take j).foldl lst1 (passes wants i) y.1)) := if_pos rfl
          rw [e]
          have lf := List.length_filter_le (fun x => !decide (x ∈ (wants.take j).foldl lst1 (passes wants i) y.1)) ((wants.take j).foldl lst1 (passes wants i) y.2)
          refine y_cat (y_dgetF (fun _ => LsS.st) (y_var rfl) dz (y_var rfl) m1) ((y_lcF (fun x => !decide (x ∈ (wants.take j).foldl lst1 (passes wants i) y.1)) (yi_list ((y_dgetF (fun _ => LsS.st) (y_var rfl) dz (y_var rfl) m2).imp fun v H1 _ h => LsS.r h) fun _ => SV.st) (Nat.le_trans l2 (by decide)) yg_s fun z σ3 H7 hz7 g7 s => ?_).imp fun v H1 _ h => h.1) (by omega)
          subst s
          exact ⟨rfl, yt_testI (y_ni (y_var rfl) (y_dgetF (fun _ => LsS.st) (y_var rfl) (DcZ.st (fun _ => LsS.st) _ _ _ g7 dz) (y_var rfl) m1).ls), fun _ => y_var rfl⟩
        · refine ⟨((g4.trans g5).trans g6).mut nd' td.1, _, _, rfl, kvs6, upd_same, ?_⟩
          rw [fold_take1 hy]
          have e : (fun o => (o, lst1 ((wants.take j).foldl lst1 (passes wants i)) y o)) = fun o => (o, if o = y.1 then lst1 ((wants.take j).foldl lst1 (passes wants i)) y y.1 else (wants.take j).foldl lst1 (passes wants i) o) := by
            funext o
            by_cases h : o = y.1
            · rw [if_pos h, h]
            · rw [if_neg h]
              unfold lst1
              rw [if_neg h]
          rw [e]
          exact p6
      · obtain ⟨g4, w2, w3, rfl, kvs4, hd4, pd4⟩ := hI
        rw [List.take_length] at pd4
        exact ⟨g4, _, _, _, rfl, kvs4, hd4, pd4⟩
    · obtain ⟨g2, w1, w2, w3, rfl, kvs2, hd2, pd2⟩ := hI
      rw [List.length_range] at pd2
      have dz : DcZ B (LsS B) (pegs.map fun o => (o, passes wants pegs.length o)) (.ref d) H2 := ⟨d, kvs2, rfl, .inl ⟨td.1, hd2⟩, pd2⟩
      refine s_ret (P := DcR B (TpS B) (pegs.map fun x => (x, lrow pegs wants x))) (Go.refl g2.2) ((y_dictP (fun _ => TpS.st) (by rw [List.map_map]; exact idn) ((y_lcR (as := pegs) (R := SV) (S := fun a σ2 _ => σ2 = [some v1, some v2, some (.ref d), w1, some (.str a), w3, none]) (fun _ => true) (val := fun a => ItR B (TpS B) (a, lrow pegs wants a)) (fun a _ _ _ g ⟨T, z, e, t, h⟩ => ⟨T, z, e, t.go g, TpS.st _ _ _ g h⟩) (fun a v H D zs zs' ⟨T, z, e, t, ⟨b, eb, tb⟩⟩ hD => ⟨T, z, e, ⟨t.1, by rw [upd_ne (ne_of t.2 hD fun z => nomatch z)]; exact t.2⟩, b, eb, tb.1, by rw [upd_ne (ne_of tb.2 hD fun z => nomatch z)]; exact tb.2⟩) (yk_sS (y_var rfl) (SqS.st _ _ _ g2 h1)).yi (Nat.le_trans hz (by decide)) (fun a x H _ e Q q => by
          rw [show x = .str a from e]
          exact q _ rfl) fun a σ2 H3 ha g3 s => ?_).imp fun v H3 _ h => ?_)).imp fun v H3 _ h => h.1) fun v H3 g3 _ h => hq v H3 (g2.trans g3) h
      · subst s
        refine ⟨rfl, yt_yes, fun _ => (y_tup (ya_consG St.is (y_var rfl) (ya_consG TpS.st (y_tupLS ((y_lcF (fun x => decide (x ∈ passes wants pegs.length a)) (yk_sS (y_var rfl) (SqS.st _ _ _ (g2.trans g3) h1)).yi (Nat.le_trans hz (by decide)) yg_s fun z σ3 H4 hz4 g4 s => ?_).imp fun v H1 _ h => h.1)) ya_nil)) (fun vs H1 H2 g ⟨w1, r1, e1, q1, w2, r2, e2, q2, e3⟩ => ⟨w1, r1, e1, q1, w2, r2, e2, TpS.st _ _ _ g q2, e3⟩) fun vs H1 ⟨w1, r1, e1, q1, w2, r2, e2, q2, e3⟩ => by
          rw [e1, e2, show r2 = [] from e3]
          show 2 ≤ 100000
          decide).imp fun v H4 _ ⟨T, vs, e, t, _, w1, r1, e1, q1, w2, r2, e2, q2, e3⟩ => ⟨T, w2, e, ?_, ?_⟩⟩
        · subst s
          exact ⟨rfl, yt_testI (y_in (y_var rfl) (y_dgetF (fun _ => LsS.st) (y_var rfl) (DcZ.st (fun _ => LsS.st) _ _ _ (g3.trans g4) dz) (y_var rfl) ha).ls), fun _ => y_var rfl⟩
        · rw [e1, e2, show r2 = [] from e3, show w1 = _ from q1] at t
          exact t
        · rw [lrow_eq hk ha] at q2
          exact q2
      · obtain ⟨⟨q, zs, e, t, p⟩, _⟩ := h
        rw [fil_all] at p
        exact ⟨q, zs, e, t, paired_mapL p⟩
end
end NP
end
section
set_option Elab.async false
set_option linter.all false
set_option maxRecDepth 100000
set_option maxHeartbeats 4000000
/-! Drawn stands and wishes. -/
namespace NP
open PySem PySem.Spec PyProof.Rows L2
section
variable {α : Type} {B : Option Addr} {σ : L2.St} {H H0 : Hp} {te tk ta tb : TE} {t u : TT} {K : PySem.W.Frag} {D : Ends} {R : α → V → Hp → Prop} {wi : TI} {g : TG} {tu tz : TS} {tt : TT} {vs : List Nat} {S : α → L2.St → Hp → Prop}
def YIX (B : Option Addr) (wi : TI) (σ : L2.St) (H : Hp) (G : List α → Prop) (R : α → V → Hp → Prop) : Prop := ∀ H1, Go B H H1 → ∀ K : It → Hp → Prop, (∀ as J H2, G as → Go B H1 H2 → Wk B J H2 as R → K J H2) → wi σ H1 K
theorem q_forX {G : List α → Prop} (hi : YIX B wi σ H0 G R) (g0 : Go B H0 H)
    (k : ∀ as, G as → ∀ H1, Go B H H1 → ∃ Inv : Nat → L2.St → Hp → Prop, Inv 0 σ H1 ∧ (∀ i σ1 H2, i ≤ as.length → Inv i σ1 H2 → Go B H1 H2) ∧
      (∀ i a σ1 H2 x H3, as[i]? = some a → Inv i σ1 H2 → Go B H2 H3 → R a x H3 → g x σ1 H3 fun σ2 H4 => tu { D with nx := Inv (i + 1), ct := Inv (i + 1), bk := tz D } σ2 H4) ∧ (∀ σ1 H2, Inv as.length σ1 H2 → tz D σ1 H2)) : tSeq (tFor wi g tu) tz D σ H :=
  hi H g0 _ fun as J H1 hG0 g1 w => by
    obtain ⟨Inv, h0, hG, hs, hd⟩ := k as hG0 H1 g1
    refine ⟨fun i m σ' H' => m = as.length - i ∧ i ≤ as.length ∧ Inv i σ' H', ⟨as.length, by omega, Nat.zero_le _, h0⟩, ?_⟩
    rintro i m σ' H' ⟨rfl, hle, hI⟩
    have gi := hG i σ' H' hle hI
    by_cases hlt : i < as.length
    · refine .inr ⟨w.go i H' hlt gi, fun σ2 H2 => i + 1 ≤ as.length ∧ Inv (i + 1) σ2 H2, fun σ2 H2 h2 => ⟨as.length - (i + 1), by omega, rfl, h2⟩, fun x H2 hy => ?_⟩
      obtain ⟨a, ha⟩ : ∃ a, as[i]? = some a := ⟨_, List.getElem?_eq_getElem hlt⟩
      obtain ⟨g2, r⟩ := w.yld i a H' x H2 ha gi hy
      have z := hs i a σ' H' x H2 ha hI g2 r
      have e1 : (fun σ2 H2 => i + 1 ≤ as.length ∧ Inv (i + 1) σ2 H2) = Inv (i + 1) := by
        funext σ2 H2
        exact propext ⟨fun h => h.2, fun h => ⟨hlt, h⟩⟩
      rw [e1]
      exact z
    · have e : i = as.length := by omega
      subst e
      exact .inl ⟨w.stop H' gi, hd σ' H' hI⟩
/-- a drawn list of texts -/
def LsG (B : Option Addr) (G : List Str → Prop) : V → Hp → Prop := fun v H => ∃ ys, LsS B ys v H ∧ G ys
theorem LsG.st {G : List Str → Prop} : St B (LsG B G) := fun _ _ _ g ⟨ys, h, e⟩ => ⟨ys, LsS.st _ _ _ g h, e⟩
theorem yix_list {G : List Str → Prop} (h : Y B te σ H (LsG B G)) : YIX B (iList K te) σ H G SV := fun H1 g Kk k =>
  h H1 g _ fun v H2 g2 ⟨ys, l, hG⟩ => by
    obtain ⟨a, zs, e, t, p⟩ := l.r
    exact ⟨a, e, ⟨zs, t.sl⟩, k ys _ H2 hG g2 (wk_list t p fun _ => SV.st)⟩
def NtR (n : Nat) : V → Hp → Prop := fun v _ => ∃ d : Nat, d < n ∧ v = .int (d : Int)
theorem y_slG {G G' : List Str → Prop} {n : Nat} (h : Y B te σ H (LsG B G)) (hk : Y B tk σ H (NtR n)) (hG : ∀ ys d, d < n → G ys → G' (ys.take d)) : Y B (tSl (rSlL K) te tNoPart (tPart tk)) σ H (LsG B G') := fun H1 g Q q =>
  h H1 g _ fun v H2 g2 ⟨ys, ⟨a, e, t⟩, hg⟩ => hk H2 (g.trans g2) _ fun w H3 g3 ⟨d, hd, ew⟩ => ⟨d, ew, a, _, e, (t.go g3).sl, fun p hp => q _ _ ((g2.trans g3).trans (Go.new g3.2 hp)) ⟨ys.take d, ⟨p, rfl, by
    rw [cut_to, ← List.map_take]
    exact At.new g3.2 hp⟩, hG ys d hd hg⟩⟩
theorem yt_orT {T U : Bool → Prop} (h1 : YT B t σ H T) (h2 : YT B u σ H U) : YT B (tOr t u) σ H (fun _ => True) := fun H1 g Q q => h1 H1 g _ fun b H2 g2 _ => by
  cases b with
  | true => exact q true H2 g2 trivial
  | false => exact h2 H2 (g.trans g2) Q fun b H3 g3 _ => q b H3 (g2.trans g3) trivial
theorem yt_andT {T U : Bool → Prop} (h1 : YT B t σ H T) (h2 : YT B u σ H U) : YT B (tAnd t u) σ H (fun b => b = true → T true ∧ U true) := fun H1 g Q q => h1 H1 g _ fun b H2 g2 h => by
  cases b with
  | true => exact h2 H2 (g.trans g2) Q fun b H3 g3 hu => q b H3 (g2.trans g3) fun e => ⟨h, e ▸ hu⟩
  | false => exact q false H2 g2 fun e => nomatch e
theorem yt_eqN {n : Nat} {k : Int} (h : Y B te σ H (NtR n)) : YT B (tTest (tOp rEq te (tC (.int k)))) σ H (fun _ => True) :=
  yt_test (y_opG (PB := Is (.int k)) (fun _ _ _ _ h => h) h y_c fun x y H1 g ⟨d, hd, e⟩ e2 Q q => by
    rw [e, show y = _ from e2]
    exact ⟨rfl, q _ H1 (Go.refl g.2) ⟨_, rfl, trivial⟩⟩)
/-- the texts that pass a drawn test -/
theorem cmp_sub {xs : List Str} {T : Str → Bool → Prop} {zs : List V} (c : Cmp T (fun a z => z = .str a) xs zs) : ∃ ys : List Str, ys.Sublist xs ∧ zs = ys.map V.str ∧ ∀ y ∈ ys, T y true := by
  induction c with
  | nil => exact ⟨[], List.Sublist.refl _, rfl, fun _ h => nomatch h⟩
  | skip _ _ ih =>
    obtain ⟨ys, a, b, c⟩ := ih
    exact ⟨ys, a.cons _, b, c⟩
  | @take x y xs zs ht hv _ ih =>
    obtain ⟨ys, a, b, c⟩ := ih
    refine ⟨x :: ys, a.cons₂ _, by rw [hv, b] <;> rfl, fun y hy => ?_⟩
    rcases List.mem_cons.mp hy with e | hy
    · rw [e]; exact ht
    · exact c y hy
theorem y_lcD {xs : List Str} {R : Str → V → Hp → Prop} {S : Str → L2.St → Hp → Prop} {T : Str → Bool → Prop} (hi : YI B wi σ H xs R) (hz : xs.length ≤ 40000) (hg : YG B g (wipe σ vs) R S)
    (hb : ∀ a σ2 H1, a ∈ xs → Go B H H1 → S a σ2 H1 → wipe σ2 vs = wipe σ vs ∧ YT B tt σ2 H1 (T a) ∧ Y B te σ2 H1 (Is (.str a))) : Y B (tLc wi g tt te vs) σ H (LsG B fun ys => ys.Sublist xs ∧ ∀ y ∈ ys, T y true) :=
  (y_lcG (tst := T) (val := fun _ a z _ => z = .str a) hi hz hg (fun _ _ => St.is) (fun _ _ _ _ _ _ h _ => h) fun D a σ2 H1 ha g1 s _ => ⟨(hb a σ2 H1 ha g1 s).1, (hb a σ2 H1 ha g1 s).2.1, fun _ => (hb a σ2 H1 ha g1 s).2.2⟩).imp fun v H1 _ ⟨p, zs, e, t, _, c⟩ => by
    obtain ⟨ys, h1, h2, h3⟩ := cmp_sub c
    exact ⟨ys, ⟨p, e, by rw [← h2]; exact t⟩, h1, h3⟩
end
/-! ### plain -/
theorem PtF.lr {B : Option Addr} {p : Pa} {H : Hp} (h : PtF B p H) : LrOk p.pegs p.wants := ⟨h.v.nd.nd, h.v.nd.z, fun q hq => ⟨(h.v.nd.in_ q hq).1, (h.v.nd.in_ q hq).2.1⟩, h.rk⟩
theorem lst_nil (p : Pa) : lst p [] = true := by
  unfold lst
  rw [show (p.wants.any fun q => decide (q.1 ∈ ([] : List Str)) && !decide (q.2 ∈ ([] : List Str))) = false from List.any_eq_false.mpr fun q _ => by simp, show (p.bars.any fun q => decide (q.1 ∈ ([] : List Str)) && decide (q.2 ∈ ([] : List Str))) = false from List.any_eq_false.mpr fun q _ => by simp] <;> rfl
theorem any_congr {α : Type} {f g : α → Bool} : ∀ {xs : List α}, (∀ x ∈ xs, f x = g x) → xs.any f = xs.any g
  | [], _ => rfl
  | x :: xs, h => by rw [List.any_cons, List.any_cons, h x List.mem_cons_self, any_congr fun y hy => h y (List.mem_cons_of_mem _ hy)]
theorem lst_congr {p : Pa} (hv : PaV p) {a b : List Str} (h : ∀ x ∈ p.pegs, x ∈ a ↔ x ∈ b) : lst p a = lst p b := by
  unfold lst
  have e1 : (p.wants.any fun q => decide (q.1 ∈ a) && !decide (q.2 ∈ a)) = p.wants.any fun q => decide (q.1 ∈ b) && !decide (q.2 ∈ b) := any_congr fun q hq => by rw [decide_eq_decide.mpr (h _ (hv.nd.in_ q hq).1), decide_eq_decide.mpr (h _ (hv.nd.in_ q hq).2.1)]
  have e2 : (p.bars.any fun q => decide (q.1 ∈ a) && decide (q.2 ∈ a)) = p.bars.any fun q => decide (q.1 ∈ b) && decide (q.2 ∈ b) := any_congr fun q hq => by rw [decide_eq_decide.mpr (h _ (hv.bars q hq).1), decide_eq_decide.mpr (h _ (hv.bars q hq).2.1)]
  rw [e1, e2]
theorem lrow_len {pegs : List Str} {ws : List (Str × Str)} {p : Str} (h : pegs.length ≤ 12) : (lrow pegs ws p).length ≤ 12 := Nat.le_trans (List.length_filter_le _ _) h
section
variable {P : Program} {w : World} {K : PySem.W.Frag} {mg : Str → Option Value} {base : Heap}
theorem y_mixG {bx : Addr} {σ : L2.St} {H : Hp} {ta tb : TE} {v : V} {xs : List Str} (ha : Y (some bx) ta σ H (Is (.ref bx))) (hb : Y (some bx) tb σ H (Is v)) (hx : SqS (some bx) xs v H) (hk : Sk xs) (hz : xs.length ≤ 1000) : Y (some bx) (tCl (sp__law_mixed K) (tCons ta (tCons tb tNil))) σ H (LsG (some bx) fun ys => ys.Perm xs) :=
  y_clI (args := fun p : X1 => [.ref p.bx, p.vt]) (post := fun B (p : X1) v H => ∃ ys, LsS B ys v H ∧ ys.Perm p.xs) ⟨bx, v, xs⟩ (ya_cons ha (ya_cons hb ya_nil)) fun H1 g => ⟨rfl, SqS.st _ _ _ g hx, hk, hz⟩
theorem y_rowsG {B : Option Addr} {σ : L2.St} {H : Hp} {ta tb : TE} {v1 v2 : V} {pegs : List Str} {ws : List (Str × Str)} (ha : Y B ta σ H (Is v1)) (hb : Y B tb σ H (Is v2)) (h1 : SqS B pegs v1 H) (h2 : SqP B ws v2 H) (hk : LrOk pegs ws) : Y B (tCl (sp__law_rows K) (tCons ta (tCons tb tNil))) σ H (DcR B (TpS B) (pegs.map fun x => (x, lrow pegs ws x))) :=
  y_clI (args := fun p : LR => [p.v1, p.v2]) (post := fun B (p : LR) v H => DcR B (TpS B) (p.pegs.map fun x => (x, lrow p.pegs p.wants x)) v H) ⟨v1, v2, pegs, ws⟩ (ya_cons ha (ya_cons hb ya_nil)) fun H1 g => ⟨SqS.st _ _ _ g h1, SqP.st _ _ _ g h2, hk⟩
structure SS where
  bx : Addr
  v : V
  p : Pa
def sp__law_some_stand (K : PySem.W.Frag) : Sp := Pm (fun p : SS => [.ref p.bx, p.v]) (fun B p H => B = some p.bx ∧ PtR B p.p p.v H) (fun B p v H => ∃ s, TpS B s v H ∧ lst p.p s = true ∧ s = p.p.pegs.filter fun x => decide (x ∈ s))
theorem ok__law_some_stand (T : Fx K mg) : OK P w K mg base 7 (He.fAd K ("_law_some_stand", none)) (sp__law_some_stand K) := by
  obtain ⟨fd, F⟩ := T.dd 25 (d := d__law_some_stand) rfl
  have g__law_is_stand := T.glo 24 rfl
  have g__law_mixed := T.glo 18 rfl
  have g__law_rows := T.glo 20 rfl
  have g__law_take := T.glo 17 rfl
  have n_len := T.free 38 rfl
  have n_tuple := T.free 40 rfl
  have ok__law_is_stand := ok__law_is_stand (P := P) (w := w) (base := base) T
  obtain ⟨_, F__law_is_stand⟩ := T.dd 24 (d := d__law_is_stand) rfl
  have kp__law_is_stand := F__law_is_stand.kp
  have ok__law_mixed := ok__law_mixed (P := P) (w := w) (base := base) T
  obtain ⟨_, F__law_mixed⟩ := T.dd 18 (d := d__law_mixed) rfl
  have kp__law_mixed := F__law_mixed.kp
  have ok__law_rows := ok__law_rows (P := P) (w := w) (base := base) T
  obtain ⟨_, F__law_rows⟩ := T.dd 20 (d := d__law_rows) rfl
  have kp__law_rows := F__law_rows.kp
  have ok__law_take := ok__law_take (P := P) (w := w) (base := base) T
  obtain ⟨_, F__law_take⟩ := T.dd 17 (d := d__law_take) rfl
  have kp__law_take := F__law_take.kp
  have sc : FnScope ["_law_box_here", "_law_parts_here", "_law_pegs", "_law_rows_here", "_law_found", "_law_peg", "_law_more", "_law_one"] ["_law_box_here", "_law_parts_here"] (defScope (top 71)) := ⟨rfl, rfl, rfl, by decide +kernel, rfl, by decide +kernel, by decide +kernel⟩
  have nd := sc.nd
  refine OK.of (F.ok sc (fun vs H Q E h => by obtain ⟨B, a, h⟩ := h; first | (obtain ⟨rfl, _⟩ := h; rfl) | (obtain ⟨x, dx, rfl, _⟩ := h; rfl)) (fun cdv A outer s H vs Q E hr h => ⟨_, PSs.nox (pss_cons (ps_asg (pe_tup (pa_cons (pe_ix (k_ixT (K := K)) (pv 1) pe_int (fun _ _ => rfl)) (pa_cons (pe_cl ok__law_rows hr (by decide) rfl g__law_rows kp__law_rows (pa_cons (pe_ix (k_ixT (K := K)) (pv 1) pe_int (fun _ _ => rfl)) (pa_cons (pe_ix (k_ixT (K := K)) (pv 1) pe_int (fun _ _ => rfl)) pa_nil))) (pa_cons (pe_lst pa_nil) pa_nil)))) (k_gtup (K := K) (n := 3) rfl (pgs_cons (pg_name (i := 2) nd rfl (Or.inl rfl)) (pgs_cons (pg_name (i := 3) nd rfl (Or.inl rfl)) (pgs_cons (pg_name (i := 4) nd rfl (Or.inr rfl)) pgs_nil)))))
    (pss_cons (ps_for PassesOwn.never rfl (k_list (K := K) (pe_slice (k_slL (K := K)) (pe_cl ok__law_mixed hr (by decide) rfl g__law_mixed kp__law_mixed (pa_cons (pv 0) (pa_cons (pv 2) pa_nil))) po_none (po_some (pe_cl ok__law_take hr (by decide) rfl g__law_take kp__law_take (pa_cons (pv 0) (pa_cons (pe_op op_add (pe_callB (k_len (K := K)) rfl n_len (by rfl) (pa_cons (pv 2) pa_nil)) pe_int) pa_nil)))))) (pg_name (i := 5) nd rfl (Or.inl rfl)) (pss_cons (ps_set (i := 6) nd rfl (Or.inl rfl) (pe_op op_cat (pv 4) (pe_lc (own := [("_law_one", 7)]) rfl nd (k_tup (K := K) (pe_dget (hu_of hr) (pv 3) (pv 5) (fun _ _ => rfl))) (blkOk_by (by kernel_rfl)) (fun _ _ _ _ _ => (pg_name (i := 7) nd rfl (Or.inl rfl))) (fun _ _ _ _ _ => (pts_one (pt_cmpR (k_ni (K := K)) (pv 7) (pv 4) (by with_unfolding_all rfl)))) (fun _ _ _ _ _ => (pv 7)))))
    (pss_one (ps_if (pt_val (pe_cl ok__law_is_stand hr (by decide) rfl g__law_is_stand kp__law_is_stand (pa_cons (pv 1) (pa_cons (pv 6) pa_nil)))) (pss_one (ps_set (i := 4) nd rfl (Or.inr rfl) (pv 6))) pss_nil))))
    (pss_one (ps_ret (k_tupleOf (K := K) rfl n_tuple (pe_lc (own := [("_law_peg", 5)]) rfl nd (k_tup (K := K) (pv 2)) (blkOk_by (by kernel_rfl)) (fun _ _ _ _ _ => (pg_name (i := 5) nd rfl (Or.inl rfl))) (fun _ _ _ _ _ => (pts_one (pt_cmpR (k_in (K := K)) (pv 5) (pv 4) (by with_unfolding_all rfl)))) (fun _ _ _ _ _ => (pv 5)))))))), ?_⟩)) (F.bindsN fun _ _ _ _ _ _ us hl => match us, hl with | [_, _], _ => rfl)
  obtain ⟨B, ⟨bx, v1, p⟩, rfl, hb, ⟨hB, ⟨a, ea, ta, hp⟩⟩, hq⟩ := h
  cases (show v1 = .ref a from ea)
  dsimp only at hB ta hp
  subst hB
  have hz : p.pegs.length ≤ 12 := hp.v.nd.z
  have hk : Sk p.pegs := fun x hx => nameOk_sk (hp.v.names x hx)
  have hpg := hp.ok.pegs
  refine s_asgT (D := { nx := _, rt := _, bk := _, ct := _ }) (P := fun v H' => ∃ a w1 w2 w3, v = .ref a ∧ At (some bx) H' a (.tup [w1, w2, w3]) ∧ w1 = p.vp ∧ DcR (some bx) (TpS (some bx)) (p.pegs.map fun x => (x, lrow p.pegs p.wants x)) w2 H' ∧ LsS (some bx) [] w3 H') (Go.refl hb) ((y_tup (ya_consG St.is (y_part rfl ta rfl) (ya_consG (DcR.st fun _ => TpS.st) (y_rowsG (y_part rfl ta rfl) (y_part rfl ta rfl) (.inl hpg) (.inl hp.ok.wants) hp.lr) (ya_consG LsS.st ((y_lstI ya_nil (by decide)).imp (P' := LsS (some bx) []) fun v H1 _ ⟨a, e, t, _⟩ => ⟨a, e, t⟩) ya_nil))) (fun vs H1 H2 g ⟨w1, r1, e1, q1, w2, r2, e2, q2, w3, r3, e3, q3, e4⟩ => ⟨w1, r1, e1, q1, w2, r2, e2, DcR.st (fun _ => TpS.st) _ _ _ g q2, w3, r3, e3, LsS.st _ _ _ g q3, e4⟩) fun vs H1 ⟨w1, r1, e1, q1, w2, r2, e2, q2, w3, r3, e3, q3, e4⟩ => by
    rw [e1, e2, e3, show r3 = [] from e4]
    show 3 ≤ 100000
    decide).imp fun v H1 _ ⟨q, vs, e, t, _, w1, r1, e1, q1, w2, r2, e2, q2, w3, r3, e3, q3, e4⟩ => by
      rw [e1, e2, e3, show r3 = [] from e4] at t
      exact ⟨q, _, e, t, rfl, q, w1, w2, w3, e, t, q1, q2, q3⟩) fun q vs2 H1 g1 _ tq ⟨q', w1, w2, w3, e, tq', e1, h2, h3⟩ => ?_
  cases e
  have e2 : vs2 = [w1, w2, w3] := HO.tup.inj (Option.some.inj (tq.2.symm.trans tq'.2))
  subst e2
  subst e1
  refine ⟨_, _, rfl, _, _, rfl, _, _, rfl, rfl, ?_⟩
  have p1 := TpS.st _ _ _ g1 hpg
  refine q_forX (G := fun as => as.length ≤ 12 ∧ ∀ x ∈ as, x ∈ p.pegs) (R := SV) (yix_list (y_slG (n := p.pegs.length + 1) (y_mixG (y_var rfl) (y_var rfl) (.inl p1) hk (Nat.le_trans hz (by decide))) (y_takeG (y_var rfl) (y_succ (y_lenS ((y_var rfl).rep p1 TpS.st).tp)) (Nat.succ_pos _) (by omega)) fun ys d _ hys => ⟨by
    rw [List.length_take]
    have := hys.length_eq
    omega, fun x hx => hys.mem_iff.mp (List.mem_of_mem_take hx)⟩)) (Go.refl g1.2) fun as hG H2 g2 => ⟨fun i σ1 H3 => Go (some bx) H2 H3 ∧ ∃ w3 w5 w6 fs, σ1 = [some (.ref bx), some (.ref a), some p.vp, some w2, some w3, w5, w6, none] ∧ LsS (some bx) fs w3 H3 ∧ lst p fs = true ∧ fs.length ≤ 12 * i, ⟨Go.refl g2.2, w3, none, none, [], rfl, LsS.st _ _ _ g2 h3, lst_nil p, Nat.zero_le _⟩, fun i σ1 H3 _ h => h.1, fun i x σ1 H3 v H4 hx hI g4 r => ?_, fun σ1 H3 hI => ?_⟩
  · obtain ⟨g3, w3, w5, w6, fs, rfl, hf, hl, hlen⟩ := hI
    rw [show v = .str x from r]
    have g14 := (g2.trans g3).trans g4
    have g04 := g1.trans g14
    have mx := hG.2 x (List.mem_of_getElem? hx)
    have ix : i < as.length := (List.getElem?_eq_some_iff.mp hx).1
    have hf4 := LsS.st _ _ _ g4 hf
    have l2 := lrow_len (ws := p.wants) (p := x) hz
    have l3 := List.length_filter_le (fun y => !decide (y ∈ fs)) (lrow p.pegs p.wants x)
    have dz := DcR.z (DcR.st (fun _ => TpS.st) _ _ _ g14 h2)
    show tSeq _ _ _ [some (.ref bx), some (.ref a), some p.vp, some w2, some w3, some (.str x), w6, none] H4
    refine q_asg (P := LsS (some bx) (fs ++ (lrow p.pegs p.wants x).filter fun y => !decide (y ∈ fs))) (Go.refl g4.2) (y_cat ((y_var rfl).rep hf4 LsS.st) ((y_lcF (fun y => !decide (y ∈ fs)) (yi_tup ((y_dgetF (fun _ => TpS.st) (y_var rfl) dz (y_var rfl) mx).imp fun v H1 _ h => TpS.r h) fun _ => SV.st) (Nat.le_trans l2 (by decide)) yg_s fun y σ2 H5 hy g5 s => ?_).imp fun v H1 _ h => h.1) (by
      have := hG.1
      omega)) fun w6' H5 g5 _ h6 => ?_
    · subst s
      exact ⟨rfl, yt_testI (y_ni (y_var rfl) ((y_var rfl).rep (LsS.st _ _ _ g5 hf4) LsS.st).ls), fun _ => y_var rfl⟩
    · have g05 := g04.trans g5
      have hlen2 : (fs ++ (lrow p.pegs p.wants x).filter fun y => !decide (y ∈ fs)).length ≤ 12 * (i + 1) := by
        rw [List.length_append]
        omega
      refine s_when (b := lst p (fs ++ (lrow p.pegs p.wants x).filter fun y => !decide (y ∈ fs))) (Go.refl g5.2) (yt_testI (y_clI (args := fun p : IS => [p.v1, p.v2]) (post := fun _ (p : IS) v _ => v = .bl (lst p.p p.row)) ⟨.ref a, w6', p, _⟩ (ya_cons (y_var rfl) (ya_cons (y_var rfl) ya_nil)) fun H6 g6 => ⟨⟨a, rfl, ta.go (g05.trans g6), hp.go (g05.trans g6)⟩, .inr (LsS.st _ _ _ g6 h6)⟩)) (fun e H6 g6 _ => ?_) fun e H6 g6 _ => ?_
      · exact s_asg (P := Is w6') (Go.refl g6.2) (y_var rfl) fun v7 H7 g7 _ e7 => ⟨(((g3.trans g4).trans g5).trans g6).trans g7, v7, _, _, _, rfl, by
          rw [show v7 = _ from e7]
          exact LsS.st _ _ _ (g6.trans g7) h6, e, hlen2⟩
      · exact ⟨((g3.trans g4).trans g5).trans g6, w3, _, _, fs, rfl, LsS.st _ _ _ (g5.trans g6) hf4, hl, by omega⟩
  · obtain ⟨g3, w3, w5, w6, fs, rfl, hf, hl, hlen⟩ := hI
    have g03 := g1.trans (g2.trans g3)
    refine s_ret (P := TpS (some bx) (p.pegs.filter fun x => decide (x ∈ fs))) (Go.refl g3.2) (y_tupLS ((y_lcF (fun x => decide (x ∈ fs)) (yk_tS (y_var rfl) (TpS.st _ _ _ g03 hpg)).yi (Nat.le_trans hz (by decide)) yg_s fun y σ2 H5 hy g5 s => ?_).imp fun v H1 _ h => h.1)) fun v H4 g4 _ h => hq v H4 (g03.trans g4) ⟨_, h, ?_, ?_⟩
    · subst s
      exact ⟨rfl, yt_testI (y_in (y_var rfl) ((y_var rfl).rep (LsS.st _ _ _ g5 hf) LsS.st).ls), fun _ => y_var rfl⟩
    · rw [← hl]
      exact lst_congr hp.v fun x hx => by rw [List.mem_filter, decide_eq_true_iff]; exact ⟨fun h => h.2, fun h => ⟨hx, h⟩⟩
    · exact List.filter_congr fun x hx => decide_eq_decide.mpr (by rw [List.mem_filter, decide_eq_true_iff]; exact ⟨fun h => ⟨hx, h⟩, fun h => h.2⟩)
end
end NP
end
section
set_option Elab.async false
set_option linter.all false
set_option maxRecDepth 100000
set_option maxHeartbeats 4000000
/-! Drawn wishes and goals. -/
namespace NP
open PySem PySem.Spec PyProof.Rows L2
/-! ### plain -/
theorem lst_want {p : Pa} {s : List Str} (h : lst p s = true) {q : Str × Str} (hq : q ∈ p.wants) (h1 : q.1 ∈ s) : q.2 ∈ s := by
  unfold lst at h
  obtain ⟨a, _⟩ := Bool.and_eq_true_iff.mp h
  by_cases h2 : q.2 ∈ s
  · exact h2
  · have z : (p.wants.any fun q => decide (q.1 ∈ s) && !decide (q.2 ∈ s)) = true := List.any_eq_true.mpr ⟨q, hq, by rw [decide_eq_true h1, decide_eq_false h2] <;> rfl⟩
    rw [z] at a
    cases a
theorem lst_bar {p : Pa} {s : List Str} (h : lst p s = true) {q : Str × Str} (hq : q ∈ p.bars) (h1 : q.1 ∈ s) (h2 : q.2 ∈ s) : False := by
  unfold lst at h
  obtain ⟨_, a⟩ := Bool.and_eq_true_iff.mp h
  have z : (p.bars.any fun q => decide (q.1 ∈ s) && decide (q.2 ∈ s)) = true := List.any_eq_true.mpr ⟨q, hq, by rw [decide_eq_true h1, decide_eq_true h2] <;> rfl⟩
  rw [z] at a
  cases a
theorem lst_of {p : Pa} {s : List Str} (h1 : ∀ q ∈ p.wants, q.1 ∈ s → q.2 ∈ s) (h2 : ∀ q ∈ p.bars, q.1 ∈ s → q.2 ∈ s → False) : lst p s = true := by
  unfold lst
  have e1 : (p.wants.any fun q => decide (q.1 ∈ s) && !decide (q.2 ∈ s)) = false := List.any_eq_false.mpr fun q hq e => by
    obtain ⟨a, b⟩ := Bool.and_eq_true_iff.mp e
    rw [decide_eq_true (h1 q hq (of_decide_eq_true a))] at b
    cases b
  have e2 : (p.bars.any fun q => decide (q.1 ∈ s) && decide (q.2 ∈ s)) = false := List.any_eq_false.mpr fun q hq e => by
    obtain ⟨a, b⟩ := Bool.and_eq_true_iff.mp e
    exact h2 q hq (of_decide_eq_true a) (of_decide_eq_true b)
  rw [e1, e2] <;> rfl
theorem lst_rch {p : Pa} {s : List Str} (h : lst p s = true) {x y : Str} (r : Rch p.wants x y) : x ∈ s → y ∈ s := by
  induction r with
  | refl p => exact fun h => h
  | step a _ ih => exact fun hx => ih (lst_want h a hx)
theorem brd_iff {r o : List Str} {bars : List (Str × Str)} : brd r o bars = true ↔ ∃ q ∈ bars, (q.1 ∈ r ∧ q.2 ∈ o) ∨ (q.2 ∈ r ∧ q.1 ∈ o) := by
  unfold brd
  rw [List.any_eq_true]
  constructor
  · rintro ⟨q, hq, e⟩
    refine ⟨q, hq, ?_⟩
    rcases Bool.or_eq_true_iff.mp e with e | e
    · obtain ⟨a, b⟩ := Bool.and_eq_true_iff.mp e
      exact .inl ⟨of_decide_eq_true a, of_decide_eq_true b⟩
    · obtain ⟨a, b⟩ := Bool.and_eq_true_iff.mp e
      exact .inr ⟨of_decide_eq_true a, of_decide_eq_true b⟩
  · rintro ⟨q, hq, e⟩
    refine ⟨q, hq, ?_⟩
    rcases e with ⟨a, b⟩ | ⟨a, b⟩
    · rw [decide_eq_true a, decide_eq_true b] <;> rfl
    · rw [decide_eq_true a, decide_eq_true b]
      exact Bool.or_true _
theorem brd_false {r o : List Str} {bars : List (Str × Str)} (h : ∀ q ∈ bars, ¬ ((q.1 ∈ r ∧ q.2 ∈ o) ∨ (q.2 ∈ r ∧ q.1 ∈ o))) : brd r o bars = false := by
  rw [Bool.eq_false_iff]
  intro e
  obtain ⟨q, hq, z⟩ := brd_iff.mp e
  exact h q hq z
theorem lrow_mem {pegs : List Str} {ws : List (Str × Str)} {p x : Str} : x ∈ lrow pegs ws p ↔ x ∈ pegs ∧ Rch ws p x := by
  unfold lrow
  rw [List.mem_filter, decide_eq_true_iff, nr_rch]
/-- a wish that is possible, by the law's rows -/
structure GoodW (p : Pa) (I O : List Str) : Prop where
  i : ∀ x ∈ I, x ∈ p.pegs
  o : ∀ x ∈ O, x ∈ p.pegs
  zi : I.length ≤ 12
  zo : O.length ≤ 12
  io : ∀ x ∈ I, ∀ y ∈ O, y ∉ lrow p.pegs p.wants x
  ii : ∀ x ∈ I, ∀ y ∈ I, y ≠ x → brd (lrow p.pegs p.wants x) (lrow p.pegs p.wants y) p.bars = false
theorem lst_brd {p : Pa} {s : List Str} (h : lst p s = true) {x y : Str} (hx : x ∈ s) (hy : y ∈ s) : brd (lrow p.pegs p.wants x) (lrow p.pegs p.wants y) p.bars = false := brd_false fun q hq e => by
  rcases e with ⟨a, b⟩ | ⟨a, b⟩
  · exact lst_bar h hq (lst_rch h (lrow_mem.mp a).2 hx) (lst_rch h (lrow_mem.mp b).2 hy)
  · exact lst_bar h hq (lst_rch h (lrow_mem.mp b).2 hy) (lst_rch h (lrow_mem.mp a).2 hx)
/-- obstacles -/
abbrev Tri := Str × Str × Str
def oN (p : Pa) (O : List Str) (x : Str) : List Tri := (O.filter fun o => decide (o ∈ lrow p.pegs p.wants x)).map fun o => ("needs", x, o)
def oM (p : Pa) (I : List Str) (x : Str) : List Str := I.filter fun o => !decide (o = x) && brd (lrow p.pegs p.wants x) (lrow p.pegs p.wants o) p.bars
def oB (p : Pa) (I : List Str) (x : Str) : List Tri := (oM p I x).map fun o => ("bars", x, o)
def obs (p : Pa) (I O : List Str) : List Tri := I.flatMap fun x => oN p O x ++ oB p I x
theorem goodW_of {p : Pa} {I O : List Str} (h1 : ∀ x ∈ I, x ∈ p.pegs) (h2 : ∀ x ∈ O, x ∈ p.pegs) (z1 : I.length ≤ 12) (z2 : O.length ≤ 12) (h : obs p I O = []) : GoodW p I O := by
  have key : ∀ x ∈ I, oN p O x ++ oB p I x = [] := fun x hx => List.flatMap_eq_nil_iff.mp h x hx
  refine ⟨h1, h2, z1, z2, fun x hx y hy hm => ?_, fun x hx y hy hne => ?_⟩
  · have z := (List.append_eq_nil_iff.mp (key x hx)).1
    have e := List.map_eq_nil_iff.mp z
    have := List.filter_eq_nil_iff.mp e y hy
    exact this (decide_eq_true hm)
  · have z := (List.append_eq_nil_iff.mp (key x hx)).2
    have e := List.filter_eq_nil_iff.mp (List.map_eq_nil_iff.mp z) y hy
    rw [decide_eq_false hne] at e
    exact Bool.eq_false_iff.mpr e
theorem mts_iff {I O row : List Str} : mts I O row = true ↔ (∀ x ∈ I, x ∈ row) ∧ ∀ x ∈ O, x ∉ row := by
  unfold mts
  rw [Bool.and_eq_true_iff, Bool.not_eq_true', Bool.not_eq_true', List.any_eq_false, List.any_eq_false]
  constructor
  · rintro ⟨a, b⟩
    exact ⟨fun x hx => by
      by_cases h : x ∈ row
      · exact h
      · exact absurd (by rw [decide_eq_false h] <;> rfl) (a x hx), fun x hx h => b x hx (decide_eq_true h)⟩
  · rintro ⟨a, b⟩
    refine ⟨fun x hx e => ?_, fun x hx e => b x hx (of_decide_eq_true e)⟩
    rw [decide_eq_true (a x hx)] at e
    cases e
/-- what the wanted pegs need -/
def clo (p : Pa) (I : List Str) : List Str := p.pegs.filter fun q => I.any fun x => decide (q ∈ lrow p.pegs p.wants x)
theorem clo_mem {p : Pa} {I : List Str} {y : Str} : y ∈ clo p I ↔ y ∈ p.pegs ∧ ∃ x ∈ I, Rch p.wants x y := by
  unfold clo
  rw [List.mem_filter, List.any_eq_true]
  constructor
  · rintro ⟨a, x, hx, e⟩
    exact ⟨a, x, hx, (lrow_mem.mp (of_decide_eq_true e)).2⟩
  · rintro ⟨a, x, hx, e⟩
    exact ⟨a, x, hx, decide_eq_true (lrow_mem.mpr ⟨a, e⟩)⟩
theorem Rch.snoc {ws : List (Str × Str)} {p x y : Str} (r : Rch ws p x) (h : (x, y) ∈ ws) : Rch ws p y := r.trans (.step h (.refl y))
theorem clo_ok {p : Pa} {I O : List Str} (hv : PaV p) (h : GoodW p I O) : lst p (clo p I) = true ∧ mts I O (clo p I) = true := by
  refine ⟨lst_of (fun q hq h1 => ?_) fun q hq h1 h2 => ?_, mts_iff.mpr ⟨fun x hx => clo_mem.mpr ⟨h.i x hx, x, hx, .refl x⟩, fun y hy hm => ?_⟩⟩
  · obtain ⟨_, x, hx, r⟩ := clo_mem.mp h1
    exact clo_mem.mpr ⟨(hv.nd.in_ q hq).2.1, x, hx, r.snoc hq⟩
  · obtain ⟨m1, x, hx, r⟩ := clo_mem.mp h1
    obtain ⟨m2, y, hy, s⟩ := clo_mem.mp h2
    by_cases e : y = x
    · subst e
      have d := hv.dead y (h.i y hy)
      have z : brd (nr p.wants y) (nr p.wants y) p.bars = true := brd_iff.mpr ⟨q, hq, .inl ⟨nr_rch.mpr r, nr_rch.mpr s⟩⟩
      rw [z] at d
      cases d
    · have d := h.ii x hx y hy e
      have z : brd (lrow p.pegs p.wants x) (lrow p.pegs p.wants y) p.bars = true := brd_iff.mpr ⟨q, hq, .inl ⟨lrow_mem.mpr ⟨m1, r⟩, lrow_mem.mpr ⟨m2, s⟩⟩⟩
      rw [z] at d
      cases d
  · obtain ⟨m, x, hx, r⟩ := clo_mem.mp hm
    exact h.io x hx y hy (lrow_mem.mpr ⟨m, r⟩)
section
variable {B : Option Addr} {σ : L2.St} {H H0 : Hp} {t : TT} {D : Ends} {tu tz : TS} {ta tb : TE}
theorem q_ifG {T : Bool → Prop} (g : Go B H0 H) (h : YT B t σ H0 T) (h1 : T true → ∀ H1, Go B H0 H1 → Go B H H1 → tu { D with nx := tz D } σ H1) (h2 : T false → ∀ H1, Go B H0 H1 → Go B H H1 → tz D σ H1) : tSeq (tIfS t tu tNext) tz D σ H := s_ifG (D := { D with nx := tz D }) g h h1 h2
/-- a new pair of lists -/
theorem y_hopes {G1 G2 : List Str → Prop} (ha : Y B ta σ H (LsG B G1)) (hb : Y B tb σ H (LsG B G2)) : Y B (tTup (tCons ta (tCons tb tNil))) σ H (fun v H1 => ∃ h : Ho, HoR B h v H1 ∧ G1 h.I ∧ G2 h.O) :=
  (y_tup (ya_consG LsG.st ha (ya_consG LsG.st hb ya_nil)) (fun vs H1 H2 g ⟨w1, r1, e1, q1, w2, r2, e2, q2, e3⟩ => ⟨w1, r1, e1, LsG.st _ _ _ g q1, w2, r2, e2, LsG.st _ _ _ g q2, e3⟩) fun vs H1 ⟨w1, r1, e1, q1, w2, r2, e2, q2, e3⟩ => by
    rw [e1, e2, show r2 = [] from e3]
    show 2 ≤ 100000
    decide).imp fun v H1 _ ⟨a, vs, e, t, _, w1, r1, e1, ⟨y1, l1, g1⟩, w2, r2, e2, ⟨y2, l2, g2⟩, e3⟩ => by
      rw [e1, e2, show r2 = [] from e3] at t
      exact ⟨⟨w1, w2, y1, y2⟩, ⟨a, e, t, l1, l2⟩, g1, g2⟩
end
section
variable {P : Program} {w : World} {K : PySem.W.Frag} {mg : Str → Option Value} {base : Heap}
def sp__law_some_wish (K : PySem.W.Frag) : Sp := Pm (fun p : SS => [.ref p.bx, p.v]) (fun B p H => B = some p.bx ∧ PtR B p.p p.v H) (fun B p v H => ∃ h : Ho, HoR B h v H ∧ (h.I.length ≤ 12 ∧ ∀ x ∈ h.I, x ∈ p.p.pegs) ∧ (h.O.length ≤ 12 ∧ ∀ x ∈ h.O, x ∈ p.p.pegs))
theorem y_someG {bx : Addr} {σ : L2.St} {H : Hp} {ta tb : TE} {v : V} {p : Pa} (ha : Y (some bx) ta σ H (Is (.ref bx))) (hb : Y (some bx) tb σ H (Is v)) (h : PtR (some bx) p v H) : Y (some bx) (tCl (sp__law_some_stand K) (tCons ta (tCons tb tNil))) σ H (fun v H => ∃ s, TpS (some bx) s v H ∧ lst p s = true ∧ s = p.pegs.filter fun x => decide (x ∈ s)) :=
  y_clI (args := fun p : SS => [.ref p.bx, p.v]) (post := fun B (p : SS) v H => ∃ s, TpS B s v H ∧ lst p.p s = true ∧ s = p.p.pegs.filter fun x => decide (x ∈ s)) ⟨bx, v, p⟩ (ya_cons ha (ya_cons hb ya_nil)) fun H1 g => ⟨rfl, PtR.st _ _ _ g h⟩
theorem ok__law_some_wish (T : Fx K mg) : OK P w K mg base 10 (He.fAd K ("_law_some_wish", none)) (sp__law_some_wish K) := by
  obtain ⟨fd, F⟩ := T.dd 26 (d := d__law_some_wish) rfl
  have g__law_mixed := T.glo 18 rfl
  have g__law_some_stand := T.glo 25 rfl
  have g__law_take := T.glo 17 rfl
  have n_list := T.free 39 rfl
  have ok__law_mixed := ok__law_mixed (P := P) (w := w) (base := base) T
  obtain ⟨_, F__law_mixed⟩ := T.dd 18 (d := d__law_mixed) rfl
  have kp__law_mixed := F__law_mixed.kp
  have ok__law_some_stand := ok__law_some_stand (P := P) (w := w) (base := base) T
  obtain ⟨_, F__law_some_stand⟩ := T.dd 25 (d := d__law_some_stand) rfl
  have kp__law_some_stand := F__law_some_stand.kp
  have ok__law_take := ok__law_take (P := P) (w := w) (base := base) T
  obtain ⟨_, F__law_take⟩ := T.dd 17 (d := d__law_take) rfl
  have kp__law_take := F__law_take.kp
  have sc : FnScope ["_law_box_here", "_law_parts_here", "_law_pegs", "_law_inside", "_law_row", "_law_outside", "_law_peg"] ["_law_box_here", "_law_parts_here"] (defScope (top 72)) := ⟨rfl, rfl, rfl, by decide +kernel, rfl, by decide +kernel, by decide +kernel⟩
  have nd := sc.nd
  refine OK.of (F.ok sc (fun vs H Q E h => by obtain ⟨B, a, h⟩ := h; first | (obtain ⟨rfl, _⟩ := h; rfl) | (obtain ⟨x, dx, rfl, _⟩ := h; rfl)) (fun cdv A outer s H vs Q E hr h => ⟨_, PSs.nox (pss_cons (ps_set (i := 2) nd rfl (Or.inl rfl) (pe_callTy (k_listOf (K := K)) rfl n_list (by rfl) (pa_cons (pe_ix (k_ixT (K := K)) (pv 1) pe_int (fun _ _ => rfl)) pa_nil)))
    (pss_cons (ps_if (PW.pt (pw_or (pt_cmpR op_eq (pe_cl ok__law_take hr (by decide) rfl g__law_take kp__law_take (pa_cons (pv 0) (pa_cons pe_int pa_nil))) pe_int (nomark _)) (pw_or1 (pt_cmpR (k_eqD (K := K) hr.units) (pv 2) (pe_lst pa_nil) (nomark _))))) (pss_cons (ps_set (i := 3) nd rfl (Or.inl rfl) (pe_slice (k_slL (K := K)) (pe_cl ok__law_mixed hr (by decide) rfl g__law_mixed kp__law_mixed (pa_cons (pv 0) (pa_cons (pv 2) pa_nil))) po_none (po_some (pe_cl ok__law_take hr (by decide) rfl g__law_take kp__law_take (pa_cons (pv 0) (pa_cons pe_int pa_nil))))))
    (pss_one (ps_ret (pe_tup (pa_cons (pv 3) (pa_cons (pe_slice (k_slL (K := K)) (pe_cl ok__law_mixed hr (by decide) rfl g__law_mixed kp__law_mixed (pa_cons (pv 0) (pa_cons (pv 2) pa_nil))) po_none (po_some (pe_cl ok__law_take hr (by decide) rfl g__law_take kp__law_take (pa_cons (pv 0) (pa_cons pe_int pa_nil))))) pa_nil)))))) pss_nil)
    (pss_cons (ps_set (i := 4) nd rfl (Or.inr rfl) (pe_cl ok__law_some_stand hr (by decide) rfl g__law_some_stand kp__law_some_stand (pa_cons (pv 0) (pa_cons (pv 1) pa_nil))))
    (pss_cons (ps_setLc (i := 3) rfl nd rfl rfl (sw_true rfl rfl rfl (by decide +kernel)) (own := [("_law_peg", 6)]) (k_tup (K := K) (pv 4)) (blkOk_by (by kernel_rfl)) (fun _ _ _ _ _ => (pg_name (i := 6) nd rfl (Or.inl rfl))) (fun _ _ _ _ _ => (pts_one (pt_cmpR op_eq (pe_cl ok__law_take hr (by decide) rfl g__law_take kp__law_take (pa_cons (pv 0) (pa_cons pe_int pa_nil))) pe_int (nomark _)))) (fun _ _ _ _ _ => (pv 6)))
    (pss_cons (ps_setLc (i := 5) rfl nd rfl rfl (sw_true rfl rfl rfl (by decide +kernel)) (own := [("_law_peg", 6)]) (k_list (K := K) (pv 2)) (blkOk_by (by kernel_rfl)) (fun _ _ _ _ _ => (pg_name (i := 6) nd rfl (Or.inl rfl))) (fun _ _ _ _ _ => (pts_one (PW.pt (pw_and (pt_cmpR (k_ni (K := K)) (pv 6) (pv 4) (by with_unfolding_all rfl)) (pw_and1 (pt_cmpR op_eq (pe_cl ok__law_take hr (by decide) rfl g__law_take kp__law_take (pa_cons (pv 0) (pa_cons pe_int pa_nil))) pe_int (nomark _))))))) (fun _ _ _ _ _ => (pv 6)))
    (pss_one (ps_ret (pe_tup (pa_cons (pe_cl ok__law_mixed hr (by decide) rfl g__law_mixed kp__law_mixed (pa_cons (pv 0) (pa_cons (pv 3) pa_nil))) (pa_cons (pe_cl ok__law_mixed hr (by decide) rfl g__law_mixed kp__law_mixed (pa_cons (pv 0) (pa_cons (pv 5) pa_nil))) pa_nil)))))))))), ?_⟩)) (F.bindsN fun _ _ _ _ _ _ us hl => match us, hl with | [_, _], _ => rfl)
  obtain ⟨B, ⟨bx, v1, p⟩, rfl, hb, ⟨hB, hP⟩, hq⟩ := h
  dsimp only at hB
  subst hB
  have hP' := hP
  obtain ⟨a, ea, ta, hp⟩ := hP
  cases (show v1 = .ref a from ea)
  dsimp only at ta hp hP'
  have hz : p.pegs.length ≤ 12 := hp.v.nd.z
  have hk : Sk p.pegs := fun x hx => nameOk_sk (hp.v.names x hx)
  have hpg := hp.ok.pegs
  refine q_asg (P := LsS (some bx) p.pegs) (Go.refl hb) ((y_listS ((y_part rfl ta rfl).rep hpg TpS.st).tp).imp fun v H1 _ h => h.1) fun v2 H1 g1 _ h2 => ?_
  have slG := fun (σ : L2.St) (H' : Hp) (g : Go (some bx) H1 H') (hσ0 : σ[0]? = some (some (V.ref bx))) (hσ2 : σ[2]? = some (some v2)) => y_slG (B := some bx) (K := K) (σ := σ) (n := 4) (G' := fun ys => ys.length ≤ 12 ∧ ∀ x ∈ ys, x ∈ p.pegs) (y_mixG (K := K) (y_var (i := 0) hσ0) (y_var (i := 2) hσ2) (.inr (LsS.st _ _ _ g h2)) hk (Nat.le_trans hz (by decide))) (y_takeG (K := K) (n := 4) (y_var (i := 0) hσ0) y_c (by decide) (by decide)) fun ys d _ hys => ⟨by
    rw [List.length_take]
    have := hys.length_eq
    omega, fun x hx => hys.mem_iff.mp (List.mem_of_mem_take hx)⟩
  refine q_ifG (Go.refl g1.2) (yt_orT (yt_eqN (n := 2) (y_takeG (n := 2) (y_var rfl) y_c (by decide) (by decide))) (yt_testI (y_emptyS hk ((y_var rfl).rep h2 LsS.st)))) (fun _ H2 g2 _ => ?_) fun _ H2 g2 _ => ?_
  · refine q_asg (P := LsG (some bx) fun ys => ys.length ≤ 12 ∧ ∀ x ∈ ys, x ∈ p.pegs) (Go.refl g2.2) (slG _ _ g2 rfl rfl) fun v3 H3 g3 _ h3 => ?_
    exact s_ret (Go.refl g3.2) (y_hopes ((y_var rfl).rep h3 LsG.st) (slG _ _ (g2.trans g3) rfl rfl)) fun v H4 g4 _ h => hq v H4 ((g1.trans g2).trans (g3.trans g4)) h
  · refine q_asg (Go.refl g2.2) (y_someG (p := p) (y_var rfl) (y_var rfl) ⟨a, rfl, ta.go (g1.trans g2), hp.go (g1.trans g2)⟩) fun v4 H3 g3 _ ⟨s, hs, hl, es⟩ => ?_
    have g03 := (g1.trans g2).trans g3
    have zs : s.length ≤ 12 := by
      rw [es]
      exact Nat.le_trans (List.length_filter_le _ _) hz
    have ss : ∀ x ∈ s, x ∈ p.pegs := fun x hx => by
      rw [es] at hx
      exact (List.mem_filter.mp hx).1
    refine q_asg (P := LsG (some bx) fun ys => ys.length ≤ 12 ∧ ∀ x ∈ ys, x ∈ p.pegs) (Go.refl g3.2) ((y_lcD (T := fun _ _ => True) (yk_tS (y_var rfl) hs).yi (Nat.le_trans zs (by decide)) yg_s fun x σ2 H4 hx g4 s => ?_).imp fun v H4 _ ⟨ys, l, h, _⟩ => ⟨ys, l, Nat.le_trans h.length_le zs, fun x hx => ss x (h.subset hx)⟩) fun v3 H4 g4 _ ⟨i1, li, zi, hi⟩ => ?_
    · subst s
      exact ⟨rfl, yt_eqN (n := 3) (y_takeG (n := 3) (y_var rfl) y_c (by decide) (by decide)), y_var rfl⟩
    · have g24 := (g2.trans g3).trans g4
      have hs4 := TpS.st _ _ _ g4 hs
      refine q_asg (P := LsG (some bx) fun ys => ys.length ≤ 12 ∧ ∀ x ∈ ys, x ∈ p.pegs) (Go.refl g4.2) ((y_lcD (T := fun _ _ => True) (yk_lS (y_var rfl) (LsS.st _ _ _ g24 h2)).yi (Nat.le_trans hz (by decide)) yg_s fun x σ2 H5 hx g5 s => ?_).imp fun v H4 _ ⟨ys, l, h, _⟩ => ⟨ys, l, Nat.le_trans h.length_le hz, fun x hx => h.subset hx⟩) fun v5 H5 g5 _ ⟨o1, lo, zo, ho⟩ => ?_
      · subst s
        exact ⟨rfl, (yt_andT (yt_testI (y_ni (y_var rfl) ((y_var rfl).rep (TpS.st _ _ _ g5 hs4) TpS.st).tp)) (yt_eqN (n := 3) (y_takeG (n := 3) (y_var rfl) y_c (by decide) (by decide)))).imp fun _ _ => trivial, y_var rfl⟩
      · have skI : Sk i1 := fun x hx => hk x (hi x hx)
        have skO : Sk o1 := fun x hx => hk x (ho x hx)
        exact s_ret (Go.refl g5.2) (y_hopes (y_mixG (y_var rfl) (y_var rfl) (.inr (LsS.st _ _ _ g5 li)) skI (Nat.le_trans zi (by decide))) (y_mixG (y_var rfl) (y_var rfl) (.inr lo) skO (Nat.le_trans zo (by decide)))) fun v H6 g6 _ ⟨h, hh, q1, q2⟩ => hq v H6 ((g1.trans g24).trans (g5.trans g6)) ⟨h, hh, ⟨by rw [q1.length_eq]; exact zi, fun x hx => hi x (q1.mem_iff.mp hx)⟩, by rw [q2.length_eq]; exact zo, fun x hx => ho x (q2.mem_iff.mp hx)⟩
end
end NP
end
section
set_option Elab.async false
set_option linter.all false
set_option maxRecDepth 100000
set_option maxHeartbeats 4000000
/-! Obstacles; good wishes; drawn goals. -/
namespace NP
open PySem PySem.Spec PyProof.Rows L2
def TrR (B : Option Addr) (t : Tri) : V → Hp → Prop := fun v H => ∃ a, v = .ref a ∧ At B H a (.tup [.str t.1, .str t.2.1, .str t.2.2])
theorem TrR.st {B : Option Addr} {t : Tri} : St B (TrR B t) := fun _ _ _ g ⟨a, e, h⟩ => ⟨a, e, h.go g⟩
theorem TrR.nl {B : Option Addr} {t : Tri} : NoL (TrR B t) := fun v H D zs zs' ⟨a, e, t⟩ h => ⟨a, e, t.1, by
  rw [upd_ne (ne_of t.2 h fun z => nomatch z)]
  exact t.2⟩
theorem q_asgT {B : Option Addr} {σ : L2.St} {H H0 : Hp} {te : TE} {D : Ends} {tz : TS} {P : V → Hp → Prop} {n : Nat} {K : PySem.W.Frag} {gt : TGs} (g : Go B H0 H) (h : Y B te σ H0 fun v H1 => ∃ a vs, v = .ref a ∧ At B H1 a (.tup vs) ∧ vs.length = n ∧ P v H1) (k : ∀ a vs H1, Go B H0 H1 → Go B H H1 → At B H1 a (.tup vs) → P (.ref a) H1 → gt vs σ H1 (tz D)) : tSeq (tAsg te (gTup K n gt)) tz D σ H := s_asgT (D := { D with nx := tz D }) g h k
theorem TpS.nl {B : Option Addr} {xs : List Str} : NoL (TpS B xs) := fun v H D zs zs' ⟨a, e, t⟩ h => ⟨a, e, t.1, by
  rw [upd_ne (ne_of t.2 h fun z => nomatch z)]
  exact t.2⟩
theorem DcR.nl {α : Type} {B : Option Addr} {R : α → V → Hp → Prop} (hR : ∀ x, NoL (R x)) {xs : List (Str × α)} : NoL (DcR B R xs) := fun v H D zs zs' ⟨a, kvs, e, t, p⟩ h => ⟨a, kvs, e, ⟨t.1, by
  rw [upd_ne (ne_of t.2 h fun z => nomatch z)]
  exact t.2⟩, p.mono fun y z q => ⟨q.1, hR y.2 z.2 H D zs zs' q.2 h⟩⟩
theorem q_ext {B : Option Addr} {σ : L2.St} {H H0 : Hp} {te : TE} {D : Ends} {tz : TS} {K : PySem.W.Frag} {R : List V → Hp → Prop} {i : Nat} {p : Addr} {zs : List V} (g : Go B H0 H) (t : At B H0 p (.lst zs)) (hσ : σ[i]? = some (some (.ref p))) (h : Y B te σ H0 fun v H' => ∃ b ys, v = .ref b ∧ At B H' b (.lst ys) ∧ zs.length + ys.length ≤ 100000 ∧ R ys H')
    (k : ∀ ys H2, Go B H0 H2 → Go B H H2 → R ys H2 → tz D σ (upd H2 p (.lst (zs ++ ys)))) : tSeq (tDrop (tBM K "list" rExtend (tVar i) (tCons te tNil))) tz D σ H := s_ext (D := { D with nx := tz D }) g t hσ h k
def dT (t : Tri) : PyData := .tuple [.str t.1, .str t.2.1, .str t.2.2]
theorem TrR.dp {B : Option Addr} {K : PySem.W.Frag} {H : Hp} {t : Tri} {v : V} (h : TrR B t v H) : Dp K H v (dT t) := by
  obtain ⟨a, e, t⟩ := h
  subst e
  exact .tup t.st (.cons (.str _) (.cons (.str _) (.cons (.str _) .nil)))
theorem gd_T {t : Tri} (h1 : PyData.strOk t.1 = true) (h2 : PyData.strOk t.2.1 = true) (h3 : PyData.strOk t.2.2 = true) : Gd 1 (dT t) := .tup fun d hd => by
  rcases List.mem_cons.mp hd with e | hd
  · rw [e]; exact .str h1
  rcases List.mem_cons.mp hd with e | hd
  · rw [e]; exact .str h2
  · rw [List.mem_singleton.mp hd]; exact .str h3
theorem obs_sk {p : Pa} {I O : List Str} (h1 : Sk I) (h2 : Sk O) : ∀ t ∈ obs p I O, Gd 1 (dT t) := fun t ht => by
  obtain ⟨x, hx, ht⟩ := List.mem_flatMap.mp ht
  rcases List.mem_append.mp ht with ht | ht
  · obtain ⟨o, ho, rfl⟩ := List.mem_map.mp ht
    exact gd_T (show PyData.strOk "needs" = true by decide +kernel) (h1 x hx) (h2 o (List.mem_filter.mp ho).1)
  · obtain ⟨o, ho, rfl⟩ := List.mem_map.mp ht
    exact gd_T (show PyData.strOk "bars" = true by decide +kernel) (h1 x hx) (h1 o (List.mem_filter.mp ho).1)
section
variable {P : Program} {w : World} {K : PySem.W.Frag} {mg : Str → Option Value} {base : Heap}
structure OB where
  v1 : V
  v2 : V
  p : Pa
  h : Ho
structure HoOk (p : Pa) (h : Ho) : Prop where
  zi : h.I.length ≤ 12
  i : ∀ x ∈ h.I, x ∈ p.pegs
  zo : h.O.length ≤ 12
  o : ∀ x ∈ h.O, x ∈ p.pegs
def sp__law_obstacles (K : PySem.W.Frag) : Sp := Pm (fun p : OB => [p.v1, p.v2]) (fun B p H => PtR B p.p p.v1 H ∧ HoR B p.h p.v2 H ∧ HoOk p.p p.h) (fun B p v H => LsR B (TrR B) (obs p.p p.h.I p.h.O) v H)
theorem y_tri {B : Option Addr} {σ : L2.St} {H : Hp} {ta tb tc : TE} {t : Tri} (h1 : Y B ta σ H (Is (.str t.1))) (h2 : Y B tb σ H (Is (.str t.2.1))) (h3 : Y B tc σ H (Is (.str t.2.2))) : Y B (tTup (tCons ta (tCons tb (tCons tc tNil)))) σ H (TrR B t) :=
  (y_tupI (ya_cons h1 (ya_cons h2 (ya_cons h3 ya_nil))) (by simp)).imp fun v H1 _ ⟨a, e, t, _⟩ => ⟨a, e, t⟩
theorem ok__law_obstacles (T : Fx K mg) : OK P w K mg base 4 (He.fAd K ("_law_obstacles", none)) (sp__law_obstacles K) := by
  obtain ⟨fd, F⟩ := T.dd 28 (d := d__law_obstacles) rfl
  have g__law_is_barred := T.glo 21 rfl
  have g__law_rows := T.glo 20 rfl
  have ok__law_is_barred := ok__law_is_barred (P := P) (w := w) (base := base) T
  obtain ⟨_, F__law_is_barred⟩ := T.dd 21 (d := d__law_is_barred) rfl
  have kp__law_is_barred := F__law_is_barred.kp
  have ok__law_rows := ok__law_rows (P := P) (w := w) (base := base) T
  obtain ⟨_, F__law_rows⟩ := T.dd 20 (d := d__law_rows) rfl
  have kp__law_rows := F__law_rows.kp
  have sc : FnScope ["_law_parts_here", "_law_hopes", "_law_rows_here", "_law_found", "_law_peg", "_law_more", "_law_other"] ["_law_parts_here", "_law_hopes"] (defScope (top 74)) := ⟨rfl, rfl, rfl, by decide +kernel, rfl, by decide +kernel, by decide +kernel⟩
  have nd := sc.nd
  refine OK.of (F.ok sc (fun vs H Q E h => by obtain ⟨B, a, h⟩ := h; first | (obtain ⟨rfl, _⟩ := h; rfl) | (obtain ⟨x, dx, rfl, _⟩ := h; rfl)) (fun cdv A outer s H vs Q E hr h => ⟨_, PSs.nox (pss_cons (ps_asg (pe_tup (pa_cons (pe_cl ok__law_rows hr (by decide) rfl g__law_rows kp__law_rows (pa_cons (pe_ix (k_ixT (K := K)) (pv 0) pe_int (fun _ _ => rfl)) (pa_cons (pe_ix (k_ixT (K := K)) (pv 0) pe_int (fun _ _ => rfl)) pa_nil))) (pa_cons (pe_lst pa_nil) pa_nil))) (k_gtup (K := K) (n := 2) rfl (pgs_cons (pg_name (i := 2) nd rfl (Or.inr rfl)) (pgs_cons (pg_name (i := 3) nd rfl (Or.inl rfl)) pgs_nil))))
    (pss_cons (ps_for PassesOwn.never rfl (k_list (K := K) (pe_ix (k_ixT (K := K)) (pv 1) pe_int (fun _ _ => rfl))) (pg_name (i := 4) nd rfl (Or.inr rfl)) (pss_cons (ps_expr (k_bm (K := K) PySem.F.plainAttrs_list PySem.F.slot_list_extend PySem.F.type_list_extend mt_extend (pv 3) (pa_cons (pe_lc (own := [("_law_other", 6)]) rfl nd (k_list (K := K) (pe_ix (k_ixT (K := K)) (pv 1) pe_int (fun _ _ => rfl))) (blkOk_by (by kernel_rfl)) (fun _ _ _ _ _ => (pg_name (i := 6) nd rfl (Or.inl rfl))) (fun _ _ _ _ _ => (pts_one (pt_cmpR (k_in (K := K)) (pv 6) (pe_dget (hu_of hr) (pv 2) (pv 4) (fun _ _ => rfl)) (by with_unfolding_all rfl)))) (fun _ _ _ _ _ => (pe_tup (pa_cons pe_str (pa_cons (pv 4) (pa_cons (pv 6) pa_nil)))))) pa_nil)))
    (pss_cons (ps_setLc (i := 5) rfl nd rfl rfl (sw_true rfl rfl rfl (by decide +kernel)) (own := [("_law_other", 6)]) (k_list (K := K) (pe_ix (k_ixT (K := K)) (pv 1) pe_int (fun _ _ => rfl))) (blkOk_by (by kernel_rfl)) (fun _ _ _ _ _ => (pg_name (i := 6) nd rfl (Or.inl rfl))) (fun _ _ _ _ _ => (pts_one (PW.pt (pw_and (pt_cmpR op_ne (pv 6) (pv 4) (nomark _)) (pw_and1 (pt_val (pe_cl ok__law_is_barred hr (by decide) rfl g__law_is_barred kp__law_is_barred (pa_cons (pe_dget (hu_of hr) (pv 2) (pv 4) (fun _ _ => rfl)) (pa_cons (pe_dget (hu_of hr) (pv 2) (pv 6) (fun _ _ => rfl)) (pa_cons (pe_ix (k_ixT (K := K)) (pv 0) pe_int (fun _ _ => rfl)) pa_nil)))))))))) (fun _ _ _ _ _ => (pv 6)))
    (pss_one (ps_expr (k_bm (K := K) PySem.F.plainAttrs_list PySem.F.slot_list_extend PySem.F.type_list_extend mt_extend (pv 3) (pa_cons (pe_lc (own := [("_law_other", 6)]) rfl nd (k_list (K := K) (pv 5)) (blkOk_by (by kernel_rfl)) (fun _ _ _ _ _ => (pg_name (i := 6) nd rfl (Or.inl rfl))) (fun _ _ _ _ _ => pts_nil) (fun _ _ _ _ _ => (pe_tup (pa_cons pe_str (pa_cons (pv 4) (pa_cons (pv 6) pa_nil)))))) pa_nil)))))))
    (pss_one (ps_ret (pv 3))))), ?_⟩)) (F.bindsN fun _ _ _ _ _ _ us hl => match us, hl with | [_, _], _ => rfl)
  obtain ⟨B, ⟨v1, v2, p, ⟨vi, vo, I, O⟩⟩, rfl, hb, ⟨hP, hH, hO⟩, hq⟩ := h
  have hP' := hP
  obtain ⟨a, ea, ta, hp⟩ := hP
  obtain ⟨a2, ea2, ta2, hi, ho⟩ := hH
  cases (show v1 = .ref a from ea)
  cases (show v2 = .ref a2 from ea2)
  have zi := hO.zi
  have mi := hO.i
  have zo := hO.zo
  have mo := hO.o
  dsimp only at ta hp ta2 hi ho zi mi zo mo
  have hz : p.pegs.length ≤ 12 := hp.v.nd.z
  refine q_asgT (P := fun v H' => ∃ a w2, ∃ l, v = .ref a ∧ At B H' a (.tup [w2, .ref l]) ∧ DcR B (TpS B) (p.pegs.map fun x => (x, lrow p.pegs p.wants x)) w2 H' ∧ At B H' l (.lst []) ∧ H l = none) (Go.refl hb) ((y_tup (ya_consG (DcR.st fun _ => TpS.st) (y_rowsG (y_part rfl ta rfl) (y_part rfl ta rfl) (.inl hp.ok.pegs) (.inl hp.ok.wants) hp.lr) (ya_consG (PA := fun v H' => ∃ l, v = .ref l ∧ At B H' l (.lst []) ∧ H l = none) (fun _ _ _ g ⟨l, e, t, n⟩ => ⟨l, e, t.go g, n⟩) (y_lstI ya_nil (by decide)) ya_nil)) (fun vs H1 H2 g ⟨w2, r2, e2, q2, w3, r3, e3, ⟨l, el, tl, nl⟩, e4⟩ => ⟨w2, r2, e2, DcR.st (fun _ => TpS.st) _ _ _ g q2, w3, r3, e3, ⟨l, el, tl.go g, nl⟩, e4⟩) fun vs H1 ⟨w2, r2, e2, q2, w3, r3, e3, q3, e4⟩ => by
    rw [e2, e3, show r3 = [] from e4]
    show 2 ≤ 100000
    decide).imp fun v H1 _ ⟨q, vs, e, t, _, w2, r2, e2, q2, w3, r3, e3, ⟨l, el, tl, nl⟩, e4⟩ => by
      rw [e2, e3, show r3 = [] from e4, el] at t
      exact ⟨q, _, e, t, rfl, q, w2, l, e, t, q2, tl, nl⟩) fun q vs2 H1 g1 _ tq ⟨q', w2, l, e, tq', h2, tl, nl⟩ => ?_
  cases e
  have e2 : vs2 = [w2, .ref l] := HO.tup.inj (Option.some.inj (tq.2.symm.trans tq'.2))
  subst e2
  refine ⟨_, _, rfl, _, _, rfl, rfl, ?_⟩
  show tSeq _ _ _ [some (.ref a), some (.ref a2), some w2, some (.ref l), none, none, none] H1
  refine q_forK (R := SV) (as := I) (H0 := H) (fun i σ1 H3 => Go B H H3 ∧ DcR B (TpS B) (p.pegs.map fun x => (x, lrow p.pegs p.wants x)) w2 H3 ∧ ∃ w4 w5 zs, σ1 = [some (.ref a), some (.ref a2), some w2, some (.ref l), w4, w5, none] ∧ H3 l = some (.lst zs) ∧ Paired (fun x z => TrR B x z H3) ((I.take i).flatMap fun x => oN p O x ++ oB p I x) zs) (yk_lS (y_part rfl ta2 rfl) hi) g1 (fun H2 g2 => ⟨g1.trans g2, DcR.st (fun _ => TpS.st) _ _ _ g2 h2, none, none, [], rfl, (tl.go g2).2, .nil⟩) (fun i σ1 H2 _ h => h.1) (fun i x σ1 H2 v H3 hx hI g3 r => ?_) fun σ1 H2 hI => ?_
  · obtain ⟨g2, d2, w4, w5, zs, rfl, hl, hc⟩ := hI
    rw [show v = .str x from r]
    have g03 := g2.trans g3
    have mx := mi x (List.mem_of_getElem? hx)
    have hx2 := List.mem_of_getElem? hx
    have tl3 : At B H3 l (.lst zs) := At.go ⟨tl.1, hl⟩ g3
    have d3 := DcR.st (fun _ => TpS.st) _ _ _ g3 d2
    have hlen : zs.length ≤ 1000 := by
      rw [← hc.length]
      refine Nat.le_trans (flat_len (n := 24) (fun y => ?_) _) ?_
      · rw [List.length_append]
        unfold oN oB oM
        rw [List.length_map, List.length_map]
        have q1 := List.length_filter_le (fun o => decide (o ∈ lrow p.pegs p.wants y)) O
        have q2 := List.length_filter_le (fun o => !decide (o = y) && brd (lrow p.pegs p.wants y) (lrow p.pegs p.wants o) p.bars) I
        omega
      · rw [List.length_take]
        omega
    have ht : I.take (i + 1) = I.take i ++ [x] := by rw [List.take_add_one, hx] <;> rfl
    show tSeq _ _ _ [some (.ref a), some (.ref a2), some w2, some (.ref l), some (.str x), w5, none] H3
    refine q_ext (R := fun ys H' => Paired (fun x z => TrR B x z H') (oN p O x) ys) (Go.refl g3.2) tl3 rfl ((y_lcR (fun o => decide (o ∈ lrow p.pegs p.wants x)) (val := fun o => TrR B ("needs", x, o)) (fun _ => TrR.st) (fun _ => TrR.nl) (yk_lS (y_part rfl (ta2.go g03) rfl) (LsS.st _ _ _ g03 ho)).yi (Nat.le_trans zo (by decide)) yg_s fun y σ2 H5 hy g5 s => ?_).imp fun v H5 g5 ⟨⟨q, ys, e, tq, pq⟩, _⟩ => ⟨q, ys, e, tq, ?_, paired_mapL pq⟩) fun ys H5 g5 _ hy => ?_
    · subst s
      exact ⟨rfl, yt_testI (y_in (y_var rfl) (y_dgetF (fun _ => TpS.st) (y_var rfl) (DcR.st (fun _ => TpS.st) _ _ _ g5 d3).z (y_var rfl) mx).tp), fun _ => y_tri y_c (y_var rfl) (y_var rfl)⟩
    · have h5 := pq.length
      have h6 := List.length_filter_le (fun o => decide (o ∈ lrow p.pegs p.wants x)) O
      omega
    have l5 := (tl3.go g5).2
    have g6 : Go B H (upd H5 l (.lst (zs ++ ys))) := (g03.trans g5).mut nl tl.1
    have d6 : DcR B (TpS B) (p.pegs.map fun x => (x, lrow p.pegs p.wants x)) w2 (upd H5 l (.lst (zs ++ ys))) := DcR.nl (fun _ => TpS.nl) _ _ _ _ _ (DcR.st (fun _ => TpS.st) _ _ _ g5 d3) l5
    have hc6 : Paired (fun x z => TrR B x z (upd H5 l (.lst (zs ++ ys)))) ((I.take i).flatMap (fun x => oN p O x ++ oB p I x) ++ oN p O x) (zs ++ ys) := paired_app (hc.mono fun x z q => TrR.nl _ _ _ _ _ (TrR.st _ _ _ (g3.trans g5) q) l5) (hy.mono fun x z q => TrR.nl _ _ _ _ _ q l5)
    generalize hzs6 : zs ++ ys = zs6 at g6 d6 hc6
    generalize hH6 : upd H5 l (.lst zs6) = H6 at g6 d6 hc6
    have tl6 : At B H6 l (.lst zs6) := ⟨tl.1, by rw [← hH6]; exact upd_same⟩
    have hlen6 : zs6.length ≤ 2000 := by
      rw [← hzs6, List.length_append, ← hy.length]
      unfold oN
      rw [List.length_map]
      have q1 := List.length_filter_le (fun o => decide (o ∈ lrow p.pegs p.wants x)) O
      omega
    show tSeq _ _ _ [some (.ref a), some (.ref a2), some w2, some (.ref l), some (.str x), w5, none] H6
    refine q_asg (P := LsS B (oM p I x)) (Go.refl g6.2) ((y_lcF (fun o => !decide (o = x) && brd (lrow p.pegs p.wants x) (lrow p.pegs p.wants o) p.bars) (yk_lS (y_part rfl (ta2.go g6) rfl) (LsS.st _ _ _ g6 hi)).yi (Nat.le_trans zi (by decide)) yg_s fun y σ2 H7 hy7 g7 s => ?_).imp fun v H1 _ h => h.1) fun w5' H7 g7 _ h7 => ?_
    · subst s
      have g67 := g6.trans g7
      have d7 := (DcR.st (fun _ => TpS.st) _ _ _ g7 d6).z
      refine ⟨rfl, yt_and (yt_is (yt_testI (y_op (y_var rfl) (y_var rfl) (o_ne rfl))) (by rw [str_eq])) fun _ => yt_BI (y_cl (args := fun p : IB => [p.v1, p.v2, p.v3]) (ya_consG TpS.st (y_dgetF (fun _ => TpS.st) (y_var rfl) d7 (y_var rfl) mx) (ya_consG TpS.st (y_dgetF (fun _ => TpS.st) (y_var rfl) d7 (y_var rfl) (mi y hy7)) (ya_consG St.is (y_part rfl (ta.go g67) rfl) ya_nil))) fun vs H8 g8 ⟨v1, _, e1, q1, v2, _, e2, q2, v3, _, e3, q3, e4⟩ => ⟨⟨v1, v2, p.vb, lrow p.pegs p.wants x, lrow p.pegs p.wants y, p.bars⟩, ?_, ⟨q1, q2, .inl ((hp.go (g67.trans g8)).ok.bars), Nat.le_trans hp.ok.z3 (by decide)⟩, fun _ _ _ h => h⟩), fun _ => y_var rfl⟩
      rw [e1, e2, e3, show v3 = _ from q3]
      rw [show _ = [] from e4]
    · have zM : (oM p I x).length ≤ 12 := Nat.le_trans (List.length_filter_le _ _) zi
      have tl7 := tl6.go g7
      refine s_ext (R := fun ys H' => Paired (fun x z => TrR B x z H') (oB p I x) ys) (Go.refl g7.2) tl7 rfl ((y_lcR (fun _ => true) (val := fun o => TrR B ("bars", x, o)) (fun _ => TrR.st) (fun _ => TrR.nl) (yk_lS (y_var rfl) h7).yi (Nat.le_trans zM (by decide)) yg_s fun y σ2 H8 hy g8 s => ?_).imp fun v H8 g8 ⟨⟨q, ys, e, tq, pq⟩, _⟩ => ?_) fun ys2 H8 g8 _ hy2 => ?_
      · subst s
        exact ⟨rfl, yt_yes, fun _ => y_tri y_c (y_var rfl) (y_var rfl)⟩
      · rw [fil_all] at pq
        have h5 := pq.length
        exact ⟨q, ys, e, tq, by omega, paired_mapL pq⟩
      · have l8 := (tl7.go g8).2
        refine ⟨((g6.trans g7).trans g8).mut nl tl.1, DcR.nl (fun _ => TpS.nl) _ _ _ _ _ (DcR.st (fun _ => TpS.st) _ _ _ (g7.trans g8) d6) l8, _, _, zs6 ++ ys2, rfl, upd_same, ?_⟩
        rw [ht, List.flatMap_append, List.flatMap_singleton, ← List.append_assoc]
        exact paired_app (hc6.mono fun x z q => TrR.nl _ _ _ _ _ (TrR.st _ _ _ (g7.trans g8) q) l8) (hy2.mono fun x z q => TrR.nl _ _ _ _ _ q l8)
  · obtain ⟨g2, d2, w4, w5, zs, rfl, hl, hc⟩ := hI
    rw [List.take_length] at hc
    exact s_ret (P := LsR B (TrR B) (obs p I O)) (Go.refl g2.2) ((y_var rfl).rep ⟨l, zs, rfl, ⟨tl.1, hl⟩, hc⟩ (LsR.st fun _ => TrR.st)) fun v3 H3 g3 _ e => hq v3 H3 (g2.trans g3) e
def sp__law_good_wish (K : PySem.W.Frag) : Sp := Pm (fun p : SS => [.ref p.bx, p.v]) (fun B p H => B = some p.bx ∧ PtR B p.p p.v H) (fun B p v H => ∃ h : Ho, HoR B h v H ∧ GoodW p.p h.I h.O)
theorem ok__law_good_wish (T : Fx K mg) : OK P w K mg base 13 (He.fAd K ("_law_good_wish", none)) (sp__law_good_wish K) := by
  obtain ⟨fd, F⟩ := T.dd 29 (d := d__law_good_wish) rfl
  have g__law_obstacles := T.glo 28 rfl
  have g__law_some_stand := T.glo 25 rfl
  have g__law_some_wish := T.glo 26 rfl
  have ok__law_obstacles := ok__law_obstacles (P := P) (w := w) (base := base) T
  obtain ⟨_, F__law_obstacles⟩ := T.dd 28 (d := d__law_obstacles) rfl
  have kp__law_obstacles := F__law_obstacles.kp
  have ok__law_some_stand := ok__law_some_stand (P := P) (w := w) (base := base) T
  obtain ⟨_, F__law_some_stand⟩ := T.dd 25 (d := d__law_some_stand) rfl
  have kp__law_some_stand := F__law_some_stand.kp
  have ok__law_some_wish := ok__law_some_wish (P := P) (w := w) (base := base) T
  obtain ⟨_, F__law_some_wish⟩ := T.dd 26 (d := d__law_some_wish) rfl
  have kp__law_some_wish := F__law_some_wish.kp
  have sc : FnScope ["_law_box_here", "_law_parts_here", "_law_hopes", "_law_row", "_law_peg"] ["_law_box_here", "_law_parts_here"] (defScope (top 75)) := ⟨rfl, rfl, rfl, by decide +kernel, rfl, by decide +kernel, by decide +kernel⟩
  have nd := sc.nd
  refine OK.of (F.ok sc (fun vs H Q E h => by obtain ⟨B, a, h⟩ := h; first | (obtain ⟨rfl, _⟩ := h; rfl) | (obtain ⟨x, dx, rfl, _⟩ := h; rfl)) (fun cdv A outer s H vs Q E hr h => ⟨_, PSs.nox (pss_cons (ps_set (i := 2) nd rfl (Or.inl rfl) (pe_cl ok__law_some_wish hr (by decide) rfl g__law_some_wish kp__law_some_wish (pa_cons (pv 0) (pa_cons (pv 1) pa_nil))))
    (pss_cons (ps_if (pt_cmpR (k_eqD (K := K) hr.units) (pe_cl ok__law_obstacles hr (by decide) rfl g__law_obstacles kp__law_obstacles (pa_cons (pv 1) (pa_cons (pv 2) pa_nil))) (pe_lst pa_nil) (nomark _)) (pss_one (ps_ret (pv 2))) pss_nil)
    (pss_cons (ps_set (i := 3) nd rfl (Or.inr rfl) (pe_cl ok__law_some_stand hr (by decide) rfl g__law_some_stand kp__law_some_stand (pa_cons (pv 0) (pa_cons (pv 1) pa_nil))))
    (pss_one (ps_ret (pe_tup (pa_cons (pe_lc (own := [("_law_peg", 4)]) rfl nd (k_list (K := K) (pe_ix (k_ixT (K := K)) (pv 2) pe_int (fun _ _ => rfl))) (blkOk_by (by kernel_rfl)) (fun _ _ _ _ _ => (pg_name (i := 4) nd rfl (Or.inl rfl))) (fun _ _ _ _ _ => (pts_one (pt_cmpR (k_in (K := K)) (pv 4) (pv 3) (by with_unfolding_all rfl)))) (fun _ _ _ _ _ => (pv 4))) (pa_cons (pe_lc (own := [("_law_peg", 4)]) rfl nd (k_list (K := K) (pe_ix (k_ixT (K := K)) (pv 2) pe_int (fun _ _ => rfl))) (blkOk_by (by kernel_rfl)) (fun _ _ _ _ _ => (pg_name (i := 4) nd rfl (Or.inl rfl))) (fun _ _ _ _ _ => (pts_one (pt_cmpR (k_ni (K := K)) (pv 4) (pv 3) (by with_unfolding_all rfl)))) (fun _ _ _ _ _ => (pv 4))) pa_nil)))))))), ?_⟩)) (F.bindsN fun _ _ _ _ _ _ us hl => match us, hl with | [_, _], _ => rfl)
  obtain ⟨B, ⟨bx, v1, p⟩, rfl, hb, ⟨hB, hP⟩, hq⟩ := h
  dsimp only at hB
  subst hB
  have hP' := hP
  obtain ⟨a, ea, ta, hp⟩ := hP
  cases (show v1 = .ref a from ea)
  dsimp only at ta hp hP'
  have hz : p.pegs.length ≤ 12 := hp.v.nd.z
  have hk : Sk p.pegs := fun x hx => nameOk_sk (hp.v.names x hx)
  refine q_asg (P := fun v H => ∃ h : Ho, HoR (some bx) h v H ∧ (h.I.length ≤ 12 ∧ ∀ x ∈ h.I, x ∈ p.pegs) ∧ (h.O.length ≤ 12 ∧ ∀ x ∈ h.O, x ∈ p.pegs)) (Go.refl hb) (y_clI (args := fun p : SS => [.ref p.bx, p.v]) (post := fun B (p : SS) v H => ∃ h : Ho, HoR B h v H ∧ (h.I.length ≤ 12 ∧ ∀ x ∈ h.I, x ∈ p.p.pegs) ∧ (h.O.length ≤ 12 ∧ ∀ x ∈ h.O, x ∈ p.p.pegs)) ⟨bx, .ref a, p⟩ (ya_cons (y_var rfl) (ya_cons (y_var rfl) ya_nil)) fun H1 g1 => ⟨rfl, PtR.st _ _ _ g1 hP'⟩) fun v2 H1 g1 _ ⟨⟨vi, vo, I, O⟩, hH, ⟨zi, mi⟩, zo, mo⟩ => ?_
  have hH' := hH
  obtain ⟨a2, ea2, ta2, hi, ho⟩ := hH
  cases (show v2 = .ref a2 from ea2)
  dsimp only at zi mi zo mo ta2 hi ho
  have sI : Sk I := fun x hx => hk x (mi x hx)
  have sO : Sk O := fun x hx => hk x (mo x hx)
  have e0 : ((obs p I O).map dT).isEmpty = decide (obs p I O = []) := by
    cases obs p I O <;> rfl
  refine q_when (b := decide (obs p I O = [])) (Go.refl g1.2) (yt_testI (y_is (y_empty (n := 1) (ds := (obs p I O).map dT) (LsR.st fun _ => TrR.st) (y_clI (args := fun p : OB => [p.v1, p.v2]) (post := fun B (p : OB) v H => LsR B (TrR B) (obs p.p p.h.I p.h.O) v H) ⟨.ref a, .ref a2, p, ⟨vi, vo, I, O⟩⟩ (ya_cons (y_var rfl) (ya_cons (y_var rfl) ya_nil)) fun H2 g2 => ⟨PtR.st _ _ _ (g1.trans g2) hP', HoR.st _ _ _ g2 hH', ⟨zi, mi, zo, mo⟩⟩) (fun _ _ h => LsR.dp (fun _ _ h => TrR.dp h) h) (fun d hd => by
    obtain ⟨t, ht, rfl⟩ := List.mem_map.mp hd
    exact obs_sk sI sO t ht) (by decide)) (congrArg V.bl e0))) (fun e H2 g2 _ => ?_) fun e H2 g2 _ => ?_
  · exact s_ret (Go.refl g2.2) ((y_var rfl).rep (HoR.st _ _ _ g2 hH') HoR.st) fun v H3 g3 _ h => hq v H3 ((g1.trans g2).trans g3) ⟨⟨vi, vo, I, O⟩, h, goodW_of mi mo zi zo (of_decide_eq_true e)⟩
  · refine q_asg (Go.refl g2.2) (y_someG (p := p) (y_var rfl) (y_var rfl) (PtR.st _ _ _ (g1.trans g2) hP')) fun v3 H3 g3 _ ⟨s, hs, hl, es⟩ => ?_
    have g13 := g2.trans g3
    refine s_ret (Go.refl g3.2) (y_hopes (G1 := fun ys => ys = I.filter fun x => decide (x ∈ s)) (G2 := fun ys => ys = O.filter fun x => !decide (x ∈ s)) ((y_lcF (fun x => decide (x ∈ s)) (yk_lS (y_part rfl (ta2.go g13) rfl) (LsS.st _ _ _ g13 hi)).yi (Nat.le_trans zi (by decide)) yg_s fun x σ2 H4 hx g4 s4 => ?_).imp fun v H1 _ h => ⟨_, h.1, rfl⟩) ((y_lcF (fun x => !decide (x ∈ s)) (yk_lS (y_part rfl (ta2.go g13) rfl) (LsS.st _ _ _ g13 ho)).yi (Nat.le_trans zo (by decide)) yg_s fun x σ2 H4 hx g4 s4 => ?_).imp fun v H1 _ h => ⟨_, h.1, rfl⟩)) fun v H4 g4 _ ⟨h, hh, q1, q2⟩ => hq v H4 ((g1.trans g13).trans g4) ⟨h, hh, ?_⟩
    · subst s4
      exact ⟨rfl, yt_testI (y_in (y_var rfl) ((y_var rfl).rep (TpS.st _ _ _ g4 hs) TpS.st).tp), fun _ => y_var rfl⟩
    · subst s4
      exact ⟨rfl, yt_testI (y_ni (y_var rfl) ((y_var rfl).rep (TpS.st _ _ _ g4 hs) TpS.st).tp), fun _ => y_var rfl⟩
    · rw [q1, q2]
      refine ⟨fun x hx => mi x (List.mem_filter.mp hx).1, fun x hx => mo x (List.mem_filter.mp hx).1, Nat.le_trans (List.length_filter_le _ _) zi, Nat.le_trans (List.length_filter_le _ _) zo, fun x hx y hy hm => ?_, fun x hx y hy _ => ?_⟩
      · have h1 := of_decide_eq_true (List.mem_filter.mp hx).2
        have h2 := (List.mem_filter.mp hy).2
        rw [decide_eq_true (lst_rch hl (lrow_mem.mp hm).2 h1)] at h2
        cases h2
      · exact lst_brd hl (of_decide_eq_true (List.mem_filter.mp hx).2) (of_decide_eq_true (List.mem_filter.mp hy).2)
structure SG where
  bx : Addr
  v : V
  vh : V
  p : Pa
  h : Ho
def sp__law_some_goal (K : PySem.W.Frag) : Sp := Pm (fun p : SG => [.ref p.bx, p.v, p.vh]) (fun B p H => B = some p.bx ∧ PtR B p.p p.v H ∧ HoR B p.h p.vh H ∧ GoodW p.p p.h.I p.h.O) (fun B p v H => ∃ s, TpS B s v H ∧ lst p.p s = true ∧ mts p.h.I p.h.O s = true ∧ s = p.p.pegs.filter fun x => decide (x ∈ s))
theorem fil_idem {xs : List Str} {f : Str → Bool} : xs.filter f = xs.filter fun x => decide (x ∈ xs.filter f) := List.filter_congr fun x hx => by
  rw [fil_mem hx]
theorem ok__law_some_goal (T : Fx K mg) : OK P w K mg base 7 (He.fAd K ("_law_some_goal", none)) (sp__law_some_goal K) := by
  obtain ⟨fd, F⟩ := T.dd 30 (d := d__law_some_goal) rfl
  have g__law_is_stand := T.glo 24 rfl
  have g__law_meets := T.glo 27 rfl
  have g__law_mixed := T.glo 18 rfl
  have g__law_rows := T.glo 20 rfl
  have g__law_take := T.glo 17 rfl
  have n_len := T.free 38 rfl
  have n_tuple := T.free 40 rfl
  have ok__law_is_stand := ok__law_is_stand (P := P) (w := w) (base := base) T
  obtain ⟨_, F__law_is_stand⟩ := T.dd 24 (d := d__law_is_stand) rfl
  have kp__law_is_stand := F__law_is_stand.kp
  have ok__law_meets := ok__law_meets (P := P) (w := w) (base := base) T
  obtain ⟨_, F__law_meets⟩ := T.dd 27 (d := d__law_meets) rfl
  have kp__law_meets := F__law_meets.kp
  have ok__law_mixed := ok__law_mixed (P := P) (w := w) (base := base) T
  obtain ⟨_, F__law_mixed⟩ := T.dd 18 (d := d__law_mixed) rfl
  have kp__law_mixed := F__law_mixed.kp
  have ok__law_rows := ok__law_rows (P := P) (w := w) (base := base) T
  obtain ⟨_, F__law_rows⟩ := T.dd 20 (d := d__law_rows) rfl
  have kp__law_rows := F__law_rows.kp
  have ok__law_take := ok__law_take (P := P) (w := w) (base := base) T
  obtain ⟨_, F__law_take⟩ := T.dd 17 (d := d__law_take) rfl
  have kp__law_take := F__law_take.kp
  have sc : FnScope ["_law_box_here", "_law_parts_here", "_law_hopes", "_law_rows_here", "_law_found", "_law_peg", "_law_more", "_law_one"] ["_law_box_here", "_law_parts_here", "_law_hopes"] (defScope (top 76)) := ⟨rfl, rfl, rfl, by decide +kernel, rfl, by decide +kernel, by decide +kernel⟩
  have nd := sc.nd
  refine OK.of (F.ok sc (fun vs H Q E h => by obtain ⟨B, a, h⟩ := h; first | (obtain ⟨rfl, _⟩ := h; rfl) | (obtain ⟨x, dx, rfl, _⟩ := h; rfl)) (fun cdv A outer s H vs Q E hr h => ⟨_, PSs.nox (pss_cons (ps_set (i := 3) nd rfl (Or.inr rfl) (pe_cl ok__law_rows hr (by decide) rfl g__law_rows kp__law_rows (pa_cons (pe_ix (k_ixT (K := K)) (pv 1) pe_int (fun _ _ => rfl)) (pa_cons (pe_ix (k_ixT (K := K)) (pv 1) pe_int (fun _ _ => rfl)) pa_nil))))
    (pss_cons (ps_set (i := 4) nd rfl (Or.inr rfl) (pe_lc (own := [("_law_peg", 5)]) rfl nd (k_tup (K := K) (pe_ix (k_ixT (K := K)) (pv 1) pe_int (fun _ _ => rfl))) (blkOk_by (by kernel_rfl)) (fun _ _ _ _ _ => (pg_name (i := 5) nd rfl (Or.inr rfl))) (fun _ _ _ _ _ => (pts_one (pt_cmpR (k_neD (K := K) hr.units) (pe_lc (own := [("_law_one", 7)]) rfl nd (k_list (K := K) (pe_ix (k_ixT (K := K)) (pv 2) pe_int (fun _ _ => rfl))) (blkOk_by (by kernel_rfl)) (fun _ _ _ _ _ => (pg_name (i := 7) nd rfl (Or.inl rfl))) (fun _ _ _ _ _ => (pts_one (pt_cmpR (k_in (K := K)) (pv 5) (pe_dget (hu_of hr) (pv 3) (pv 7) (fun _ _ => rfl)) (by with_unfolding_all rfl)))) (fun _ _ _ _ _ => pe_int)) (pe_lst pa_nil) (nomark _)))) (fun _ _ _ _ _ => (pv 5))))
    (pss_cons (ps_for PassesOwn.never rfl (k_list (K := K) (pe_slice (k_slL (K := K)) (pe_cl ok__law_mixed hr (by decide) rfl g__law_mixed kp__law_mixed (pa_cons (pv 0) (pa_cons (pe_ix (k_ixT (K := K)) (pv 1) pe_int (fun _ _ => rfl)) pa_nil))) po_none (po_some (pe_cl ok__law_take hr (by decide) rfl g__law_take kp__law_take (pa_cons (pv 0) (pa_cons (pe_op op_add (pe_callB (k_len (K := K)) rfl n_len (by rfl) (pa_cons (pe_ix (k_ixT (K := K)) (pv 1) pe_int (fun _ _ => rfl)) pa_nil)) pe_int) pa_nil)))))) (pg_name (i := 5) nd rfl (Or.inr rfl)) (pss_cons (ps_setLc (i := 6) rfl nd rfl rfl (sw_true rfl rfl rfl (by decide +kernel)) (own := [("_law_one", 7)]) (k_tup (K := K) (pe_ix (k_ixT (K := K)) (pv 1) pe_int (fun _ _ => rfl))) (blkOk_by (by kernel_rfl)) (fun _ _ _ _ _ => (pg_name (i := 7) nd rfl (Or.inl rfl))) (fun _ _ _ _ _ => (pts_one (PW.pt (pw_or (pt_cmpR (k_in (K := K)) (pv 7) (pv 4) (by with_unfolding_all rfl)) (pw_or1 (pt_cmpR (k_in (K := K)) (pv 7) (pe_dget (hu_of hr) (pv 3) (pv 5) (fun _ _ => rfl)) (by with_unfolding_all rfl))))))) (fun _ _ _ _ _ => (pv 7)))
    (pss_one (ps_if (PW.pt (pw_and (pt_val (pe_cl ok__law_is_stand hr (by decide) rfl g__law_is_stand kp__law_is_stand (pa_cons (pv 1) (pa_cons (k_tupleOf (K := K) rfl n_tuple (pv 6)) pa_nil)))) (pw_and1 (pt_val (pe_cl ok__law_meets hr (by decide) rfl g__law_meets kp__law_meets (pa_cons (pv 6) (pa_cons (pv 2) pa_nil))))))) (pss_one (ps_set (i := 4) nd rfl (Or.inr rfl) (pv 6))) pss_nil))))
    (pss_one (ps_ret (k_tupleOf (K := K) rfl n_tuple (pv 4))))))), ?_⟩)) (F.bindsN fun _ _ _ _ _ _ us hl => match us, hl with | [_, _, _], _ => rfl)
  obtain ⟨B, ⟨bx, v1, v2, p, ⟨vi, vo, I, O⟩⟩, rfl, hb, ⟨hB, hP, hH, hg⟩, hq⟩ := h
  dsimp only at hB
  subst hB
  have hP' := hP
  have hH' := hH
  obtain ⟨a, ea, ta, hp⟩ := hP
  obtain ⟨a2, ea2, ta2, hi, ho⟩ := hH
  cases (show v1 = .ref a from ea)
  cases (show v2 = .ref a2 from ea2)
  dsimp only at ta hp hP' hg ta2 hi ho hH'
  have hz : p.pegs.length ≤ 12 := hp.v.nd.z
  have hk : Sk p.pegs := fun x hx => nameOk_sk (hp.v.names x hx)
  have hpg := hp.ok.pegs
  refine q_asg (P := DcR (some bx) (TpS (some bx)) (p.pegs.map fun x => (x, lrow p.pegs p.wants x))) (Go.refl hb) (y_rowsG (y_part rfl ta rfl) (y_part rfl ta rfl) (.inl hpg) (.inl hp.ok.wants) hp.lr) fun w3 H1 g1 _ h3 => ?_
  refine q_asg (P := LsS (some bx) (clo p I)) (Go.refl g1.2) ((y_lcF (fun q => I.any fun x => decide (q ∈ lrow p.pegs p.wants x)) (yk_tS (y_part rfl (ta.go g1) rfl) (TpS.st _ _ _ g1 hpg)).yi (Nat.le_trans hz (by decide)) yg_s fun x σ2 H2 hx g2 s => ?_).imp fun v H1 _ h => h.1) fun w4 H2 g2 _ h4 => ?_
  · subst s
    have g12 := g1.trans g2
    have d2 := DcR.st (fun _ => TpS.st) _ _ _ g2 h3
    refine ⟨rfl, yt_testI (y_is (y_nonemptyI (y_lcI (fun y => decide (x ∈ lrow p.pegs p.wants y)) (fun _ => 1) (yk_lS (y_part rfl (ta2.go g12) rfl) (LsS.st _ _ _ g12 hi)).yi (Nat.le_trans hg.zi (by decide)) yg_s fun y σ3 H3 hy g3 s => ?_)) (congrArg V.bl (ne_any _ _ _))), fun _ => y_var rfl⟩
    subst s
    exact ⟨rfl, yt_testI (y_in (y_var rfl) (y_dgetF (fun _ => TpS.st) (y_var rfl) (DcR.st (fun _ => TpS.st) _ _ _ g3 d2).z (y_var rfl) (hg.i y hy)).tp), fun _ => y_c⟩
  have g02 := g1.trans g2
  obtain ⟨c1, c2⟩ := clo_ok hp.v hg
  have p2 := TpS.st _ _ _ g02 hpg
  refine q_forX (G := fun as => as.length ≤ 12 ∧ ∀ x ∈ as, x ∈ p.pegs) (R := SV) (yix_list (y_slG (n := p.pegs.length + 1) (y_mixG (y_var rfl) (y_part rfl (ta.go g02) rfl) (.inl p2) hk (Nat.le_trans hz (by decide))) (y_takeG (y_var rfl) (y_succ (y_lenS ((y_part rfl (ta.go g02) rfl).rep p2 TpS.st).tp)) (Nat.succ_pos _) (by omega)) fun ys d _ hys => ⟨by
    rw [List.length_take]
    have := hys.length_eq
    omega, fun x hx => hys.mem_iff.mp (List.mem_of_mem_take hx)⟩)) (Go.refl g2.2) fun as hG H3 g3 => ⟨fun i σ1 H4 => Go (some bx) H3 H4 ∧ ∃ w4 w5 w6 fs, σ1 = [some (.ref bx), some (.ref a), some (.ref a2), some w3, some w4, w5, w6, none] ∧ LsS (some bx) fs w4 H4 ∧ lst p fs = true ∧ mts I O fs = true ∧ fs = p.pegs.filter fun x => decide (x ∈ fs), ⟨Go.refl g3.2, w4, none, none, _, rfl, LsS.st _ _ _ g3 h4, c1, c2, fil_idem⟩, fun i σ1 H3 _ h => h.1, fun i x σ1 H4 v H5 hx hI g5 r => ?_, fun σ1 H4 hI => ?_⟩
  · obtain ⟨g4, w4, w5, w6, fs, rfl, hf, hl, hm, he⟩ := hI
    rw [show v = .str x from r]
    have g25 := (g3.trans g4).trans g5
    have g05 := g02.trans g25
    have mx := hG.2 x (List.mem_of_getElem? hx)
    have hf5 := LsS.st _ _ _ g5 hf
    have d5 := DcR.st (fun _ => TpS.st) _ _ _ (g2.trans g25) h3
    show tSeq _ _ _ [some (.ref bx), some (.ref a), some (.ref a2), some w3, some w4, some (.str x), w6, none] H5
    refine q_asg (P := LsS (some bx) (p.pegs.filter fun y => decide (y ∈ fs) || decide (y ∈ lrow p.pegs p.wants x))) (Go.refl g5.2) ((y_lcF (fun y => decide (y ∈ fs) || decide (y ∈ lrow p.pegs p.wants x)) (yk_tS (y_part rfl (ta.go g05) rfl) (TpS.st _ _ _ g05 hpg)).yi (Nat.le_trans hz (by decide)) yg_s fun y σ2 H6 hy g6 s => ?_).imp fun v H1 _ h => h.1) fun w6' H6 g6 _ h6 => ?_
    · subst s
      exact ⟨rfl, yt_or (yt_testI (y_in (y_var rfl) ((y_var rfl).rep (LsS.st _ _ _ g6 hf5) LsS.st).ls)) fun _ => yt_testI (y_in (y_var rfl) (y_dgetF (fun _ => TpS.st) (y_var rfl) (DcR.st (fun _ => TpS.st) _ _ _ g6 d5).z (y_var rfl) mx).tp), fun _ => y_var rfl⟩
    · have g06 := g05.trans g6
      generalize hmo : (p.pegs.filter fun y => decide (y ∈ fs) || decide (y ∈ lrow p.pegs p.wants x)) = mo at h6
      have hmo2 : mo = p.pegs.filter fun y => decide (y ∈ mo) := by
        rw [← hmo]
        exact fil_idem
      refine s_when (b := lst p mo && mts I O mo) (Go.refl g6.2) (yt_and (yt_BI (y_cl (args := fun p : IS => [p.v1, p.v2]) (ya_consG St.is (y_var rfl) (ya_consG TpS.st (y_tupLS ((y_var rfl).rep h6 LsS.st)) ya_nil)) fun vs H7 g7 ⟨u1, _, e1, q1, u2, _, e2, q2, e3⟩ => ⟨⟨.ref a, u2, p, mo⟩, by
        rw [e1, e2, show u1 = _ from q1, show _ = [] from e3], ⟨PtR.st _ _ _ (g06.trans g7) hP', .inl q2⟩, fun _ _ _ h => h⟩)) fun _ => yt_testI (y_clI (args := fun p : MT => [p.v1, p.v2]) (post := fun _ (p : MT) v _ => v = .bl (mts p.h.I p.h.O p.row)) ⟨w6', .ref a2, mo, ⟨vi, vo, I, O⟩⟩ (ya_cons (y_var rfl) (ya_cons (y_var rfl) ya_nil)) fun H7 g7 => ⟨.inr (LsS.st _ _ _ g7 h6), HoR.st _ _ _ (g06.trans g7) hH', Nat.le_trans hg.zi (by decide), Nat.le_trans hg.zo (by decide)⟩)) (fun e H7 g7 _ => ?_) fun e H7 g7 _ => ?_
      · obtain ⟨k1, k2⟩ := Bool.and_eq_true_iff.mp e
        exact s_asg (P := Is w6') (Go.refl g7.2) (y_var rfl) fun v8 H8 g8 _ e8 => ⟨(((g4.trans g5).trans g6).trans g7).trans g8, v8, _, _, mo, rfl, by
          rw [show v8 = _ from e8]
          exact LsS.st _ _ _ (g7.trans g8) h6, k1, k2, hmo2⟩
      · exact ⟨((g4.trans g5).trans g6).trans g7, w4, _, _, fs, rfl, LsS.st _ _ _ (g6.trans g7) hf5, hl, hm, he⟩
  · obtain ⟨g4, w4, w5, w6, fs, rfl, hf, hl, hm, he⟩ := hI
    exact s_ret (P := TpS (some bx) fs) (Go.refl g4.2) (y_tupLS ((y_var rfl).rep hf LsS.st)) fun v H5 g5 _ h => hq v H5 ((g02.trans (g3.trans g4)).trans g5) ⟨fs, h, hl, hm, he⟩
end
end NP
end
section
set_option Elab.async false
set_option linter.all false
set_option maxRecDepth 100000
set_option maxHeartbeats 4000000
/-! Drawn parts. -/
namespace NP
open PySem PySem.Spec PyProof.Rows L2
section
variable {α : Type} {B : Option Addr} {σ : L2.St} {H H0 : Hp} {te tk ta tb : TE} {ts : TA} {K : PySem.W.Frag} {D : Ends} {R : α → V → Hp → Prop} {g : TG} {tu tz : TS}
/-- for .. in range(n), n drawn -/
theorem q_rngX {N : Nat → Prop} (hi : YA B ts σ H0 (fun vs _ => ∃ n : Nat, vs = [.int (n : Int)] ∧ N n)) (hN : ∀ n, N n → n ≤ 100000) (g0 : Go B H0 H)
    (k : ∀ n, N n → ∀ H1, Go B H H1 → ∃ Inv : Nat → L2.St → Hp → Prop, Inv 0 σ H1 ∧ (∀ i σ1 H2, i < n → Inv i σ1 H2 → g (.int (i : Int)) σ1 H2 fun σ2 H3 => tu { D with nx := Inv (i + 1), ct := Inv (i + 1), bk := tz D } σ2 H3) ∧ (∀ σ1 H2, Inv n σ1 H2 → tz D σ1 H2)) : tSeq (tFor (iRng1 ts) g tu) tz D σ H :=
  hi H g0 _ fun vs H1 g1 ⟨n, e, hn⟩ => by
    obtain ⟨Inv, h0, hs, hd⟩ := k n hn H1 g1
    have w := walk_range (lo := 0) (n := n)
    have hn2 := hN n hn
    refine ⟨n, e, by omega, by omega, ?_⟩
    refine ⟨fun i m σ' H' => m = n - i ∧ i ≤ n ∧ Inv i σ' H', ⟨n, by omega, Nat.zero_le _, h0⟩, ?_⟩
    rintro i m σ' H' ⟨rfl, hle, hI⟩
    by_cases hlt : i < n
    · refine .inr ⟨w.goes i H' hlt trivial, fun σ2 H2 => i + 1 ≤ n ∧ Inv (i + 1) σ2 H2, fun σ2 H2 h2 => ⟨n - (i + 1), by omega, rfl, h2⟩, fun x H2 hy => ?_⟩
      obtain ⟨e1, e2⟩ := w.yields i H' x H2 hlt trivial hy
      subst e1
      have z := hs i σ' _ hlt hI
      have e3 : (fun σ2 H2 => i + 1 ≤ n ∧ Inv (i + 1) σ2 H2) = Inv (i + 1) := by
        funext σ2 H2
        exact propext ⟨fun h => h.2, fun h => ⟨hlt, h⟩⟩
      have e4 : x = V.int (i : Int) := e2.trans (congrArg V.int (Int.zero_add _))
      rw [e3, e4]
      exact z
    · have ei : i = n := by omega
      subst ei
      exact .inl ⟨w.stops H' trivial, hd σ' H' hI⟩
/-- a drawn text of a list -/
def StrD (xs : List Str) (n : Nat) : V → Hp → Prop := fun v _ => ∃ d x, d < n ∧ xs[d]? = some x ∧ v = .str x
theorem StrD.st {xs : List Str} {n : Nat} : St B (StrD xs n) := fun _ _ _ _ h => h
theorem NtR.st {n : Nat} : St B (NtR n) := fun _ _ _ _ h => h
theorem atI_nat {β : Type} {xs : List β} {d : Nat} {x : β} (h : xs[d]? = some x) : atI xs (d : Int) = some x := by
  have hl : d < xs.length := (List.getElem?_eq_some_iff.mp h).1
  unfold atI ixN
  rw [if_pos (by omega), if_pos (by omega)]
  exact h
theorem y_ixD {xs : List Str} {n : Nat} (h : Y B ta σ H (LsS B xs)) (hk : Y B tb σ H (NtR n)) (hn : n ≤ xs.length) : Y B (tOp (rIxL K) ta tb) σ H (StrD xs n) :=
  y_opG LsS.st h hk fun x y H1 g ⟨a, e, t⟩ ⟨d, hd, e2⟩ Q q => by
    obtain ⟨z, hz⟩ : ∃ z, xs[d]? = some z := ⟨_, List.getElem?_eq_getElem (by omega)⟩
    exact ⟨a, _, d, .str z, e, e2, t.sl, atI_nat (by rw [List.getElem?_map, hz] <;> rfl), q _ H1 (Go.refl g.2) ⟨d, z, hd, hz, rfl⟩⟩
/-- a pair of drawn texts -/
theorem y_prD {PA PB : V → Hp → Prop} (sa : St B PA) (sb : St B PB) (ha : Y B ta σ H PA) (hb : Y B tb σ H PB) {G : Str → Str → Prop} (hG : ∀ v w H1 H2, PA v H1 → PB w H2 → ∃ x y, v = .str x ∧ w = .str y ∧ G x y) : Y B (tTup (tCons ta (tCons tb tNil))) σ H (fun v H1 => ∃ q : Str × Str, PrS B q v H1 ∧ G q.1 q.2) :=
  (y_tup (ya_consG sa ha (ya_consG sb hb ya_nil)) (fun vs H1 H2 g ⟨w1, r1, e1, q1, w2, r2, e2, q2, e3⟩ => ⟨w1, r1, e1, sa _ _ _ g q1, w2, r2, e2, sb _ _ _ g q2, e3⟩) fun vs H1 ⟨w1, r1, e1, q1, w2, r2, e2, q2, e3⟩ => by
    rw [e1, e2, show r2 = [] from e3]
    show 2 ≤ 100000
    decide).imp fun v H1 _ ⟨a, vs, e, t, _, w1, r1, e1, q1, w2, r2, e2, q2, e3⟩ => by
      obtain ⟨x, y, h1, h2, h3⟩ := hG _ _ _ _ q1 q2
      rw [e1, e2, show r2 = [] from e3, h1, h2] at t
      exact ⟨(x, y), ⟨a, e, t⟩, h3⟩
theorem y_catR {xs ys : List α} (sR : ∀ x, St B (R x)) (ha : Y B ta σ H (LsR B R xs)) (hb : Y B tb σ H (LsR B R ys)) (hz : xs.length + ys.length ≤ 100000) : Y B (tOp rCat ta tb) σ H (LsR B R (xs ++ ys)) :=
  y_opG (LsR.st sR) ha hb fun x y H1 g ⟨a, zs, e, t, p⟩ ⟨b, us, e2, t2, p2⟩ Q q => ⟨a, b, _, _, e, e2, t.2, t2.2, by rw [← p.length, ← p2.length]; exact zl hz, fun p' hp => q _ _ (Go.new g.2 hp) ⟨p', _, rfl, At.new g.2 hp, paired_app (p.mono fun x z => sR x z _ _ (Go.new g.2 hp)) (p2.mono fun x z => sR x z _ _ (Go.new g.2 hp))⟩⟩
end
/-- an if whose branches end in states that J tells -/
theorem q_ifE {B : Option Addr} {σ : L2.St} {H H0 : Hp} {t : TT} {tu tw tz : TS} {D : Ends} {b : Bool} (J : L2.St → Prop) (g : Go B H0 H) (h : YT B t σ H0 (· = b)) (h1 : b = true → ∀ D' H1, Go B H H1 → (∀ H2, Go B H1 H2 → ∀ σ2, J σ2 → D'.nx σ2 H2) → tu D' σ H1) (h2 : b = false → ∀ D' H1, Go B H H1 → (∀ H2, Go B H1 H2 → ∀ σ2, J σ2 → D'.nx σ2 H2) → tw D' σ H1) (k : ∀ σ1 H1, J σ1 → Go B H H1 → tz D σ1 H1) : tSeq (tIfS t tu tw) tz D σ H :=
  s_if (D := { D with nx := tz D }) g h (fun e H1 _ g1 => h1 e _ H1 g1 fun H2 g2 σ2 j => k σ2 H2 j (g1.trans g2)) fun e H1 _ g1 => h2 e _ H1 g1 fun H2 g2 σ2 j => k σ2 H2 j (g1.trans g2)
theorem ya_consF {B : Option Addr} {σ : L2.St} {H : Hp} {ta : TE} {tr : TA} {PA : V → Hp → Prop} {P : List V → Hp → Prop} (h : Y B ta σ H PA) (hr : ∀ w H1, Go B H H1 → PA w H1 → YA B tr σ H1 (fun r H2 => P (w :: r) H2)) : YA B (tCons ta tr) σ H P := fun H1 g Q q =>
  h H1 g _ fun w H2 g2 p => (hr w H2 (g.trans g2) p) H2 (Go.refl g2.2) _ fun r H3 g3 pr => q _ _ (g2.trans g3) pr
/-! ### plain -/
/-- the place of a text -/
def ixOf : List Str → Str → Nat
  | [], _ => 0
  | y :: ys, x => if y = x then 0 else ixOf ys x + 1
theorem ixOf_le : ∀ (xs : List Str) (x : Str), ixOf xs x ≤ xs.length
  | [], _ => Nat.le_refl _
  | y :: ys, x => by
    unfold ixOf
    split
    · exact Nat.zero_le _
    · exact Nat.succ_le_succ (ixOf_le ys x)
theorem ixOf_at : ∀ {xs : List Str} {i : Nat} {x : Str}, xs.Nodup → xs[i]? = some x → ixOf xs x = i
  | [], _, _, _, h => by cases h
  | y :: ys, 0, x, _, h => by
    cases h
    unfold ixOf
    rw [if_pos rfl]
  | y :: ys, i + 1, x, hn, h => by
    obtain ⟨n1, n2⟩ := List.nodup_cons.mp hn
    have hm : x ∈ ys := List.mem_of_getElem? (i := i) h
    unfold ixOf
    rw [if_neg (fun e : y = x => n1 (e ▸ hm)), ixOf_at (i := i) n2 h]
/-- a want drawn from the order -/
def WantG (order : List Str) (q : Str × Str) : Prop := ∃ i j : Nat, j ≤ i ∧ order[i]? = some q.1 ∧ order[j]? = some q.2
/-- the parts as drawn, before they are tuples -/
structure DrW (pegs : List Str) (ws : List (Str × Str)) : Prop where
  in_ : ∀ q ∈ ws, q.1 ∈ pegs ∧ q.2 ∈ pegs ∧ q.1 ≠ q.2
  rk : ∃ r : Str → Nat, (∀ q ∈ ws, r q.2 < r q.1) ∧ ∀ x ∈ pegs, r x ≤ pegs.length
theorem drW_of {pegs order : List Str} {ws : List (Str × Str)} (hp : order.Perm pegs) (hn : order.Nodup) (h : ∀ q ∈ ws, WantG order q) : DrW pegs (ws.filter fun q => !decide (q.1 = q.2)) := by
  have key : ∀ q ∈ ws.filter (fun q => !decide (q.1 = q.2)), q.1 ≠ q.2 ∧ WantG order q := fun q hq => by
    obtain ⟨a, b⟩ := List.mem_filter.mp hq
    refine ⟨fun e => ?_, h q a⟩
    rw [decide_eq_true e] at b
    cases b
  refine ⟨fun q hq => ?_, ixOf order, fun q hq => ?_, fun x hx => ?_⟩
  · obtain ⟨ne, i, j, _, h1, h2⟩ := key q hq
    exact ⟨hp.mem_iff.mp (List.mem_of_getElem? h1), hp.mem_iff.mp (List.mem_of_getElem? h2), ne⟩
  · obtain ⟨ne, i, j, hij, h1, h2⟩ := key q hq
    rw [ixOf_at hn h1, ixOf_at hn h2]
    rcases Nat.lt_or_eq_of_le hij with z | z
    · exact z
    · subst z
      rw [h1] at h2
      exact absurd (Option.some.inj h2) ne
  · rw [← hp.length_eq]
    exact ixOf_le _ _
theorem brd_nr {pegs : List Str} {ws bars : List (Str × Str)} {x : Str} (hb : ∀ q ∈ bars, q.1 ∈ pegs ∧ q.2 ∈ pegs) (h : brd (lrow pegs ws x) (lrow pegs ws x) bars = false) : brd (nr ws x) (nr ws x) bars = false := brd_false fun q hq e => by
  have z : brd (lrow pegs ws x) (lrow pegs ws x) bars = true := brd_iff.mpr ⟨q, hq, by
    obtain ⟨m1, m2⟩ := hb q hq
    rw [lrow_mem, lrow_mem, ← nr_rch, ← nr_rch]
    rcases e with ⟨a, b⟩ | ⟨a, b⟩
    · exact .inl ⟨⟨m1, a⟩, m2, b⟩
    · exact .inr ⟨⟨m2, a⟩, m1, b⟩⟩
  rw [z] at h
  cases h
section
variable {P : Program} {w : World} {K : PySem.W.Frag} {mg : Str → Option Value} {base : Heap}
def sp__law_names (K : PySem.W.Frag) : Sp := Pm (fun p : Addr × Nat => [.ref p.1, .int (p.2 : Int)]) (fun B p H => B = some p.1 ∧ p.2 ≤ 12) (fun B p v H => ∃ ys, LsS B ys v H ∧ ys.length ≤ 12 ∧ ys.Nodup ∧ ∀ x ∈ ys, NameOk x)
def sp__law_parts (K : PySem.W.Frag) : Sp := Pm (fun p : Addr => [.ref p, .int 12]) (fun B p H => B = some p) (fun B p v H => ∃ q : Pa, PtR B q v H)
/-- [1, 2][take(2)] * len + 1, what is drawn below it -/
def FacR (n : Nat) : V → Hp → Prop := fun v _ => ∃ m : Nat, m ≤ 2 * n ∧ (n = 0 → m = 0) ∧ v = .int ((m + 1 : Nat) : Int)
theorem y_fac {bx : Addr} {σ : L2.St} {H : Hp} {xs : List Str} {v : V} {i j : Nat} (h0 : σ[i]? = some (some (V.ref bx))) (h2 : σ[j]? = some (some v)) (hl : LsS (some bx) xs v H) (hz : xs.length ≤ 1000) : Y (some bx) (tOp (rI0 fun i j => .int (i + j)) (tOp (rI CMul fun i j => .int (i * j)) (tOp (rIxL K) (tLst (tCons (tC (.int 1)) (tCons (tC (.int 2)) tNil))) (tCl (sp__law_take K) (tCons (tVar i) (tCons (tC (.int 2)) tNil)))) (tCB (fun xs H Q => ∃ p ys, xs = [.ref p] ∧ (SqL K H p ys ∨ SqT K H p ys) ∧ Q (.int ys.length) H) (tCons (tVar j) tNil))) (tC (.int 1))) σ H (FacR xs.length) :=
  y_opG (PA := fun v _ => ∃ c : Nat, c ≤ 2 ∧ v = .int ((c * xs.length : Nat) : Int)) (PB := Is (.int 1)) (fun _ _ _ _ h => h) (y_opG (PA := fun v _ => ∃ c : Nat, c ≤ 2 ∧ v = .int (c : Int)) (PB := Is (.int (xs.length : Int))) (fun _ _ _ _ h => h) (y_opG (PA := fun v H1 => ∃ a, v = .ref a ∧ At (some bx) H1 a (.lst [.int 1, .int 2])) (fun _ _ _ g ⟨a, e, t⟩ => ⟨a, e, t.go g⟩) ((y_lstI (ya_cons y_c (ya_cons y_c ya_nil)) (by decide)).imp fun v H1 _ ⟨a, e, t, _⟩ => ⟨a, e, t⟩) (y_takeG (n := 2) (y_var h0) y_c (by decide) (by decide)) fun x y H1 g ⟨a, e, t⟩ ⟨d, hd, e2⟩ Q q => by
      rcases (show d = 0 ∨ d = 1 by omega) with z | z
      · subst z
        exact ⟨a, _, _, .int 1, e, e2, t.sl, rfl, q _ H1 (Go.refl g.2) ⟨1, by decide, rfl⟩⟩
      · subst z
        exact ⟨a, _, _, .int 2, e, e2, t.sl, rfl, q _ H1 (Go.refl g.2) ⟨2, by decide, rfl⟩⟩) (y_lenS ((y_var h2).rep hl LsS.st).ls) fun x y H1 g ⟨c, hc, e⟩ e2 Q q => ⟨c, xs.length, e, e2, .inl ⟨by omega, by omega⟩, q _ H1 (Go.refl g.2) ⟨c, hc, congrArg V.int (by omega)⟩⟩) y_c fun x y H1 g ⟨c, hc, e⟩ e2 Q q => ⟨_, 1, e, e2, q _ H1 (Go.refl g.2) ⟨c * xs.length, Nat.mul_le_mul_right _ hc, fun z => by rw [z, Nat.mul_zero], congrArg V.int (by omega)⟩⟩
theorem ya_fac {bx : Addr} {σ : L2.St} {H : Hp} {te : TE} {n i : Nat} (h0 : σ[i]? = some (some (V.ref bx))) (h : Y (some bx) te σ H (FacR n)) (hz : n ≤ 1000) : YA (some bx) (tCons (tCl (sp__law_take K) (tCons (tVar i) (tCons te tNil))) tNil) σ H (fun vs _ => ∃ m : Nat, vs = [.int (m : Int)] ∧ m < 2 * n + 1 ∧ (n = 0 → m = 0)) :=
  (ya_consG (PA := fun v _ => ∃ m : Nat, m < 2 * n + 1 ∧ (n = 0 → m = 0) ∧ v = .int (m : Int)) (fun _ _ _ _ h => h) (y_cl (args := fun p : Addr × Nat => [.ref p.1, .int (p.2 : Int)]) (ya_consG St.is (y_var h0) (ya_consG (fun _ _ _ _ h => h) h ya_nil)) fun vs H1 g ⟨w1, r1, e1, q1, w2, r2, e2, ⟨m, hm, hm0, em⟩, e3⟩ => ⟨(bx, m + 1), by rw [e1, e2, show w1 = _ from q1, em, show r2 = [] from e3], ⟨rfl, Nat.succ_pos _, by show m + 1 < 1000000; omega⟩, fun v H2 _ ⟨d, hd, e⟩ => ⟨d, by
    have : d < m + 1 := hd
    omega, fun z => by
    have : d < m + 1 := hd
    have := hm0 z
    omega, e⟩⟩) ya_nil).imp fun vs H1 _ ⟨w1, r1, e1, ⟨m, h1, h2, e⟩, e3⟩ => ⟨m, by rw [e1, e, show r1 = [] from e3], h1, h2⟩
end
end NP
end
section
set_option Elab.async false
set_option linter.all false
set_option maxRecDepth 100000
set_option maxHeartbeats 4000000
/-! Drawn names. -/
namespace NP
open PySem PySem.Spec PyProof.Rows L2
/-! ### plain -/
def cp (x : Str) : List Nat := x.cps.toList
def mk (l : List Nat) : Str := ⟨l.toArray⟩
theorem cp_mk (l : List Nat) : cp (mk l) = l := by simp [cp, mk]
theorem mk_cp (x : Str) : mk (cp x) = x := by simp [cp, mk]
theorem cp_inj {x y : Str} (h : cp x = cp y) : x = y := by rw [← mk_cp x, ← mk_cp y, h]
theorem cp_app (x y : Str) : cp (x ++ y) = cp x ++ cp y := by
  show (x.cps ++ y.cps).toList = _
  rw [Array.toList_append] <;> rfl
theorem cp_len (x : Str) : (cp x).length = x.length := Array.length_toList
theorem let_at : ∀ i : Nat, i < 26 → letters.cps.toList[i]? = some (97 + i) := by decide +kernel
theorem let_in : ∀ i : Nat, i < 26 → (97 + i) ∈ letters.cps.toList := by decide +kernel
/-- the letter, the plain name, the name -/
def ltr (f k : Nat) : Nat := 97 + (f + 7 * k) % 26
def bnm (st : List Nat) (sp f k : Nat) : List Nat := st.take sp ++ [ltr f k] ++ st.drop sp
def nme (st : List Nat) (sp f fm k : Nat) : List Nat := if fm = 1 ∧ k % 2 = 1 then bnm st sp f (k - 1) ++ [ltr f k] else bnm st sp f k
theorem ltr_inj {f k j : Nat} (hk : k < 13) (hj : j < 13) (h : ltr f k = ltr f j) : k = j := by
  unfold ltr at h
  omega
theorem bnm_len {st : List Nat} {sp f k : Nat} : (bnm st sp f k).length = st.length + 1 := by
  unfold bnm
  rw [List.length_append, List.length_append, List.length_take, List.length_drop, List.length_singleton]
  omega
theorem bnm_inj {st : List Nat} {sp f k j : Nat} (hk : k < 13) (hj : j < 13) (h : bnm st sp f k = bnm st sp f j) : k = j := by
  unfold bnm at h
  have h1 := List.append_cancel_right h
  have h2 := List.append_cancel_left h1
  exact ltr_inj hk hj (List.cons.inj h2).1
theorem nme_inj {st : List Nat} {sp f fm k j : Nat} (hk : k < 13) (hj : j < 13) (h : nme st sp f fm k = nme st sp f fm j) : k = j := by
  unfold nme at h
  by_cases a : fm = 1 ∧ k % 2 = 1
  · by_cases b : fm = 1 ∧ j % 2 = 1
    · rw [if_pos a, if_pos b] at h
      have h2 := (List.append_inj' h rfl).2
      exact ltr_inj hk hj (List.cons.inj h2).1
    · rw [if_pos a, if_neg b] at h
      have z := congrArg List.length h
      rw [List.length_append, bnm_len, bnm_len, List.length_singleton] at z
      omega
  · by_cases b : fm = 1 ∧ j % 2 = 1
    · rw [if_neg a, if_pos b] at h
      have z := congrArg List.length h
      rw [List.length_append, bnm_len, bnm_len, List.length_singleton] at z
      omega
    · rw [if_neg a, if_neg b] at h
      exact bnm_inj hk hj h
theorem ltr_in (f k : Nat) : ltr f k ∈ letters.cps.toList := let_in _ (Nat.mod_lt _ (by decide))
theorem bnm_in {st : List Nat} {sp f k : Nat} (h : ∀ c ∈ st, c ∈ letters.cps.toList) : ∀ c ∈ bnm st sp f k, c ∈ letters.cps.toList := fun c hc => by
  unfold bnm at hc
  rcases List.mem_append.mp hc with hc | hc
  · rcases List.mem_append.mp hc with hc | hc
    · exact h c (List.mem_of_mem_take hc)
    · rw [List.mem_singleton.mp hc]
      exact ltr_in f k
  · exact h c (List.mem_of_mem_drop hc)
theorem nme_ok {st : List Nat} {sp f fm k : Nat} (h : ∀ c ∈ st, c ∈ letters.cps.toList) (h5 : st.length ≤ 5) (h1 : fm = 1 → st.length ≤ 4) : NameOk (mk (nme st sp f fm k)) := by
  have hl : 1 ≤ (nme st sp f fm k).length ∧ (nme st sp f fm k).length ≤ 6 := by
    unfold nme
    split
    · rename_i a
      have := h1 a.1
      rw [List.length_append, bnm_len, List.length_singleton]
      omega
    · rw [bnm_len]
      omega
  have e := cp_len (mk (nme st sp f fm k))
  rw [cp_mk] at e
  refine ⟨by omega, by omega, fun c hc => ?_⟩
  have hc : c ∈ nme st sp f fm k := by
    have : c ∈ cp (mk (nme st sp f fm k)) := hc
    rwa [cp_mk] at this
  unfold nme at hc
  split at hc
  · rcases List.mem_append.mp hc with hc | hc
    · exact bnm_in h c hc
    · rw [List.mem_singleton.mp hc]
      exact ltr_in f k
  · exact bnm_in h c hc
/-- the names -/
def nms (st : List Nat) (sp f fm n : Nat) : List Str := (List.range n).map fun k => mk (nme st sp f fm k)
theorem mk_inj {x y : List Nat} (h : mk x = mk y) : x = y := by rw [← cp_mk x, ← cp_mk y, h]
theorem nms_nodup {st : List Nat} {sp f fm n : Nat} (hn : n ≤ 12) : (nms st sp f fm n).Nodup := by
  unfold nms
  rw [List.Nodup, List.pairwise_map]
  refine List.Pairwise.imp_of_mem (fun {a b} ha hb hne e => hne ?_) (List.nodup_range (n := n))
  have := List.mem_range.mp ha
  have := List.mem_range.mp hb
  exact nme_inj (by omega) (by omega) (mk_inj e)
def wordsL : List Str := ["peg", "needs", "bars", "enter", "leave", "walk", "obey", "gather", "undo", "best", "show", "table"]
theorem words_nd : wordsL.Nodup := by decide +kernel
instance (x : Str) : Decidable (NameOk x) := inferInstanceAs (Decidable (_ ∧ _ ∧ _))
theorem words_ok : ∀ x ∈ wordsL, NameOk x := by decide +kernel
theorem join_mk : ∀ ls : List Nat, cp (Str.join "" (ls.map fun c => mk [c])) = ls
  | [] => rfl
  | [c] => cp_mk [c]
  | c :: d :: r => by
    show cp (mk [c] ++ ("" : Str) ++ Str.join "" ((d :: r).map fun c => mk [c])) = _
    rw [cp_app, cp_app, join_mk (d :: r), cp_mk] <;> rfl
theorem sum_mk : ∀ ls : List Nat, ((ls.map fun c => mk [c]).map (·.length)).sum = ls.length
  | [] => rfl
  | c :: r => by
    rw [List.map_cons, List.map_cons, List.sum_cons, sum_mk r, List.length_cons]
    show 1 + r.length = _
    omega
theorem lets_of : ∀ {xs : List Nat} {zs : List V}, Paired (fun (_ : Nat) (z : V) => ∃ c : Nat, z = .str (mk [c]) ∧ c ∈ letters.cps.toList) xs zs → ∃ cs : List Nat, zs = (cs.map fun c => mk [c]).map V.str ∧ cs.length = xs.length ∧ ∀ c ∈ cs, c ∈ letters.cps.toList
  | _, _, .nil => ⟨[], rfl, rfl, fun _ h => nomatch h⟩
  | _, _, .cons ⟨c, e, h1⟩ r => by
    obtain ⟨cs, a, b, d⟩ := lets_of r
    refine ⟨c :: cs, by rw [e, a] <;> rfl, by rw [List.length_cons, List.length_cons, b], fun x hx => ?_⟩
    rcases List.mem_cons.mp hx with z | z
    · rw [z]; exact h1
    · exact d x z
section
variable {α : Type} {B : Option Addr} {σ : L2.St} {H : Hp} {R : α → V → Hp → Prop} {wi : TI} {g : TG} {tt : TT} {te ta tb : TE} {vs : List Nat} {S : α → L2.St → Hp → Prop} {K : PySem.W.Frag}
/-- a comprehension over what is drawn -/
theorem y_lcX {G : List α → Prop} {P : V → Hp → Prop} (hi : YIX B wi σ H G R) (hc : ∀ as H1 J, G as → Go B H H1 → YI B (fun _ H K => K J H) σ H1 as R → Y B (tLc (fun _ H K => K J H) g tt te vs) σ H1 P) : Y B (tLc wi g tt te vs) σ H P := fun H0 g0 Q q =>
  hi H0 g0 _ fun as J H1 hG g1 w => (hc as H1 J hG (g0.trans g1) fun H2 g2 Kk k => k J H2 (Go.refl g2.2) (w.mono g2)) H1 (Go.refl g1.2) Q fun v H2 g2 p => q v H2 (g1.trans g2) p
theorem yix_rng {G : Nat → Prop} {ts : TA} (hi : YA B ts σ H (fun vs _ => ∃ n : Nat, vs = [.int (n : Int)] ∧ G n)) (hG : ∀ n, G n → n ≤ 100000) : YIX B (iRng1 ts) σ H (fun as => ∃ n, G n ∧ as = List.range n) (fun i v _ => v = .int ((i : Nat) : Int)) := fun H1 g Kk k =>
  hi H1 g _ fun vs H2 g2 ⟨n, e, hn⟩ => ⟨n, e, by omega, by have := hG n hn; omega, k (List.range n) _ H2 ⟨n, hn, rfl⟩ g2 (wk_of (walk_range (lo := 0)) (by simp) (fun _ _ => trivial) fun i x H1 v H2 ex g y => by
    obtain ⟨e1, e2⟩ := y
    subst e1
    obtain ⟨hi, ex⟩ := List.getElem?_eq_some_iff.mp ex
    rw [List.getElem_range] at ex
    subst ex
    exact ⟨Go.refl g.2, by rw [e2]; show V.int (0 + (i : Int)) = _; rw [Int.zero_add]⟩)⟩
/-- [a, b][int(c)] of drawn whole numbers: what holds of both -/
theorem y_pick {PA : V → Hp → Prop} {b : Bool} {x : V} (sa : St B PA) (ha : Y B ta σ H PA) (hb : Y B tb σ H (Is (.bl b))) : Y B (tOp (rIxL K) (tLst (tCons ta (tCons (tC x) tNil))) (tCB (fun xs H Q => (∃ i, xs = [.int i] ∧ Q (.int i) H) ∨ ∃ k, xs = [.bl k] ∧ Q (.int (if k then 1 else 0)) H) (tCons tb tNil))) σ H (fun v H1 => if b = true then v = x else PA v H1) :=
  y_opG (PA := fun v H1 => ∃ a w, v = .ref a ∧ At B H1 a (.lst [w, x]) ∧ PA w H1) (PB := Is (.int (if b = true then 1 else 0))) (fun _ _ _ g ⟨a, w, e, t, p⟩ => ⟨a, w, e, t.go g, sa _ _ _ g p⟩) ((y_lst (ya_consG sa ha (ya_cons y_c ya_nil)) (fun vs H1 H2 g ⟨w, r, e, p, e2⟩ => ⟨w, r, e, sa _ _ _ g p, e2⟩) fun vs H1 ⟨w, r, e, p, e2⟩ => by
    rw [e, show r = _ from e2]
    show 2 ≤ 100000
    decide).imp fun v H1 _ ⟨a, vs, e, t, _, w, r, e1, p, e2⟩ => ⟨a, w, e, by rw [e1, show r = _ from e2] at t; exact t, p⟩) (y_cb (R := As [.bl b]) (ya_cons hb ya_nil) fun vs H1 g e Q q => .inr ⟨b, e, by cases b <;> exact q _ H1 (Go.refl g.2) rfl⟩) fun v y H1 g ⟨a, w, e, t, p⟩ ey Q q => by
    cases b with
    | true => exact ⟨a, _, 1, x, e, ey, t.sl, rfl, q _ H1 (Go.refl g.2) rfl⟩
    | false => exact ⟨a, _, 0, w, e, ey, t.sl, rfl, q _ H1 (Go.refl g.2) p⟩
/-- texts told by their letters -/
def CpR (G : List Nat → Prop) : V → Hp → Prop := fun v _ => ∃ l, v = .str (mk l) ∧ G l
theorem CpR.st {G : List Nat → Prop} : St B (CpR G) := fun _ _ _ _ h => h
theorem y_ixS {x : Str} {i : Int} {c : Nat} (ha : Y B ta σ H (Is (.str x))) (hb : Y B tb σ H (Is (.int i))) (hz : x.length ≤ 1000) (e : atI x.cps.toList i = some c) : Y B (tOp rIxS ta tb) σ H (Is (.str (mk [c]))) :=
  y_op ha hb fun H1 g Q q => ⟨x, i, c, rfl, rfl, zl (by omega), e, q _ H1 (Go.refl g.2) rfl⟩
theorem y_addS {x y : Str} (ha : Y B ta σ H (Is (.str x))) (hb : Y B tb σ H (Is (.str y))) (hz : x.length + y.length ≤ 1000) : Y B (tOp (fun x y H Q => ∃ i j, x = .str i ∧ y = .str j ∧ i.length + j.length ≤ sizeLine ∧ Q (.str (i ++ j)) H) ta tb) σ H (Is (.str (x ++ y))) :=
  y_op ha hb fun H1 g Q q => ⟨x, y, rfl, rfl, zl (by omega), q _ H1 (Go.refl g.2) rfl⟩
theorem cut_toS (x : Str) (k : Nat) : cutS x none (some (k : Int)) = mk ((cp x).take k) := by
  unfold cutS mk cp
  rw [HT.sIx_none, HT.sIx_nat, List.drop_zero, Nat.sub_zero]
  have hl : x.cps.toList.length = x.length := Array.length_toList
  by_cases h : k ≤ x.length
  · rw [Nat.min_eq_left h]
  · have h' : x.length ≤ k := by omega
    rw [Nat.min_eq_right h', List.take_of_length_le (by omega), List.take_of_length_le (by omega)]
theorem cut_fromS (x : Str) (k : Nat) : cutS x (some (k : Int)) none = mk ((cp x).drop k) := by
  unfold cutS mk cp
  have hl : x.cps.toList.length = x.length := Array.length_toList
  rw [HT.sIx_none, HT.sIx_nat]
  by_cases h : k ≤ x.length
  · rw [Nat.min_eq_left h, List.take_of_length_le (by rw [List.length_drop]; omega)]
  · have h' : x.length ≤ k := by omega
    rw [Nat.min_eq_right h', List.drop_of_length_le (by omega), List.drop_of_length_le (by omega), List.take_nil]
theorem y_slToS {x : Str} {k : Nat} (h : Y B ta σ H (Is (.str x))) (hk : Y B tb σ H (Is (.int (k : Int)))) (hz : x.length ≤ 1000) : Y B (tSl rSlS ta tNoPart (tPart tb)) σ H (Is (.str (mk ((cp x).take k)))) := fun H1 g Q q =>
  h H1 g _ fun v H2 g2 e => hk H2 (g.trans g2) _ fun w H3 g3 ew => ⟨k, ew, x, e, zl (by omega), by rw [cut_toS]; exact q _ H3 (g2.trans g3) rfl⟩
theorem y_slFromS {x : Str} {k : Nat} (h : Y B ta σ H (Is (.str x))) (hk : Y B tb σ H (Is (.int (k : Int)))) (hz : x.length ≤ 1000) : Y B (tSl rSlS ta (tPart tb) tNoPart) σ H (Is (.str (mk ((cp x).drop k)))) := fun H1 g Q q =>
  h H1 g _ fun v H2 g2 e => hk H2 (g.trans g2) _ fun w H3 g3 ew => ⟨k, ew, x, e, zl (by omega), by rw [cut_fromS]; exact q _ H3 (g2.trans g3) rfl⟩
end
section
variable {P : Program} {w : World} {K : PySem.W.Frag} {mg : Str → Option Value} {base : Heap}
theorem ok__law_names (T : Fx K mg) : OK P w K mg base 7 (He.fAd K ("_law_names", none)) (sp__law_names K) := by
  obtain ⟨fd, F⟩ := T.dd 19 (d := d__law_names) rfl
  have g__law_mixed := T.glo 18 rfl
  have g__law_take := T.glo 17 rfl
  have n_int := T.free 50 rfl
  have n_len := T.free 38 rfl
  have n_range := T.free 46 rfl
  have ok__law_mixed := ok__law_mixed (P := P) (w := w) (base := base) T
  obtain ⟨_, F__law_mixed⟩ := T.dd 18 (d := d__law_mixed) rfl
  have kp__law_mixed := F__law_mixed.kp
  have ok__law_take := ok__law_take (P := P) (w := w) (base := base) T
  obtain ⟨_, F__law_take⟩ := T.dd 17 (d := d__law_take) rfl
  have kp__law_take := F__law_take.kp
  have sc : FnScope ["_law_box_here", "_law_many", "_law_letters", "_law_form", "_law_words", "_law_stem", "_law_spot", "_law_first", "_law_found", "_law_k", "_law_letter", "_law_name"] ["_law_box_here", "_law_many"] (defScope (top 65)) := ⟨rfl, rfl, rfl, by decide +kernel, rfl, by decide +kernel, by decide +kernel⟩
  have nd := sc.nd
  refine OK.of (F.ok sc (fun vs H Q E h => by obtain ⟨B, a, h⟩ := h; first | (obtain ⟨rfl, _⟩ := h; rfl) | (obtain ⟨x, dx, rfl, _⟩ := h; rfl)) (fun cdv A outer s H vs Q E hr h => ⟨_, PSs.nox (pss_cons (ps_asg (pe_tup (pa_cons pe_str (pa_cons (pe_cl ok__law_take hr (by decide) rfl g__law_take kp__law_take (pa_cons (pv 0) (pa_cons pe_int pa_nil))) pa_nil))) (k_gtup (K := K) (n := 2) rfl (pgs_cons (pg_name (i := 2) nd rfl (Or.inr rfl)) (pgs_cons (pg_name (i := 3) nd rfl (Or.inl rfl)) pgs_nil))))
    (pss_cons (ps_if (pt_cmpR op_eq (pv 3) pe_int (nomark _)) (pss_cons (ps_set (i := 4) nd rfl (Or.inl rfl) (pe_lst (pa_cons pe_str (pa_cons pe_str (pa_cons pe_str (pa_cons pe_str (pa_cons pe_str (pa_cons pe_str (pa_cons pe_str (pa_cons pe_str (pa_cons pe_str (pa_cons pe_str (pa_cons pe_str (pa_cons pe_str pa_nil))))))))))))))
    (pss_one (ps_ret (pe_slice (k_slL (K := K)) (pe_cl ok__law_mixed hr (by decide) rfl g__law_mixed kp__law_mixed (pa_cons (pv 0) (pa_cons (pv 4) pa_nil))) po_none (po_some (pv 1)))))) pss_nil)
    (pss_cons (ps_set (i := 5) nd rfl (Or.inl rfl) (k_bm (K := K) PySem.F.plainAttrs_str PySem.F.slot_str_join PySem.F.type_str_join (k_join (K := K)) pe_str (pa_cons (pe_lc (own := [("_law_k", 9)]) rfl nd (pi_range1 rfl n_range (pa_cons (pe_ix (k_ixL (K := K)) (pe_lst (pa_cons (pe_cl ok__law_take hr (by decide) rfl g__law_take kp__law_take (pa_cons (pv 0) (pa_cons pe_int pa_nil))) (pa_cons pe_int pa_nil))) (pe_callTy call_int1 rfl n_int (by rfl) (pa_cons (pe_cmpR op_eq (pv 3) pe_int (nomark _)) pa_nil)) (fun _ _ => rfl)) pa_nil)) (blkOk_by (by kernel_rfl)) (fun _ _ _ _ _ => (pg_name (i := 9) nd rfl (Or.inl rfl))) (fun _ _ _ _ _ => pts_nil) (fun _ _ _ _ _ => (pe_ix ix_str (pv 2) (pe_cl ok__law_take hr (by decide) rfl g__law_take kp__law_take (pa_cons (pv 0) (pa_cons pe_int pa_nil))) (fun _ _ => rfl)))) pa_nil)))
    (pss_cons (ps_par (i := 6) (j := 7) rfl nd rfl rfl (by decide) rfl rfl (pa_cons (pe_ix (k_ixL (K := K)) (pe_lst (pa_cons (pe_cl ok__law_take hr (by decide) rfl g__law_take kp__law_take (pa_cons (pv 0) (pa_cons (pe_op op_add (pe_callB call_len_str rfl n_len (by rfl) (pa_cons (pv 5) pa_nil)) pe_int) pa_nil))) (pa_cons pe_int pa_nil))) (pe_callTy call_int1 rfl n_int (by rfl) (pa_cons (pe_cmpR op_eq (pv 3) pe_int (nomark _)) pa_nil)) (fun _ _ => rfl)) (pa_cons (pe_cl ok__law_take hr (by decide) rfl g__law_take kp__law_take (pa_cons (pv 0) (pa_cons pe_int pa_nil))) pa_nil)) (by rfl))
    (pss_cons (ps_set (i := 8) nd rfl (Or.inl rfl) (pe_lst pa_nil))
    (pss_cons (ps_for PassesOwn.never rfl (pi_range1 rfl n_range (pa_cons (pv 1) pa_nil)) (pg_name (i := 9) nd rfl (Or.inl rfl)) (pss_cons (ps_set (i := 10) nd rfl (Or.inl rfl) (pe_ix ix_str (pv 2) (pe_op op_mod (pe_op op_add (pv 7) (pe_op op_mul pe_int (pv 9))) pe_int) (fun _ _ => rfl)))
    (pss_cons (ps_set (i := 11) nd rfl (Or.inl rfl) (pe_op op_add_str (pe_op op_add_str (pe_slice sl_str (pv 5) po_none (po_some (pv 6))) (pv 10)) (pe_slice sl_str (pv 5) (po_some (pv 6)) po_none)))
    (pss_cons (ps_if (PW.pt (pw_and (pt_cmpR op_eq (pv 3) pe_int (nomark _)) (pw_and1 (pt_cmpR op_eq (pe_op op_mod (pv 9) pe_int) pe_int (nomark _))))) (pss_one (ps_set (i := 11) nd rfl (Or.inl rfl) (pe_op op_add_str (pe_ix (k_ixL (K := K)) (pv 8) (pe_un un_neg pe_int) (fun _ _ => rfl)) (pv 10)))) pss_nil)
    (pss_one (ps_expr (k_bm (K := K) PySem.F.plainAttrs_list PySem.F.slot_list_append PySem.F.type_list_append mt_append (pv 8) (pa_cons (pv 11) pa_nil))))))))
    (pss_one (ps_ret (pe_cl ok__law_mixed hr (by decide) rfl g__law_mixed kp__law_mixed (pa_cons (pv 0) (pa_cons (pv 8) pa_nil))))))))))), ?_⟩)) (F.bindsN fun _ _ _ _ _ _ us hl => match us, hl with | [_, _], _ => rfl)
  obtain ⟨B, ⟨bx, n⟩, rfl, hb, ⟨hB, hn⟩, hq⟩ := h
  dsimp only at hB hn
  subst hB
  refine q_asgT (P := fun v H' => ∃ a f, ∃ d : Nat, v = .ref a ∧ At (some bx) H' a (.tup [.str letters, f]) ∧ d < 5 ∧ f = .int (d : Int)) (Go.refl hb) ((y_tup (ya_consG (PA := Is (.str letters)) St.is y_c (ya_consG NtR.st (y_takeG (n := 5) (y_var rfl) y_c (by decide) (by decide)) ya_nil)) (fun vs H1 H2 g h => h) fun vs H1 ⟨w1, r1, e1, q1, w2, r2, e2, q2, e3⟩ => by
    rw [e1, e2, show r2 = [] from e3]
    show 2 ≤ 100000
    decide).imp fun v H1 _ ⟨a, vs, e, t, _, w1, r1, e1, q1, w2, r2, e2, ⟨d, hd, q2⟩, e3⟩ => ⟨a, vs, e, t, by rw [e1, e2, show r2 = [] from e3] <;> rfl, a, w2, d, e, by rw [e1, e2, show r2 = [] from e3, show w1 = _ from q1] at t; exact t, hd, q2⟩) fun q vs2 H1 g1 _ tq ⟨q', f, fm, e, tq', hfm, ef⟩ => ?_
  cases e
  have e2 : vs2 = [.str letters, f] := HO.tup.inj (Option.some.inj (tq.2.symm.trans tq'.2))
  subst e2
  subst ef
  refine ⟨_, _, rfl, _, _, rfl, rfl, ?_⟩
  show tSeq _ _ _ [some (.ref bx), some (.int (n : Int)), some (.str letters), some (.int (fm : Int)), none, none, none, none, none, none, none, none] H1
  refine q_when (b := decide (fm = 0)) (Go.refl g1.2) (yt_is (yt_testI (y_op (y_var rfl) y_c (o_eq rfl))) ?_) (fun e H2 g2 _ => ?_) fun e H2 g2 _ => ?_
  · refine decide_eq_decide.mpr ⟨fun z => ?_, fun z => by rw [z] <;> rfl⟩
    have := V.int.inj z
    omega
  · refine q_asg (P := LsS (some bx) wordsL) (Go.refl g2.2) ((y_lstI (ya_cons y_c (ya_cons y_c (ya_cons y_c (ya_cons y_c (ya_cons y_c (ya_cons y_c (ya_cons y_c (ya_cons y_c (ya_cons y_c (ya_cons y_c (ya_cons y_c (ya_cons y_c ya_nil)))))))))))) (by decide)).imp fun v H1 _ ⟨a, e, t, _⟩ => ⟨a, e, t⟩) fun v4 H3 g3 _ h4 => ?_
    exact s_ret (P := LsG (some bx) fun ys => ys.length ≤ 12 ∧ ys.Nodup ∧ ∀ x ∈ ys, NameOk x) (Go.refl g3.2) (y_slG (n := 13) (y_mixG (K := K) (y_var rfl) (y_var rfl) (.inr h4) (fun x hx => nameOk_sk (words_ok x hx)) (by decide)) ((y_var rfl).rep (R := NtR 13) ⟨n, by omega, rfl⟩ NtR.st) fun ys d hd hys => ⟨by
      rw [List.length_take]
      omega, ((hys.nodup_iff.mpr words_nd).sublist (List.take_sublist _ _)), fun x hx => words_ok x (hys.mem_iff.mp (List.mem_of_mem_take hx))⟩) fun v H4 g4 _ h => hq v H4 ((g1.trans g2).trans (g3.trans g4)) h
  · have hf0 : fm ≠ 0 := of_decide_eq_false e
    refine q_asg (P := CpR fun l => l.length ≤ 5 ∧ (fm = 1 → l.length ≤ 4) ∧ ∀ c ∈ l, c ∈ letters.cps.toList) (Go.refl g2.2) ?_ fun v5 H3 g3 _ ⟨st, e5, z5, z4, hst⟩ => ?_
    · intro H3 g3 Q q
      refine ⟨rfl, ?_⟩
      refine (y_lcX (B := some bx) (σ := [some (.ref bx), some (.int (n : Int)), some (.str letters), some (.int (fm : Int)), none, none, none, none, none, none, none, none]) (H := H3) (P := fun v H1 => ∃ cs : List Nat, LsS (some bx) (cs.map fun c => mk [c]) v H1 ∧ cs.length ≤ 5 ∧ (fm = 1 → cs.length ≤ 4) ∧ ∀ c ∈ cs, c ∈ letters.cps.toList) (yix_rng (G := fun m => m ≤ 5 ∧ (fm = 1 → m ≤ 4)) ((ya_consG (PA := fun v _ => if decide (fm = 4) = true then v = .int 5 else NtR 5 v H3) (fun _ _ _ _ h => h) (y_pick (PA := fun v _ => NtR 5 v H3) (b := decide (fm = 4)) (fun _ _ _ _ h => h) (y_takeG (n := 5) (y_var rfl) y_c (by decide) (by decide)) (y_is (y_op (y_var rfl) y_c (o_eq rfl)) (congrArg V.bl (decide_eq_decide.mpr ⟨fun z => by
          have := V.int.inj z
          omega, fun z => by rw [z] <;> rfl⟩)))) ya_nil).imp fun vs H1 _ ⟨w1, r1, e1, q1, e2⟩ => ?_) (fun m h => by omega)) fun as H4 J ⟨m, hm, ea⟩ g4 yi => ?_) H3 (Go.refl g3.2) _ fun v H4 g4 ⟨cs, ⟨p, ep, tp⟩, h1, h2, h3⟩ => ?_
      · rw [e1, show r1 = [] from e2]
        by_cases h4 : fm = 4
        · rw [if_pos (decide_eq_true h4)] at q1
          exact ⟨5, by rw [q1] <;> rfl, by omega, fun z => by omega⟩
        · rw [if_neg (by rw [decide_eq_false h4]; decide)] at q1
          obtain ⟨d, hd, ed⟩ := q1
          exact ⟨d, by rw [ed], by omega, fun _ => by omega⟩
      · subst ea
        refine (y_lcG (as := List.range m) (S := fun (a : Nat) σ2 _ => σ2 = [some (.ref bx), some (.int (n : Int)), some (.str letters), some (.int (fm : Int)), none, none, none, none, none, some (.int (a : Int)), none, none]) (tst := fun _ b => b = true) (val := fun _ _ z _ => ∃ c : Nat, z = .str (mk [c]) ∧ c ∈ letters.cps.toList) yi (by rw [List.length_range]; omega) (fun a x H _ e Q q => by
            rw [show x = _ from e]
            exact q _ rfl) (fun _ _ _ _ _ _ h => h) (fun _ _ _ _ _ _ h _ => h) fun D a σ2 H5 ha g5 s _ => ?_).imp fun v H5 _ ⟨p, zs, e, t, _, c⟩ => ?_
        · subst s
          exact ⟨rfl, yt_yes, fun _ => y_opG (PA := Is (.str letters)) St.is (y_var rfl) (y_takeG (n := 26) (y_var rfl) y_c (by decide) (by decide)) fun x y H6 g6 ex ⟨d, hd, ed⟩ Q q => ⟨letters, d, 97 + d, ex, ed, zl (by decide +kernel), atI_nat (let_at d hd), q _ H6 (Go.refl g6.2) ⟨97 + d, rfl, let_in d hd⟩⟩⟩
        · obtain ⟨cs, h1, h2, h3⟩ := lets_of c.all
          rw [List.length_range] at h2
          exact ⟨cs, ⟨p, e, by rw [← h1]; exact t⟩, by omega, fun z => by have := hm.2 z; omega, h3⟩
      · refine ⟨"", p, cs.map fun c => mk [c], rfl, by rw [ep], .inl tp.sl, ?_, ?_⟩
        · rw [sum_mk, List.length_map]
          show cs.length + cs.length * 0 ≤ 16777216
          omega
        · refine q _ H4 g4 ⟨cs, ?_, h1, h2, h3⟩
          have e : Txt.join "" (cs.map fun c => mk [c]) = mk cs := by
            rw [← mk_cp (Txt.join _ _)]
            unfold Txt.join
            rw [StrLaws.glued_eq_join, join_mk]
          rw [e]
    · rw [e5]
      show tSeq _ _ _ [some (.ref bx), some (.int (n : Int)), some (.str letters), some (.int (fm : Int)), none, some (.str (mk st)), none, none, none, none, none, none] H3
      have lst5 : (mk st).length = st.length := by rw [← cp_len, cp_mk]
      have g03 := (g1.trans g2).trans g3
      refine q_par (PB := fun _ => NtR 26) (Go.refl g3.2) ((y_pick (PA := fun v _ => NtR (st.length + 1) v H3) (b := decide (fm = 4)) (fun _ _ _ _ h => h) (y_takeG (n := st.length + 1) (y_var rfl) (y_succ (y_is (y_lenT (y_var rfl) (by omega)) (by rw [lst5]))) (Nat.succ_pos _) (by omega)) (y_is (y_op (y_var rfl) y_c (o_eq rfl)) (congrArg V.bl (decide_eq_decide.mpr ⟨fun z => by
          have := V.int.inj z
          omega, fun z => by rw [z] <;> rfl⟩)))).imp (P' := fun v _ => ∃ s : Nat, v = .int (s : Int)) fun v H1 _ q1 => ?_) fun v6 H4 g4 ⟨sp, e6⟩ => ⟨y_takeG (n := 26) (y_var rfl) y_c (by decide) (by decide), fun v7 H5 g5 ⟨f, _, e7⟩ => ?_⟩
      · by_cases h4 : fm = 4
        · rw [if_pos (decide_eq_true h4)] at q1
          exact ⟨5, q1⟩
        · rw [if_neg (by rw [decide_eq_false h4]; decide)] at q1
          obtain ⟨d, hd, ed⟩ := q1
          exact ⟨d, ed⟩
      rw [e6, e7]
      have g05 := g03.trans (g4.trans g5)
      show tSeq _ _ _ [some (.ref bx), some (.int (n : Int)), some (.str letters), some (.int (fm : Int)), none, some (.str (mk st)), some (.int (sp : Int)), some (.int (f : Int)), none, none, none, none] H5
      refine q_asg (Go.refl g5.2) (y_lstI ya_nil (by decide)) fun vf H6 g6 _ ⟨l, el, tl, nl⟩ => ?_
      subst el
      refine q_forK (R := fun i v _ => v = .int ((i : Nat) : Int)) (as := List.range n) (H0 := H5) (fun i σ1 H7 => Go (some bx) H5 H7 ∧ ∃ w9 w10 w11, σ1 = [some (.ref bx), some (.int (n : Int)), some (.str letters), some (.int (fm : Int)), none, some (.str (mk st)), some (.int (sp : Int)), some (.int (f : Int)), some (.ref l), w9, w10, w11] ∧ H7 l = some (.lst ((nms st sp f fm i).map V.str))) (yk_rng (ya_cons (y_var rfl) ya_nil) (by omega)) g6 (fun H7 g7 => ⟨g6.trans g7, none, none, none, rfl, (tl.go g7).2⟩) (fun i σ1 H7 _ h => h.1) (fun i x σ1 H7 v H8 hx hI g8 r => ?_) fun σ1 H7 hI => ?_
      · obtain ⟨g7, w9, w10, w11, rfl, hl⟩ := hI
        obtain ⟨hi, ex⟩ := List.getElem?_eq_some_iff.mp hx
        rw [List.getElem_range] at ex
        subst ex
        rw [List.length_range] at hi
        rw [show v = _ from r]
        show tSeq _ _ _ [some (.ref bx), some (.int (n : Int)), some (.str letters), some (.int (fm : Int)), none, some (.str (mk st)), some (.int (sp : Int)), some (.int (f : Int)), some (.ref l), some (.int (i : Int)), w10, w11] H8
        have tl8 : At (some bx) H8 l (.lst ((nms st sp f fm i).map V.str)) := At.go ⟨tl.1, hl⟩ g8
        refine q_asg (P := Is (.str (mk [ltr f i]))) (Go.refl g8.2) (y_ixS (c := ltr f i) (y_var rfl) (y_is (y_op (y_op (y_var rfl) (y_op y_c (y_var rfl) (o_mul (cm1 ⟨by decide, by decide⟩))) o_add) y_c (o_mod (by decide))) (w := .int (((f + 7 * i) % 26 : Nat) : Int)) (congrArg V.int (by omega))) (by decide +kernel) (atI_nat (let_at _ (Nat.mod_lt _ (by decide))))) fun v10 H9 g9 _ e10 => ?_
        rw [show v10 = _ from e10]
        have l1 : (mk [ltr f i]).length = 1 := rfl
        have lt1 : (mk ((cp (mk st)).take sp)).length ≤ 5 := by
          rw [← cp_len, cp_mk, cp_mk, List.length_take]
          omega
        have lt2 : (mk ((cp (mk st)).drop sp)).length ≤ 5 := by
          rw [← cp_len, cp_mk, cp_mk, List.length_drop]
          omega
        have la : (mk ((cp (mk st)).take sp) ++ mk [ltr f i]).length ≤ 6 := by
          rw [← cp_len, cp_app, List.length_append, cp_len, cp_len, l1]
          omega
        have eb : mk ((cp (mk st)).take sp) ++ mk [ltr f i] ++ mk ((cp (mk st)).drop sp) = mk (bnm st sp f i) := cp_inj (by
          rw [cp_app, cp_app, cp_mk, cp_mk, cp_mk, cp_mk, cp_mk] <;> rfl)
        refine q_asg (P := Is (.str (mk (bnm st sp f i)))) (Go.refl g9.2) (y_is (y_addS (y_addS (y_slToS (y_var rfl) (y_var rfl) (by omega)) (y_var rfl) (by omega)) (y_slFromS (y_var rfl) (y_var rfl) (by omega)) (by omega)) (congrArg V.str eb)) fun v11 H10 g10 _ e11 => ?_
        rw [show v11 = _ from e11]
        have g810 := g9.trans g10
        have tl10 := tl8.go g810
        show tSeq _ _ _ [some (.ref bx), some (.int (n : Int)), some (.str letters), some (.int (fm : Int)), none, some (.str (mk st)), some (.int (sp : Int)), some (.int (f : Int)), some (.ref l), some (.int (i : Int)), some (.str (mk [ltr f i])), some (.str (mk (bnm st sp f i)))] H10
        refine q_ifE (J := fun σ1 => σ1 = [some (.ref bx), some (.int (n : Int)), some (.str letters), some (.int (fm : Int)), none, some (.str (mk st)), some (.int (sp : Int)), some (.int (f : Int)), some (.ref l), some (.int (i : Int)), some (.str (mk [ltr f i])), some (.str (mk (nme st sp f fm i)))]) (b := decide (fm = 1) && decide (i % 2 = 1)) (Go.refl g10.2) (yt_and (yt_is (yt_testI (y_op (y_var rfl) y_c (o_eq rfl))) (decide_eq_decide.mpr ⟨fun z => by
            have := V.int.inj z
            omega, fun z => by rw [z] <;> rfl⟩)) fun _ => yt_is (yt_testI (y_op (y_op (y_var rfl) y_c (o_mod (by decide))) y_c (o_eq rfl))) (decide_eq_decide.mpr ⟨fun z => by
            have := V.int.inj z
            omega, fun z => congrArg V.int (by omega)⟩)) (fun e D' H11 g11 hn11 => ?_) (fun e D' H11 g11 hn11 => ?_) fun σ1 H11 es g11 => ?_
        · obtain ⟨b1, b2⟩ := Bool.and_eq_true_iff.mp e
          have hfm1 := of_decide_eq_true b1
          have hodd := of_decide_eq_true b2
          have en : nme st sp f fm i = bnm st sp f (i - 1) ++ [ltr f i] := if_pos ⟨hfm1, hodd⟩
          have ep : nme st sp f fm (i - 1) = bnm st sp f (i - 1) := if_neg fun z => by omega
          have lb : (mk (bnm st sp f (i - 1))).length ≤ 6 := by
            rw [← cp_len, cp_mk, bnm_len]
            omega
          have hlen : ((nms st sp f fm i).map V.str).length = i := by
            unfold nms
            rw [List.length_map, List.length_map, List.length_range]
          have hat : atI ((nms st sp f fm i).map V.str) (-1) = some (.str (mk (bnm st sp f (i - 1)))) := by
            unfold atI ixN
            rw [hlen, if_neg (by decide), if_pos (by omega)]
            show ((nms st sp f fm i).map V.str)[(-1 + (i : Int)).toNat]? = _
            rw [show (-1 + (i : Int)).toNat = i - 1 by omega]
            unfold nms
            rw [List.getElem?_map, List.getElem?_map, List.getElem?_range (by omega)]
            show some (V.str (mk (nme st sp f fm (i - 1)))) = _
            rw [ep]
          exact s_asg (P := Is (.str (mk (nme st sp f fm i)))) (Go.refl g11.2) (y_is (y_addS (y_ixL (y_var rfl) (tl10.go g11) (y_un y_c fun H1 g Q q => ⟨1, rfl, q _ H1 (Go.refl g.2) rfl⟩) hat) (y_var rfl) (by omega)) (congrArg V.str (cp_inj (by rw [cp_app, cp_mk, cp_mk, cp_mk, en])))) fun v12 H12 g12 _ e12 => hn11 H12 g12 _ (by rw [show v12 = _ from e12] <;> rfl)
        · have en : nme st sp f fm i = bnm st sp f i := if_neg fun z => by
            rw [decide_eq_true z.1, decide_eq_true z.2] at e
            cases e
          exact hn11 H11 (Go.refl g11.2) _ (by rw [en])
        · subst es
          have tl11 := tl10.go g11
          refine s_app (Go.refl g11.2) tl11 rfl (by
            unfold nms
            rw [List.length_map, List.length_map, List.length_range]
            omega) (y_var rfl) fun v12 H12 g12 _ e12 => ?_
          refine ⟨((g7.trans g8).trans (g810.trans (g11.trans g12))).mut nl tl.1, _, _, _, rfl, ?_⟩
          rw [upd_same, show v12 = _ from e12]
          unfold nms
          rw [List.range_succ, List.map_append, List.map_append] <;> rfl
      · obtain ⟨g7, w9, w10, w11, rfl, hl⟩ := hI
        rw [List.length_range] at hl
        have hok : ∀ x ∈ nms st sp f fm n, NameOk x := fun x hx => by
          obtain ⟨k, _, rfl⟩ := List.mem_map.mp hx
          exact nme_ok hst z5 z4
        have hlen : (nms st sp f fm n).length = n := by
          unfold nms
          rw [List.length_map, List.length_range]
        exact s_ret (P := LsG (some bx) fun ys => ys.Perm (nms st sp f fm n)) (Go.refl g7.2) (y_mixG (K := K) (y_var rfl) (y_var rfl) (.inr ⟨l, rfl, tl.1, hl⟩) (fun x hx => nameOk_sk (hok x hx)) (by omega)) fun v H8 g8 _ ⟨ys, hy, py⟩ => hq v H8 (g05.trans (g7.trans g8)) ⟨ys, hy, by rw [py.length_eq, hlen]; exact hn, py.nodup_iff.mpr (nms_nodup hn), fun x hx => hok x (py.mem_iff.mp hx)⟩
end
end NP
end
section
set_option Elab.async false
set_option linter.all false
set_option maxRecDepth 100000
set_option maxHeartbeats 4000000
namespace NP
open PySem PySem.Spec PyProof.Rows L2
section
variable {P : Program} {w : World} {K : PySem.W.Frag} {mg : Str → Option Value} {base : Heap}
theorem At.upx {B : Option Addr} {H : Hp} {a x : Addr} {u o : HO} (t : At B H a u) (h : a ≠ x) : At B (upd H x o) a u := ⟨t.1, by
  rw [upd_ne h]
  exact t.2⟩
theorem LsS.nx {B : Option Addr} {H : Hp} {xs : List Str} {v : V} {x : Addr} {o : HO} (h : LsS B xs v H) (hx : v ≠ .ref x) : LsS B xs v (upd H x o) := by
  obtain ⟨a, e, t⟩ := h
  exact ⟨a, e, t.upx fun z => hx (by rw [e, z])⟩
theorem ints_of : ∀ {xs : List Str} {zs : List V}, Paired (fun (_ : Str) (z : V) => ∃ c : Int, z = .int c ∧ 1 ≤ c ∧ c ≤ 1000) xs zs → ∃ cs : List Int, zs = cs.map V.int ∧ cs.length = xs.length ∧ ∀ c ∈ cs, 1 ≤ c ∧ c ≤ 1000
  | _, _, .nil => ⟨[], rfl, rfl, fun _ h => nomatch h⟩
  | _, _, .cons ⟨c, e, h1, h2⟩ r => by
    obtain ⟨cs, a, b, d⟩ := ints_of r
    refine ⟨c :: cs, by rw [e, a] <;> rfl, by rw [List.length_cons, List.length_cons, b], fun x hx => ?_⟩
    rcases List.mem_cons.mp hx with z | z
    · rw [z]; exact ⟨h1, h2⟩
    · exact d x z
theorem y_tupLI {B : Option Addr} {σ : L2.St} {H : Hp} {te : TE} {xs : List Int} (h : Y B te σ H (LsI B xs)) : Y B (tThen te (kTup K)) σ H (TpI B xs) :=
  y_then h fun x H1 g ⟨a, e, t⟩ Q q => .inl ⟨a, _, e, t.sl, fun p hp => q _ _ (Go.new g.2 hp) ⟨p, rfl, At.new g.2 hp⟩⟩
theorem LsR.nxl {α : Type} {B : Option Addr} {R : α → V → Hp → Prop} (hR : ∀ x, NoL (R x)) {xs : List α} {v : V} {H : Hp} {l : Addr} {zs zs' : List V} (h : LsR B R xs v H) (hx : v ≠ .ref l) (hl : H l = some (.lst zs)) : LsR B R xs v (upd H l (.lst zs')) := by
  obtain ⟨a, us, e, t, p⟩ := h
  exact ⟨a, us, e, t.upx fun z => hx (by rw [e, z]), p.mono fun x z q => hR x z H l zs zs' q hl⟩
theorem ok__law_parts (T : Fx K mg) : OK P w K mg base 10 (He.fAd K ("_law_parts", none)) (sp__law_parts K) := by
  obtain ⟨fd, F⟩ := T.dd 22 (d := d__law_parts) rfl
  have g__law_is_barred := T.glo 21 rfl
  have g__law_mixed := T.glo 18 rfl
  have g__law_names := T.glo 19 rfl
  have g__law_rows := T.glo 20 rfl
  have g__law_take := T.glo 17 rfl
  have n_len := T.free 38 rfl
  have n_range := T.free 46 rfl
  have n_tuple := T.free 40 rfl
  have ok__law_is_barred := ok__law_is_barred (P := P) (w := w) (base := base) T
  obtain ⟨_, F__law_is_barred⟩ := T.dd 21 (d := d__law_is_barred) rfl
  have kp__law_is_barred := F__law_is_barred.kp
  have ok__law_mixed := ok__law_mixed (P := P) (w := w) (base := base) T
  obtain ⟨_, F__law_mixed⟩ := T.dd 18 (d := d__law_mixed) rfl
  have kp__law_mixed := F__law_mixed.kp
  have ok__law_names := ok__law_names (P := P) (w := w) (base := base) T
  obtain ⟨_, F__law_names⟩ := T.dd 19 (d := d__law_names) rfl
  have kp__law_names := F__law_names.kp
  have ok__law_rows := ok__law_rows (P := P) (w := w) (base := base) T
  obtain ⟨_, F__law_rows⟩ := T.dd 20 (d := d__law_rows) rfl
  have kp__law_rows := F__law_rows.kp
  have ok__law_take := ok__law_take (P := P) (w := w) (base := base) T
  obtain ⟨_, F__law_take⟩ := T.dd 17 (d := d__law_take) rfl
  have kp__law_take := F__law_take.kp
  have sc : FnScope ["_law_box_here", "_law_most", "_law_pegs", "_law_order", "_law_wants", "_law_blocks", "_law_turn", "_law_late", "_law_rows_here", "_law_pair", "_law_dead", "_law_prices", "_law_peg", "_law_needed"] ["_law_box_here", "_law_most"] (defScope (top 68)) := ⟨rfl, rfl, rfl, by decide +kernel, rfl, by decide +kernel, by decide +kernel⟩
  have nd := sc.nd
  refine OK.of (F.ok sc (fun vs H Q E h => by obtain ⟨B, a, h⟩ := h; first | (obtain ⟨rfl, _⟩ := h; rfl) | (obtain ⟨x, dx, rfl, _⟩ := h; rfl)) (fun cdv A outer s H vs Q E hr h => ⟨_, PSs.nox (pss_cons (ps_set (i := 2) nd rfl (Or.inl rfl) (pe_cl ok__law_names hr (by decide) rfl g__law_names kp__law_names (pa_cons (pv 0) (pa_cons (pe_cl ok__law_take hr (by decide) rfl g__law_take kp__law_take (pa_cons (pv 0) (pa_cons (pe_op op_add (pv 1) pe_int) pa_nil))) pa_nil))))
    (pss_cons (ps_asg (pe_tup (pa_cons (pe_cl ok__law_mixed hr (by decide) rfl g__law_mixed kp__law_mixed (pa_cons (pv 0) (pa_cons (pv 2) pa_nil))) (pa_cons (pe_lst pa_nil) (pa_cons (pe_lst pa_nil) pa_nil)))) (k_gtup (K := K) (n := 3) rfl (pgs_cons (pg_name (i := 3) nd rfl (Or.inl rfl)) (pgs_cons (pg_name (i := 4) nd rfl (Or.inl rfl)) (pgs_cons (pg_name (i := 5) nd rfl (Or.inr rfl)) pgs_nil)))))
    (pss_cons (ps_for PassesOwn.never rfl (pi_range1 rfl n_range (pa_cons (pe_cl ok__law_take hr (by decide) rfl g__law_take kp__law_take (pa_cons (pv 0) (pa_cons (pe_op op_add (pe_op op_mul (pe_ix (k_ixL (K := K)) (pe_lst (pa_cons pe_int (pa_cons pe_int pa_nil))) (pe_cl ok__law_take hr (by decide) rfl g__law_take kp__law_take (pa_cons (pv 0) (pa_cons pe_int pa_nil))) (fun _ _ => rfl)) (pe_callB (k_len (K := K)) rfl n_len (by rfl) (pa_cons (pv 2) pa_nil))) pe_int) pa_nil))) pa_nil)) (pg_name (i := 6) nd rfl (Or.inl rfl)) (pss_cons (ps_set (i := 7) nd rfl (Or.inl rfl) (pe_cl ok__law_take hr (by decide) rfl g__law_take kp__law_take (pa_cons (pv 0) (pa_cons (pe_callB (k_len (K := K)) rfl n_len (by rfl) (pa_cons (pv 3) pa_nil)) pa_nil))))
    (pss_one (ps_expr (k_bm (K := K) PySem.F.plainAttrs_list PySem.F.slot_list_extend PySem.F.type_list_extend mt_extend (pv 4) (pa_cons (pe_lst (pa_cons (pe_tup (pa_cons (pe_ix (k_ixL (K := K)) (pv 3) (pv 7) (fun _ _ => rfl)) (pa_cons (pe_ix (k_ixL (K := K)) (pv 3) (pe_cl ok__law_take hr (by decide) rfl g__law_take kp__law_take (pa_cons (pv 0) (pa_cons (pe_op op_add (pv 7) pe_int) pa_nil))) (fun _ _ => rfl)) pa_nil))) pa_nil)) pa_nil))))))
    (pss_cons (ps_setLc (i := 4) rfl nd rfl rfl (sw_true rfl rfl rfl (by decide +kernel)) (own := [("_law_peg", 12), ("_law_needed", 13)]) (k_list (K := K) (pv 4)) (blkOk_by (by kernel_rfl)) (fun _ _ _ _ _ => (k_gtup (K := K) (n := 2) rfl (pgs_cons (pg_name (i := 12) nd rfl (Or.inl rfl)) (pgs_cons (pg_name (i := 13) nd rfl (Or.inl rfl)) pgs_nil)))) (fun _ _ _ _ _ => (pts_one (pt_cmpR (k_neD (K := K) hr.units) (pv 12) (pv 13) (nomark _)))) (fun _ _ _ _ _ => (pe_tup (pa_cons (pv 12) (pa_cons (pv 13) pa_nil)))))
    (pss_cons (ps_set (i := 8) nd rfl (Or.inr rfl) (pe_cl ok__law_rows hr (by decide) rfl g__law_rows kp__law_rows (pa_cons (pv 2) (pa_cons (pv 4) pa_nil))))
    (pss_cons (ps_for PassesOwn.never rfl (pi_range1 rfl n_range (pa_cons (pe_cl ok__law_take hr (by decide) rfl g__law_take kp__law_take (pa_cons (pv 0) (pa_cons (pe_op op_add (pe_op op_mul (pe_ix (k_ixL (K := K)) (pe_lst (pa_cons pe_int (pa_cons pe_int pa_nil))) (pe_cl ok__law_take hr (by decide) rfl g__law_take kp__law_take (pa_cons (pv 0) (pa_cons pe_int pa_nil))) (fun _ _ => rfl)) (pe_callB (k_len (K := K)) rfl n_len (by rfl) (pa_cons (pv 2) pa_nil))) pe_int) pa_nil))) pa_nil)) (pg_name (i := 6) nd rfl (Or.inl rfl)) (pss_cons (ps_set (i := 9) nd rfl (Or.inr rfl) (pe_tup (pa_cons (pe_ix (k_ixL (K := K)) (pv 2) (pe_cl ok__law_take hr (by decide) rfl g__law_take kp__law_take (pa_cons (pv 0) (pa_cons (pe_callB (k_len (K := K)) rfl n_len (by rfl) (pa_cons (pv 2) pa_nil)) pa_nil))) (fun _ _ => rfl)) (pa_cons (pe_ix (k_ixL (K := K)) (pv 2) (pe_cl ok__law_take hr (by decide) rfl g__law_take kp__law_take (pa_cons (pv 0) (pa_cons (pe_callB (k_len (K := K)) rfl n_len (by rfl) (pa_cons (pv 2) pa_nil)) pa_nil))) (fun _ _ => rfl)) pa_nil))))
    (pss_cons (ps_setLc (i := 10) rfl nd rfl rfl (sw_true rfl rfl rfl (by decide +kernel)) (own := [("_law_peg", 12)]) (k_list (K := K) (pv 2)) (blkOk_by (by kernel_rfl)) (fun _ _ _ _ _ => (pg_name (i := 12) nd rfl (Or.inl rfl))) (fun _ _ _ _ _ => (pts_one (pt_val (pe_cl ok__law_is_barred hr (by decide) rfl g__law_is_barred kp__law_is_barred (pa_cons (pe_dget (hu_of hr) (pv 8) (pv 12) (fun _ _ => rfl)) (pa_cons (pe_dget (hu_of hr) (pv 8) (pv 12) (fun _ _ => rfl)) (pa_cons (pe_op op_cat (pv 5) (pe_lst (pa_cons (pv 9) pa_nil))) pa_nil))))))) (fun _ _ _ _ _ => (pv 12)))
    (pss_one (ps_if (PW.pt (pw_and (pt_cmpR op_ne (pe_ix (k_ixT (K := K)) (pv 9) pe_int (fun _ _ => rfl)) (pe_ix (k_ixT (K := K)) (pv 9) pe_int (fun _ _ => rfl)) (nomark _)) (pw_and1 (pt_cmpR (k_eqD (K := K) hr.units) (pv 10) (pe_lst pa_nil) (nomark _))))) (pss_one (ps_expr (k_bm (K := K) PySem.F.plainAttrs_list PySem.F.slot_list_append PySem.F.type_list_append mt_append (pv 5) (pa_cons (pv 9) pa_nil)))) pss_nil)))))
    (pss_cons (ps_setLc (i := 11) rfl nd rfl rfl (sw_true rfl rfl rfl (by decide +kernel)) (own := [("_law_peg", 12)]) (k_list (K := K) (pv 2)) (blkOk_by (by kernel_rfl)) (fun _ _ _ _ _ => (pg_name (i := 12) nd rfl (Or.inl rfl))) (fun _ _ _ _ _ => pts_nil) (fun _ _ _ _ _ => (pe_op op_add pe_int (pe_cl ok__law_take hr (by decide) rfl g__law_take kp__law_take (pa_cons (pv 0) (pa_cons (pe_ix (k_ixL (K := K)) (pe_lst (pa_cons pe_int (pa_cons pe_int (pa_cons pe_int pa_nil)))) (pe_cl ok__law_take hr (by decide) rfl g__law_take kp__law_take (pa_cons (pv 0) (pa_cons pe_int pa_nil))) (fun _ _ => rfl)) pa_nil))))))
    (pss_one (ps_ret (pe_tup (pa_cons (k_tupleOf (K := K) rfl n_tuple (pv 2)) (pa_cons (k_tupleOf (K := K) rfl n_tuple (pv 4)) (pa_cons (k_tupleOf (K := K) rfl n_tuple (pv 5)) (pa_cons (k_tupleOf (K := K) rfl n_tuple (pv 11)) pa_nil)))))))))))))), ?_⟩)) (F.bindsN fun _ _ _ _ _ _ us hl => match us, hl with | [_, _], _ => rfl)
  obtain ⟨B, bx, rfl, hb, hB, hq⟩ := h
  subst hB
  refine q_asg (P := fun v H => ∃ ys, LsS (some bx) ys v H ∧ ys.length ≤ 12 ∧ ys.Nodup ∧ ∀ x ∈ ys, NameOk x) (Go.refl hb) (y_cl (args := fun p : Addr × Nat => [.ref p.1, .int (p.2 : Int)]) (pre := fun B (p : Addr × Nat) H => B = some p.1 ∧ p.2 ≤ 12) (post := fun B (p : Addr × Nat) v H => ∃ ys, LsS B ys v H ∧ ys.length ≤ 12 ∧ ys.Nodup ∧ ∀ x ∈ ys, NameOk x) (ya_consG St.is (y_var rfl) (ya_consG NtR.st (y_takeG (n := 13) (y_var rfl) (y_is (y_op (y_var rfl) y_c o_add) rfl) (by decide) (by decide)) ya_nil)) fun vs H1 g ⟨w1, r1, e1, q1, w2, r2, e2, ⟨d, hd, ed⟩, e3⟩ => ⟨(bx, d), by rw [e1, e2, show w1 = _ from q1, ed, show r2 = [] from e3], ⟨rfl, by show d ≤ 12; omega⟩, fun v H2 _ h => h⟩) fun v2 H1 g1 _ ⟨pegs, h2, zp, np, nm⟩ => ?_
  have hk : Sk pegs := fun x hx => nameOk_sk (nm x hx)
  have sp1 := LsS.st (B := some bx) _ _ _ (Go.refl g1.2) h2
  refine q_asgT (P := fun v H' => ∃ a w3, ∃ l1 l2, v = .ref a ∧ At (some bx) H' a (.tup [w3, .ref l1, .ref l2]) ∧ LsG (some bx) (fun ys => ys.Perm pegs) w3 H' ∧ At (some bx) H' l1 (.lst []) ∧ At (some bx) H' l2 (.lst []) ∧ H l1 = none ∧ H l2 = none ∧ l1 ≠ l2 ∧ w3 ≠ .ref l1 ∧ w3 ≠ .ref l2 ∧ v2 ≠ .ref l1 ∧ v2 ≠ .ref l2) (Go.refl g1.2) ?_ fun q vs2 H2 g2 _ tq ⟨q', w3, l1, l2, e, tq', h3, t1, t2, n1, n2, n12, n31, n32, nv1, nv2⟩ => ?_
  · refine (y_tup (R := fun vs H' => ∃ w3, ∃ l1 l2, vs = [w3, .ref l1, .ref l2] ∧ LsG (some bx) (fun ys => ys.Perm pegs) w3 H' ∧ At (some bx) H' l1 (.lst []) ∧ At (some bx) H' l2 (.lst []) ∧ H l1 = none ∧ H l2 = none ∧ l1 ≠ l2 ∧ w3 ≠ .ref l1 ∧ w3 ≠ .ref l2 ∧ v2 ≠ .ref l1 ∧ v2 ≠ .ref l2) (ya_consF (y_mixG (K := K) (y_var rfl) (y_var rfl) (.inr h2) hk (by omega)) fun w3 Ha ga ha => ya_consF (y_lstI ya_nil (by decide)) fun w4 Hb gb ⟨l1, e1, t1, n1⟩ => ya_consF (y_lstI ya_nil (by decide)) fun w5 Hc gc ⟨l2, e2, t2, n2⟩ => ya_nil.imp fun r Hd gd er => ?_) (fun vs Ha Hb g ⟨w3, l1, l2, e, h3, t1, t2, r⟩ => ⟨w3, l1, l2, e, LsG.st _ _ _ g h3, t1.go g, t2.go g, r⟩) fun vs Ha ⟨w3, l1, l2, e, _⟩ => by
        rw [e]
        show 3 ≤ 100000
        decide).imp fun v H2 _ ⟨a, vs, e, t, _, w3, l1, l2, ev, r⟩ => ⟨a, vs, e, t, by rw [ev] <;> rfl, a, w3, l1, l2, e, by rw [← ev]; exact t, r⟩
    obtain ⟨p2, ep2, tp2⟩ := h2
    obtain ⟨ys, ⟨p3, ep3, tp3⟩, hys⟩ := ha
    have tp3b := tp3.go gb
    have tp2a := tp2.go ga
    have tp2b := tp2a.go gb
    refine ⟨w3, l1, l2, by rw [e1, e2, show r = [] from er], LsG.st _ _ _ ((gb.trans gc).trans gd) ⟨ys, ⟨p3, ep3, tp3⟩, hys⟩, t1.go (gc.trans gd), t2.go gd, (g1.trans ga).fresh n1, (g1.trans (ga.trans gb)).fresh n2, fun z => ?_, fun z => ?_, fun z => ?_, fun z => ?_, fun z => ?_⟩
    · rw [← z, t1.2] at n2
      cases n2
    · rw [ep3] at z
      cases z
      rw [tp3.2] at n1
      cases n1
    · rw [ep3] at z
      cases z
      rw [tp3b.2] at n2
      cases n2
    · rw [ep2] at z
      cases z
      rw [tp2a.2] at n1
      cases n1
    · rw [ep2] at z
      cases z
      rw [tp2b.2] at n2
      cases n2
  cases e
  have e2 : vs2 = [w3, .ref l1, .ref l2] := HO.tup.inj (Option.some.inj (tq.2.symm.trans tq'.2))
  subst e2
  refine ⟨_, _, rfl, _, _, rfl, _, _, rfl, rfl, ?_⟩
  obtain ⟨order, h3, po⟩ := h3
  have zo : order.length = pegs.length := po.length_eq
  have no : order.Nodup := po.nodup_iff.mpr np
  show tSeq _ _ _ [some (.ref bx), some (.int 12), some v2, some w3, some (.ref l1), some (.ref l2), none, none, none, none, none, none, none, none] H2
  have p2 := LsS.st _ _ _ g2 h2
  refine q_rngX (N := fun m => m < 2 * pegs.length + 1 ∧ (pegs.length = 0 → m = 0)) (ya_fac rfl (y_fac (K := K) rfl rfl p2 (by omega)) (by omega)) (fun n hn => by omega) (Go.refl g2.2) fun n hn H3 g3 => ⟨fun i σ1 H4 => Go (some bx) H H4 ∧ LsS (some bx) pegs v2 H4 ∧ LsS (some bx) order w3 H4 ∧ At (some bx) H4 l2 (.lst []) ∧ ∃ w6 w7 ws, σ1 = [some (.ref bx), some (.int 12), some v2, some w3, some (.ref l1), some (.ref l2), w6, w7, none, none, none, none, none, none] ∧ (∃ zs, At (some bx) H4 l1 (.lst zs) ∧ Paired (fun x z => PrS (some bx) x z H4) ws zs) ∧ ws.length = i ∧ ∀ q ∈ ws, WantG order q, ⟨(g1.trans g2).trans g3, LsS.st _ _ _ g3 p2, LsS.st _ _ _ g3 h3, t2.go g3, none, none, [], rfl, ⟨[], t1.go g3, .nil⟩, rfl, fun _ h => nomatch h⟩, fun i σ1 H4 hi ⟨g4, q2, q3, q5, w6, w7, ws, es, ⟨zs, tz, pz⟩, hl, hw⟩ => ?_, fun σ1 H4 ⟨g4, q2, q3, q5, w6, w7, ws, es, ⟨zs, tz, pz⟩, hl, hw⟩ => ?_⟩
  · subst es
    show tSeq _ _ _ [some (.ref bx), some (.int 12), some v2, some w3, some (.ref l1), some (.ref l2), some (.int (i : Int)), w7, none, none, none, none, none, none] H4
    have op : 0 < order.length := by omega
    refine q_asg (P := NtR order.length) (Go.refl g4.2) (y_takeG (y_var rfl) (y_lenS ((y_var rfl).rep q3 LsS.st).ls) op (by omega)) fun v7 H5 g5 _ ⟨d, hd, ed⟩ => ?_
    have q25 := LsS.st _ _ _ g5 q2
    have q35 := LsS.st _ _ _ g5 q3
    have tz5 := tz.go g5
    obtain ⟨x, hx⟩ : ∃ x, order[d]? = some x := ⟨_, List.getElem?_eq_getElem hd⟩
    obtain ⟨p3, ep3, tp3⟩ := id q35
    refine s_ext (R := fun ys H' => ∃ q z, ys = [z] ∧ PrS (some bx) q z H' ∧ WantG order q) (Go.refl g5.2) tz5 rfl ((y_lst (ya_consG (PA := fun v H1 => ∃ q : Str × Str, PrS (some bx) q v H1 ∧ WantG order q) (fun _ _ _ g ⟨q, h, e⟩ => ⟨q, PrS.st _ _ _ g h, e⟩) ((y_prD (PA := Is (.str x)) (PB := StrD order (d + 1)) (G := fun x y => ∃ j : Nat, j ≤ d ∧ order[d]? = some x ∧ order[j]? = some y) St.is StrD.st (y_ixL (y_is (y_var rfl) ep3) tp3 (y_is (y_var rfl) ed) (atI_nat (by rw [List.getElem?_map, hx] <;> rfl))) (y_ixD (n := d + 1) ((y_var rfl).rep q35 LsS.st) (y_takeG (n := d + 1) (y_var rfl) (y_succ (y_is (y_var rfl) ed)) (Nat.succ_pos _) (by omega)) hd) fun v w H1 H2 e1 ⟨j, y, hj, hy, e2⟩ => ⟨x, y, e1, e2, j, Nat.lt_succ_iff.mp hj, hx, hy⟩).imp fun v H6 _ ⟨q, hq, j, hj, h1, h2⟩ => ⟨q, hq, d, j, hj, h1, h2⟩) ya_nil) (fun vs H1 H2 g ⟨w1, r1, e1, ⟨q, h, e⟩, e3⟩ => ⟨w1, r1, e1, ⟨q, PrS.st _ _ _ g h, e⟩, e3⟩) fun vs H1 ⟨w1, r1, e1, q1, e3⟩ => by
        rw [e1, show r1 = [] from e3]
        show 1 ≤ 100000
        decide).imp fun v H6 _ ⟨a, vs, e, t, _, w1, r1, e1, ⟨q, h, hw2⟩, e3⟩ => ⟨a, vs, e, t, ?_, q, w1, by rw [e1, show r1 = [] from e3], h, hw2⟩) fun ys H6 g6 _ ⟨q, z, ey, hq6, hw6⟩ => ?_
    · have := pz.length
      rw [e1, show r1 = [] from e3]
      show zs.length + 1 ≤ 100000
      omega
    · have tz6 := tz5.go g6
      have g56 := g5.trans g6
      refine ⟨(g4.trans g56).mut n1 t1.1, LsS.nx (LsS.st _ _ _ g56 q2) nv1, LsS.nx (LsS.st _ _ _ g56 q3) n31, At.upx (q5.go g56) (Ne.symm n12), _, _, ws ++ [q], rfl, ⟨zs ++ ys, ⟨t1.1, upd_same⟩, ?_⟩, by rw [List.length_append, hl] <;> rfl, fun q' hq' => ?_⟩
      · rw [ey]
        exact paired_app (pz.mono fun x z h => PrS.nl _ _ _ _ _ (PrS.st _ _ _ g56 h) tz6.2) (.cons (PrS.nl _ _ _ _ _ hq6 tz6.2) .nil)
      · rcases List.mem_append.mp hq' with h | h
        · exact hw q' h
        · rw [List.mem_singleton.mp h]
          exact hw6
  · subst es
    have dw := drW_of po no hw
    obtain ⟨p1, hp1⟩ : ∃ p, p = l1 := ⟨l1, rfl⟩
    have hin : ∀ q ∈ ws, q.1 ∈ pegs ∧ q.2 ∈ pegs := fun q hq => by
      obtain ⟨i, j, _, h1, h2⟩ := hw q hq
      exact ⟨po.mem_iff.mp (List.mem_of_getElem? h1), po.mem_iff.mp (List.mem_of_getElem? h2)⟩
    refine q_asg (P := fun v H' => LsR (some bx) (PrS (some bx)) (ws.filter fun q => !decide (q.1 = q.2)) v H' ∧ ∃ p, v = .ref p ∧ H4 p = none) (Go.refl g4.2) (y_lcR (fun q : Str × Str => !decide (q.1 = q.2)) (val := PrS (some bx)) (fun _ => PrS.st) (fun _ => PrS.nl) (yk_list (y_var rfl) tz pz fun _ => PrS.st).yi (by omega) yg_pair fun q σ2 H5 hq5 g5 s => ?_) fun v4 H5 g5 _ ⟨h4, p4, ep4, np4⟩ => ?_
    · subst s
      obtain ⟨m1, m2⟩ := hin q hq5
      exact ⟨rfl, yt_testI (y_is (y_neD (d := .str q.1) (e := .str q.2) (n := 0) St.is (y_var rfl) (y_var rfl) (fun _ _ h => by rw [show _ = V.str q.1 from h]; exact .str _) (fun _ _ h => by rw [show _ = V.str q.2 from h]; exact .str _) (.str (hk _ m1)) (.str (hk _ m2)) (by decide)) (by
        rw [PyData.eqv]
        by_cases e : q.1 = q.2
        · rw [decide_eq_true e, beq_iff_eq.mpr e]
        · rw [decide_eq_false e, beq_eq_false_iff_ne.mpr e])), fun _ => (y_tupI (ya_cons (y_var rfl) (ya_cons (y_var rfl) ya_nil)) (by simp)).imp fun v H6 _ ⟨a, e, t, _⟩ => ⟨a, e, t⟩⟩
    have q25 := LsS.st _ _ _ g5 q2
    have lr : LrOk pegs (ws.filter fun q => !decide (q.1 = q.2)) := ⟨np, zp, fun q hq => ⟨(dw.in_ q hq).1, (dw.in_ q hq).2.1⟩, dw.rk⟩
    generalize hws : (ws.filter fun q => !decide (q.1 = q.2)) = ws' at h4 dw lr
    have zws : ws'.length ≤ 100 := by
      rw [← hws]
      have := List.length_filter_le (fun q : Str × Str => !decide (q.1 = q.2)) ws
      omega
    refine q_asg (P := DcR (some bx) (TpS (some bx)) (pegs.map fun x => (x, lrow pegs ws' x))) (Go.refl g5.2) (y_rowsG (y_var rfl) (y_var rfl) (.inr q25) (.inr h4) lr) fun v8 H6 g6 _ h8 => ?_
    have q26 := LsS.st _ _ _ g6 q25
    have g46 := g4.trans (g5.trans g6)
    have h46 : LsR (some bx) (PrS (some bx)) ws' v4 H6 := LsR.st (fun _ => PrS.st) _ _ _ g6 h4
    have q56 : At (some bx) H6 l2 (.lst []) := (q5.go g5).go g6
    have n4l : v4 ≠ .ref l2 := fun z => by
      rw [ep4] at z
      cases z
      rw [q5.2] at np4
      cases np4
    show tSeq _ _ _ [some (.ref bx), some (.int 12), some v2, some w3, some v4, some (.ref l2), w6, w7, some v8, none, none, none, none, none] H6
    refine q_rngX (N := fun m => m < 2 * pegs.length + 1 ∧ (pegs.length = 0 → m = 0)) (ya_fac rfl (y_fac (K := K) rfl rfl q26 (by omega)) (by omega)) (fun n hn => by omega) (Go.refl g6.2) fun nn hnn H7 g7 => ⟨fun i σ1 H8 => Go (some bx) H H8 ∧ LsS (some bx) pegs v2 H8 ∧ LsR (some bx) (PrS (some bx)) ws' v4 H8 ∧ DcR (some bx) (TpS (some bx)) (pegs.map fun x => (x, lrow pegs ws' x)) v8 H8 ∧ ∃ w6 w9 w10 bs, σ1 = [some (.ref bx), some (.int 12), some v2, some w3, some v4, some (.ref l2), w6, w7, some v8, w9, w10, none, none, none] ∧ (∃ zs, At (some bx) H8 l2 (.lst zs) ∧ Paired (fun x z => PrS (some bx) x z H8) bs zs) ∧ bs.length ≤ i ∧ (∀ q ∈ bs, q.1 ∈ pegs ∧ q.2 ∈ pegs ∧ q.1 ≠ q.2) ∧ ∀ x ∈ pegs, brd (lrow pegs ws' x) (lrow pegs ws' x) bs = false, ⟨g46.trans g7, LsS.st _ _ _ g7 q26, LsR.st (fun _ => PrS.st) _ _ _ g7 h46, DcR.st (fun _ => TpS.st) _ _ _ g7 h8, w6, none, none, [], rfl, ⟨[], q56.go g7, .nil⟩, Nat.le_refl _, (fun _ h => nomatch h), fun _ _ => rfl⟩, fun i σ1 H8 hi ⟨g8, r2, r4, r8, w6, w9, w10, bs, es, ⟨zs, tz, pz⟩, hl, hbs, hdd⟩ => ?_, fun σ1 H8 ⟨g8, r2, r4, r8, w6, w9, w10, bs, es, ⟨zs, tz, pz⟩, hl, hbs, hdd⟩ => ?_⟩
    · subst es
      show tSeq _ _ _ [some (.ref bx), some (.int 12), some v2, some w3, some v4, some (.ref l2), some (.int (i : Int)), w7, some v8, w9, w10, none, none, none] H8
      have pp : 0 < pegs.length := by omega
      refine q_asg (P := fun v H1 => ∃ q : Str × Str, PrS (some bx) q v H1 ∧ (q.1 ∈ pegs ∧ q.2 ∈ pegs)) (Go.refl g8.2) (y_prD (PA := StrD pegs pegs.length) (PB := StrD pegs pegs.length) (G := fun x y => x ∈ pegs ∧ y ∈ pegs) StrD.st StrD.st (y_ixD (n := pegs.length) ((y_var rfl).rep r2 LsS.st) (y_takeG (y_var rfl) (y_lenS ((y_var rfl).rep r2 LsS.st).ls) pp (by omega)) (Nat.le_refl _)) (y_ixD (n := pegs.length) ((y_var rfl).rep r2 LsS.st) (y_takeG (y_var rfl) (y_lenS ((y_var rfl).rep r2 LsS.st).ls) pp (by omega)) (Nat.le_refl _)) fun v w H1 H2 ⟨d, x, _, h1, e1⟩ ⟨d2, y, _, h2, e2⟩ => ⟨x, y, e1, e2, List.mem_of_getElem? h1, List.mem_of_getElem? h2⟩) fun v9 H9 g9 _ ⟨q, hq9, mq1, mq2⟩ => ?_
      have r29 := LsS.st _ _ _ g9 r2
      have r89 := DcR.st (fun _ => TpS.st) _ _ _ g9 r8
      have tz9 := tz.go g9
      have pz9 : Paired (fun x z => PrS (some bx) x z H9) bs zs := pz.mono fun x z h => PrS.st _ _ _ g9 h
      have lb : LsR (some bx) (PrS (some bx)) bs (.ref l2) H9 := ⟨l2, zs, rfl, tz9, pz9⟩
      refine q_asg (P := LsS (some bx) (pegs.filter fun x => brd (lrow pegs ws' x) (lrow pegs ws' x) (bs ++ [q]))) (Go.refl g9.2) ((y_lcF (fun x => brd (lrow pegs ws' x) (lrow pegs ws' x) (bs ++ [q])) (yk_lS (y_var rfl) r29).yi (by omega) yg_s fun x σ2 H10 hx10 g10 s => ?_).imp fun v H1 _ h => h.1) fun v10 H10 g10 _ h10 => ?_
      · subst s
        have dz := (DcR.st (fun _ => TpS.st) _ _ _ g10 r89).z
        refine ⟨rfl, yt_testI (y_cl (args := fun p : IB => [p.v1, p.v2, p.v3]) (ya_consG TpS.st (y_dgetF (fun _ => TpS.st) (y_var rfl) dz (y_var rfl) hx10) (ya_consG TpS.st (y_dgetF (fun _ => TpS.st) (y_var rfl) dz (y_var rfl) hx10) (ya_consG (PA := LsR (some bx) (PrS (some bx)) (bs ++ [q])) (LsR.st fun _ => PrS.st) (y_catR (fun _ => PrS.st) ((y_var rfl).rep (LsR.st (fun _ => PrS.st) _ _ _ g10 lb) (LsR.st fun _ => PrS.st)) ((y_lstI (ya_cons (y_var rfl) ya_nil) (by simp)).imp fun v H1 g11 ⟨a, e, t, _⟩ => (⟨a, [v9], e, t, .cons (PrS.st _ _ _ (g10.trans g11) hq9) .nil⟩ : LsR (some bx) (PrS (some bx)) [q] v H1)) (by
          show bs.length + 1 ≤ 100000
          omega)) ya_nil))) fun vs H8 g8 ⟨v1, _, e1, q1, v2, _, e2, q2, v3, _, e3, q3, e4⟩ => ⟨⟨v1, v2, v3, lrow pegs ws' x, lrow pegs ws' x, bs ++ [q]⟩, ?_, ⟨q1, q2, .inr q3, by
          show (bs ++ [q]).length ≤ 1000
          rw [List.length_append]
          show bs.length + 1 ≤ 1000
          omega⟩, fun _ _ _ h => h⟩), fun _ => y_var rfl⟩
        rw [e1, e2, e3]
        rw [show _ = [] from e4]
      · obtain ⟨a9, ea9, ta9⟩ := hq9
        subst ea9
        have g810 := g9.trans g10
        have ta10 := ta9.go g10
        have skd : Sk (pegs.filter fun x => brd (lrow pegs ws' x) (lrow pegs ws' x) (bs ++ [q])) := fun x hx => hk x (List.mem_filter.mp hx).1
        refine s_when (b := !decide (q.1 = q.2) && (pegs.filter fun x => brd (lrow pegs ws' x) (lrow pegs ws' x) (bs ++ [q])).isEmpty) (Go.refl g10.2) (yt_and (yt_is (yt_testI (y_op (y_part rfl ta10 rfl) (y_part rfl ta10 rfl) (o_ne rfl))) (by rw [str_eq])) fun _ => yt_testI (y_emptyS skd ((y_var rfl).rep h10 LsS.st))) (fun e H11 g11 _ => ?_) fun e H11 g11 _ => ?_
        · have tz11 := (tz9.go g10).go g11
          refine s_app (Go.refl g11.2) tz11 rfl (by have := pz.length; omega) (y_var rfl) fun v12 H12 g12 _ e12 => ?_
          rw [show v12 = _ from e12]
          have gg := (g810.trans g11).trans g12
          have tl := (tz11.go g12).2
          obtain ⟨b1, b2⟩ := Bool.and_eq_true_iff.mp e
          refine ⟨(g8.trans gg).mut n2 t2.1, LsS.nx (LsS.st _ _ _ gg r2) nv2, LsR.nxl (fun _ => PrS.nl) (LsR.st (fun _ => PrS.st) _ _ _ gg r4) n4l tl, DcR.nl (fun _ => TpS.nl) _ _ _ _ _ (DcR.st (fun _ => TpS.st) _ _ _ gg r8) tl, _, _, _, bs ++ [q], rfl, ⟨zs ++ [.ref a9], ⟨t2.1, upd_same⟩, paired_app (pz.mono fun x z h => PrS.nl _ _ _ _ _ (PrS.st _ _ _ gg h) tl) (.cons (PrS.nl _ _ _ _ _ ⟨a9, rfl, (ta10.go g11).go g12⟩ tl) .nil)⟩, by rw [List.length_append]; exact Nat.succ_le_succ hl, fun q' hq' => ?_, fun x hx => ?_⟩
          · rcases List.mem_append.mp hq' with h | h
            · exact hbs q' h
            · rw [List.mem_singleton.mp h]
              exact ⟨mq1, mq2, fun z => by
                rw [decide_eq_true z] at b1
                cases b1⟩
          · have z := List.filter_eq_nil_iff.mp (List.isEmpty_iff.mp b2) x hx
            exact Bool.eq_false_iff.mpr z
        · have gg := g810.trans g11
          exact ⟨g8.trans gg, LsS.st _ _ _ gg r2, LsR.st (fun _ => PrS.st) _ _ _ gg r4, DcR.st (fun _ => TpS.st) _ _ _ gg r8, _, _, _, bs, rfl, ⟨zs, tz.go gg, pz.mono fun x z h => PrS.st _ _ _ gg h⟩, by omega, hbs, hdd⟩
    · subst es
      have z1 : bs.length ≤ 100 := by omega
      refine q_asg (P := fun v H1 => ∃ cs : List Int, LsI (some bx) cs v H1 ∧ cs.length = pegs.length ∧ ∀ c ∈ cs, 1 ≤ c ∧ c ≤ 1000) (Go.refl g8.2) ((y_lcG (as := pegs) (R := SV) (tst := fun _ b => b = true) (val := fun _ _ z _ => ∃ c : Int, z = .int c ∧ 1 ≤ c ∧ c ≤ 1000) (yk_lS (y_var rfl) r2).yi (by omega) yg_s (fun _ _ _ _ _ _ h => h) (fun _ _ _ _ _ _ h _ => h) fun D a σ2 H9 ha g9 s _ => ?_).imp fun v H9 _ ⟨p, zs, e, t, _, c⟩ => ?_) fun v11 H9 g9 _ ⟨cs, hc, lc, bc⟩ => ?_
      · subst s
        refine ⟨rfl, yt_yes, fun _ => y_opG (PA := Is (.int 1)) (PB := NtR 1000) St.is y_c (y_cl (args := fun p : Addr × Nat => [.ref p.1, .int (p.2 : Int)]) (ya_consG St.is (y_var rfl) (ya_consG (PA := fun v _ => ∃ m : Nat, 0 < m ∧ m ≤ 1000 ∧ v = .int (m : Int)) (fun _ _ _ _ h => h) (y_opG (PA := fun v H1 => ∃ a, v = .ref a ∧ At (some bx) H1 a (.lst [.int 1, .int 3, .int 1000])) (fun _ _ _ g ⟨a, e, t⟩ => ⟨a, e, t.go g⟩) ((y_lstI (ya_cons y_c (ya_cons y_c (ya_cons y_c ya_nil))) (by decide)).imp fun v H1 _ ⟨a, e, t, _⟩ => ⟨a, e, t⟩) (y_takeG (n := 3) (y_var rfl) y_c (by decide) (by decide)) fun x y H1 g ⟨a, e, t⟩ ⟨d, hd, e2⟩ Q q => ?_) ya_nil)) fun vs H1 g ⟨w1, r1, e1, q1, w2, r2, e2, ⟨m, hm0, hm, em⟩, e3⟩ => ⟨(bx, m), by rw [e1, e2, show w1 = _ from q1, em, show r2 = [] from e3], ⟨rfl, hm0, by show m < 1000000; omega⟩, fun v H2 _ ⟨d, hd, e⟩ => ⟨d, Nat.lt_of_lt_of_le hd hm, e⟩⟩) fun x y H1 g e1 ⟨d, hd, e2⟩ Q q => ⟨1, d, e1, e2, q _ H1 (Go.refl g.2) ⟨1 + (d : Int), rfl, by omega, by omega⟩⟩⟩
        rcases (show d = 0 ∨ d = 1 ∨ d = 2 by omega) with z | z | z
        · subst z
          exact ⟨a, _, _, .int 1, e, e2, t.sl, rfl, q _ H1 (Go.refl g.2) ⟨1, by decide, by decide, rfl⟩⟩
        · subst z
          exact ⟨a, _, _, .int 3, e, e2, t.sl, rfl, q _ H1 (Go.refl g.2) ⟨3, by decide, by decide, rfl⟩⟩
        · subst z
          exact ⟨a, _, _, .int 1000, e, e2, t.sl, rfl, q _ H1 (Go.refl g.2) ⟨1000, by decide, by decide, rfl⟩⟩
      · obtain ⟨cs, h1, h2, h3⟩ := ints_of c.all
        exact ⟨cs, ⟨p, e, by rw [← h1]; exact t⟩, h2, h3⟩
      · have lb : LsR (some bx) (PrS (some bx)) bs (.ref l2) H8 := ⟨l2, zs, rfl, tz, pz⟩
        refine s_ret (Go.refl g9.2) (y_tup (ya_consG TpS.st (y_tupLS ((y_var rfl).rep (LsS.st _ _ _ g9 r2) LsS.st)) (ya_consG (TpR.st fun _ => PrS.st) (y_tupLR (fun _ => PrS.st) ((y_var rfl).rep (LsR.st (fun _ => PrS.st) _ _ _ g9 r4) (LsR.st fun _ => PrS.st))) (ya_consG (TpR.st fun _ => PrS.st) (y_tupLR (fun _ => PrS.st) ((y_var rfl).rep (LsR.st (fun _ => PrS.st) _ _ _ g9 lb) (LsR.st fun _ => PrS.st))) (ya_consG TpI.st (y_tupLI ((y_var rfl).rep hc LsI.st)) ya_nil)))) (fun vs H1 H2 g ⟨w1, r1, e1, q1, w2, r2, e2, q2, w3, r3, e3, q3, w4, r4, e4, q4, e5⟩ => ⟨w1, r1, e1, TpS.st _ _ _ g q1, w2, r2, e2, TpR.st (fun _ => PrS.st) _ _ _ g q2, w3, r3, e3, TpR.st (fun _ => PrS.st) _ _ _ g q3, w4, r4, e4, TpI.st _ _ _ g q4, e5⟩) fun vs H1 ⟨w1, r1, e1, q1, w2, r2, e2, q2, w3, r3, e3, q3, w4, r4, e4, q4, e5⟩ => by
          rw [e1, e2, e3, e4, show r4 = [] from e5]
          show 4 ≤ 100000
          decide) fun v H10 g10 _ ⟨a, vs, e, t, _, u1, _, e1, q1, u2, _, e2, q2, u3, _, e3, q3, u4, ul, e4, q4, e5⟩ => hq v H10 (g8.trans (g9.trans g10)) ⟨⟨u1, u2, u3, u4, pegs, ws', bs, cs⟩, a, e, ?_, ⟨q1, q2, q3, q4, zp, zws, z1, lc⟩, ⟨⟨np, zp, dw.in_, let ⟨r, h, _⟩ := dw.rk; ⟨r, h⟩⟩, nm, bc, hbs, fun x hx => brd_nr (fun q hq => ⟨(hbs q hq).1, (hbs q hq).2.1⟩) (hdd x hx)⟩, dw.rk⟩
        rw [e1, e2, e3, e4, show ul = [] from e5] at t
        exact t
end
end NP
end
section
set_option Elab.async false
set_option linter.all false
set_option maxRecDepth 100000
set_option maxHeartbeats 4000000
/-! The law's board; the box. -/
namespace NP
open PySem PySem.Spec PyProof.Rows L2
section
variable {P : Program} {w : World} {K : PySem.W.Frag} {mg : Str → Option Value} {base : Heap}
theorem vals_app : ∀ {vs : List V} {us : List Value} {zs : List V} {ws : List Value}, Vals vs us → Vals zs ws → Vals (vs ++ zs) (us ++ ws)
  | _, _, _, _, .nil, h => h
  | _, _, _, _, .cons a b, h => .cons a (vals_app b h)
theorem kbn_board {fd : FuncData} (F : FunD K d_Board___init__.name d_Board___init__.qual d_Board___init__.params d_Board___init__.body d_Board___init__.scope (d_Board___init__.dvs K) (d_Board___init__.kws K) (He.fAd K d_Board___init__.at_) fd) : KBn K fd ["self", "pegs", "needs", "bars", "costs"] 2 ["needs", "bars", "costs"] (fun us ws => us ++ ws) (fun vs zs => vs ++ zs) := by
  obtain ⟨oc, od, dV, kV, doc, pm, an, cdv, ct, osl, rfl, lk, hcd, hD, hK⟩ := F.ex
  rcases hD with ⟨_, rfl⟩ | ⟨e, _⟩
  · exact ⟨fun s us ws X l1 l2 => .of_eq (match us, ws, l1, l2 with | [_, _], [_, _, _], _, _ => rfl), fun r1 r2 => vals_app r1 r2⟩
  · exact absurd rfl e
theorem y_makeB {B : Option Addr} {σ : L2.St} {H : Hp} {ts tk : TA} {p : Pa} (ha : YA B ts σ H (As [p.vp])) (hk : YA B tk σ H (As [p.vw, p.vb, p.vc])) (h : ∀ H1, Go B H H1 → PaOk B p H1 ∧ PaV p) : Y B (tMakeK (He.ga K "Board") 1 3 (sp_Board___init__ K) (fun vs zs => vs ++ zs) E0 ts tk) σ H (BdR K B (mkB p)) := fun H1 g Q q =>
  ha H1 g _ fun vs H2 g2 e1 => hk H2 (g.trans g2) _ fun zs H3 g3' e2 => by
    rw [show vs = _ from e1, show zs = _ from e2]
    refine ⟨rfl, rfl, fun x dx nx nd ne => ?_⟩
    have g3 : Go B H3 (upd H3 dx (.own x)) := Go.new g3'.2 nd
    have nx' : upd H3 dx (.own x) x = none := by rw [upd_ne (Ne.symm ne)]; exact nx
    have g4 := g3.trans (Go.new (o := .ins (He.ga K "Board") dx []) g3.2 nx')
    have bx := g3.2.fresh nx'
    refine ⟨B, p, x, dx, rfl, g4.2, ⟨bx, upd_same⟩, h _ ((g.trans g2).trans (g3'.trans g4)), fun H' f gx ex ⟨o, pr, rw, cl, ke, ef, hf⟩ => ⟨rfl, ?_⟩⟩
    have g5 : Go B H3 H' := ⟨fun b u hb hu => gx.1 b u hb (ne_of_none hu nx) (g4.1 b u hb hu), gx.2⟩
    rw [ef] at ex
    exact q _ _ (g2.trans (g3'.trans g5)) ⟨x, dx, o, pr, rw, cl, ke, rfl, ⟨bx, ex⟩, hf⟩
def sp__law_board (K : PySem.W.Frag) : Sp := Pm (fun p : V × Pa => [p.1]) (fun B p H => PtR B p.2 p.1 H) (fun B p v H => BdR K B (mkB p.2) v H)
theorem ok__law_board (T : Fx K mg) : OK P w K mg base 13 (He.fAd K ("_law_board", none)) (sp__law_board K) := by
  obtain ⟨fd, F⟩ := T.dd 23 (d := d__law_board) rfl
  have g_Board := T.glo 37 rfl
  have k_Board := T.mkr 70 rfl
  obtain ⟨_, D_Board, F_Board⟩ := ok_Board___init__ (P := P) (w := w) (base := base) T
  have kb_Board := kbn_board D_Board
  have sc : FnScope ["_law_parts_here"] ["_law_parts_here"] (defScope (top 69)) := ⟨rfl, rfl, rfl, by decide +kernel, rfl, by decide +kernel, by decide +kernel⟩
  have nd := sc.nd
  refine OK.of (F.ok sc (fun vs H Q E h => by obtain ⟨B, a, h⟩ := h; first | (obtain ⟨rfl, _⟩ := h; rfl) | (obtain ⟨x, dx, rfl, _⟩ := h; rfl)) (fun cdv A outer s H vs Q E hr h => ⟨_, PSs.nox (pss_one (ps_ret (pe_makeK k_Board F_Board (hr.mono (by decide)) rfl g_Board kb_Board pass0 (pa_cons (pe_ix (k_ixT (K := K)) (pv 0) pe_int (fun _ _ => rfl)) pa_nil) (pk_cons (pe_ix (k_ixT (K := K)) (pv 0) pe_int (fun _ _ => rfl)) (pk_cons (pe_ix (k_ixT (K := K)) (pv 0) pe_int (fun _ _ => rfl)) (pk_cons (pe_ix (k_ixT (K := K)) (pv 0) pe_int (fun _ _ => rfl)) pk_nil)))))), ?_⟩)) (F.bindsN fun _ _ _ _ _ _ us hl => match us, hl with | [_], _ => rfl)
  obtain ⟨B, ⟨v1, p⟩, rfl, hb, ⟨a, ea, ta, hp⟩, hq⟩ := h
  cases (show v1 = .ref a from ea)
  dsimp only at ta hp
  exact s_ret (Go.refl hb) (y_makeB (p := p) (ya_cons (y_part rfl ta rfl) ya_nil) (ya_cons (y_part rfl ta rfl) (ya_cons (y_part rfl ta rfl) (ya_cons (y_part rfl ta rfl) ya_nil))) fun H1 g1 => ⟨hp.ok.go g1, hp.v⟩) fun v H1 g _ h => hq v H1 g h
/-- the script: a list of whole numbers that is only read -/
def ScR (K : PySem.W.Frag) (xs : List Int) : V → Hp → Prop := fun v H => ∃ a, v = .ref a ∧ SqL K H a (xs.map V.int)
theorem rd_go {H H' : Hp} {a : Addr} {u : HO} (g : Go none H H') (h : Rd H a u) : Rd H' a u := h.imp (fun h => g.1 a _ (fun z => nomatch z) h) fun ⟨o, h⟩ => ⟨o, g.1 a _ (fun z => nomatch z) h⟩
theorem ScR.st {xs : List Int} : St none (ScR K xs) := fun _ _ _ g ⟨a, e, h⟩ => ⟨a, e, h.imp (rd_go g) fun h => h⟩
def sp__law_box (K : PySem.W.Frag) : Sp := Pm (fun p : V × List Int × Nat × Hp => [p.1, .int (p.2.2.1 : Int)]) (fun B p H => B = none ∧ ScR K p.2.1 p.1 H ∧ p.2.2.1 < 100 ∧ p.2.2.2 = H) (fun B p v H => ∃ bx, v = .ref bx ∧ Bok bx H ∧ p.2.2.2 bx = none)
theorem y_lenSc {σ : L2.St} {H : Hp} {te : TE} {xs : List Int} (h : Y none te σ H (ScR K xs)) : Y none (tCB (fun xs H Q => ∃ p ys, xs = [.ref p] ∧ (SqL K H p ys ∨ SqT K H p ys) ∧ Q (.int ys.length) H) (tCons te tNil)) σ H (Is (.int (xs.length : Int))) :=
  y_lenV h fun v H1 ⟨p, e, t⟩ => ⟨p, _, e, .inl t, by rw [List.length_map]⟩
theorem y_ixSc {σ : L2.St} {H : Hp} {ta tb : TE} {xs : List Int} {i : Int} {x : Int} (h : Y none ta σ H (ScR K xs)) (hk : Y none tb σ H (Is (.int i))) (e : atI xs i = some x) : Y none (tOp (rIxL K) ta tb) σ H (Is (.int x)) :=
  y_opG ScR.st h hk fun v y H1 g ⟨p, ep, t⟩ ey Q q => ⟨p, _, i, .int x, ep, ey, t, by
    unfold atI at e ⊢
    rw [List.length_map]
    obtain ⟨j, h1, h2⟩ := Option.bind_eq_some_iff.mp e
    rw [h1]
    show (xs.map V.int)[j]? = _
    rw [List.getElem?_map, h2] <;> rfl, q _ H1 (Go.refl g.2) rfl⟩
theorem ok__law_box (T : Fx K mg) : OK P w K mg base 1 (He.fAd K ("_law_box", none)) (sp__law_box K) := by
  obtain ⟨fd, F⟩ := T.dd 16 (d := d__law_box) rfl
  have n_int := T.free 50 rfl
  have n_len := T.free 38 rfl
  have sc : FnScope ["_law_script", "_law_k", "_law_cell", "_law_seed"] ["_law_script", "_law_k"] (defScope (top 62)) := ⟨rfl, rfl, rfl, by decide +kernel, rfl, by decide +kernel, by decide +kernel⟩
  have nd := sc.nd
  refine OK.of (F.ok sc (fun vs H Q E h => by obtain ⟨B, a, h⟩ := h; first | (obtain ⟨rfl, _⟩ := h; rfl) | (obtain ⟨x, dx, rfl, _⟩ := h; rfl)) (fun cdv A outer s H vs Q E hr h => ⟨_, PSs.nox (pss_cons (ps_set (i := 2) nd rfl (Or.inl rfl) (pe_op op_add (pe_op op_mul pe_int (pv 1)) pe_int))
    (pss_cons (ps_if (pt_cmpR op_lt (pv 1) (pe_callB (k_len (K := K)) rfl n_len (by rfl) (pa_cons (pv 0) pa_nil)) (nomark _)) (pss_one (ps_set (i := 2) nd rfl (Or.inl rfl) (pe_ix (k_ixL (K := K)) (pv 0) (pv 1) (fun _ _ => rfl)))) (pss_one (ps_if (pt_cmpR op_gt (pe_callB (k_len (K := K)) rfl n_len (by rfl) (pa_cons (pv 0) pa_nil)) pe_int (nomark _)) (pss_one (ps_set (i := 2) nd rfl (Or.inl rfl) (pe_op op_add (pv 2) (pe_op op_mul (pe_op op_mod (pe_ix (k_ixL (K := K)) (pv 0) (pe_op op_mod (pv 1) (pe_callB (k_len (K := K)) rfl n_len (by rfl) (pa_cons (pv 0) pa_nil))) (fun _ _ => rfl)) pe_int) pe_int)))) pss_nil)))
    (pss_cons (ps_set (i := 3) nd rfl (Or.inl rfl) (pe_op op_add (pe_op op_mod (pe_op op_add (pe_op op_mul (pe_op op_mod (pv 2) pe_int) pe_int) (pe_op op_mul pe_int (pv 1))) pe_int) pe_int))
    (pss_one (ps_ret (pe_lst (pa_cons (pe_ix (k_ixL (K := K)) (pe_lst (pa_cons pe_int (pa_cons (pv 2) pa_nil))) (pe_callTy call_int1 rfl n_int (by rfl) (pa_cons (pe_cmpR op_ge (pv 2) (pe_op op_pow pe_int pe_int) (nomark _)) pa_nil)) (fun _ _ => rfl)) (pa_cons (pv 3) (pa_cons pe_int pa_nil))))))))), ?_⟩)) (F.bindsN fun _ _ _ _ _ _ us hl => match us, hl with | [_, _], _ => rfl)
  obtain ⟨B, ⟨v1, xs, k, HH⟩, rfl, hb, ⟨hB, hs, hk, hHH⟩, hq⟩ := h
  dsimp only at hB hs hk hHH
  subst hB
  subst hHH
  refine q_asg (Go.refl hb) (y_op (y_op y_c (y_var rfl) (o_mul (cm1 ⟨by decide, by decide⟩))) y_c o_add) fun v2 H1 g1 _ e2 => ?_
  rw [show v2 = _ from e2]
  refine q_ifE (J := fun σ1 => ∃ c : Int, σ1 = [some v1, some (.int (k : Int)), some (.int c), none]) (b := decide ((k : Int) < (xs.length : Int))) (Go.refl g1.2) (yt_testI (y_op (y_var rfl) (y_lenSc ((y_var rfl).rep (ScR.st _ _ _ g1 hs) ScR.st)) o_lt)) (fun e D' H2 g2 hn => ?_) (fun e D' H2 g2 hn => ?_) fun σ1 H2 ⟨c, es⟩ g2 => ?_
  · have hl : k < xs.length := by
      have := of_decide_eq_true e
      omega
    obtain ⟨x, hx⟩ : ∃ x, xs[k]? = some x := ⟨_, List.getElem?_eq_getElem hl⟩
    exact s_asg (P := Is (.int x)) (Go.refl g2.2) (y_ixSc ((y_var rfl).rep (ScR.st _ _ _ (g1.trans g2) hs) ScR.st) (y_var rfl) (atI_nat hx)) fun v H3 g3 _ ev => hn H3 g3 _ ⟨x, by rw [show v = _ from ev] <;> rfl⟩
  · refine s_when (b := decide ((0 : Int) < (xs.length : Int))) (Go.refl g2.2) (yt_testI (y_op (y_lenSc ((y_var rfl).rep (ScR.st _ _ _ (g1.trans g2) hs) ScR.st)) y_c o_gt)) (fun e2 H3 g3 _ => ?_) fun e2 H3 g3 _ => hn H3 g3 _ ⟨_, rfl⟩
    have hl : 0 < xs.length := by
      have := of_decide_eq_true e2
      omega
    have hm : (k : Int) % (xs.length : Int) = ((k % xs.length : Nat) : Int) := (Int.natCast_emod k xs.length).symm
    obtain ⟨x, hx⟩ : ∃ x, xs[k % xs.length]? = some x := ⟨_, List.getElem?_eq_getElem (Nat.mod_lt _ hl)⟩
    have s3 := ScR.st _ _ _ ((g1.trans g2).trans g3) hs
    exact s_asg (P := fun v _ => ∃ c : Int, v = .int c) (Go.refl g3.2) ((y_op (y_var rfl) (y_op (y_op (y_ixSc ((y_var rfl).rep s3 ScR.st) (y_is (y_op (y_var rfl) (y_lenSc ((y_var rfl).rep s3 ScR.st)) (o_mod (by omega))) (congrArg V.int hm)) (atI_nat hx)) y_c (o_mod (by decide))) y_c (o_mul (cm2 ⟨by decide, by decide⟩))) o_add).imp fun v _ _ e => ⟨_, e⟩) fun v H4 g4 _ ⟨c, ev⟩ => hn H4 (g3.trans g4) _ ⟨c, by rw [ev] <;> rfl⟩
  · subst es
    have g02 := g1.trans g2
    refine q_asg (Go.refl g2.2) (y_op (y_op (y_op (y_op (y_op (y_var rfl) y_c (o_mod (by decide))) y_c (o_mul (cm2 ⟨by decide, by decide⟩))) (y_op y_c (y_var rfl) (o_mul (cm1 ⟨by decide, by decide⟩))) o_add) y_c (o_mod (by decide))) y_c o_add) fun v3 H3 g3 _ e3 => ?_
    rw [show v3 = _ from e3]
    have g03 := g02.trans g3
    refine s_ret (P := fun v H' => ∃ a x y z, v = .ref a ∧ At none H' a (.lst [.int x, .int y, .int z]) ∧ HH a = none) (Go.refl g3.2) ((y_lst (ya_consG (PA := fun v _ => ∃ x : Int, v = .int x) (fun _ _ _ _ h => h) (y_opG (PA := fun v H1 => ∃ a, v = .ref a ∧ At none H1 a (.lst [.int 0, .int c])) (PB := fun v _ => v = .int 0 ∨ v = .int 1) (fun _ _ _ g ⟨a, e, t⟩ => ⟨a, e, t.go g⟩) ((y_lstI (ya_cons y_c (ya_cons (y_var rfl) ya_nil)) (by simp)).imp fun v H1 _ ⟨a, e, t, _⟩ => ⟨a, e, t⟩) (y_cb (R := fun vs _ => ∃ b : Bool, vs = [.bl b]) ((ya_cons (y_op (y_var rfl) (y_op y_c y_c (o_I ⟨by decide, by decide, by decide⟩)) o_ge) ya_nil).imp fun vs H1 _ e => ⟨_, e⟩) fun vs H1 g ⟨b, e⟩ Q q => .inr ⟨b, e, q _ H1 (Go.refl g.2) (by cases b <;> simp)⟩) fun x y H1 g ⟨a, e, t⟩ ey Q q => ?_) (ya_consG (PA := fun v _ => ∃ x : Int, v = .int x) (fun _ _ _ _ h => h) ((y_var rfl).imp fun v H1 _ e => ⟨_, e⟩) (ya_cons y_c ya_nil))) (fun vs H1 H2 g h => h) fun vs H1 ⟨w1, r1, e1, q1, w2, r2, e2, q2, e3⟩ => by
        rw [e1, e2, show r2 = _ from e3]
        show 3 ≤ 100000
        decide).imp fun v H4 _ ⟨a, vs, e, t, nn, w1, r1, e1, ⟨x, q1⟩, w2, r2, e2, ⟨y, q2⟩, e3⟩ => ⟨a, x, y, 0, e, by
          rw [e1, e2, show r2 = _ from e3, q1, q2] at t
          exact t, g03.fresh nn⟩) fun v H4 g4 _ ⟨a, x, y, z, e, t, nn⟩ => hq v H4 (g03.trans g4) ⟨a, e, ⟨x, y, z, t.2⟩, nn⟩
    rcases ey with ey | ey
    · exact ⟨a, _, 0, .int 0, e, ey, t.sl, rfl, q _ H1 (Go.refl g.2) ⟨0, rfl⟩⟩
    · exact ⟨a, _, 1, .int c, e, ey, t.sl, rfl, q _ H1 (Go.refl g.2) ⟨c, rfl⟩⟩
end
end NP
end
section
set_option Elab.async false
set_option linter.all false
set_option maxRecDepth 100000
set_option maxHeartbeats 4000000
/-! The plain law: near. -/
namespace NP
open PySem PySem.Spec PyProof.Rows L2
section
variable {p : Pa}
theorem bel_iff {x y : Str} : (mkB p).bel x y = true ↔ Rch p.wants x y := by
  show decide (y ∈ nr p.wants x) = true ↔ _
  rw [decide_eq_true_iff, nr_rch]
theorem row_mem {x y : Str} : y ∈ (mkB p).row x ↔ y ∈ p.pegs ∧ Rch p.wants x y := by
  unfold Bd.row
  rw [List.mem_filter, bel_iff] <;> rfl
theorem rch_peg (hv : PaV p) {x y : Str} (h : Rch p.wants x y) : x ∈ p.pegs → y ∈ p.pegs := by
  induction h with
  | refl => exact fun h => h
  | step a _ ih => exact fun _ => ih (hv.nd.in_ _ a).2.1
theorem brd_sym {r o : List Str} {bars : List (Str × Str)} : brd r o bars = brd o r bars := by
  rw [Bool.eq_iff_iff, brd_iff, brd_iff]
  constructor
  · rintro ⟨q, hq, ⟨a, b⟩ | ⟨a, b⟩⟩
    · exact ⟨q, hq, .inr ⟨b, a⟩⟩
    · exact ⟨q, hq, .inl ⟨b, a⟩⟩
  · rintro ⟨q, hq, ⟨a, b⟩ | ⟨a, b⟩⟩
    · exact ⟨q, hq, .inr ⟨b, a⟩⟩
    · exact ⟨q, hq, .inl ⟨b, a⟩⟩
theorem clp_mem {pegs : List Str} {ws bars : List (Str × Str)} {x y : Str} : (x, y) ∈ clp pegs ws bars ↔ ∃ i : Nat, pegs[i]? = some x ∧ y ∈ pegs.drop (i + 1) ∧ brd (nr ws x) (nr ws y) bars = true := by
  unfold clp
  rw [List.mem_flatMap]
  constructor
  · rintro ⟨q, hq, hm⟩
    obtain ⟨i, hi⟩ := List.mem_iff_getElem?.mp hq
    obtain ⟨i1, i2⟩ := enum_get hi
    obtain ⟨o, ho, e⟩ := List.mem_map.mp hm
    obtain ⟨h1, h2⟩ := List.mem_filter.mp ho
    have e1 : q.2 = x := congrArg Prod.fst e
    have e2 : o = y := congrArg Prod.snd e
    rw [e1, e2] at h2
    rw [e2, i1] at h1
    exact ⟨i, by rw [i2, e1], h1, h2⟩
  · rintro ⟨i, h1, h2, h3⟩
    refine ⟨(i, x), ?_, List.mem_map.mpr ⟨y, List.mem_filter.mpr ⟨h2, h3⟩, rfl⟩⟩
    have hl : i < pegs.length := (List.getElem?_eq_some_iff.mp h1).1
    refine List.mem_iff_getElem?.mpr ⟨i, ?_⟩
    unfold enum
    rw [List.getElem?_zip_eq_some]
    exact ⟨List.getElem?_range hl, h1⟩
theorem cla_brd (hv : PaV p) {x y : Str} (hx : x ∈ p.pegs) (hy : y ∈ p.pegs) : (mkB p).cla x y = brd (nr p.wants x) (nr p.wants y) p.bars := by
  by_cases e : x = y
  · subst e
    rw [hv.dead x hx]
    unfold Bd.cla
    have z : ¬ (x, x) ∈ clp p.pegs p.wants p.bars := fun h => by
      obtain ⟨i, _, _, h3⟩ := clp_mem.mp h
      rw [hv.dead x hx] at h3
      cases h3
    show (decide ((x, x) ∈ clp p.pegs p.wants p.bars) || decide ((x, x) ∈ clp p.pegs p.wants p.bars)) = false
    rw [decide_eq_false z] <;> rfl
  · rw [Bool.eq_iff_iff]
    show (decide ((x, y) ∈ clp p.pegs p.wants p.bars) || decide ((y, x) ∈ clp p.pegs p.wants p.bars)) = true ↔ _
    rw [Bool.or_eq_true_iff, decide_eq_true_iff, decide_eq_true_iff, clp_mem, clp_mem]
    constructor
    · rintro (⟨i, _, _, h⟩ | ⟨i, _, _, h⟩)
      · exact h
      · rw [brd_sym]; exact h
    · intro h
      obtain ⟨i, hi⟩ := List.mem_iff_getElem?.mp hx
      obtain ⟨j, hj⟩ := List.mem_iff_getElem?.mp hy
      rcases Nat.lt_trichotomy i j with z | z | z
      · refine .inl ⟨i, hi, List.mem_iff_getElem?.mpr ⟨j - (i + 1), ?_⟩, h⟩
        rw [List.getElem?_drop, show i + 1 + (j - (i + 1)) = j by omega]
        exact hj
      · subst z
        rw [hi] at hj
        exact absurd (Option.some.inj hj) e
      · refine .inr ⟨j, hj, List.mem_iff_getElem?.mpr ⟨i - (j + 1), ?_⟩, by rw [brd_sym]; exact h⟩
        rw [List.getElem?_drop, show j + 1 + (i - (j + 1)) = i by omega]
        exact hi
/-- clash: a bar between what two pegs need -/
def Cl (p : Pa) (x y : Str) : Prop := ∃ q ∈ p.bars, (Rch p.wants x q.1 ∧ Rch p.wants y q.2) ∨ (Rch p.wants x q.2 ∧ Rch p.wants y q.1)
theorem cla_iff (hv : PaV p) {x y : Str} (hx : x ∈ p.pegs) (hy : y ∈ p.pegs) : (mkB p).cla x y = true ↔ Cl p x y := by
  rw [cla_brd hv hx hy, brd_iff]
  unfold Cl
  simp only [nr_rch]
theorem Cl.sym {x y : Str} (h : Cl p x y) : Cl p y x := by
  obtain ⟨q, hq, ⟨a, b⟩ | ⟨a, b⟩⟩ := h
  · exact ⟨q, hq, .inr ⟨b, a⟩⟩
  · exact ⟨q, hq, .inl ⟨b, a⟩⟩
theorem Cl.up {x x' y : Str} (h : Cl p x y) (r : Rch p.wants x' x) : Cl p x' y := by
  obtain ⟨q, hq, ⟨a, b⟩ | ⟨a, b⟩⟩ := h
  · exact ⟨q, hq, .inl ⟨r.trans a, b⟩⟩
  · exact ⟨q, hq, .inr ⟨r.trans a, b⟩⟩
/-- a stand, plainly -/
structure Sd (p : Pa) (s : List Str) : Prop where
  n : s = p.pegs.filter fun x => decide (x ∈ s)
  down : ∀ x ∈ s, ∀ y, Rch p.wants x y → y ∈ s
  free : ∀ x ∈ s, ∀ y ∈ s, ¬ Cl p x y
theorem Sd.sub {s : List Str} (h : Sd p s) : ∀ x ∈ s, x ∈ p.pegs := fun x hx => by
  rw [h.n] at hx
  exact (List.mem_filter.mp hx).1
theorem Sd.w (hv : PaV p) {s : List Str} (h : Sd p s) : StW (mkB p) s := ⟨h.n, fun x hx y hy => h.down x hx y (row_mem.mp hy).2, fun x hx y hy => Bool.eq_false_iff.mpr fun e => h.free x hx y hy ((cla_iff hv (h.sub x hx) (h.sub y hy)).mp e)⟩
theorem Sd.of_w (hv : PaV p) {s : List Str} (h : StW (mkB p) s) : Sd p s := ⟨h.nrm, fun x hx y r => h.down x hx y (row_mem.mpr ⟨rch_peg hv r (h.sub x hx), r⟩), fun x hx y hy c => by
  have z := h.free x hx y hy
  rw [(cla_iff hv (h.sub x hx) (h.sub y hy)).mpr c] at z
  cases z⟩
theorem Sd.of_lst {s : List Str} (n : s = p.pegs.filter fun x => decide (x ∈ s)) (h : lst p s = true) : Sd p s := ⟨n, fun x hx y r => lst_rch h r hx, fun x hx y hy ⟨q, hq, e⟩ => by
  rcases e with ⟨a, b⟩ | ⟨a, b⟩
  · exact lst_bar h hq (lst_rch h a hx) (lst_rch h b hy)
  · exact lst_bar h hq (lst_rch h b hy) (lst_rch h a hx)⟩
theorem Sd.lst {s : List Str} (h : Sd p s) : lst p s = true := lst_of (fun q hq h1 => h.down _ h1 _ (.step hq (.refl _))) fun q hq h1 h2 => h.free _ h1 _ h2 ⟨q, hq, .inl ⟨.refl _, .refl _⟩⟩
theorem ins_mem {I : List Str} {y : Str} : y ∈ insOf (mkB p) I ↔ y ∈ p.pegs ∧ ∃ x ∈ I, Rch p.wants x y := by
  unfold insOf
  rw [List.mem_filter, List.any_eq_true]
  constructor
  · rintro ⟨a, x, hx, e⟩
    rcases Bool.or_eq_true_iff.mp e with e | e
    · exact ⟨a, x, hx, bel_iff.mp e⟩
    · exact ⟨a, x, hx, by rw [of_decide_eq_true e]; exact .refl _⟩
  · rintro ⟨a, x, hx, r⟩
    exact ⟨a, x, hx, by rw [bel_iff.mpr r] <;> rfl⟩
theorem outs_mem (hv : PaV p) {I O : List Str} {y : Str} : y ∈ outsOf (mkB p) I O ↔ y ∈ p.pegs ∧ ((∃ q ∈ insOf (mkB p) I, Cl p y q) ∨ ∃ o ∈ O, o ∈ p.pegs ∧ Rch p.wants y o) := by
  unfold outsOf
  rw [List.mem_filter, Bool.or_eq_true_iff, List.any_eq_true, List.any_eq_true]
  constructor
  · rintro ⟨a, ⟨q, hq, e⟩ | ⟨o, ho, e⟩⟩
    · exact ⟨a, .inl ⟨q, hq, (cla_iff hv a (ins_mem.mp hq).1).mp e⟩⟩
    · exact ⟨a, .inr ⟨o, of_decide_eq_true e, (row_mem.mp ho).1, (row_mem.mp ho).2⟩⟩
  · rintro ⟨a, ⟨q, hq, e⟩ | ⟨o, ho, m, r⟩⟩
    · exact ⟨a, .inl ⟨q, hq, (cla_iff hv a (ins_mem.mp hq).1).mpr e⟩⟩
    · exact ⟨a, .inr ⟨o, row_mem.mpr ⟨m, r⟩, decide_eq_true ho⟩⟩
theorem near_mem {I O s : List Str} {x : Str} : x ∈ near (mkB p) I O s ↔ x ∈ p.pegs ∧ ((x ∈ s ∧ x ∉ outsOf (mkB p) I O) ∨ x ∈ insOf (mkB p) I) := by
  unfold near
  rw [nrm_mem, List.mem_append, List.mem_filter]
  constructor
  · rintro ⟨a, ⟨b, c⟩ | b⟩
    · refine ⟨a, .inl ⟨b, fun z => ?_⟩⟩
      rw [decide_eq_true z] at c
      cases c
    · exact ⟨a, .inr b⟩
  · rintro ⟨a, ⟨b, c⟩ | b⟩
    · exact ⟨a, .inl ⟨b, by rw [decide_eq_false c] <;> rfl⟩⟩
    · exact ⟨a, .inr b⟩
theorem near_nrm {I O s : List Str} : near (mkB p) I O s = p.pegs.filter fun x => decide (x ∈ near (mkB p) I O s) := by
  show p.pegs.filter _ = _
  exact fil_idem
theorem ins_free (hv : PaV p) {I O : List Str} (hg : GoodW p I O) {x y : Str} (hx : x ∈ insOf (mkB p) I) (hy : y ∈ insOf (mkB p) I) : ¬ Cl p x y := by
  have h := (clo_ok hv hg).1
  have e : ∀ z, z ∈ insOf (mkB p) I → z ∈ clo p I := fun z hz => clo_mem.mpr (ins_mem.mp hz)
  exact (Sd.of_lst fil_idem h).free x (e x hx) y (e y hy)
theorem near_sd (hv : PaV p) {I O s : List Str} (hg : GoodW p I O) (hs : Sd p s) : Sd p (near (mkB p) I O s) := by
  refine ⟨near_nrm, fun x hx y r => ?_, fun x hx y hy c => ?_⟩
  · obtain ⟨mx, h⟩ := near_mem.mp hx
    have my := rch_peg hv r mx
    refine near_mem.mpr ⟨my, ?_⟩
    rcases h with ⟨h1, h2⟩ | h1
    · refine .inl ⟨hs.down x h1 y r, fun ho => h2 ?_⟩
      obtain ⟨_, ⟨q, hq, c⟩ | ⟨o, ho, mo, r2⟩⟩ := (outs_mem hv).mp ho
      · exact (outs_mem hv).mpr ⟨mx, .inl ⟨q, hq, c.up r⟩⟩
      · exact (outs_mem hv).mpr ⟨mx, .inr ⟨o, ho, mo, r.trans r2⟩⟩
    · obtain ⟨_, z, hz, r2⟩ := ins_mem.mp h1
      exact .inr (ins_mem.mpr ⟨my, z, hz, r2.trans r⟩)
  · obtain ⟨mx, h⟩ := near_mem.mp hx
    obtain ⟨my, k⟩ := near_mem.mp hy
    rcases h with ⟨h1, h2⟩ | h1
    · rcases k with ⟨k1, k2⟩ | k1
      · exact hs.free x h1 y k1 c
      · exact h2 ((outs_mem hv).mpr ⟨mx, .inl ⟨y, k1, c⟩⟩)
    · rcases k with ⟨k1, k2⟩ | k1
      · exact k2 ((outs_mem hv).mpr ⟨my, .inl ⟨x, h1, c.sym⟩⟩)
      · exact ins_free hv hg h1 k1 c
theorem near_mts (hv : PaV p) {I O s : List Str} (hg : GoodW p I O) : mts I O (near (mkB p) I O s) = true := mts_iff.mpr ⟨fun x hx => near_mem.mpr ⟨hg.i x hx, .inr (ins_mem.mpr ⟨hg.i x hx, x, hx, .refl x⟩)⟩, fun y hy hm => by
  obtain ⟨my, ⟨h1, h2⟩ | h1⟩ := near_mem.mp hm
  · exact h2 ((outs_mem hv).mpr ⟨my, .inr ⟨y, hy, my, .refl y⟩⟩)
  · obtain ⟨_, x, hx, r⟩ := ins_mem.mp h1
    exact hg.io x hx y hy (lrow_mem.mpr ⟨my, r⟩)⟩
theorem mts_ins {I O t : List Str} (ht : Sd p t) (hm : mts I O t = true) {x : Str} (hx : x ∈ insOf (mkB p) I) : x ∈ t := by
  obtain ⟨_, z, hz, r⟩ := ins_mem.mp hx
  exact ht.down z ((mts_iff.mp hm).1 z hz) x r
theorem mts_outs (hv : PaV p) {I O t : List Str} (ht : Sd p t) (hm : mts I O t = true) {x : Str} (hx : x ∈ t) : x ∉ outsOf (mkB p) I O := fun ho => by
  obtain ⟨_, ⟨q, hq, c⟩ | ⟨o, ho, mo, r⟩⟩ := (outs_mem hv).mp ho
  · exact ht.free x hx q (mts_ins ht hm hq) c
  · exact (mts_iff.mp hm).2 o ho (ht.down x hx o r)
theorem near_self (hv : PaV p) {I O t : List Str} (ht : Sd p t) (hm : mts I O t = true) : near (mkB p) I O t = t := by
  rw [near_nrm, ht.n]
  refine List.filter_congr fun x hx => decide_eq_decide.mpr ?_
  rw [← ht.n, near_mem]
  constructor
  · rintro ⟨_, ⟨h, _⟩ | h⟩
    · exact h
    · exact mts_ins ht hm h
  · exact fun h => ⟨hx, .inl ⟨h, mts_outs hv ht hm h⟩⟩
theorem near_btw (hv : PaV p) {I O s t : List Str} (hs : Sd p s) (ht : Sd p t) (hm : mts I O t = true) : btw (near (mkB p) I O s) s t = true := by
  unfold btw
  rw [Bool.and_eq_true_iff, List.all_eq_true, List.all_eq_true]
  refine ⟨fun x hx => decide_eq_true ?_, fun x hx => ?_⟩
  · obtain ⟨h1, h2⟩ := List.mem_filter.mp hx
    exact near_mem.mpr ⟨hs.sub x h1, .inl ⟨h1, mts_outs hv ht hm (of_decide_eq_true h2)⟩⟩
  · obtain ⟨_, ⟨h, _⟩ | h⟩ := near_mem.mp hx
    · rw [decide_eq_true h] <;> rfl
    · rw [decide_eq_true (mts_ins ht hm h)]
      exact Bool.or_true _
end
/-! ### distances -/
theorem sum_add {c : Str → Int} {f g h : Str → Bool} : ∀ {xs : List Str}, (∀ x ∈ xs, (f x = true ∧ g x = false ∧ h x = true) ∨ (f x = false ∧ g x = true ∧ h x = true) ∨ (f x = false ∧ g x = false ∧ h x = false)) → ((xs.filter f).map c).sum + ((xs.filter g).map c).sum = ((xs.filter h).map c).sum
  | [], _ => rfl
  | x :: xs, hx => by
    have ih := sum_add (c := c) (f := f) (g := g) (h := h) (xs := xs) fun y hy => hx y (List.mem_cons_of_mem _ hy)
    rcases hx x List.mem_cons_self with ⟨a, b, d⟩ | ⟨a, b, d⟩ | ⟨a, b, d⟩
    · rw [List.filter_cons_of_pos a, List.filter_cons_of_neg (by rw [b]; decide), List.filter_cons_of_pos d, List.map_cons, List.map_cons, List.sum_cons, List.sum_cons, ← ih, Int.add_assoc]
    · rw [List.filter_cons_of_neg (by rw [a]; decide), List.filter_cons_of_pos b, List.filter_cons_of_pos d, List.map_cons, List.map_cons, List.sum_cons, List.sum_cons, ← ih]
      omega
    · rw [List.filter_cons_of_neg (by rw [a]; decide), List.filter_cons_of_neg (by rw [b]; decide), List.filter_cons_of_neg (by rw [d]; decide)]
      exact ih
theorem sum_le {c : Str → Int} {f g : Str → Bool} : ∀ {xs : List Str}, (∀ x ∈ xs, 0 ≤ c x) → (∀ x ∈ xs, f x = true → g x = true) → ((xs.filter f).map c).sum ≤ ((xs.filter g).map c).sum
  | [], _, _ => Int.le_refl _
  | x :: xs, h0, h => by
    have ih := sum_le (c := c) (f := f) (g := g) (xs := xs) (fun y hy => h0 y (List.mem_cons_of_mem _ hy)) fun y hy => h y (List.mem_cons_of_mem _ hy)
    have hc := h0 x List.mem_cons_self
    by_cases a : f x = true
    · rw [List.filter_cons_of_pos a, List.filter_cons_of_pos (h x List.mem_cons_self a), List.map_cons, List.map_cons, List.sum_cons, List.sum_cons]
      omega
    · rw [List.filter_cons_of_neg a]
      by_cases b : g x = true
      · rw [List.filter_cons_of_pos b, List.map_cons, List.sum_cons]
        omega
      · rw [List.filter_cons_of_neg b]
        exact ih
section
variable {p : Pa}
theorem cost_nn (hv : PaV p) (x : Str) : 0 ≤ (mkB p).cost x := by
  unfold Bd.cost
  cases e : ((mkB p).pegs.zip (mkB p).costs).lookup x with
  | none => exact Int.le_refl _
  | some c =>
    have key : ∀ (l : List (Str × Int)), l.lookup x = some c → ∃ y, (y, c) ∈ l := fun l => by
      induction l with
      | nil => intro h; cases h
      | cons a l ih =>
        intro h
        obtain ⟨y, d⟩ := a
        rw [List.lookup_cons] at h
        split at h
        · cases h
          exact ⟨y, List.mem_cons_self⟩
        · obtain ⟨y', hy⟩ := ih h
          exact ⟨y', List.mem_cons_of_mem _ hy⟩
    obtain ⟨y, hy⟩ := key _ e
    have h1 := (List.of_mem_zip hy).2
    have := (hv.costs c h1).1
    show 0 ≤ c
    omega
theorem dist_add (hv : PaV p) {I O s t : List Str} (hs : Sd p s) (ht : Sd p t) (hm : mts I O t = true) : dist (mkB p) s (near (mkB p) I O s) + dist (mkB p) (near (mkB p) I O s) t = dist (mkB p) s t := by
  unfold dist unl
  refine sum_add fun x hx => ?_
  have h1 : x ∈ s → x ∈ t → x ∈ near (mkB p) I O s := fun a b => near_mem.mpr ⟨hx, .inl ⟨a, mts_outs hv ht hm b⟩⟩
  have h2 : x ∈ near (mkB p) I O s → x ∈ s ∨ x ∈ t := fun a => by
    obtain ⟨_, ⟨h, _⟩ | h⟩ := near_mem.mp a
    · exact .inl h
    · exact .inr (mts_ins ht hm h)
  by_cases a : x ∈ s <;> by_cases b : x ∈ t <;> by_cases c : x ∈ near (mkB p) I O s <;> simp [a, b, c]
  · exact c (h1 a b)
  · exact (h2 c).elim a b
theorem dist_le (hv : PaV p) {I O s t : List Str} : dist (mkB p) (near (mkB p) I O s) (near (mkB p) I O t) ≤ dist (mkB p) s t := by
  unfold dist unl
  refine sum_le (fun x _ => cost_nn hv x) fun x hx h => ?_
  have e : (x ∈ s ↔ x ∈ t) → (x ∈ near (mkB p) I O s ↔ x ∈ near (mkB p) I O t) := fun e => by
    rw [near_mem, near_mem, e]
  by_cases a : (x ∈ s ↔ x ∈ t)
  · rw [decide_eq_true (decide_eq_decide.mpr (e a))] at h
    cases h
  · rw [decide_eq_false fun z => a (decide_eq_decide.mp z)] <;> rfl
theorem wi_ok (hv : PaV p) {I O : List Str} (hg : GoodW p I O) : WiOk (mkB p) I O := ⟨hg.i, hg.o, fun x hx y hy => ⟨fun e => hg.io x hx y hy (lrow_mem.mpr ⟨hg.o y hy, by rw [e]; exact .refl _⟩), Bool.eq_false_iff.mpr fun e => hg.io x hx y hy (lrow_mem.mpr ⟨hg.o y hy, bel_iff.mp e⟩)⟩, fun x hx y hy => Bool.eq_false_iff.mpr fun e => ins_free hv hg (ins_mem.mpr ⟨hg.i x hx, x, hx, .refl _⟩) (ins_mem.mpr ⟨hg.i y hy, y, hy, .refl _⟩) ((cla_iff hv (hg.i x hx) (hg.i y hy)).mp e)⟩
end
end NP
end
section
set_option Elab.async false
set_option linter.all false
set_option maxRecDepth 100000
set_option maxHeartbeats 4000000
/-! The plain law: ways. -/
namespace NP
open PySem PySem.Spec PyProof.Rows L2
section
variable {p : Pa}
def RkOk (p : Pa) : Prop := ∃ r : Str → Nat, ∀ q ∈ p.wants, r q.2 < r q.1
theorem rch_rank {r : Str → Nat} (hr : ∀ q ∈ p.wants, r q.2 < r q.1) {x y : Str} (h : Rch p.wants x y) : y = x ∨ r y < r x := by
  induction h with
  | refl => exact .inl rfl
  | step a _ ih =>
    have := hr _ a
    dsimp only at this
    rcases ih with ih | ih
    · rw [ih]; exact .inr this
    · right; omega
theorem row_lt (hv : PaV p) {o x : Str} (ho : o ∈ p.pegs) (h : Rch p.wants o x) (hne : o ≠ x) : ((mkB p).row x).length < ((mkB p).row o).length := by
  obtain ⟨r, hr⟩ := hv.nd.rk
  have nd : (o :: (mkB p).row x).Nodup := List.nodup_cons.mpr ⟨fun hm => by
    have h1 := rch_rank hr (row_mem.mp hm).2
    have h2 := rch_rank hr h
    rcases h1 with e | h1
    · exact hne e
    · rcases h2 with e | h2
      · exact hne e.symm
      · omega, hv.nd.nd.filter _⟩
  have z := nodup_len nd fun y hy => by
    rcases List.mem_cons.mp hy with e | hy
    · rw [e]
      exact row_mem.mpr ⟨ho, .refl _⟩
    · exact row_mem.mpr ⟨(row_mem.mp hy).1, h.trans (row_mem.mp hy).2⟩
  rw [List.length_cons] at z
  exact z
theorem nrm_sub {s : List Str} (hs : ∀ x ∈ s, x ∈ p.pegs) {x : Str} : x ∈ nrm (mkB p) s ↔ x ∈ s := by
  rw [nrm_mem]
  exact ⟨fun h => h.2, fun h => ⟨hs x h, h⟩⟩
theorem nrm_n {s : List Str} : nrm (mkB p) s = p.pegs.filter fun x => decide (x ∈ nrm (mkB p) s) := by
  show p.pegs.filter _ = _
  exact fil_idem
theorem sd_ext {s t : List Str} (hs : Sd p s) (ht : Sd p t) (h : ∀ x, x ∈ s ↔ x ∈ t) : s = t := by
  rw [hs.n, ht.n]
  exact List.filter_congr fun x _ => decide_eq_decide.mpr (h x)
/-- taking out -/
theorem run_take (hv : PaV p) : ∀ (tk : List Str) (s : List Str), Sd p s → tk.Nodup → tk.Pairwise (fun x y => ((mkB p).row y).length ≤ ((mkB p).row x).length) → (∀ x ∈ tk, x ∈ s) → (∀ x ∈ tk, ∀ o ∈ s, Rch p.wants o x → o ∈ tk) →
    RunOk (mkB p) s (tk.map fun x => (false, x)) ∧ ∃ u, u = (tk.map fun x => ((false, x) : Tn)).foldl (stp (mkB p)) s ∧ Sd p u ∧ ∀ x, x ∈ u ↔ x ∈ s ∧ x ∉ tk
  | [], s, hs, _, _, _, _ => ⟨trivial, s, rfl, hs, fun x => ⟨fun h => ⟨h, fun z => nomatch z⟩, fun h => h.1⟩⟩
  | x :: tk, s, hs, hn, ho, hm, hc => by
    obtain ⟨n1, n2⟩ := List.nodup_cons.mp hn
    obtain ⟨o1, o2⟩ := List.pairwise_cons.mp ho
    have hx := hm x List.mem_cons_self
    have top : ∀ o ∈ s, Rch p.wants o x → o = x := fun o hos r => by
      by_cases e : o = x
      · exact e
      · have h1 := row_lt hv (hs.sub o hos) r e
        rcases List.mem_cons.mp (hc x List.mem_cons_self o hos r) with z | z
        · exact absurd z e
        · have := o1 o z
          omega
    have hsub : ∀ y ∈ s.filter (fun y => !decide (y = x)), y ∈ p.pegs := fun y hy => hs.sub y (List.mem_filter.mp hy).1
    have hmem : ∀ y, y ∈ stp (mkB p) s (false, x) ↔ y ∈ s ∧ y ≠ x := fun y => by
      show y ∈ nrm (mkB p) (s.filter fun y => !decide (y = x)) ↔ _
      rw [nrm_sub hsub, List.mem_filter]
      simp
    have hS : Sd p (stp (mkB p) s (false, x)) := ⟨nrm_n, fun y hy z r => by
      obtain ⟨h1, h2⟩ := (hmem y).mp hy
      exact (hmem z).mpr ⟨hs.down y h1 z r, fun e => h2 (top y h1 (e ▸ r))⟩, fun y hy z hz => hs.free y ((hmem y).mp hy).1 z ((hmem z).mp hz).1⟩
    obtain ⟨r1, u, eu, su, mu⟩ := run_take hv tk (stp (mkB p) s (false, x)) hS n2 o2 (fun y hy => (hmem y).mpr ⟨hm y (List.mem_cons_of_mem _ hy), fun e => n1 (e ▸ hy)⟩) fun y hy o ho2 r => by
      obtain ⟨h1, h2⟩ := (hmem o).mp ho2
      rcases List.mem_cons.mp (hc y (List.mem_cons_of_mem _ hy) o h1 r) with z | z
      · exact absurd z h2
      · exact z
    refine ⟨⟨⟨hS.w hv, ?_⟩, r1⟩, u, eu, su, fun y => ?_⟩
    · show if false = true then _ else x ∈ s ∧ ∀ o ∈ s, (mkB p).bel o x = true → o = x
      rw [if_neg (by decide)]
      exact ⟨hx, fun o ho e => top o ho (bel_iff.mp e)⟩
    · rw [mu, hmem, List.mem_cons]
      constructor
      · rintro ⟨⟨a, b⟩, c⟩
        exact ⟨a, fun z => z.elim b c⟩
      · rintro ⟨a, b⟩
        exact ⟨⟨a, fun z => b (.inl z)⟩, fun z => b (.inr z)⟩
/-- putting in -/
theorem run_put (hv : PaV p) {t : List Str} (ht : Sd p t) : ∀ (gv : List Str) (s : List Str), Sd p s → gv.Nodup → gv.Pairwise (fun x y => ((mkB p).row x).length ≤ ((mkB p).row y).length) → (∀ x ∈ s, x ∈ t) → (∀ x, x ∈ gv ↔ x ∈ t ∧ x ∉ s) →
    RunOk (mkB p) s (gv.map fun x => (true, x)) ∧ (gv.map fun x => ((true, x) : Tn)).foldl (stp (mkB p)) s = t
  | [], s, hs, _, _, hst, hg => ⟨trivial, sd_ext hs ht fun x => ⟨hst x, fun h => by
      by_cases hx : x ∈ s
      · exact hx
      · exact nomatch (hg x).mpr ⟨h, hx⟩⟩⟩
  | x :: gv, s, hs, hn, ho, hst, hg => by
    obtain ⟨n1, n2⟩ := List.nodup_cons.mp hn
    obtain ⟨o1, o2⟩ := List.pairwise_cons.mp ho
    obtain ⟨xt, xs⟩ := (hg x).mp List.mem_cons_self
    have hsub : ∀ y ∈ s ++ [x], y ∈ p.pegs := fun y hy => by
      rcases List.mem_append.mp hy with h | h
      · exact hs.sub y h
      · rw [List.mem_singleton.mp h]
        exact ht.sub x xt
    have hmem : ∀ y, y ∈ stp (mkB p) s (true, x) ↔ y ∈ s ∨ y = x := fun y => by
      show y ∈ nrm (mkB p) (s ++ [x]) ↔ _
      rw [nrm_sub hsub, List.mem_append, List.mem_singleton]
    have hin : ∀ y, y ∈ stp (mkB p) s (true, x) → y ∈ t := fun y hy => by
      rcases (hmem y).mp hy with h | h
      · exact hst y h
      · rw [h]; exact xt
    have hS : Sd p (stp (mkB p) s (true, x)) := ⟨nrm_n, fun y hy z r => by
      rcases (hmem y).mp hy with h | h
      · exact (hmem z).mpr (.inl (hs.down y h z r))
      · subst h
        by_cases e : z = y
        · exact (hmem z).mpr (.inr e)
        · by_cases zs : z ∈ s
          · exact (hmem z).mpr (.inl zs)
          · have zt := ht.down y xt z r
            rcases List.mem_cons.mp ((hg z).mpr ⟨zt, zs⟩) with k | k
            · exact absurd k e
            · have h1 := row_lt hv (ht.sub y xt) r (Ne.symm e)
              have h2 := o1 z k
              omega, fun y hy z hz => ht.free y (hin y hy) z (hin z hz)⟩
    obtain ⟨r1, e1⟩ := run_put hv ht gv (stp (mkB p) s (true, x)) hS n2 o2 hin fun y => by
      rw [hmem]
      constructor
      · intro hy
        obtain ⟨a, b⟩ := (hg y).mp (List.mem_cons_of_mem _ hy)
        exact ⟨a, fun z => z.elim b fun e => n1 (e ▸ hy)⟩
      · rintro ⟨a, b⟩
        rcases List.mem_cons.mp ((hg y).mpr ⟨a, fun z => b (.inl z)⟩) with k | k
        · exact absurd (.inr k) b
        · exact k
    refine ⟨⟨⟨hS.w hv, ?_⟩, r1⟩, e1⟩
    show if true = true then x ∈ (mkB p).pegs ∧ x ∉ s else _
    rw [if_pos rfl]
    exact ⟨ht.sub x xt, xs⟩
theorem run_app {b : Bd} : ∀ {ts us : List Tn} {s : List Str}, RunOk b s ts → RunOk b (ts.foldl (stp b) s) us → RunOk b s (ts ++ us)
  | [], _, _, _, h => h
  | t :: ts, us, s, h1, h2 => ⟨h1.1, run_app (ts := ts) h1.2 h2⟩
/-- what a way between stands is -/
structure WayG (p : Pa) (s t : List Str) (ts : List Tn) : Prop where
  ex : ∃ tk gv : List Str, ts = (tk.map fun x => (false, x)) ++ gv.map (fun x => (true, x)) ∧ tk.Perm (s.filter fun x => !decide (x ∈ t)) ∧ gv.Perm (t.filter fun x => !decide (x ∈ s)) ∧
    tk.Pairwise (fun x y => ((mkB p).row y).length ≤ ((mkB p).row x).length) ∧ gv.Pairwise (fun x y => ((mkB p).row x).length ≤ ((mkB p).row y).length)
theorem way_ok (hv : PaV p) {s t : List Str} {ts : List Tn} (hs : Sd p s) (ht : Sd p t) (h : WayG p s t ts) : RunOk (mkB p) s ts ∧ ts.foldl (stp (mkB p)) s = t := by
  obtain ⟨tk, gv, e, p1, p2, o1, o2⟩ := h.ex
  have ndS : s.Nodup := by rw [hs.n]; exact hv.nd.nd.filter _
  have ndT : t.Nodup := by rw [ht.n]; exact hv.nd.nd.filter _
  have m1 : ∀ x, x ∈ tk ↔ x ∈ s ∧ x ∉ t := fun x => by
    rw [p1.mem_iff, List.mem_filter]
    simp
  have m2 : ∀ x, x ∈ gv ↔ x ∈ t ∧ x ∉ s := fun x => by
    rw [p2.mem_iff, List.mem_filter]
    simp
  obtain ⟨r1, u, eu, su, mu⟩ := run_take hv tk s hs (p1.nodup_iff.mpr (ndS.filter _)) o1 (fun x hx => ((m1 x).mp hx).1) fun x hx o ho r => (m1 o).mpr ⟨ho, fun z => ((m1 x).mp hx).2 (ht.down o z x r)⟩
  have mu2 : ∀ x, x ∈ u ↔ x ∈ s ∧ x ∈ t := fun x => by
    rw [mu, m1]
    constructor
    · rintro ⟨a, b⟩
      refine ⟨a, ?_⟩
      by_cases h : x ∈ t
      · exact h
      · exact absurd ⟨a, h⟩ b
    · rintro ⟨a, b⟩
      exact ⟨a, fun z => z.2 b⟩
  obtain ⟨r2, e2⟩ := run_put hv ht gv u su (p2.nodup_iff.mpr (ndT.filter _)) o2 (fun x hx => ((mu2 x).mp hx).2) fun x => by
    rw [m2, mu2]
    constructor
    · rintro ⟨a, b⟩
      exact ⟨a, fun z => b z.1⟩
    · rintro ⟨a, b⟩
      exact ⟨a, fun z => b ⟨z, a⟩⟩
  rw [e, List.foldl_append, ← eu]
  exact ⟨run_app r1 (by rw [← eu]; exact r2), e2⟩
end
end NP
end
section
set_option Elab.async false
set_option linter.all false
set_option maxRecDepth 100000
set_option maxHeartbeats 4000000
/-! What stays over a lambda: all but the box and the tables. -/
namespace NP
open PySem PySem.Spec PyProof.Rows L2 LamX Evl
def GoN (B : Option Addr) (H H' : Hp) : Prop := (∀ a o, B ≠ some a → (∀ ps, o ≠ .tbl ps) → H a = some o → H' a = some o) ∧ Bk B H'
def StN (B : Option Addr) (P : V → Hp → Prop) : Prop := ∀ v H H', GoN B H H' → P v H → P v H'
section
variable {α : Type} {B : Option Addr} {H H' H'' : Hp} {a : Addr} {o : HO} {R : α → V → Hp → Prop} {K : PySem.W.Frag}
theorem Go.n (g : Go B H H') : GoN B H H' := ⟨fun a o b _ e => g.1 a o b e, g.2⟩
theorem GoN.refl (h : Bk B H) : GoN B H H := (Go.refl h).n
theorem GoN.trans (g : GoN B H H') (g' : GoN B H' H'') : GoN B H H'' := ⟨fun a o b n e => g'.1 a o b n (g.1 a o b n e), g'.2⟩
theorem At.gn (t : At B H a o) (g : GoN B H H') (n : ∀ ps, o ≠ .tbl ps) : At B H' a o := ⟨t.1, g.1 a o t.1 n t.2⟩
theorem TpS.sn {xs : List Str} : StN B (TpS B xs) := fun _ _ _ g ⟨a, e, t⟩ => ⟨a, e, t.gn g fun _ z => nomatch z⟩
theorem LsS.sn {xs : List Str} : StN B (LsS B xs) := fun _ _ _ g ⟨a, e, t⟩ => ⟨a, e, t.gn g fun _ z => nomatch z⟩
theorem TpI.sn {xs : List Int} : StN B (TpI B xs) := fun _ _ _ g ⟨a, e, t⟩ => ⟨a, e, t.gn g fun _ z => nomatch z⟩
theorem PrS.sn {p : Str × Str} : StN B (PrS B p) := fun _ _ _ g ⟨a, e, t⟩ => ⟨a, e, t.gn g fun _ z => nomatch z⟩
theorem IV.sn {x : Int} : StN B (IV x) := fun _ _ _ _ h => h
theorem SV.sn {x : Str} : StN B (SV x) := fun _ _ _ _ h => h
theorem StN.is {v : V} : StN B (Is v) := fun _ _ _ _ h => h
theorem TpR.sn (hR : ∀ x, StN B (R x)) {xs : List α} : StN B (TpR B R xs) := fun _ _ _ g ⟨a, zs, e, t, p⟩ => ⟨a, zs, e, t.gn g (fun _ z => nomatch z), p.mono fun x z => hR x z _ _ g⟩
theorem LsR.sn (hR : ∀ x, StN B (R x)) {xs : List α} : StN B (LsR B R xs) := fun _ _ _ g ⟨a, zs, e, t, p⟩ => ⟨a, zs, e, t.gn g (fun _ z => nomatch z), p.mono fun x z => hR x z _ _ g⟩
theorem DcR.sn (hR : ∀ x, StN B (R x)) {xs : List (Str × α)} : StN B (DcR B R xs) := fun _ _ _ g ⟨a, zs, e, t, p⟩ => ⟨a, zs, e, t.gn g (fun _ z => nomatch z), p.mono fun x z q => ⟨q.1, hR x.2 z.2 _ _ g q.2⟩⟩
theorem KeyR.sn {b : Bd} : StN B (KeyR B b) := fun _ _ _ g ⟨a, k1, k2, k3, k4, e, t, h1, h2, h3, h4⟩ => ⟨a, k1, k2, k3, k4, e, t.gn g (fun _ z => nomatch z), TpS.sn _ _ _ g h1, TpI.sn _ _ _ g h2, TpR.sn (fun _ => TpS.sn) _ _ _ g h3, TpR.sn (fun _ => PrS.sn) _ _ _ g h4⟩
theorem BdF.gn {b : Bd} {o pr rw cl ke : V} (h : BdF B b o pr rw cl ke H) (g : GoN B H H') : BdF B b o pr rw cl ke H' :=
  ⟨h.w, TpS.sn _ _ _ g h.order, DcR.sn (fun _ => IV.sn) _ _ _ g h.prices, DcR.sn (fun _ => TpS.sn) _ _ _ g h.rows, TpR.sn (fun _ => PrS.sn) _ _ _ g h.clashes, KeyR.sn _ _ _ g h.key⟩
theorem BdR.sn {b : Bd} : StN B (BdR K B b) := fun _ _ _ g ⟨a, dx, o, pr, rw, cl, ke, e, t, h⟩ => ⟨a, dx, o, pr, rw, cl, ke, e, t.gn g (fun _ z => nomatch z), h.gn g⟩
theorem StR.sn {vb : V} {b : Bd} {s : List Str} : StN B (StR K B vb b s) := fun _ _ _ g ⟨a, dx, m, e, t, h1, h2, h3⟩ => ⟨a, dx, m, e, t.gn g (fun _ z => nomatch z), BdR.sn _ _ _ g h1, TpS.sn _ _ _ g h2, h3⟩
theorem TnR.sn {t : Tn} : StN B (TnR K B t) := fun _ _ _ g ⟨a, dx, e, q⟩ => ⟨a, dx, e, q.gn g fun _ z => nomatch z⟩
theorem WyR.sn {vb : V} {b : Bd} {ts : List Tn} : StN B (WyR K B vb b ts) := fun _ _ _ g ⟨a, dx, m, e, t, h⟩ => ⟨a, dx, m, e, t.gn g (fun _ z => nomatch z), TpR.sn (fun _ => TnR.sn) _ _ _ g h⟩
theorem WsF.gn {I O ws us : List Str} {w u : V} (h : WsF B I O ws us w u H) (g : GoN B H H') : WsF B I O ws us w u H' := ⟨TpS.sn _ _ _ g h.w, TpS.sn _ _ _ g h.u, h.mw, h.mu, h.zw, h.zu⟩
theorem WsR.sn {I O : List Str} : StN B (WsR K B I O) := fun _ _ _ g ⟨a, dx, w, u, ws, us, e, t, h⟩ => ⟨a, dx, w, u, ws, us, e, t.gn g (fun _ z => nomatch z), h.gn g⟩
theorem PaOk.gn {p : Pa} (h : PaOk B p H) (g : GoN B H H') : PaOk B p H' := ⟨TpS.sn _ _ _ g h.pegs, TpR.sn (fun _ => PrS.sn) _ _ _ g h.wants, TpR.sn (fun _ => PrS.sn) _ _ _ g h.bars, TpI.sn _ _ _ g h.costs, h.z1, h.z2, h.z3, h.z4⟩
theorem PtR.sn {p : Pa} : StN B (PtR B p) := fun _ _ _ g ⟨a, e, t, h⟩ => ⟨a, e, t.gn g (fun _ z => nomatch z), h.ok.gn g, h.v, h.rk⟩
theorem HoR.sn {p : Ho} : StN B (HoR B p) := fun _ _ _ g ⟨a, e, t, h, h2⟩ => ⟨a, e, t.gn g (fun _ z => nomatch z), LsS.sn _ _ _ g h, LsS.sn _ _ _ g h2⟩
/-- the tables over what stays -/
theorem ne_box (hb : Bk B H) (e : H a = some o) (n : ∀ xs, o ≠ .lst xs) : B ≠ some a := fun z => by
  obtain ⟨x, y, w, q⟩ := hb a z
  rw [q] at e
  exact n _ (Option.some.inj e).symm
theorem TabS.go {P : Addr} {q : Str} (t : TabS H P q) (hb : Bk B H) (g : Go B H H') : TabS H' P q := by
  obtain ⟨ps, h1, h2, h3⟩ := t
  refine ⟨ps, g.1 _ _ (ne_box hb h1 fun _ z => nomatch z) h1, h2, fun pos cv hc => ?_⟩
  obtain ⟨c, e1, e2⟩ := h3 pos cv hc
  exact ⟨c, e1, g.1 _ _ (ne_box hb e2 fun _ z => nomatch z) e2⟩
theorem Tabs.go {T : List (Addr × Str)} (h : Tabs T H) (hb : Bk B H) (g : Go B H H') : Tabs T H' := fun p hp => TabS.go (h p hp) hb g
/-- a lambda is made: all but the tables stays -/
theorem GoN.ext (hb : Bk B H) (e : ExtN H H') : GoN B H H' := ⟨fun a o _ n h => e a o h n, fun b z => by
  obtain ⟨x, y, w, q⟩ := hb b z
  exact ⟨x, y, w, e _ _ q fun _ z => nomatch z⟩⟩
/-! ### without the box -/
theorem At.no (t : At B H a o) : At none H a o := ⟨(fun z => nomatch z), t.2⟩
theorem TpS.no {xs : List Str} {v : V} (h : TpS B xs v H) : TpS none xs v H := let ⟨a, e, t⟩ := h; ⟨a, e, t.no⟩
theorem TpI.no {xs : List Int} {v : V} (h : TpI B xs v H) : TpI none xs v H := let ⟨a, e, t⟩ := h; ⟨a, e, t.no⟩
theorem PrS.no {p : Str × Str} {v : V} (h : PrS B p v H) : PrS none p v H := let ⟨a, e, t⟩ := h; ⟨a, e, t.no⟩
theorem TpR.no {R' : α → V → Hp → Prop} (hR : ∀ x v, R x v H → R' x v H) {xs : List α} {v : V} (h : TpR B R xs v H) : TpR none R' xs v H := let ⟨a, zs, e, t, p⟩ := h; ⟨a, zs, e, t.no, p.mono fun x z => hR x z⟩
theorem DcR.no {R' : α → V → Hp → Prop} (hR : ∀ x v, R x v H → R' x v H) {xs : List (Str × α)} {v : V} (h : DcR B R xs v H) : DcR none R' xs v H := let ⟨a, zs, e, t, p⟩ := h; ⟨a, zs, e, t.no, p.mono fun x z q => ⟨q.1, hR x.2 z.2 q.2⟩⟩
theorem KeyR.no {b : Bd} {v : V} (h : KeyR B b v H) : KeyR none b v H := let ⟨a, k1, k2, k3, k4, e, t, h1, h2, h3, h4⟩ := h; ⟨a, k1, k2, k3, k4, e, t.no, h1.no, h2.no, TpR.no (fun _ _ h => TpS.no h) h3, TpR.no (fun _ _ h => PrS.no h) h4⟩
theorem BdR.no {b : Bd} {v : V} (h : BdR K B b v H) : BdR K none b v H := by
  obtain ⟨a, dx, o, pr, rw, cl, ke, e, t, hf⟩ := h
  exact ⟨a, dx, o, pr, rw, cl, ke, e, t.no, hf.w, hf.order.no, DcR.no (fun _ _ h => h) hf.prices, DcR.no (fun _ _ h => TpS.no h) hf.rows, TpR.no (fun _ _ h => PrS.no h) hf.clashes, hf.key.no⟩
theorem StR.no {vb : V} {b : Bd} {s : List Str} {v : V} (h : StR K B vb b s v H) : StR K none vb b s v H := by
  obtain ⟨a, dx, m, e, t, h1, h2, h3⟩ := h
  exact ⟨a, dx, m, e, t.no, h1.no, h2.no, h3⟩
theorem Go.ex (g : Go none H H') : Ex H H' := fun a o e => g.1 a o (fun z => nomatch z) e
theorem Go.of_ex (e : Ex H H') : Go none H H' := ⟨fun a o _ h => e a o h, fun _ z => nomatch z⟩
/-- x = sorted(texts, key=lambda ..) -/
theorem q_sortL {T : List (Addr × Str)} {i j n : Nat} {tb : TE} {tz : TS} {D : Ends} {σ : L2.St} {xs : List Str} {vl : V} (hb : Bk B H) (hσ : σ[n]? = some (some vl)) (hl : LsS B xs vl H) (hT : Tabs T H) (k : Str → Int)
    (hk : ∀ H2, GoN B H H2 → ∀ x ∈ xs, Y none tb (σ.set i (some (.str x))) H2 (Is (.int (k x)))) (kk : ∀ v H', GoN B H H' → Tabs T H' → (∃ ys, LsS B ys v H' ∧ ys.Perm xs ∧ ys.Pairwise fun a b => k a ≤ k b) → tz D (σ.set j (some v)) H') : tSeq (tAsg (tSortLam K T i (tCons (tVar n) tNil) tb) (gName j)) tz D σ H := by
  obtain ⟨l, e, t⟩ := hl
  refine ⟨vl, hσ, l, xs, by rw [e], t.sl, hT, fun H2 eN T2 => ⟨k, fun x hx H3 e3 => ?_, fun H3 p ys e3 np hp hs => ?_⟩⟩
  · refine hk H2 (GoN.ext hb eN) x hx H3 (Go.of_ex e3) _ fun v H4 g4 ev => ⟨g4.ex, ev⟩
  · have g2 := GoN.ext hb eN
    have g3 : GoN B H2 H3 := ⟨fun a o _ _ h => e3 a o h, fun b z => by
      obtain ⟨x, y, w, q⟩ := g2.2 b z
      exact ⟨x, y, w, e3 _ _ q⟩⟩
    have gn : Go B H3 (upd H3 p (.lst (ys.map V.str))) := Go.new g3.2 np
    exact kk _ _ ((g2.trans g3).trans gn.n) (Tabs.go (T2.ext e3) g3.2 gn) ⟨ys, ⟨p, rfl, At.new g3.2 np⟩, hp, hs⟩
theorem walk_ls {tu : TS} {g : TG} {D : Ends} {σ : L2.St} {n : Nat} {v : V} {as : List α} (hσ : σ[n]? = some (some v)) (hl : LsR B R as v H) (hb : Bk B H) (sR : ∀ x, StN B (R x)) (Inv : Nat → L2.St → Hp → Prop) (h0 : Inv 0 σ H) (hG : ∀ i σ1 H1, i ≤ as.length → Inv i σ1 H1 → GoN B H H1)
    (hs : ∀ i a σ1 H1 x, as[i]? = some a → Inv i σ1 H1 → R a x H1 → g x σ1 H1 fun σ2 H3 => tu { D with nx := Inv (i + 1), ct := Inv (i + 1), bk := D.nx } σ2 H3) (hd : ∀ σ1 H1, Inv as.length σ1 H1 → D.nx σ1 H1) : tFor (iList K (tVar n)) g tu D σ H := by
  obtain ⟨a, zs, e, t, p⟩ := hl
  subst e
  have w := walk_list (K := K) (a := a) (xs := zs)
  have sl : ∀ H1, GoN B H H1 → SqL K H1 a zs := fun H1 g1 => (t.gn g1 fun _ z => nomatch z).sl
  have hl := p.length
  refine ⟨_, hσ, a, rfl, ⟨zs, t.sl⟩, ?_⟩
  refine ⟨fun i m σ' H' => m = as.length - i ∧ i ≤ as.length ∧ Inv i σ' H', ⟨as.length, by omega, Nat.zero_le _, h0⟩, ?_⟩
  rintro i m σ' H' ⟨rfl, hle, hI⟩
  have gi := hG i σ' H' hle hI
  by_cases hlt : i < as.length
  · refine .inr ⟨w.goes i H' (by omega) (sl H' gi), fun σ2 H2 => i + 1 ≤ as.length ∧ Inv (i + 1) σ2 H2, fun σ2 H2 h2 => ⟨as.length - (i + 1), by omega, rfl, h2⟩, fun x H2 hy => ?_⟩
    obtain ⟨e1, e2⟩ := w.yields i H' x H2 (by omega) (sl H' gi) hy
    subst e1
    obtain ⟨y, hy⟩ : ∃ y, as[i]? = some y := ⟨_, List.getElem?_eq_getElem hlt⟩
    have z := hs i y σ' _ x hy hI (sR y _ _ _ gi (paired_get p hy e2))
    have e3 : (fun σ2 H2 => i + 1 ≤ as.length ∧ Inv (i + 1) σ2 H2) = Inv (i + 1) := by
      funext σ2 H2
      exact propext ⟨fun h => h.2, fun h => ⟨hlt, h⟩⟩
    rw [e3]
    exact z
  · have ei : i = as.length := by omega
    subst ei
    exact .inl ⟨by have z := w.stops H' (sl H' gi); rw [← hl] at z; exact z, hd σ' H' hI⟩
/-! ### a change of a list leaves it -/
theorem At.nl {D : Addr} {zs zs' : List V} (t : At B H a o) (h : H D = some (.lst zs)) (n : ∀ xs, o ≠ .lst xs) : At B (upd H D (.lst zs')) a o := ⟨t.1, by
  rw [upd_ne (ne_of t.2 h (n _))]
  exact t.2⟩
theorem TpI.nl {xs : List Int} : NoL (TpI B xs) := fun v H D zs zs' ⟨a, e, t⟩ h => ⟨a, e, t.nl h fun _ z => nomatch z⟩
theorem IV.nl {x : Int} : NoL (IV x) := fun _ _ _ _ _ h _ => h
theorem TpR.nl (hR : ∀ x, NoL (R x)) {xs : List α} : NoL (TpR B R xs) := fun v H D zs zs' ⟨a, us, e, t, p⟩ h => ⟨a, us, e, t.nl h (fun _ z => nomatch z), p.mono fun x z q => hR x z H D zs zs' q h⟩
theorem KeyR.nl {b : Bd} : NoL (KeyR B b) := fun v H D zs zs' ⟨a, k1, k2, k3, k4, e, t, h1, h2, h3, h4⟩ h => ⟨a, k1, k2, k3, k4, e, t.nl h (fun _ z => nomatch z), TpS.nl _ _ _ _ _ h1 h, TpI.nl _ _ _ _ _ h2 h, TpR.nl (fun _ => TpS.nl) _ _ _ _ _ h3 h, TpR.nl (fun _ => PrS.nl) _ _ _ _ _ h4 h⟩
theorem BdR.nl {b : Bd} : NoL (BdR K B b) := fun v H D zs zs' ⟨a, dx, o, pr, rw, cl, ke, e, t, hf⟩ h => ⟨a, dx, o, pr, rw, cl, ke, e, t.nl h (fun _ z => nomatch z), hf.w, TpS.nl _ _ _ _ _ hf.order h, DcR.nl (fun _ => IV.nl) _ _ _ _ _ hf.prices h, DcR.nl (fun _ => TpS.nl) _ _ _ _ _ hf.rows h, TpR.nl (fun _ => PrS.nl) _ _ _ _ _ hf.clashes h, KeyR.nl _ _ _ _ _ hf.key h⟩
theorem StR.nl {vb : V} {b : Bd} {s : List Str} : NoL (StR K B vb b s) := fun v H D zs zs' ⟨a, dx, m, e, t, h1, h2, h3⟩ h => ⟨a, dx, m, e, t.nl h (fun _ z => nomatch z), BdR.nl _ _ _ _ _ h1 h, TpS.nl _ _ _ _ _ h2 h, h3⟩
end
end NP
end
section
set_option Elab.async false
set_option linter.all false
set_option maxRecDepth 100000
set_option maxHeartbeats 4000000
/-! The way between stands. -/
namespace NP
open PySem PySem.Spec PyProof.Rows L2 LamX Evl
def lamQ : Str := "Stand.__sub__.<locals>.<lambda>"
theorem nodup_ix {xs : List Str} {i j : Nat} {a : Str} (hn : xs.Nodup) (hi : xs[i]? = some a) (hj : xs[j]? = some a) : j = i := by
  rw [← ixOf_at hn hi, ← ixOf_at hn hj]
section
variable {P : Program} {w : World} {K : PySem.W.Frag} {mg : Str → Option Value} {base : Heap}
structure D1 where
  v : V
  u : V
  vb : V
  p : Pa
  t : List Str
  s : List Str
def D1Ok (K : PySem.W.Frag) (B : Option Addr) (d : D1) (H : Hp) : Prop := StR K B d.vb (mkB d.p) d.t d.v H ∧ StR K B d.vb (mkB d.p) d.s d.u H ∧ Tabs [(He.tabOf K (He.codeOf K ("Stand", some "__sub__")), lamQ)] H
def sp_Stand___sub__ (K : PySem.W.Frag) : Sp := fun vs H Q _ => ∃ B, ∃ d : D1, vs = [d.v, d.u] ∧ Bk B H ∧ D1Ok K B d H ∧ ∀ v H', GoN B H H' → Tabs [(He.tabOf K (He.codeOf K ("Stand", some "__sub__")), lamQ)] H' → (∃ ts, WyR K B d.vb (mkB d.p) ts v H' ∧ WayG d.p d.s d.t ts) → Q v H'
theorem ok_Stand___sub__ (T : Fx K mg) (TB : LamX.TabB base mg (He.codeOf K ("Stand", some "__sub__")) (He.tabOf K (He.codeOf K ("Stand", some "__sub__")))) : OK P w K mg base 15 (He.fAd K ("Stand", some "__sub__")) (sp_Stand___sub__ K) := by
  obtain ⟨fd, F⟩ := T.dd 44 (d := d_Stand___sub__) rfl
  have c_Board := T.cls 64 rfl
  have g_Put := T.glo 33 rfl
  have g_Take := T.glo 34 rfl
  have g_Way := T.glo 35 rfl
  have g_check_board := T.glo 12 rfl
  have k_Put := T.mkr 66 rfl
  have k_Take := T.mkr 67 rfl
  have k_Way := T.mkr 68 rfl
  have m_Board_below := T.meth 109 rfl
  have n_len := T.free 38 rfl
  have n_sorted := T.free 41 rfl
  have ok_Board_below := ok_Board_below (P := P) (w := w) (base := base) T
  have ok_Put___init__ := ok_Put___init__ (P := P) (w := w) (base := base) T
  have ok_Take___init__ := ok_Take___init__ (P := P) (w := w) (base := base) T
  have ok_Way___init__ := ok_Way___init__ (P := P) (w := w) (base := base) T
  have ok_check_board := ok_check_board (P := P) (w := w) (base := base) T
  obtain ⟨_, F_check_board⟩ := T.dd 12 (d := d_check_board) rfl
  have kp_check_board := F_check_board.kp
  have sc : FnScope ["self", "other", "outs", "ins", "taken", "given", "peg", "own"] ["self", "other"] (defScope (mth 54 9)) := ⟨rfl, rfl, rfl, by decide +kernel, rfl, by decide +kernel, by decide +kernel⟩
  have nd := sc.nd
  have hbi : L2.Binds K fd ["self", "other"] [] := (F.bindsN fun _ _ _ _ _ _ us hl => match us, hl with | [_, _], _ => rfl)
  obtain ⟨oc, od, dV, kV, doc, pm, an, cdv, ct, osl, efd, lk, hcd, _, _⟩ := F.ex
  obtain ⟨c, ec⟩ := He.codeIn_ref hcd
  have hc : He.codeOf K ("Stand", some "__sub__") = c := He.codeOf_eq lk (by rw [efd, ec] <;> rfl)
  rw [efd] at hbi
  rw [efd, ec] at lk
  rw [ec] at hcd hbi
  rw [hc] at TB
  refine OK.of (fn_of lk hcd sc (fun vs H Q E h => by obtain ⟨B, a, rfl, _⟩ := h; rfl) (fun A outer s H vs Q E hr h => ⟨_, PSs.nox (pss_cons (ps_expr (pe_cl ok_check_board hr (by decide) rfl g_check_board kp_check_board (pa_cons (k_fld (K := K) (pv 0) rfl) (pa_cons (pv 1) pa_nil))))
    (pss_cons (ps_setLc (i := 2) rfl nd rfl rfl (sw_true rfl rfl rfl (by decide +kernel)) (own := [("peg", 6)]) (k_tup (K := K) (k_fld (K := K) (pv 1) rfl)) (blkOk_by (by kernel_rfl)) (fun _ _ _ _ _ => (pg_name (i := 6) nd rfl (Or.inl rfl))) (fun _ _ _ _ _ => (pts_one (pt_cmpR (k_ni (K := K)) (pv 6) (k_fld (K := K) (pv 0) rfl) (by with_unfolding_all rfl)))) (fun _ _ _ _ _ => (pv 6)))
    (pss_cons (ps_setLc (i := 3) rfl nd rfl rfl (sw_true rfl rfl rfl (by decide +kernel)) (own := [("peg", 6)]) (k_tup (K := K) (k_fld (K := K) (pv 0) rfl)) (blkOk_by (by kernel_rfl)) (fun _ _ _ _ _ => (pg_name (i := 6) nd rfl (Or.inl rfl))) (fun _ _ _ _ _ => (pts_one (pt_cmpR (k_ni (K := K)) (pv 6) (k_fld (K := K) (pv 1) rfl) (by with_unfolding_all rfl)))) (fun _ _ _ _ _ => (pv 6)))
    (pss_cons (ps_set (i := 4) nd rfl (Or.inl rfl) (pe_sortLam (i := 6) (k := 8) (T := [(He.tabOf K c, lamQ)]) rfl n_sorted (pa_cons (pv 2) pa_nil) TB rfl (List.mem_singleton.mpr rfl) (fun p hp _ => by rw [List.mem_singleton.mp hp] <;> rfl) rfl (lamP_by (by kernel_rfl)) rfl (fun j hj => nodup_ix nd (i := 6) rfl hj) (hr.mono (by decide)) (fun _ _ _ _ _ _ => rfl) (fun A outer s H f c' hr => (pe_un un_neg (pe_callB (k_len (K := K)) rfl n_len (by rfl) (pa_cons (pe_mtR ok_Board_below hr (by decide) c_Board m_Board_below (k_fld (K := K) (pv 0) rfl) (pa_cons (pv 6) pa_nil)) pa_nil))))))
    (pss_cons (ps_set (i := 5) nd rfl (Or.inl rfl) (pe_sortLam (i := 7) (k := 8) (T := [(He.tabOf K c, lamQ)]) rfl n_sorted (pa_cons (pv 3) pa_nil) TB rfl (List.mem_singleton.mpr rfl) (fun p hp _ => by rw [List.mem_singleton.mp hp] <;> rfl) rfl (lamP_by (by kernel_rfl)) rfl (fun j hj => nodup_ix nd (i := 7) rfl hj) (hr.mono (by decide)) (fun _ _ _ _ _ _ => rfl) (fun A outer s H f c' hr => (pe_callB (k_len (K := K)) rfl n_len (by rfl) (pa_cons (pe_mtR ok_Board_below hr (by decide) c_Board m_Board_below (k_fld (K := K) (pv 0) rfl) (pa_cons (pv 7) pa_nil)) pa_nil)))))
    (pss_one (ps_ret (pe_mkR ok_Way___init__ hr (by decide) k_Way rfl g_Way (pa_cons (k_fld (K := K) (pv 0) rfl) (pa_cons (pe_op op_cat (pe_lc (own := [("peg", 6)]) rfl nd (k_list (K := K) (pv 4)) (blkOk_by (by kernel_rfl)) (fun _ _ _ _ _ => (pg_name (i := 6) nd rfl (Or.inl rfl))) (fun _ _ _ _ _ => pts_nil) (fun _ _ _ _ _ => (pe_mkR ok_Take___init__ hr (by decide) k_Take rfl g_Take (pa_cons (pv 6) pa_nil)))) (pe_lc (own := [("peg", 6)]) rfl nd (k_list (K := K) (pv 5)) (blkOk_by (by kernel_rfl)) (fun _ _ _ _ _ => (pg_name (i := 6) nd rfl (Or.inl rfl))) (fun _ _ _ _ _ => pts_nil) (fun _ _ _ _ _ => (pe_mkR ok_Put___init__ hr (by decide) k_Put rfl g_Put (pa_cons (pv 6) pa_nil))))) pa_nil)))))))))), ?_⟩)) hbi
  obtain ⟨B, ⟨v, u, vb, p, t, s⟩, rfl, hb, ⟨hS, hS2, hTab⟩, hq⟩ := h
  have hS' := hS
  have hS2' := hS2
  obtain ⟨a, dx, m, ev, ta, h1, h2, h3⟩ := hS
  obtain ⟨a', dx', m', ev', ta', h1', h2', h3'⟩ := hS2
  cases (show v = .ref a from ev)
  cases (show u = .ref a' from ev')
  dsimp only at ta ta' h1 h2 h3 h1' h2' h3' hS' hS2' hTab
  have w1 := h1.wf
  have zt := h3.z w1
  have zs := h3'.z w1
  have hbd := h1
  obtain ⟨ab, dxb, o, pr, rw, cl, ke, eb, tb, hf⟩ := hbd
  subst eb
  refine q_drop (Go.refl hb) (y_clI (.ref a', .ref ab, mkB p, s) (ya_cons (y_fld (y_var rfl) ta (T.cls 63 rfl) (T.noat 77 rfl) rfl) (ya_cons (y_var rfl) ya_nil)) fun H1 g1 => StR.st _ _ _ g1 hS2') fun _ H1 g1 _ _ => ?_
  refine q_asg (P := LsS B (s.filter fun x => !decide (x ∈ t))) (Go.refl g1.2) ((y_lcF (fun x => !decide (x ∈ t)) (yk_tS (y_fld (y_var rfl) (ta'.go g1) (T.cls 63 rfl) (T.noat 78 rfl) rfl) (TpS.st _ _ _ g1 h2')).yi (Nat.le_trans zs (by decide)) yg_s fun x σ2 H2 hx g2 s => ?_).imp fun v H1 _ h => h.1) fun w2 H2 g2 _ hw2 => ?_
  · subst s
    exact ⟨rfl, yt_testI (y_ni (y_var rfl) ((y_fld (y_var rfl) (ta.go (g1.trans g2)) (T.cls 63 rfl) (T.noat 78 rfl) rfl).rep (TpS.st _ _ _ (g1.trans g2) h2) TpS.st).tp), fun _ => y_var rfl⟩
  have g12 := g1.trans g2
  refine q_asg (P := LsS B (t.filter fun x => !decide (x ∈ s))) (Go.refl g2.2) ((y_lcF (fun x => !decide (x ∈ s)) (yk_tS (y_fld (y_var rfl) (ta.go g12) (T.cls 63 rfl) (T.noat 78 rfl) rfl) (TpS.st _ _ _ g12 h2)).yi (Nat.le_trans zt (by decide)) yg_s fun x σ2 H3 hx g3 s => ?_).imp fun v H1 _ h => h.1) fun w3 H3 g3 _ hw3 => ?_
  · subst s
    exact ⟨rfl, yt_testI (y_ni (y_var rfl) ((y_fld (y_var rfl) (ta'.go (g12.trans g3)) (T.cls 63 rfl) (T.noat 78 rfl) rfl).rep (TpS.st _ _ _ (g12.trans g3) h2') TpS.st).tp), fun _ => y_var rfl⟩
  have g13 := g12.trans g3
  have hw23 := LsS.st _ _ _ g3 hw2
  have T3 := Tabs.go hTab hb g13
  have subS : ∀ x ∈ s.filter (fun x => !decide (x ∈ t)), x ∈ (mkB p).pegs := fun x hx => h3'.sub x (List.mem_filter.mp hx).1
  have subT : ∀ x ∈ t.filter (fun x => !decide (x ∈ s)), x ∈ (mkB p).pegs := fun x hx => h3.sub x (List.mem_filter.mp hx).1
  refine q_sortL (T := [(He.tabOf K c, lamQ)]) (n := 2) (xs := s.filter fun x => !decide (x ∈ t)) g3.2 rfl hw23 (by rw [← hc]; exact T3) (fun x => -(((mkB p).row x).length : Int)) (fun H4 g4 x hx => ?_) fun w4 H4 g4 T4 ⟨tk, hw4, ptk, stk⟩ => ?_
  · have b4 := (BdR.sn _ _ _ (g13.n.trans g4) h1).no
    have ta4 := (ta.gn (g13.n.trans g4) fun _ z => nomatch z).no
    have tb4 := (tb.gn (g13.n.trans g4) fun _ z => nomatch z).no
    exact y_un (y_lenS ((y_mt (args := fun p : B1 => [p.v, .str p.x]) (post := fun B (p : B1) v H => TpS B (p.b.row p.x) v H) ⟨.ref ab, mkB p, x⟩ (y_fld (y_var rfl) ta4 (T.cls 63 rfl) (T.noat 77 rfl) rfl) tb4 rfl (ya_cons (y_var rfl) ya_nil) rfl fun H5 g5 => ⟨BdR.st _ _ _ g5 b4, subS x hx⟩).imp fun _ _ _ h => h).tp) fun H5 g5 Q q => ⟨_, rfl, q _ H5 (Go.refl g5.2) rfl⟩
  have g34 := g13.n.trans g4
  refine q_sortL (T := [(He.tabOf K c, lamQ)]) (n := 3) (xs := t.filter fun x => !decide (x ∈ s)) g4.2 rfl (LsS.sn _ _ _ g4 hw3) T4 (fun x => (((mkB p).row x).length : Int)) (fun H5 g5 x hx => ?_) fun w5 H5 g5 T5 ⟨gv, hw5, pgv, sgv⟩ => ?_
  · have b4 := (BdR.sn _ _ _ (g34.trans g5) h1).no
    have ta4 := (ta.gn (g34.trans g5) fun _ z => nomatch z).no
    have tb4 := (tb.gn (g34.trans g5) fun _ z => nomatch z).no
    exact y_lenS ((y_mt (args := fun p : B1 => [p.v, .str p.x]) (post := fun B (p : B1) v H => TpS B (p.b.row p.x) v H) ⟨.ref ab, mkB p, x⟩ (y_fld (y_var rfl) ta4 (T.cls 63 rfl) (T.noat 77 rfl) rfl) tb4 rfl (ya_cons (y_var rfl) ya_nil) rfl fun H6 g6 => ⟨BdR.st _ _ _ g6 b4, subT x hx⟩).imp fun _ _ _ h => h).tp
  have g35 := g34.trans g5
  have hw45 := LsS.sn _ _ _ g5 hw4
  have ta5 := ta.gn g35 fun _ z => nomatch z
  have hb5 := BdR.sn _ _ _ g35 h1
  have z1 : tk.length ≤ 12 := by
    rw [ptk.length_eq]
    exact Nat.le_trans (List.length_filter_le _ _) zs
  have z2 : gv.length ≤ 12 := by
    rw [pgv.length_eq]
    exact Nat.le_trans (List.length_filter_le _ _) zt
  refine s_ret (P := WyR K B (.ref ab) (mkB p) ((tk.map fun x => ((false, x) : Tn)) ++ gv.map fun x => ((true, x) : Tn))) (Go.refl g5.2) (y_mkW (R := fun vs H' => ∃ w, vs = [.ref ab, w] ∧ LsR B (TnR K B) ((tk.map fun x => ((false, x) : Tn)) ++ gv.map fun x => ((true, x) : Tn)) w H') ((ya_consG St.is (y_fld (y_var rfl) ta5 (T.cls 63 rfl) (T.noat 77 rfl) rfl) (ya_consG (LsR.st fun _ => TnR.st) (y_catR (fun _ => TnR.st) ((y_lcR (as := tk) (fun _ => true) (val := fun x => TnR K B (false, x)) (fun _ => TnR.st) (fun _ => TnR.nl) (yk_lS (y_var rfl) hw45).yi (Nat.le_trans z1 (by decide)) yg_s fun x σ2 H6 hx g6 s6 => ?_).imp fun v H6 _ ⟨⟨q, zs, e, t, pp⟩, _⟩ => ⟨q, zs, e, t, paired_mapL (by rw [fil_all] at pp; exact pp)⟩) ((y_lcR (as := gv) (fun _ => true) (val := fun x => TnR K B (true, x)) (fun _ => TnR.st) (fun _ => TnR.nl) (yk_lS (y_var rfl) hw5).yi (Nat.le_trans z2 (by decide)) yg_s fun x σ2 H6 hx g6 s6 => ?_).imp fun v H6 _ ⟨⟨q, zs, e, t, pp⟩, _⟩ => ⟨q, zs, e, t, paired_mapL (by rw [fil_all] at pp; exact pp)⟩) (by rw [List.length_map, List.length_map]; omega)) ya_nil)).imp fun vs H6 _ ⟨v1, r1, e1, q1, v2, r2, e2, q2, e3⟩ => ⟨v2, by rw [e1, e2, show v1 = _ from q1, show r2 = [] from e3], q2⟩) fun vs H6 g6 ⟨v2, e, h⟩ => ⟨v2, e, BdR.st _ _ _ g6 hb5, h, fun q hq => ?_⟩) fun v H6 g6 _ h => hq v H6 (g35.trans g6.n) (by rw [hc]; exact Tabs.go T5 g5.2 g6) ⟨_, h, tk, gv, rfl, ptk, pgv, stk.imp fun h => Int.ofNat_le.mp (Int.neg_le_neg_iff.mp h), sgv.imp fun h => Int.ofNat_le.mp h⟩
  · subst s6
    exact ⟨rfl, yt_yes, fun _ => y_take (y_var rfl)⟩
  · subst s6
    exact ⟨rfl, yt_yes, fun _ => y_put (y_var rfl)⟩
  · rcases List.mem_append.mp hq with h | h
    · obtain ⟨x, hx, rfl⟩ := List.mem_map.mp h
      exact subS x (ptk.mem_iff.mp hx)
    · obtain ⟨x, hx, rfl⟩ := List.mem_map.mp h
      exact subT x (pgv.mem_iff.mp hx)
end
end NP
end
section
set_option Elab.async false
set_option linter.all false
set_option maxRecDepth 100000
set_option maxHeartbeats 4000000
/-! law. -/
namespace NP
open PySem PySem.Spec PyProof.Rows L2 LamX Evl
/-- o(e, ..), o an instance of C; no context named -/
def tCo (C : Addr) (sp : Sp) (tf : TE) (t : TA) : TE := fun σ H Q => tf σ H fun y H1 => ∃ a, y = V.ref a ∧ t σ H1 fun vs H2 => (∃ dx fs, H2 a = some (.ins C dx fs)) ∧ sp (V.ref a :: vs) H2 Q E0
theorem pe_co2 {X : Cx} {j k : Nat} {g C : Addr} {sp : Sp} {e : Expr} {es : List Expr} {t : TA} {pos : Pos} {fe : Expr} {tf : TE} (F : OK X.prog X.w X.K X.mg X.base j g sp) (hr : Room k X.A) (hj : j ≤ k) (c : StX.CallO X.K C g) (hf : PE X fe tf) (ha : PA X (e :: es) t)
    (ht : eval (.Call fe (e :: es) [] pos) X.env = (eval fe X.env >>= fun f => callWith pos f [] (backTo pos (starEach (e :: es) X.env)) (backToKw pos (keywordEach [] X.env))) := by rfl)
    (he : starEach (e :: es) X.env = (false, eval e X.env) :: starEach es X.env := by rfl) (hpl : (backTo pos (starEach es X.env)).any (·.1) = false := by rfl) : PE X (.Call fe (e :: es) [] pos) (tCo C sp tf t) :=
  ⟨fun pins s σ H Q I h => Call_ (thn (hf.run pins s σ H _ I h) fun v s1 ⟨y, H1, J, ry, a, ey, q⟩ => by
    subst ey
    obtain rfl : v = Value.ref a := ry
    refine StX.callO_with (thn (ha.run pos pins s1 σ H1 _ J q) fun us s2 ⟨vs, H2, J2, rs, hi, q2⟩ => ?_) he hpl
    have ins : StX.InsC X H2 a C := .inr hi
    obtain ⟨ox, od, L, hd⟩ := StX.insC_at J2 ins
    exact ⟨⟨C, ox, od, L, hd⟩, StX.run_callO c (F.mono hj) hr pass0 J2 ins rs q2⟩) ht⟩
section
variable {α : Type} {B : Option Addr} {σ : L2.St} {H H0 : Hp} {ts : TA} {D : Ends} {g : TG} {tu tz : TS}
/-- for .. in range(n), n drawn -/
theorem s_rngX {N : Nat → Prop} (hi : YA B ts σ H0 (fun vs _ => ∃ n : Nat, vs = [.int (n : Int)] ∧ N n)) (hN : ∀ n, N n → n ≤ 100000) (g0 : Go B H0 H)
    (k : ∀ n, N n → ∀ H1, Go B H H1 → ∃ Inv : Nat → L2.St → Hp → Prop, Inv 0 σ H1 ∧ (∀ i σ1 H2, i < n → Inv i σ1 H2 → g (.int (i : Int)) σ1 H2 fun σ2 H3 => tu { D with nx := Inv (i + 1), ct := Inv (i + 1), bk := D.nx } σ2 H3) ∧ (∀ σ1 H2, Inv n σ1 H2 → D.nx σ1 H2)) : tFor (iRng1 ts) g tu D σ H :=
  hi H g0 _ fun vs H1 g1 ⟨n, e, hn⟩ => by
    obtain ⟨Inv, h0, hs, hd⟩ := k n hn H1 g1
    have w := walk_range (lo := 0) (n := n)
    have hn2 := hN n hn
    refine ⟨n, e, by omega, by omega, ?_⟩
    refine ⟨fun i m σ' H' => m = n - i ∧ i ≤ n ∧ Inv i σ' H', ⟨n, by omega, Nat.zero_le _, h0⟩, ?_⟩
    rintro i m σ' H' ⟨rfl, hle, hI⟩
    by_cases hlt : i < n
    · refine .inr ⟨w.goes i H' hlt trivial, fun σ2 H2 => i + 1 ≤ n ∧ Inv (i + 1) σ2 H2, fun σ2 H2 h2 => ⟨n - (i + 1), by omega, rfl, h2⟩, fun x H2 hy => ?_⟩
      obtain ⟨e1, e2⟩ := w.yields i H' x H2 hlt trivial hy
      subst e1
      have z := hs i σ' _ hlt hI
      have e3 : (fun σ2 H2 => i + 1 ≤ n ∧ Inv (i + 1) σ2 H2) = Inv (i + 1) := by
        funext σ2 H2
        exact propext ⟨fun h => h.2, fun h => ⟨hlt, h⟩⟩
      have e4 : x = V.int (i : Int) := e2.trans (congrArg V.int (Int.zero_add _))
      rw [e3, e4]
      exact z
    · have ei : i = n := by omega
      subst ei
      exact .inl ⟨w.stops H' trivial, hd σ' H' hI⟩
end
section
variable {P : Program} {w : World} {K : PySem.W.Frag} {mg : Str → Option Value} {base : Heap}
section
variable {B : Option Addr} {σ : L2.St} {H : Hp} {ta tb : TE} {ts : TA}
theorem y_neSt {vb : V} {b : Bd} {s t : List Str} (ha : Y B ta σ H (StR K B vb b s)) (hb : Y B tb σ H (StR K B vb b t)) : Y B (tOp (rOwnEq (He.ga K "Stand") true (sp_Stand___eq__ K)) ta tb) σ H (Is (.bl (!decide (s = t)))) :=
  y_opG StR.st ha hb fun x y H1 g1 h1 h2 Q q => by
    have h1' := h1
    have h2' := h2
    obtain ⟨a, dx, m, e, t1, _⟩ := h1'
    obtain ⟨a2, dx2, m2, e2, t2, _⟩ := h2'
    exact ⟨a, a2, dx, dx2, _, _, e, e2, t1.2, t2.2, B, ⟨x, y, vb, b, s, t⟩, rfl, g1.2, ⟨h1, h2⟩, fun v2 H2 g2 ev => ⟨_, ev, q _ H2 g2 rfl⟩⟩
theorem y_coT {α : Type} {args : α → List V} {pre : Option Addr → α → Hp → Prop} {post : Option Addr → α → V → Hp → Prop} {P : V → Hp → Prop} {C x dx : Addr} {fs : List (Str × V)} {R : List V → Hp → Prop} (h : Y B ta σ H (Is (.ref x))) (o : At B H x (.ins C dx fs)) (ht : YA B ts σ H R) (hr : ∀ vs H1, Go B H H1 → R vs H1 → ∃ a, .ref x :: vs = args a ∧ pre B a H1 ∧ ∀ v H2, Go B H1 H2 → post B a v H2 → P v H2) :
    Y B (tCo C (Pm args pre post) ta ts) σ H P := fun H1 g Q q =>
  h H1 g _ fun v H2 g2 ex => by
    rw [show v = .ref x from ex]
    refine ⟨x, rfl, ?_⟩
    exact ht H2 (g.trans g2) _ fun ws H3 g3 ew => by
      obtain ⟨a, e, p, k⟩ := hr ws H3 ((g.trans g2).trans g3) ew
      exact ⟨⟨dx, fs, (o.go ((g.trans g2).trans g3)).2⟩, B, a, e, g3.2, p, fun v H4 g4 po => q v H4 ((g2.trans g3).trans g4) (k v H4 g4 po)⟩
end
def tbT (K : PySem.W.Frag) : List (Addr × Str) := [(He.tabOf K (He.codeOf K ("Stand", some "__sub__")), lamQ)]
/-! ### stands of the law -/
theorem nrm_id {p : Pa} {s : List Str} (h : Sd p s) : nrm (mkB p) s = s := by
  show p.pegs.filter _ = s
  exact h.n.symm
/-- a stand with G -/
def SrR (K : PySem.W.Frag) (B : Option Addr) (vb : V) (p : Pa) (G : List Str → Prop) : Nat → V → Hp → Prop := fun _ v H => ∃ s, StR K B vb (mkB p) s v H ∧ Sd p s ∧ G s
section
variable {B : Option Addr} {σ : L2.St} {H : Hp} {te tf th : TE} {v u vb : V} {p : Pa} {I O s t : List Str} {G : List Str → Prop} {i : Nat}
theorem SrR.st : St B (SrR K B vb p G i) := fun _ _ _ g ⟨s, a, b⟩ => ⟨s, StR.st _ _ _ g a, b⟩
theorem SrR.sn : StN B (SrR K B vb p G i) := fun _ _ _ g ⟨s, a, b⟩ => ⟨s, StR.sn _ _ _ g a, b⟩
theorem SrR.nl : NoL (SrR K B vb p G i) := fun _ _ _ _ _ ⟨s, a, b⟩ e => ⟨s, StR.nl _ _ _ _ _ a e, b⟩
theorem y_newS (hf : Y B tf σ H (Is vb)) (hB : BdR K B (mkB p) vb H) (hv : PaV p) (he : Y B te σ H fun w H' => ∃ s, TpS B s w H' ∧ Sd p s ∧ G s) : Y B (tCo (He.ga K "Board") (sp_Board___call__ K) tf (tCons te tNil)) σ H (SrR K B vb p G i) := by
  have hB' := hB
  obtain ⟨a, dx, o, pr, rw, cl, ke, e, t, _⟩ := hB
  subst e
  exact y_coT (args := fun p : S1 => [p.vb, p.vp]) (post := fun B (p : S1) v H => StR K B p.vb p.b (nrm p.b p.xs) v H) hf t (ya_consG (fun _ _ _ g ⟨s, h, r⟩ => ⟨s, TpS.st _ _ _ g h, r⟩) he ya_nil) fun vs H1 g ⟨w, r, e, ⟨s, h1, h2, h3⟩, e2⟩ => ⟨⟨.ref a, w, mkB p, s⟩, by rw [e, show r = [] from e2], ⟨BdR.st _ _ _ g hB', .inl h1, h2.sub, by
    show StW (mkB p) (nrm (mkB p) s)
    rw [nrm_id h2]
    exact h2.w hv⟩, fun v H2 g2 po => ⟨s, by
    have z : StR K B (.ref a) (mkB p) (nrm (mkB p) s) v H2 := po
    rw [nrm_id h2] at z
    exact z, h2, h3⟩⟩
theorem y_near (hf : Y B tf σ H (Is v)) (he : Y B te σ H (Is u)) (hW : WsR K B I O v H) (hS : StR K B vb (mkB p) s u H) (hv : PaV p) (hg : GoodW p I O) (hs : Sd p s) : Y B (tCo (He.ga K "Wish") (sp_Wish___call__ K) tf (tCons te tNil)) σ H (StR K B vb (mkB p) (near (mkB p) I O s)) := by
  have hW' := hW
  obtain ⟨a, dx, w, w2, ws, us, e, t, _⟩ := hW
  subst e
  exact y_coT (args := fun p : C1 => [p.v, p.vs]) (post := fun B (p : C1) v H => StR K B p.vb p.b (near p.b p.I p.O p.s) v H) hf t (ya_cons he ya_nil) fun vs H1 g e => ⟨⟨.ref a, u, vb, mkB p, I, O, s⟩, by rw [show vs = _ from e], ⟨WsR.st _ _ _ g hW', StR.st _ _ _ g hS, wi_ok hv hg, (near_sd hv hg hs).w hv⟩, fun v H2 g2 po => po⟩
theorem y_spegs (he : Y B te σ H (Is v)) (hS : StR K B vb (mkB p) s v H) : Y B (tPr (He.ga K "Stand") (sp_Stand_pegs K) te) σ H (TpS B s) := by
  have hS' := hS
  obtain ⟨a, dx, m, e, t, _⟩ := hS
  subst e
  exact y_pr (args := fun p : V × V × Bd × List Str => [p.1]) (pre := fun B (p : V × V × Bd × List Str) H => StR K B p.2.1 p.2.2.1 p.2.2.2 p.1 H) (post := fun B (p : V × V × Bd × List Str) v H => TpS B p.2.2.2 v H) (.ref a, vb, mkB p, s) he t rfl fun H1 g => StR.st _ _ _ g hS'
theorem y_meets {h : Ho} (he : Y B te σ H (TpS B s)) (hh : Y B th σ H (Is v)) (hH : HoR B h v H) (z1 : h.I.length ≤ 12) (z2 : h.O.length ≤ 12) : Y B (tCl (sp__law_meets K) (tCons te (tCons th tNil))) σ H (Is (.bl (mts h.I h.O s))) :=
  y_cl (args := fun p : MT => [p.v1, p.v2]) (ya_consG TpS.st he (ya_cons hh ya_nil)) fun vs H1 g ⟨w, r, e, hs, e2⟩ => ⟨⟨w, v, s, h⟩, by rw [e, show r = _ from e2], ⟨.inl hs, HoR.st _ _ _ g hH, Nat.le_trans z1 (by decide), Nat.le_trans z2 (by decide)⟩, fun _ _ _ h => h⟩
theorem y_isSt (hp : Y B tf σ H (Is v)) (he : Y B te σ H (TpS B s)) (hP : PtR B p v H) : Y B (tCl (sp__law_is_stand K) (tCons tf (tCons te tNil))) σ H (Is (.bl (lst p s))) :=
  y_cl (args := fun p : IS => [p.v1, p.v2]) (ya_consG St.is hp (ya_consG TpS.st he ya_nil)) fun vs H1 g ⟨w, r, e, ew, w2, r2, e2, hs, e3⟩ => ⟨⟨v, w2, p, s⟩, by rw [e, e2, show w = v from ew, show r2 = [] from e3], ⟨PtR.st _ _ _ g hP, .inl hs⟩, fun _ _ _ h => h⟩
theorem y_dist (he : Y B te σ H (Is v)) (hf : Y B tf σ H (StR K B vb (mkB p) t)) (hS : StR K B vb (mkB p) s v H) : Y B (tMethR (He.ga K "Stand") "distance" (sp_Stand_distance K) E0 te (tCons tf tNil)) σ H (Is (.int (dist (mkB p) s t))) := by
  have hS' := hS
  obtain ⟨a, dx, m, e, ta, _⟩ := hS
  subst e
  exact y_mtG (args := fun p : S2 => [p.v, p.u]) (pre := S2Ok K) (post := fun B (p : S2) v H => v = .int (dist p.b p.s p.t)) he ta rfl (ya_consG StR.st hf ya_nil) fun vs H1 g ⟨w, r, e, hw, e2⟩ => ⟨⟨.ref a, w, vb, mkB p, s, t⟩, by rw [e, show r = [] from e2], ⟨StR.st _ _ _ g hS', hw⟩, fun _ _ _ h => h⟩
theorem y_btw {r : List Str} {w : V} (he : Y B te σ H (Is v)) (hf : Y B tf σ H (Is u)) (hh : Y B th σ H (Is w)) (hS : StR K B vb (mkB p) s v H) (hT : StR K B vb (mkB p) t u H) (hR : StR K B vb (mkB p) r w H) : Y B (tMethR (He.ga K "Stand") "is_between" (sp_Stand_is_between K) E0 te (tCons tf (tCons th tNil))) σ H (Is (.bl (btw s t r))) := by
  have hS' := hS
  obtain ⟨a, dx, m, e, ta, _⟩ := hS
  subst e
  exact y_mt (args := fun p : S4 => [p.v, p.u1, p.u2]) (pre := fun B (p : S4) H => StR K B p.vb p.b p.s p.v H ∧ StR K B p.vb p.b p.t1 p.u1 H ∧ StR K B p.vb p.b p.t2 p.u2 H) (post := fun B (p : S4) v H => v = .bl (btw p.s p.t1 p.t2)) ⟨.ref a, u, w, vb, mkB p, s, t, r⟩ he ta rfl (ya_cons hf (ya_cons hh ya_nil)) rfl fun H1 g => ⟨StR.st _ _ _ g hS', StR.st _ _ _ g hT, StR.st _ _ _ g hR⟩
/-! ### over what stays but the tables -/
def YN (K : PySem.W.Frag) (B : Option Addr) (te : TE) (σ : L2.St) (H : Hp) (P : V → Hp → Prop) : Prop := ∀ H1, GoN B H H1 → Tabs (tbT K) H1 → ∀ Q : VK, (∀ v H2, GoN B H1 H2 → Tabs (tbT K) H2 → P v H2 → Q v H2) → te σ H1 Q
theorem yn_of {P : V → Hp → Prop} (h : ∀ H1, GoN B H H1 → Y B te σ H1 P) : YN K B te σ H P := fun H1 g T Q q => h H1 g H1 (Go.refl g.2) Q fun v H2 g2 p => q v H2 g2.n (Tabs.go T g.2 g2) p
theorem yn_var {P : V → Hp → Prop} {n : Nat} (h : σ[n]? = some (some v)) (hp : P v H) (sP : StN B P) : YN K B (tVar n) σ H P := fun H1 g T Q q => ⟨v, h, q v H1 (GoN.refl g.2) T (sP _ _ _ g hp)⟩
theorem yn_op {r : R2} {PA PB P : V → Hp → Prop} (sa : StN B PA) (ha : YN K B te σ H PA) (hb : YN K B tf σ H PB) (hr : ∀ x y H1, GoN B H H1 → Tabs (tbT K) H1 → PA x H1 → PB y H1 → ∀ Q : VK, (∀ v H2, GoN B H1 H2 → Tabs (tbT K) H2 → P v H2 → Q v H2) → r x y H1 Q) : YN K B (tOp r te tf) σ H P := fun H1 g T Q q =>
  ha H1 g T _ fun x H2 g2 T2 px => hb H2 (g.trans g2) T2 _ fun y H3 g3 T3 py => hr x y H3 ((g.trans g2).trans g3) T3 (sa x _ _ g3 px) py Q fun v H4 g4 T4 pv => q v H4 ((g2.trans g3).trans g4) T4 pv
def WaR (K : PySem.W.Frag) (B : Option Addr) (vb : V) (p : Pa) (s t : List Str) : V → Hp → Prop := fun v H => ∃ ts, WyR K B vb (mkB p) ts v H ∧ WayG p s t ts
theorem yn_sub (ha : YN K B te σ H (StR K B vb (mkB p) t)) (hb : YN K B tf σ H (StR K B vb (mkB p) s)) : YN K B (tOp (rOwnBin (He.ga K "Stand") (He.ga K "Stand") (sp_Stand___sub__ K)) te tf) σ H (WaR K B vb p s t) :=
  yn_op StR.sn ha hb fun x y H1 g T h1 h2 Q q => by
    have h1' := h1
    have h2' := h2
    obtain ⟨a, dx, m, e, t1, _⟩ := h1'
    obtain ⟨a2, dx2, m2, e2, t2, _⟩ := h2'
    exact ⟨a, a2, dx, dx2, _, _, e, e2, t1.2, t2.2, B, ⟨x, y, vb, p, t, s⟩, rfl, g.2, ⟨h1, h2, T⟩, fun v H2 g2 T2 w => q v H2 g2 T2 w⟩
theorem yn_add (hv : PaV p) (hs : Sd p s) (ht : Sd p t) (ha : YN K B te σ H (StR K B vb (mkB p) s)) (hb : YN K B tf σ H (WaR K B vb p s t)) : YN K B (tOp (rOwnBin (He.ga K "Stand") (He.ga K "Way") (sp_Stand___add__ K)) te tf) σ H (StR K B vb (mkB p) t) :=
  yn_op StR.sn ha hb fun x y H1 g T h1 ⟨ts, h2, h3⟩ Q q => by
    have h1' := h1
    have h2' := h2
    obtain ⟨a, dx, m, e, t1, _⟩ := h1'
    obtain ⟨a2, dx2, m2, e2, t2, _⟩ := h2'
    obtain ⟨k1, k2⟩ := way_ok hv hs ht h3
    refine ⟨a, a2, dx, dx2, _, _, e, e2, t1.2, t2.2, B, ⟨x, y, vb, mkB p, s, ts⟩, rfl, g.2, ⟨h1, h2, k1⟩, fun v H2 g2 w => q v H2 g2.n (Tabs.go T g.2 g2) ?_⟩
    have z : StR K B vb (mkB p) (ts.foldl (stp (mkB p)) s) v H2 := w
    rw [k2] at z
    exact z
theorem yn_ne (ha : YN K B te σ H (StR K B vb (mkB p) s)) (hb : YN K B tf σ H (StR K B vb (mkB p) s)) : YN K B (tOp (rOwnEq (He.ga K "Stand") true (sp_Stand___eq__ K)) te tf) σ H (Is (.bl false)) :=
  yn_op StR.sn ha hb fun x y H1 g T h1 h2 Q q => by
    have h1' := h1
    have h2' := h2
    obtain ⟨a, dx, m, e, t1, _⟩ := h1'
    obtain ⟨a2, dx2, m2, e2, t2, _⟩ := h2'
    exact ⟨a, a2, dx, dx2, _, _, e, e2, t1.2, t2.2, B, ⟨x, y, vb, mkB p, s, s⟩, rfl, g.2, ⟨h1, h2⟩, fun v2 H2 g2 ev => ⟨true, by rw [show v2 = _ from ev, decide_eq_true rfl], q _ H2 g2.n (Tabs.go T g.2 g2) rfl⟩⟩
theorem s_noNn {D : Ends} {tu : TS} (hb : Bk B H) (T : Tabs (tbT K) H) (h : YN K B te σ H (Is (.bl false))) (k : ∀ H1, GoN B H H1 → Tabs (tbT K) H1 → D.nx σ H1) : tIfS (tTest te) tu tNext D σ H :=
  h H (GoN.refl hb) T _ fun v H1 g T1 e => ⟨false, e, k H1 g T1⟩
end
end
end NP
end
section
set_option Elab.async false
set_option linter.all false
set_option maxRecDepth 100000
set_option maxHeartbeats 4000000
/-! law. -/
namespace NP
open PySem PySem.Spec PyProof.Rows L2 LamX Evl
section
variable {P : Program} {w : World} {K : PySem.W.Frag} {mg : Str → Option Value} {base : Heap}
def sp_law (K : PySem.W.Frag) : Sp := fun vs H Q _ => ∃ B : Option Addr, ∃ d : V × List Int, vs = [d.1] ∧ B = none ∧ ScR K d.2 d.1 H ∧ Tabs (tbT K) H ∧ ∀ v H', v = .bl true → Q v H'
theorem ScR.sn {xs : List Int} {v : V} {H H' : Hp} (g : GoN none H H') (h : ScR K xs v H) : ScR K xs v H' := by
  obtain ⟨a, e, h⟩ := h
  refine ⟨a, e, h.imp (fun h => ?_) fun h => h⟩
  rcases h with h | ⟨o, h⟩
  · exact .inl (g.1 a _ (fun z => nomatch z) (fun _ z => nomatch z) h)
  · exact .inr ⟨o, g.1 a _ (fun z => nomatch z) (fun _ z => nomatch z) h⟩
theorem rng_n (l : Nat) : ∃ n : Nat, (if (if (l : Int) < 4 then (l : Int) else 4) > 2 then (if (l : Int) < 4 then (l : Int) else 4) else 2) = (n : Int) ∧ n ≤ 4 := by
  by_cases h : (l : Int) < 4
  · rw [if_pos h]
    by_cases h2 : (l : Int) > 2
    · rw [if_pos h2]
      exact ⟨l, rfl, by omega⟩
    · rw [if_neg h2]
      exact ⟨2, rfl, by decide⟩
  · rw [if_neg h]
    exact ⟨4, rfl, by decide⟩
theorem ok_law (T : Fx K mg) (TB : LamX.TabB base mg (He.codeOf K ("Stand", some "__sub__")) (He.tabOf K (He.codeOf K ("Stand", some "__sub__")))) : ∃ fd, FunD K d_law.name d_law.qual d_law.params d_law.body d_law.scope (d_law.dvs K) (d_law.kws K) (He.fAd K d_law.at_) fd ∧ FnOk P w K mg base CX0 25 (He.fAd K ("law", none)) fd ["_law_script"] (sp_law K) := by
  obtain ⟨fd, F⟩ := T.dd 31 (d := d_law) rfl
  have c_Stand := T.cls 63 rfl
  have g_Wish := T.glo 32 rfl
  have g__law_board := T.glo 23 rfl
  have g__law_box := T.glo 16 rfl
  have g__law_good_wish := T.glo 29 rfl
  have g__law_is_stand := T.glo 24 rfl
  have g__law_meets := T.glo 27 rfl
  have g__law_parts := T.glo 22 rfl
  have g__law_some_goal := T.glo 30 rfl
  have g__law_some_stand := T.glo 25 rfl
  have k_Wish := T.mkr 65 rfl
  have m_Stand___eq__ := T.meth 95 rfl
  have m_Stand_distance := T.meth 101 rfl
  have m_Stand_is_between := T.meth 102 rfl
  have n_len := T.free 38 rfl
  have n_max := T.free 48 rfl
  have n_min := T.free 49 rfl
  have n_range := T.free 46 rfl
  have ok_Board___call__ := ok_Board___call__ (P := P) (w := w) (base := base) T
  have co_Board : StX.CallO K (He.ga K "Board") (He.fAd K ("Board", some "__call__")) := ⟨of_decide_eq_true (T.xx 28 rfl), T.xx 29 rfl, T.xx 30 rfl⟩
  have ok_Stand___add__ := ok_Stand___add__ (P := P) (w := w) (base := base) T
  have ok_Stand___eq__ := ok_Stand___eq__ (P := P) (w := w) (base := base) T
  have ok_Stand___sub__ := ok_Stand___sub__ (P := P) (w := w) (base := base) T TB
  have ok_Stand_distance := ok_Stand_distance (P := P) (w := w) (base := base) T
  have ok_Stand_is_between := ok_Stand_is_between (P := P) (w := w) (base := base) T
  have ok_Stand_pegs := ok_Stand_pegs (P := P) (w := w) (base := base) T
  have p_Stand_pegs := T.prop 12 rfl rfl rfl rfl
  have ok_Wish___call__ := ok_Wish___call__ (P := P) (w := w) (base := base) T
  have co_Wish : StX.CallO K (He.ga K "Wish") (He.fAd K ("Wish", some "__call__")) := ⟨of_decide_eq_true (T.xx 25 rfl), T.xx 26 rfl, T.xx 27 rfl⟩
  have ok_Wish___init__ := ok_Wish___init__ (P := P) (w := w) (base := base) T
  have ok__law_board := ok__law_board (P := P) (w := w) (base := base) T
  obtain ⟨_, F__law_board⟩ := T.dd 23 (d := d__law_board) rfl
  have kp__law_board := F__law_board.kp
  have ok__law_box := ok__law_box (P := P) (w := w) (base := base) T
  obtain ⟨_, F__law_box⟩ := T.dd 16 (d := d__law_box) rfl
  have kp__law_box := F__law_box.kp
  have ok__law_good_wish := ok__law_good_wish (P := P) (w := w) (base := base) T
  obtain ⟨_, F__law_good_wish⟩ := T.dd 29 (d := d__law_good_wish) rfl
  have kp__law_good_wish := F__law_good_wish.kp
  have ok__law_is_stand := ok__law_is_stand (P := P) (w := w) (base := base) T
  obtain ⟨_, F__law_is_stand⟩ := T.dd 24 (d := d__law_is_stand) rfl
  have kp__law_is_stand := F__law_is_stand.kp
  have ok__law_meets := ok__law_meets (P := P) (w := w) (base := base) T
  obtain ⟨_, F__law_meets⟩ := T.dd 27 (d := d__law_meets) rfl
  have kp__law_meets := F__law_meets.kp
  have ok__law_parts := ok__law_parts (P := P) (w := w) (base := base) T
  obtain ⟨_, F__law_parts⟩ := T.dd 22 (d := d__law_parts) rfl
  have kp__law_parts := F__law_parts.kp
  have ok__law_some_goal := ok__law_some_goal (P := P) (w := w) (base := base) T
  obtain ⟨_, F__law_some_goal⟩ := T.dd 30 (d := d__law_some_goal) rfl
  have kp__law_some_goal := F__law_some_goal.kp
  have ok__law_some_stand := ok__law_some_stand (P := P) (w := w) (base := base) T
  obtain ⟨_, F__law_some_stand⟩ := T.dd 25 (d := d__law_some_stand) rfl
  have kp__law_some_stand := F__law_some_stand.kp
  have ne_Stand : NeOk K (He.ga K "Stand") := ⟨of_decide_eq_true (T.xx 34 rfl), of_decide_eq_true (T.xx 35 rfl)⟩
  have sc : FnScope ["_law_script", "_law_k", "_law_box_here", "_law_parts_here", "_law_board_here", "_law_turn", "_law_hopes", "_law_wish", "_law_starts", "_law_goals", "_law_start", "_law_near", "_law_goal", "_law_j", "_law_other"] ["_law_script"] (defScope (top 77)) := ⟨rfl, rfl, rfl, by decide +kernel, rfl, by decide +kernel, by decide +kernel⟩
  have nd := sc.nd
  refine ⟨fd, F, F.ok sc (fun vs H Q E h => by obtain ⟨B, a, rfl, _⟩ := h; rfl) (fun cdv A outer s H vs Q E hr h => ⟨_, PSs.nox (pss_cons (ps_for PassesOwn.never rfl (pi_range1 rfl n_range (pa_cons (pe_callB (call_max2 rfl) rfl n_max (by rfl) (pa_cons pe_int (pa_cons (pe_callB (call_min2 rfl) rfl n_min (by rfl) (pa_cons pe_int (pa_cons (pe_callB (k_len (K := K)) rfl n_len (by rfl) (pa_cons (pv 0) pa_nil)) pa_nil))) pa_nil))) pa_nil)) (pg_name (i := 1) nd rfl (Or.inl rfl)) (pss_cons (ps_set (i := 2) nd rfl (Or.inr rfl) (pe_cl ok__law_box hr (by decide) rfl g__law_box kp__law_box (pa_cons (pv 0) (pa_cons (pv 1) pa_nil))))
    (pss_cons (ps_set (i := 3) nd rfl (Or.inr rfl) (pe_cl ok__law_parts hr (by decide) rfl g__law_parts kp__law_parts (pa_cons (pv 2) (pa_cons pe_int pa_nil))))
    (pss_cons (ps_set (i := 4) nd rfl (Or.inr rfl) (pe_cl ok__law_board hr (by decide) rfl g__law_board kp__law_board (pa_cons (pv 3) pa_nil)))
    (pss_one (ps_for PassesOwn.never rfl (pi_range1 rfl n_range (pa_cons pe_int pa_nil)) (pg_name (i := 5) nd rfl (Or.inl rfl)) (pss_cons (ps_set (i := 6) nd rfl (Or.inr rfl) (pe_cl ok__law_good_wish hr (by decide) rfl g__law_good_wish kp__law_good_wish (pa_cons (pv 2) (pa_cons (pv 3) pa_nil))))
    (pss_cons (ps_set (i := 7) nd rfl (Or.inr rfl) (pe_mkR ok_Wish___init__ hr (by decide) k_Wish rfl g_Wish (pa_cons (pe_ix (k_ixT (K := K)) (pv 6) pe_int (fun _ _ => rfl)) (pa_cons (pe_ix (k_ixT (K := K)) (pv 6) pe_int (fun _ _ => rfl)) pa_nil))))
    (pss_cons (ps_setLc (i := 8) rfl nd rfl rfl (sw_true rfl rfl rfl (by decide +kernel)) (own := [("_law_j", 13)]) (pi_range1 rfl n_range (pa_cons pe_int pa_nil)) (blkOk_by (by kernel_rfl)) (fun _ _ _ _ _ => (pg_name (i := 13) nd rfl (Or.inl rfl))) (fun _ _ _ _ _ => pts_nil) (fun _ _ _ _ _ => (pe_co2 ok_Board___call__ hr (by decide) co_Board (pv 4) (pa_cons (pe_cl ok__law_some_stand hr (by decide) rfl g__law_some_stand kp__law_some_stand (pa_cons (pv 2) (pa_cons (pv 3) pa_nil))) pa_nil))))
    (pss_cons (ps_setLc (i := 9) rfl nd rfl rfl (sw_true rfl rfl rfl (by decide +kernel)) (own := [("_law_j", 13)]) (pi_range1 rfl n_range (pa_cons pe_int pa_nil)) (blkOk_by (by kernel_rfl)) (fun _ _ _ _ _ => (pg_name (i := 13) nd rfl (Or.inl rfl))) (fun _ _ _ _ _ => pts_nil) (fun _ _ _ _ _ => (pe_co2 ok_Board___call__ hr (by decide) co_Board (pv 4) (pa_cons (pe_cl ok__law_some_goal hr (by decide) rfl g__law_some_goal kp__law_some_goal (pa_cons (pv 2) (pa_cons (pv 3) (pa_cons (pv 6) pa_nil)))) pa_nil))))
    (pss_one (ps_for PassesOwn.never rfl (k_list (K := K) (pv 8)) (pg_name (i := 10) nd rfl (Or.inr rfl)) (pss_cons (ps_set (i := 11) nd rfl (Or.inr rfl) (pe_co2 ok_Wish___call__ hr (by decide) co_Wish (pv 7) (pa_cons (pv 10) pa_nil)))
    (pss_cons (ps_if (PW.pt (pw_or (pt_not (pt_val (pe_cl ok__law_meets hr (by decide) rfl g__law_meets kp__law_meets (pa_cons (pe_prR ok_Stand_pegs hr (by decide) c_Stand p_Stand_pegs (pv 11)) (pa_cons (pv 6) pa_nil))))) (pw_or (pt_not (pt_val (pe_cl ok__law_is_stand hr (by decide) rfl g__law_is_stand kp__law_is_stand (pa_cons (pv 3) (pa_cons (pe_prR ok_Stand_pegs hr (by decide) c_Stand p_Stand_pegs (pv 11)) pa_nil))))) (pw_or1 (pt_cmpR (op_ownNe ok_Stand___eq__ hr (by decide) m_Stand___eq__ ne_Stand) (pe_co2 ok_Wish___call__ hr (by decide) co_Wish (pv 7) (pa_cons (pv 11) pa_nil)) (pv 11) (nomark _)))))) (pss_one (ps_ret pe_bl)) pss_nil)
    (pss_cons (ps_for PassesOwn.never rfl (k_list (K := K) (pv 9)) (pg_name (i := 12) nd rfl (Or.inl rfl)) (pss_cons (ps_if (PW.pt (pw_or (pt_not (pt_val (pe_cl ok__law_meets hr (by decide) rfl g__law_meets kp__law_meets (pa_cons (pe_prR ok_Stand_pegs hr (by decide) c_Stand p_Stand_pegs (pv 12)) (pa_cons (pv 6) pa_nil))))) (pw_or (pt_cmpR (op_ownNe ok_Stand___eq__ hr (by decide) m_Stand___eq__ ne_Stand) (pe_co2 ok_Wish___call__ hr (by decide) co_Wish (pv 7) (pa_cons (pv 12) pa_nil)) (pv 12) (nomark _)) (pw_or1 (pt_not (pt_val (pe_mtR ok_Stand_is_between hr (by decide) c_Stand m_Stand_is_between (pv 11) (pa_cons (pv 10) (pa_cons (pv 12) pa_nil))))))))) (pss_one (ps_ret pe_bl)) pss_nil)
    (pss_cons (ps_if (pt_cmpR op_ne (pe_op op_add (pe_mtR ok_Stand_distance hr (by decide) c_Stand m_Stand_distance (pv 10) (pa_cons (pv 11) pa_nil)) (pe_mtR ok_Stand_distance hr (by decide) c_Stand m_Stand_distance (pv 11) (pa_cons (pv 12) pa_nil))) (pe_mtR ok_Stand_distance hr (by decide) c_Stand m_Stand_distance (pv 10) (pa_cons (pv 12) pa_nil)) (nomark _)) (pss_one (ps_ret pe_bl)) pss_nil)
    (pss_one (ps_if (pt_cmpR (op_ownNe ok_Stand___eq__ hr (by decide) m_Stand___eq__ ne_Stand) (pe_op (op_ownBin2 ok_Stand___add__ hr (by decide) (of_decide_eq_true (T.xx 51 rfl)) (T.xx 46 rfl) (T.xx 48 rfl) (T.meth 97 rfl) (of_decide_eq_true (T.xx 47 rfl)) (T.meth 93 rfl) (of_decide_eq_true (T.xx 49 rfl)) (of_decide_eq_true (T.xx 50 rfl))) (pe_op (op_ownBin2 ok_Stand___add__ hr (by decide) (of_decide_eq_true (T.xx 51 rfl)) (T.xx 46 rfl) (T.xx 48 rfl) (T.meth 97 rfl) (of_decide_eq_true (T.xx 47 rfl)) (T.meth 93 rfl) (of_decide_eq_true (T.xx 49 rfl)) (of_decide_eq_true (T.xx 50 rfl))) (pv 10) (pe_op (op_ownBin1 ok_Stand___sub__ hr (by decide) (T.xx 46 rfl) (T.meth 96 rfl)) (pv 11) (pv 10))) (pe_op (op_ownBin1 ok_Stand___sub__ hr (by decide) (T.xx 46 rfl) (T.meth 96 rfl)) (pv 12) (pv 11))) (pv 12) (nomark _)) (pss_one (ps_ret pe_bl)) pss_nil)))))
    (pss_one (ps_if (pt_cmpR (k_neD (K := K) hr.units) (pe_lc (own := [("_law_other", 14)]) rfl nd (k_list (K := K) (pv 8)) (blkOk_by (by kernel_rfl)) (fun _ _ _ _ _ => (pg_name (i := 14) nd rfl (Or.inl rfl))) (fun _ _ _ _ _ => (pts_one (pt_cmpR op_gt (pe_mtR ok_Stand_distance hr (by decide) c_Stand m_Stand_distance (pv 11) (pa_cons (pe_co2 ok_Wish___call__ hr (by decide) co_Wish (pv 7) (pa_cons (pv 14) pa_nil)) pa_nil)) (pe_mtR ok_Stand_distance hr (by decide) c_Stand m_Stand_distance (pv 10) (pa_cons (pv 14) pa_nil)) (nomark _)))) (fun _ _ _ _ _ => pe_int)) (pe_lst pa_nil) (nomark _)) (pss_one (ps_ret pe_bl)) pss_nil)))))))))))))))))
    (pss_one (ps_ret pe_bl))), ?_⟩)⟩
  obtain ⟨B, ⟨vs, xs⟩, rfl, hB, hs, hT, hq⟩ := h
  dsimp only at hs
  subst hB
  have hb : Bk none H := fun _ z => nomatch z
  refine q_rngX (N := fun n => n ≤ 4) (H0 := H) ?_ (fun n h => by omega) (Go.refl hb) fun n hn H1 g1 => ⟨fun i σ1 H2 => GoN none H H2 ∧ Tabs (tbT K) H2 ∧ ∃ w1 w2 w3 w4 w5 w6 w7 w8 w9 w10 w11 w12 w13 w14, σ1 = [some vs, w1, w2, w3, w4, w5, w6, w7, w8, w9, w10, w11, w12, w13, w14], ⟨g1.n, Tabs.go hT hb g1, none, none, none, none, none, none, none, none, none, none, none, none, none, none, rfl⟩, fun i σ1 H2 hi hI => ?_, fun σ1 H2 hI => ?_⟩
  · refine (ya_cons (y_cb (P := Is (.int (if (if (xs.length : Int) < 4 then (xs.length : Int) else 4) > 2 then (if (xs.length : Int) < 4 then (xs.length : Int) else 4) else 2))) (ya_cons y_c (ya_cons (y_cb (P := Is (.int (if (xs.length : Int) < 4 then (xs.length : Int) else 4))) (ya_cons y_c (ya_cons (y_lenSc ((y_var rfl).rep hs ScR.st)) ya_nil)) fun vs H1 g e Q q => ⟨4, _, e, q _ H1 (Go.refl g.2) rfl⟩) ya_nil)) fun vs H1 g e Q q => ⟨2, _, e, q _ H1 (Go.refl g.2) rfl⟩) ya_nil).imp fun ws _ _ e => ?_
    obtain ⟨n, e1, hn⟩ := rng_n xs.length
    exact ⟨n, by rw [show ws = _ from e, e1], hn⟩
  · obtain ⟨g2, T2, w1, w2, w3, w4, w5, w6, w7, w8, w9, w10, w11, w12, w13, w14, rfl⟩ := hI
    have b2 : Bk none H2 := fun _ z => nomatch z
    show tSeq _ _ _ [some vs, some (.int (i : Int)), w2, w3, w4, w5, w6, w7, w8, w9, w10, w11, w12, w13, w14] H2
    refine q_asg (P := fun v H' => ∃ bx, v = .ref bx ∧ Bok bx H' ∧ H2 bx = none) (Go.refl b2) (y_cl (args := fun p : V × List Int × Nat × Hp => [p.1, .int (p.2.2.1 : Int)]) (ya_cons (y_var rfl) (ya_cons (y_var rfl) ya_nil)) fun ws H3 g3 ew => ⟨(vs, xs, i, H3), ew, ⟨rfl, ScR.sn (g2.trans g3.n) hs, by show i < 100; omega, rfl⟩, fun v H4 g4 ⟨bx, e1, e2, e3⟩ => ⟨bx, e1, e2, g3.fresh e3⟩⟩) fun v2 H3 g3 _ ⟨bx, e2, hbx, nbx⟩ => ?_
    rw [e2]
    have T3 := Tabs.go T2 b2 g3
    have b3 : Bk (some bx) H3 := fun b e => by
      cases e
      exact hbx
    have back : ∀ H4, GoN (some bx) H3 H4 → GoN none H H4 := fun H4 g4 => by
      refine ⟨fun a o _ n h => ?_, fun _ z => nomatch z⟩
      have h2 := g2.1 a o (fun z => nomatch z) n h
      refine g4.1 a o (fun z => ?_) n (g3.1 a o (fun z => nomatch z) h2)
      cases z
      rw [nbx] at h2
      cases h2
    clear nbx g3
    refine q_asg (B := some bx) (P := fun v H' => ∃ q : Pa, PtR (some bx) q v H') (Go.refl b3) (y_clI (args := fun p : Addr => [.ref p, .int 12]) (post := fun B (_ : Addr) v H => ∃ q : Pa, PtR B q v H) bx (ya_cons (y_var rfl) (ya_cons y_c ya_nil)) fun H4 g4 => rfl) fun v3 H4 g4 _ ⟨p, hP4⟩ => ?_
    refine q_asg (P := BdR K (some bx) (mkB p)) (Go.refl g4.2) (y_clI (args := fun p : V × Pa => [p.1]) (post := fun B (p : V × Pa) v H => BdR K B (mkB p.2) v H) (v3, p) (ya_cons (y_var rfl) ya_nil) fun H5 g5 => PtR.st _ _ _ g5 hP4) fun v4 H5 g5 _ hB5 => ?_
    have hP5 := PtR.st _ _ _ g5 hP4
    have g35 := g4.trans g5
    have T5 := Tabs.go T3 b3 g35
    show tFor _ _ _ _ [some vs, some (.int (i : Int)), some (.ref bx), some v3, some v4, w5, w6, w7, w8, w9, w10, w11, w12, w13, w14] H5
    have hv : PaV p := by
      obtain ⟨_, _, _, h⟩ := hP5
      exact h.v
    refine s_rngX (B := some bx) (N := fun n => n = 4) (H0 := H5) ((ya_cons y_c ya_nil).imp fun ws _ _ e => ⟨4, e, rfl⟩) (fun n h => by omega) (Go.refl g5.2) fun n hn6 H6 g6 => ⟨fun j σ1 H7 => GoN (some bx) H6 H7 ∧ Tabs (tbT K) H7 ∧ ∃ w5 w6 w7 w8 w9 w10 w11 w12 w13 w14, σ1 = [some vs, some (.int (i : Int)), some (.ref bx), some v3, some v4, w5, w6, w7, w8, w9, w10, w11, w12, w13, w14], ⟨GoN.refl g6.2, Tabs.go T5 g5.2 g6, _, _, _, _, _, _, _, _, _, _, rfl⟩, fun j σ1 H7 hj hI => ?_, fun σ1 H7 hI => ?_⟩
    · obtain ⟨g7, T7, w5, w6, w7, w8, w9, w10, w11, w12, w13, w14, rfl⟩ := hI
      have g57 := g6.n.trans g7
      have hP7 := PtR.sn _ _ _ g57 hP5
      have hB7 := BdR.sn _ _ _ g57 hB5
      show tSeq _ _ _ [some vs, some (.int (i : Int)), some (.ref bx), some v3, some v4, some (.int (j : Int)), w6, w7, w8, w9, w10, w11, w12, w13, w14] H7
      refine q_asg (P := fun v H => ∃ h : Ho, HoR (some bx) h v H ∧ GoodW p h.I h.O) (Go.refl g7.2) (y_clI (args := fun p : SS => [.ref p.bx, p.v]) (post := fun B (p : SS) v H => ∃ h : Ho, HoR B h v H ∧ GoodW p.p h.I h.O) ⟨bx, v3, p⟩ (ya_cons (y_var rfl) (ya_cons (y_var rfl) ya_nil)) fun H8 g8 => ⟨rfl, PtR.st _ _ _ g8 hP7⟩) fun v6 H8 g8 _ ⟨h, hH8, hg⟩ => ?_
      have hH8' := hH8
      obtain ⟨ah, eh, th, hhi, hho⟩ := hH8'
      subst eh
      refine q_asg (P := WsR K (some bx) h.I h.O) (Go.refl g8.2) (y_mkI (y_part rfl th rfl) (y_part rfl th rfl) hhi hho (Nat.lt_of_le_of_lt hg.zi (by decide)) (Nat.lt_of_le_of_lt hg.zo (by decide))) fun v7 H9 g9 _ hW9 => ?_
      have g79 := g8.trans g9
      have hP9 := PtR.st _ _ _ g79 hP7
      have hB9 := BdR.st _ _ _ g79 hB7
      have hH9 := HoR.st _ _ _ g9 hH8
      refine q_asg (P := LsR (some bx) (SrR K (some bx) v4 p fun _ => True) (List.range 4)) (Go.refl g9.2) ((y_lcR (fun _ => true) (val := SrR K (some bx) v4 p fun _ => True) (fun _ => SrR.st) (fun _ => SrR.nl) (yk_rng (ya_cons y_c ya_nil) (by decide)).yi (by decide) yg_name fun q σ2 Hq hq gq s => ?_).imp fun v Hq _ h => by
        have z := h.1
        rw [fil_all] at z
        exact z) fun v8 H10 g10 _ hL8 => ?_
      · subst s
        exact ⟨rfl, yt_yes, fun _ => y_newS (y_var rfl) (BdR.st _ _ _ gq hB9) hv ((y_someG (y_var rfl) (y_var rfl) (PtR.st _ _ _ gq hP9)).imp fun v _ _ ⟨s, h1, h2, h3⟩ => ⟨s, h1, Sd.of_lst h3 h2, trivial⟩)⟩
      have hP10 := PtR.st _ _ _ g10 hP9
      have hB10 := BdR.st _ _ _ g10 hB9
      have hH10 := HoR.st _ _ _ g10 hH9
      refine q_asg (P := LsR (some bx) (SrR K (some bx) v4 p fun s => mts h.I h.O s = true) (List.range 4)) (Go.refl g10.2) ((y_lcR (fun _ => true) (val := SrR K (some bx) v4 p fun s => mts h.I h.O s = true) (fun _ => SrR.st) (fun _ => SrR.nl) (yk_rng (ya_cons y_c ya_nil) (by decide)).yi (by decide) yg_name fun q σ2 Hq hq gq s => ?_).imp fun v Hq _ h => by
        have z := h.1
        rw [fil_all] at z
        exact z) fun v9 H11 g11 _ hL9 => ?_
      · subst s
        exact ⟨rfl, yt_yes, fun _ => y_newS (y_var rfl) (BdR.st _ _ _ gq hB10) hv ((y_clI (args := fun p : SG => [.ref p.bx, p.v, p.vh]) (post := fun B (p : SG) v H => ∃ s, TpS B s v H ∧ lst p.p s = true ∧ mts p.h.I p.h.O s = true ∧ s = p.p.pegs.filter fun x => decide (x ∈ s)) ⟨bx, v3, .ref ah, p, h⟩ (ya_cons (y_var rfl) (ya_cons (y_var rfl) (ya_cons (y_var rfl) ya_nil))) fun H1 g1 => ⟨rfl, PtR.st _ _ _ (gq.trans g1) hP10, HoR.st _ _ _ (gq.trans g1) hH10, hg⟩).imp fun v _ _ ⟨s, h1, h2, h3, h4⟩ => ⟨s, h1, Sd.of_lst h4 h2, h3⟩)⟩
      have g911 := g10.trans g11
      have g711 := g79.trans g911
      have hP11 := PtR.st _ _ _ g11 hP10
      have hH11 := HoR.st _ _ _ g11 hH10
      have hW11 := WsR.st _ _ _ g911 hW9
      have hL11 := LsR.st (fun _ => SrR.st) _ _ _ g11 hL8
      have T11 := Tabs.go T7 g7.2 g711
      show tFor _ _ _ _ [some vs, some (.int (i : Int)), some (.ref bx), some v3, some v4, some (.int (j : Int)), some (.ref ah), some v7, some v8, some v9, w10, w11, w12, w13, w14] H11
      refine walk_ls (K := K) (n := 8) (v := v8) (as := List.range 4) (R := SrR K (some bx) v4 p fun _ => True) rfl hL11 g11.2 (fun _ => SrR.sn) (fun _ σ1 H12 => GoN (some bx) H11 H12 ∧ Tabs (tbT K) H12 ∧ ∃ w10 w11 w12 w13 w14, σ1 = [some vs, some (.int (i : Int)), some (.ref bx), some v3, some v4, some (.int (j : Int)), some (.ref ah), some v7, some v8, some v9, w10, w11, w12, w13, w14]) ⟨GoN.refl g11.2, T11, _, _, _, _, _, rfl⟩ (fun _ _ _ _ h => h.1) (fun q a σ1 H12 x hq hI hx => ?_) (fun σ1 H12 hI => ?_)
      · obtain ⟨g12, T12, w10, w11, w12, w13, w14, rfl⟩ := hI
        obtain ⟨s, hS12, hsd, _⟩ := hx
        have hP12 := PtR.sn _ _ _ g12 hP11
        have hH12 := HoR.sn _ _ _ g12 hH11
        have hW12 := WsR.sn _ _ _ g12 hW11
        have hnd := near_sd hv hg hsd
        have hnm := near_mts hv (s := s) hg
        show tSeq _ _ _ [some vs, some (.int (i : Int)), some (.ref bx), some v3, some v4, some (.int (j : Int)), some (.ref ah), some v7, some v8, some v9, some x, w11, w12, w13, w14] H12
        refine q_asg (P := StR K (some bx) v4 (mkB p) (near (mkB p) h.I h.O s)) (Go.refl g12.2) (y_near (y_var rfl) (y_var rfl) hW12 hS12 hv hg hsd) fun vn H13 g13 _ hN13 => ?_
        have hP13 := PtR.st _ _ _ g13 hP12
        have hH13 := HoR.st _ _ _ g13 hH12
        have hW13 := WsR.st _ _ _ g13 hW12
        have hS13 := StR.st _ _ _ g13 hS12
        refine q_no (Go.refl g13.2) (yt_is (yt_or (yt_not (yt_testI (y_meets (y_spegs (y_var rfl) hN13) (y_var rfl) hH13 hg.zi hg.zo))) fun _ => yt_or (yt_not (yt_testI (y_isSt (y_var rfl) (y_spegs (y_var rfl) hN13) hP13))) fun _ => yt_testI (y_neSt (y_near (y_var rfl) (y_var rfl) hW13 hN13 hv hg hnd) ((y_var rfl).rep hN13 StR.st))) (by rw [hnm, hnd.lst, near_self hv hnd hnm, decide_eq_true rfl] <;> rfl)) fun H14 g14 _ => ?_
        have g1214 := g13.trans g14
        have hN14 := StR.st _ _ _ g14 hN13
        have hS14 := StR.st _ _ _ g14 hS13
        have hH14 := HoR.st _ _ _ g14 hH13
        have hW14 := WsR.st _ _ _ g14 hW13
        have hL14 := LsR.sn (fun _ => SrR.sn) _ _ _ (g12.trans g1214.n) hL11
        have hM14 := LsR.sn (fun _ => SrR.sn) _ _ _ (g12.trans g1214.n) hL9
        have T14 := Tabs.go T12 g12.2 g1214
        show tFor _ _ _ _ [some vs, some (.int (i : Int)), some (.ref bx), some v3, some v4, some (.int (j : Int)), some (.ref ah), some v7, some v8, some v9, some x, some vn, w12, w13, w14] H14
        refine walk_ls (K := K) (n := 9) (v := v9) (as := List.range 4) (R := SrR K (some bx) v4 p fun s => mts h.I h.O s = true) rfl hM14 g14.2 (fun _ => SrR.sn) (fun _ σ1 H15 => GoN (some bx) H14 H15 ∧ Tabs (tbT K) H15 ∧ ∃ w12 w13 w14, σ1 = [some vs, some (.int (i : Int)), some (.ref bx), some v3, some v4, some (.int (j : Int)), some (.ref ah), some v7, some v8, some v9, some x, some vn, w12, w13, w14]) ⟨GoN.refl g14.2, T14, _, _, _, rfl⟩ (fun _ _ _ _ h => h.1) (fun q2 a2 σ1 H15 y hq2 hI hy => ?_) (fun σ1 H15 hI => ?_)
        · obtain ⟨g15, T15, w12, w13, w14, rfl⟩ := hI
          obtain ⟨t, hT15, htd, htm⟩ := hy
          have hN15 := StR.sn _ _ _ g15 hN14
          have hS15 := StR.sn _ _ _ g15 hS14
          have hH15 := HoR.sn _ _ _ g15 hH14
          have hW15 := WsR.sn _ _ _ g15 hW14
          show tSeq _ _ _ [some vs, some (.int (i : Int)), some (.ref bx), some v3, some v4, some (.int (j : Int)), some (.ref ah), some v7, some v8, some v9, some x, some vn, some y, w13, w14] H15
          refine q_no (Go.refl g15.2) (yt_is (yt_or (yt_not (yt_testI (y_meets (y_spegs (y_var rfl) hT15) (y_var rfl) hH15 hg.zi hg.zo))) fun _ => yt_or (yt_testI (y_neSt (y_near (y_var rfl) (y_var rfl) hW15 hT15 hv hg htd) ((y_var rfl).rep hT15 StR.st))) fun _ => yt_not (yt_testI (y_btw (y_var rfl) (y_var rfl) (y_var rfl) hN15 hS15 hT15))) (by rw [htm, near_self hv htd htm, decide_eq_true rfl, near_btw hv hsd htd htm] <;> rfl)) fun H16 g16 _ => ?_
          have hN16 := StR.st _ _ _ g16 hN15
          have hS16 := StR.st _ _ _ g16 hS15
          have hT16 := StR.st _ _ _ g16 hT15
          refine q_no (Go.refl g16.2) (yt_is (yt_testI (y_op (y_op (y_dist (y_var rfl) ((y_var rfl).rep hN16 StR.st) hS16) (y_dist (y_var rfl) ((y_var rfl).rep hT16 StR.st) hN16) o_add) (y_dist (y_var rfl) ((y_var rfl).rep hT16 StR.st) hS16) (o_ne rfl))) (by rw [dist_add hv hsd htd htm, decide_eq_true rfl] <;> rfl)) fun H17 g17 _ => ?_
          have g1517 := g16.trans g17
          have hN17 := StR.st _ _ _ g17 hN16
          have hS17 := StR.st _ _ _ g17 hS16
          have hT17 := StR.st _ _ _ g17 hT16
          exact s_noNn g17.2 (Tabs.go T15 g15.2 g1517) (yn_ne (yn_add hv hnd htd (yn_add hv hsd hnd (yn_var rfl hS17 StR.sn) (yn_sub (yn_var rfl hN17 StR.sn) (yn_var rfl hS17 StR.sn))) (yn_sub (yn_var rfl hT17 StR.sn) (yn_var rfl hN17 StR.sn))) (yn_var rfl hT17 StR.sn)) fun H18 g18 T18 => ⟨(g15.trans g1517.n).trans g18, T18, _, _, _, rfl⟩
        · obtain ⟨g15, T15, w12, w13, w14, rfl⟩ := hI
          have g1115 := (g12.trans g1214.n).trans g15
          have hN15 := StR.sn _ _ _ g15 hN14
          have hS15 := StR.sn _ _ _ g15 hS14
          have hW15 := WsR.sn _ _ _ g15 hW14
          have hL15 := LsR.sn (fun _ => SrR.sn) _ _ _ g15 hL14
          refine s_noN (Go.refl g15.2) (yt_is (yt_testI (y_nonemptyI (y_lcI (fun _ => false) (fun _ => 1) (yk_lR (y_var rfl) hL15 fun _ => SrR.st).yi (by decide) yg_nameR fun c σ2 Hq hc gq s => ?_))) (by rfl)) fun H16 g16 _ => ⟨g1115.trans g16.n, Tabs.go T15 g15.2 g16, _, _, _, _, _, rfl⟩
          obtain ⟨z, ⟨t, hTq, htd, _⟩, e⟩ := s
          subst e
          exact ⟨rfl, yt_is (yt_testI (y_op (y_dist (y_var rfl) (y_near (y_var rfl) (y_var rfl) (WsR.st _ _ _ gq hW15) hTq hv hg htd) (StR.st _ _ _ gq hN15)) (y_dist (y_var rfl) ((y_var rfl).rep hTq StR.st) (StR.st _ _ _ gq hS15)) o_gt)) (decide_eq_false (by
            have := dist_le hv (I := h.I) (O := h.O) (s := s) (t := t)
            omega)), fun _ => y_c⟩
      · obtain ⟨g12, T12, w10, w11, w12, w13, w14, rfl⟩ := hI
        exact ⟨(g7.trans g711.n).trans g12, T12, _, _, _, _, _, _, _, _, _, _, rfl⟩
    · obtain ⟨g7, T7, w5, w6, w7, w8, w9, w10, w11, w12, w13, w14, rfl⟩ := hI
      exact ⟨back _ ((g35.trans g6).n.trans g7), T7, _, _, _, _, _, _, _, _, _, _, _, _, _, _, rfl⟩
  · obtain ⟨g2, T2, w1, w2, w3, w4, w5, w6, w7, w8, w9, w10, w11, w12, w13, w14, rfl⟩ := hI
    exact s_ret (B := none) (Go.refl fun _ z => nomatch z) y_c fun v H3 g3 _ h => hq v H3 h
end
end NP
end
section
set_option Elab.async false
set_option linter.all false
set_option maxRecDepth 100000
set_option maxHeartbeats 4000000
/-! The end. -/
namespace NP
open PySem PySem.Spec PyProof.Rows L2 LamX
theorem law_at {l : PySem.W.OpenLaw} {w : World} {K : PySem.W.Frag} {mg : Str → Option Value} {fa : Addr} {h : Heap} (X : K.In h) (G : h.Ns mainGlobals mg) (c : SaysP w h K) (hfa : mg ("law" : Str) = some (.ref fa)) : LawAtS l w K (CX0) 25 63 "_law_script" mg fa h := by
  have T : Fx K mg := ⟨⟨h, X, G⟩, c.x.t.d, c.x.more, c.g⟩
  obtain ⟨fd, F⟩ := T.dd 31 (d := d_law) rfl
  have e := hfa.symm.trans (T.glo 31 (x := "law") rfl)
  cases e
  have b := FunD.bindsA (ps := ["_law_script"]) F fun _ _ _ _ _ _ us hl => match us, hl with | [_], _ => rfl
  refine ⟨fd, [He.cT K ("Stand", some "__sub__")], sp_law K, fun p hp => ?_, fun p hp => ?_, fun p hp => ?_, fun s u => b s [u] rfl, fun H a ns hl _ hH hS => ?_, fun base KB GB hTB => ?_⟩
  · rw [List.mem_singleton.mp hp]
    exact c.x.empty _ (List.mem_singleton.mpr rfl)
  · rw [List.mem_singleton.mp hp]
    exact c.x.out _ (List.mem_singleton.mpr rfl)
  · rw [List.mem_singleton.mp hp]
    exact PySem.W.codeHd_of_K X (c.x.hd _ (List.mem_singleton.mpr rfl))
  · refine ⟨none, (.ref a, ns), rfl, rfl, ⟨a, rfl, hS⟩, fun p hp => ?_, fun v H' e => e⟩
    rw [List.mem_singleton.mp hp]
    exact TabS.nil (hH _ (List.mem_singleton.mpr rfl))
  · obtain ⟨fd2, F2, k⟩ := ok_law (P := l.prog) (w := w) (base := base) T (hTB _ (List.mem_singleton.mpr rfl))
    obtain ⟨_, _, _, _, _, _, _, _, _, _, _, lk, _⟩ := F.ex
    obtain ⟨_, _, _, _, _, _, _, _, _, _, _, lk2, _⟩ := F2.ex
    have e2 := congrArg Obj.data (Option.some.inj (lk.symm.trans lk2))
    cases e2
    exact k
end NP
end
set_option Elab.async false
set_option linter.all false
set_option maxRecDepth 100000
set_option maxHeartbeats 0
open PySem PySem.W PySem.Calls PyProof.Rows
theorem PySem.Challenge.cw_needpegs_k58_whole_nearest_stands_lie_be_holds : PySem.Challenge.rw_needpegs_k58_whole_nearest_stands_lie_be.Holds := by
  w_on; o_law
  refine HandSHeadRun.head_any (r := NP.R) (q := view NP.R.prog [77]) (H := NP.hk) (ob := NP.ob) (M := 12000) (loose := NP.names) (d := HandSHeadRun.topDef NP.R.prog 77) (kwd := []) NP.ob_eq
    (by kernel_rfl) (fun s => by kernel_rfl) NP.run (by kernel_rfl) (by kernel_rfl) (by kernel_rfl) (by rfl) (by first | assumption | decide +kernel) (by decide +kernel) ⟨rfl, rfl, rfl, rfl, rfl, by decide +kernel⟩ ?hw ?hc
  case hw => w_witness2
  case hc =>
    refine LamX.walk_ofTsE (l := PySem.Challenge.rw_needpegs_k58_whole_nearest_stands_lie_be) (n := 63) (k := 25) (x := "_law_script") (CX := fun _ => L2.CX0) rfl (by decide) (by kernel_rfl) ⟨rfl, by decide, by decide⟩ ?F (fun _ _ _ _ _ z => z)
    intro w mg fa h Y G e0
    obtain ⟨K, KX, c⟩ := Y
    exact ⟨K, KX, NP.law_at KX G c (by
      have e : (HandSHeadRun.topDef NP.R.prog 77).name = ("law" : PySem.Str) := by kernel_rfl
      rw [← e]
      exact e0)⟩
