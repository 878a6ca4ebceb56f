import PyProof.Rows.All
import Wide.All
import OpenK.AllK
import Wide.FinOn
import HandS.ForMost
import HandS.Property
import HandS.IsInst
import HandS.DictComp
import HandS.OwnEq
import HandS.Star
import HandS.TupSets
import HandS.TupMul
import HandS.SetKeys
import HandS.Strs
import HandS.Style
import HandS.More
import HandS.Conv
import HandS.NoneIn
import HandS.StrMore
import HandS.Replace
import HandS.Codes
import HandS.Wide
import HandS.WideBits
import HandS.TupAny
import HandS.Flow
import HandS.Small
import HandS.Evl
import HandS.Walk
import KE.SortKeyHeap
import KE.GoesMore
import KE.KDictList
import PyProof.DictTable
import PyProof.P3Eq
import PyProof.ReprRoads
import PyProof.SliceStr2
import KE.KRevSl
import PySem.Challenge.RW_rowreaders_k14_whole_guessers_as_readers
set_option Elab.async false
set_option linter.all false
set_option maxRecDepth 100000
set_option maxHeartbeats 4000000
namespace K14
open PySem L2

/-! ### the text by places -/
def top (i : Nat) : Stmt := PySem.Challenge.pw_rowreaders_k14_whole_guessers_as_readers.main.body.getD i (.Pass ⟨0, 0, 0, 0⟩)
abbrev s_is_number : Stmt := top 18
theorem sc_is_number : FnScope ["value", "low", "high"] ["value", "low", "high"] (defScope s_is_number) := ⟨rfl, rfl, rfl, by decide +kernel, rfl, by decide +kernel, by decide +kernel⟩
abbrev s_is_goal : Stmt := top 19
theorem sc_is_goal : FnScope ["value", "size"] ["value", "size"] (defScope s_is_goal) := ⟨rfl, rfl, rfl, by decide +kernel, rfl, by decide +kernel, by decide +kernel⟩
abbrev s_are_arrows : Stmt := top 20
theorem sc_are_arrows : FnScope ["value", "signs", "row", "goal"] ["value", "signs"] (defScope s_are_arrows) := ⟨rfl, rfl, rfl, by decide +kernel, rfl, by decide +kernel, by decide +kernel⟩
abbrev s_are_stands : Stmt := top 21
theorem sc_are_stands : FnScope ["value", "size", "stand", "place"] ["value", "size"] (defScope s_are_stands) := ⟨rfl, rfl, rfl, by decide +kernel, rfl, by decide +kernel, by decide +kernel⟩
abbrev s_is_row : Stmt := top 22
theorem sc_is_row : FnScope ["value", "signs", "most", "sign"] ["value", "signs", "most"] (defScope s_is_row) := ⟨rfl, rfl, rfl, by decide +kernel, rfl, by decide +kernel, by decide +kernel⟩
abbrev s_Reader_init : Stmt := inClass (top 23) 0
theorem sc_Reader_init : FnScope ["self", "signs", "arrows", "ends"] ["self", "signs", "arrows", "ends"] (defScope s_Reader_init) := ⟨rfl, rfl, rfl, by decide +kernel, rfl, by decide +kernel, by decide +kernel⟩
abbrev s_Reader_signs : Stmt := inClass (top 23) 1
theorem sc_Reader_signs : FnScope ["self"] ["self"] (defScope s_Reader_signs) := ⟨rfl, rfl, rfl, by decide +kernel, rfl, by decide +kernel, by decide +kernel⟩
abbrev s_Reader_arrows : Stmt := inClass (top 23) 2
theorem sc_Reader_arrows : FnScope ["self"] ["self"] (defScope s_Reader_arrows) := ⟨rfl, rfl, rfl, by decide +kernel, rfl, by decide +kernel, by decide +kernel⟩
abbrev s_Reader_ends : Stmt := inClass (top 23) 3
theorem sc_Reader_ends : FnScope ["self"] ["self"] (defScope s_Reader_ends) := ⟨rfl, rfl, rfl, by decide +kernel, rfl, by decide +kernel, by decide +kernel⟩
abbrev s_Reader_eq : Stmt := inClass (top 23) 4
theorem sc_Reader_eq : FnScope ["self", "other"] ["self", "other"] (defScope s_Reader_eq) := ⟨rfl, rfl, rfl, by decide +kernel, rfl, by decide +kernel, by decide +kernel⟩
abbrev s_is_signs : Stmt := top 24
theorem sc_is_signs : FnScope ["value"] ["value"] (defScope s_is_signs) := ⟨rfl, rfl, rfl, by decide +kernel, rfl, by decide +kernel, by decide +kernel⟩
abbrev s_check_signs : Stmt := top 25
theorem sc_check_signs : FnScope ["signs"] ["signs"] (defScope s_check_signs) := ⟨rfl, rfl, rfl, by decide +kernel, rfl, by decide +kernel, by decide +kernel⟩
abbrev s_check_reader : Stmt := top 26
theorem sc_check_reader : FnScope ["reader"] ["reader"] (defScope s_check_reader) := ⟨rfl, rfl, rfl, by decide +kernel, rfl, by decide +kernel, by decide +kernel⟩
abbrev s_check_row : Stmt := top 27
theorem sc_check_row : FnScope ["row", "signs"] ["row", "signs"] (defScope s_check_row) := ⟨rfl, rfl, rfl, by decide +kernel, rfl, by decide +kernel, by decide +kernel⟩
abbrev s_goal_by : Stmt := top 28
theorem sc_goal_by : FnScope ["arrows", "stand", "row", "sign"] ["arrows", "stand", "row"] (defScope s_goal_by) := ⟨rfl, rfl, rfl, by decide +kernel, rfl, by decide +kernel, by decide +kernel⟩
abbrev s_reached : Stmt := top 29
theorem sc_reached : FnScope ["arrows", "stands", "found", "stand", "line", "goal"] ["arrows", "stands"] (defScope s_reached) := ⟨rfl, rfl, rfl, by decide +kernel, rfl, by decide +kernel, by decide +kernel⟩
abbrev s_turned_back : Stmt := top 30
theorem sc_turned_back : FnScope ["arrows", "found", "row", "stand", "goal"] ["arrows"] (defScope s_turned_back) := ⟨rfl, rfl, rfl, by decide +kernel, rfl, by decide +kernel, by decide +kernel⟩
abbrev s_useful_of : Stmt := top 31
theorem sc_useful_of : FnScope ["arrows", "ends", "ahead", "behind", "stand"] ["arrows", "ends"] (defScope s_useful_of) := ⟨rfl, rfl, rfl, by decide +kernel, rfl, by decide +kernel, by decide +kernel⟩
abbrev s_kinds_of : Stmt := top 32
theorem sc_kinds_of : FnScope ["arrows", "ends", "stands", "kinds", "stand", "many", "before", "marks", "goals", "goal", "order", "places", "place", "mark"] ["arrows", "ends", "stands"] (defScope s_kinds_of) := ⟨rfl, rfl, rfl, by decide +kernel, rfl, by decide +kernel, by decide +kernel⟩
abbrev s_least_of : Stmt := top 33
theorem sc_least_of : FnScope ["signs", "arrows", "ends", "stands", "stand", "kinds", "numbers", "line", "rows", "final", "shut", "row", "goal", "kind"] ["signs", "arrows", "ends"] (defScope s_least_of) := ⟨rfl, rfl, rfl, by decide +kernel, rfl, by decide +kernel, by decide +kernel⟩
abbrev s_made : Stmt := top 34
theorem sc_made : FnScope ["signs", "arrows", "ends", "rows", "shut"] ["signs", "arrows", "ends"] (defScope s_made) := ⟨rfl, rfl, rfl, by decide +kernel, rfl, by decide +kernel, by decide +kernel⟩
abbrev s_led_to : Stmt := top 35
theorem sc_led_to : FnScope ["reader", "row"] ["reader", "row"] (defScope s_led_to) := ⟨rfl, rfl, rfl, by decide +kernel, rfl, by decide +kernel, by decide +kernel⟩
abbrev s_says : Stmt := top 36
theorem sc_says : FnScope ["reader", "row"] ["reader", "row"] (defScope s_says) := ⟨rfl, rfl, rfl, by decide +kernel, rfl, by decide +kernel, by decide +kernel⟩
abbrev s_is_step : Stmt := top 38
theorem sc_is_step : FnScope ["value", "signs", "size"] ["value", "signs", "size"] (defScope s_is_step) := ⟨rfl, rfl, rfl, by decide +kernel, rfl, by decide +kernel, by decide +kernel⟩
abbrev s_are_steps : Stmt := top 39
theorem sc_are_steps : FnScope ["value", "signs", "size", "step", "place"] ["value", "signs", "size"] (defScope s_are_steps) := ⟨rfl, rfl, rfl, by decide +kernel, rfl, by decide +kernel, by decide +kernel⟩
abbrev s_Guesser_init : Stmt := inClass (top 40) 0
theorem sc_Guesser_init : FnScope ["self", "signs", "size", "begins", "steps", "goals"] ["self", "signs", "size", "begins", "steps", "goals"] (defScope s_Guesser_init) := ⟨rfl, rfl, rfl, by decide +kernel, rfl, by decide +kernel, by decide +kernel⟩
abbrev s_Guesser_signs : Stmt := inClass (top 40) 1
theorem sc_Guesser_signs : FnScope ["self"] ["self"] (defScope s_Guesser_signs) := ⟨rfl, rfl, rfl, by decide +kernel, rfl, by decide +kernel, by decide +kernel⟩
abbrev s_Guesser_size : Stmt := inClass (top 40) 2
theorem sc_Guesser_size : FnScope ["self"] ["self"] (defScope s_Guesser_size) := ⟨rfl, rfl, rfl, by decide +kernel, rfl, by decide +kernel, by decide +kernel⟩
abbrev s_Guesser_begins : Stmt := inClass (top 40) 3
theorem sc_Guesser_begins : FnScope ["self"] ["self"] (defScope s_Guesser_begins) := ⟨rfl, rfl, rfl, by decide +kernel, rfl, by decide +kernel, by decide +kernel⟩
abbrev s_Guesser_steps : Stmt := inClass (top 40) 4
theorem sc_Guesser_steps : FnScope ["self"] ["self"] (defScope s_Guesser_steps) := ⟨rfl, rfl, rfl, by decide +kernel, rfl, by decide +kernel, by decide +kernel⟩
abbrev s_Guesser_goals : Stmt := inClass (top 40) 5
theorem sc_Guesser_goals : FnScope ["self"] ["self"] (defScope s_Guesser_goals) := ⟨rfl, rfl, rfl, by decide +kernel, rfl, by decide +kernel, by decide +kernel⟩
abbrev s_Guesser_eq : Stmt := inClass (top 40) 6
theorem sc_Guesser_eq : FnScope ["self", "other"] ["self", "other"] (defScope s_Guesser_eq) := ⟨rfl, rfl, rfl, by decide +kernel, rfl, by decide +kernel, by decide +kernel⟩
abbrev s_check_guesser : Stmt := top 41
theorem sc_check_guesser : FnScope ["guesser"] ["guesser"] (defScope s_check_guesser) := ⟨rfl, rfl, rfl, by decide +kernel, rfl, by decide +kernel, by decide +kernel⟩
abbrev s_goals_by : Stmt := top 42
theorem sc_goals_by : FnScope ["size", "steps", "found", "stand", "begin", "sign", "goal"] ["size", "steps"] (defScope s_goals_by) := ⟨rfl, rfl, rfl, by decide +kernel, rfl, by decide +kernel, by decide +kernel⟩
abbrev s_spread_out : Stmt := top 43
theorem sc_spread_out : FnScope ["tables", "stands", "seen", "stand", "line", "goal"] ["tables", "stands"] (defScope s_spread_out) := ⟨rfl, rfl, rfl, by decide +kernel, rfl, by decide +kernel, by decide +kernel⟩
abbrev s_reader_of_steps : Stmt := top 44
theorem sc_reader_of_steps : FnScope ["signs", "size", "begins", "steps", "goals", "tables", "start", "numbers", "line", "arrows", "ends", "final", "stand", "lot", "row", "sign", "near", "goal", "later"] ["signs", "size", "begins", "steps", "goals"] (defScope s_reader_of_steps) := ⟨rfl, rfl, rfl, by decide +kernel, rfl, by decide +kernel, by decide +kernel⟩
abbrev s_reader_from : Stmt := top 45
theorem sc_reader_from : FnScope ["guesser"] ["guesser"] (defScope s_reader_from) := ⟨rfl, rfl, rfl, by decide +kernel, rfl, by decide +kernel, by decide +kernel⟩
abbrev s_steps_of : Stmt := top 46
theorem sc_steps_of : FnScope ["reader", "found", "stand", "row", "place", "goal"] ["reader"] (defScope s_steps_of) := ⟨rfl, rfl, rfl, by decide +kernel, rfl, by decide +kernel, by decide +kernel⟩
abbrev s_guesser_of : Stmt := top 47
theorem sc_guesser_of : FnScope ["reader"] ["reader"] (defScope s_guesser_of) := ⟨rfl, rfl, rfl, by decide +kernel, rfl, by decide +kernel, by decide +kernel⟩
abbrev s_turned : Stmt := top 48
theorem sc_turned : FnScope ["guesser", "steps", "begin", "sign", "goal"] ["guesser"] (defScope s_turned) := ⟨rfl, rfl, rfl, by decide +kernel, rfl, by decide +kernel, by decide +kernel⟩
abbrev s_least_by : Stmt := top 50
theorem sc_least_by : FnScope ["reader"] ["reader"] (defScope s_least_by) := ⟨rfl, rfl, rfl, by decide +kernel, rfl, by decide +kernel, by decide +kernel⟩
abbrev s_least : Stmt := top 51
theorem sc_least : FnScope ["reader"] ["reader"] (defScope s_least) := ⟨rfl, rfl, rfl, by decide +kernel, rfl, by decide +kernel, by decide +kernel⟩
abbrev s__law_barrel : Stmt := top 53
theorem sc__law_barrel : FnScope ["_law_script", "_law_turn", "_law_own", "_law_stir", "_law_cell", "_law_figures"] ["_law_script", "_law_turn"] (defScope s__law_barrel) := ⟨rfl, rfl, rfl, by decide +kernel, rfl, by decide +kernel, by decide +kernel⟩
abbrev s__law_dip : Stmt := top 54
theorem sc__law_dip : FnScope ["_law_barrel_here", "_law_top", "_law_got"] ["_law_barrel_here", "_law_top"] (defScope s__law_dip) := ⟨rfl, rfl, rfl, by decide +kernel, rfl, by decide +kernel, by decide +kernel⟩
abbrev s__law_one_of : Stmt := top 55
theorem sc__law_one_of : FnScope ["_law_barrel_here", "_law_menu"] ["_law_barrel_here", "_law_menu"] (defScope s__law_one_of) := ⟨rfl, rfl, rfl, by decide +kernel, rfl, by decide +kernel, by decide +kernel⟩
abbrev s__law_arrows_for : Stmt := top 56
theorem sc__law_arrows_for : FnScope ["_law_barrel_here", "_law_width", "_law_stands", "_law_bare", "_law_table", "_law_k", "_law_drawn", "_law_j", "_law_two"] ["_law_barrel_here", "_law_width", "_law_stands"] (defScope s__law_arrows_for) := ⟨rfl, rfl, rfl, by decide +kernel, rfl, by decide +kernel, by decide +kernel⟩
abbrev s__law_ends_for : Stmt := top 57
theorem sc__law_ends_for : FnScope ["_law_barrel_here", "_law_stands", "_law_often", "_law_drawn", "_law_k"] ["_law_barrel_here", "_law_stands"] (defScope s__law_ends_for) := ⟨rfl, rfl, rfl, by decide +kernel, rfl, by decide +kernel, by decide +kernel⟩
abbrev s__law_upto : Stmt := top 58
theorem sc__law_upto : FnScope ["_law_width", "_law_deep", "_law_found", "_law_last", "_law_turn", "_law_longer", "_law_line", "_law_sign"] ["_law_width", "_law_deep"] (defScope s__law_upto) := ⟨rfl, rfl, rfl, by decide +kernel, rfl, by decide +kernel, by decide +kernel⟩
abbrev s__law_steps : Stmt := top 59
theorem sc__law_steps : FnScope ["_law_barrel_here", "_law_width", "_law_stands", "_law_many", "_law_found", "_law_bare", "_law_turn", "_law_sign"] ["_law_barrel_here", "_law_width", "_law_stands", "_law_many"] (defScope s__law_steps) := ⟨rfl, rfl, rfl, by decide +kernel, rfl, by decide +kernel, by decide +kernel⟩
abbrev s__law_some : Stmt := top 60
theorem sc__law_some : FnScope ["_law_barrel_here", "_law_stands", "_law_drawn", "_law_k", "_law_found"] ["_law_barrel_here", "_law_stands"] (defScope s__law_some) := ⟨rfl, rfl, rfl, by decide +kernel, rfl, by decide +kernel, by decide +kernel⟩
abbrev s__law_out : Stmt := top 61
theorem sc__law_out : FnScope ["_law_steps_here", "_law_lot", "_law_found", "_law_turn", "_law_more", "_law_step"] ["_law_steps_here", "_law_lot"] (defScope s__law_out) := ⟨rfl, rfl, rfl, by decide +kernel, rfl, by decide +kernel, by decide +kernel⟩
abbrev s__law_guessed : Stmt := top 62
theorem sc__law_guessed : FnScope ["_law_steps_here", "_law_begins_here", "_law_goals_here", "_law_line", "_law_lot", "_law_sign", "_law_step", "_law_spot"] ["_law_steps_here", "_law_begins_here", "_law_goals_here", "_law_line"] (defScope s__law_guessed) := ⟨rfl, rfl, rfl, by decide +kernel, rfl, by decide +kernel, by decide +kernel⟩
abbrev s__law_guesser_right : Stmt := top 63
theorem sc__law_guesser_right : FnScope ["_law_barrel_here", "_law_width", "_law_stands", "_law_begins_here", "_law_goals_here", "_law_steps_here", "_law_mine", "_law_yours", "_law_back", "_law_line", "_law_due"] ["_law_barrel_here"] (defScope s__law_guesser_right) := ⟨rfl, rfl, rfl, by decide +kernel, rfl, by decide +kernel, by decide +kernel⟩
abbrev s__law_right : Stmt := top 64
theorem sc__law_right : FnScope ["_law_barrel_here", "_law_turn", "_law_width", "_law_stands", "_law_mine"] ["_law_barrel_here"] (defScope s__law_right) := ⟨rfl, rfl, rfl, by decide +kernel, rfl, by decide +kernel, by decide +kernel⟩
abbrev s_law : Stmt := top 65
theorem sc_law : FnScope ["_law_script", "_law_turn"] ["_law_script"] (defScope s_law) := ⟨rfl, rfl, rfl, by decide +kernel, rfl, by decide +kernel, by decide +kernel⟩

/-- where a def of the module stands -/
structure DefAt (K : PySem.W.Frag) (mg : Str → Option Value) (nm qual : Str) (st : Stmt) (ps : List Str) where
  f : Addr
  fd : FuncData
  F : Fun K nm qual st f fd
  b : Binds K fd ps []
structure GDef (K : PySem.W.Frag) (mg : Str → Option Value) (nm : Str) (st : Stmt) (ps : List Str) extends DefAt K mg nm nm st ps where
  g : mg nm = some (.ref f)

/-- what the top has left -/
structure Tx (K : PySem.W.Frag) (mg : Str → Option Value) where
  d_is_number : GDef K mg "is_number" s_is_number ["value", "low", "high"]
  d_is_goal : GDef K mg "is_goal" s_is_goal ["value", "size"]
  d_are_arrows : GDef K mg "are_arrows" s_are_arrows ["value", "signs"]
  d_are_stands : GDef K mg "are_stands" s_are_stands ["value", "size"]
  d_is_row : GDef K mg "is_row" s_is_row ["value", "signs", "most"]
  d_Reader_init : DefAt K mg "__init__" "Reader.__init__" s_Reader_init ["self", "signs", "arrows", "ends"]
  d_Reader_signs : DefAt K mg "signs" "Reader.signs" s_Reader_signs ["self"]
  d_Reader_arrows : DefAt K mg "arrows" "Reader.arrows" s_Reader_arrows ["self"]
  d_Reader_ends : DefAt K mg "ends" "Reader.ends" s_Reader_ends ["self"]
  d_Reader_eq : DefAt K mg "__eq__" "Reader.__eq__" s_Reader_eq ["self", "other"]
  d_is_signs : GDef K mg "is_signs" s_is_signs ["value"]
  d_check_signs : GDef K mg "check_signs" s_check_signs ["signs"]
  d_check_reader : GDef K mg "check_reader" s_check_reader ["reader"]
  d_check_row : GDef K mg "check_row" s_check_row ["row", "signs"]
  d_goal_by : GDef K mg "goal_by" s_goal_by ["arrows", "stand", "row"]
  d_reached : GDef K mg "reached" s_reached ["arrows", "stands"]
  d_turned_back : GDef K mg "turned_back" s_turned_back ["arrows"]
  d_useful_of : GDef K mg "useful_of" s_useful_of ["arrows", "ends"]
  d_kinds_of : GDef K mg "kinds_of" s_kinds_of ["arrows", "ends", "stands"]
  d_least_of : GDef K mg "least_of" s_least_of ["signs", "arrows", "ends"]
  d_made : GDef K mg "made" s_made ["signs", "arrows", "ends"]
  d_led_to : GDef K mg "led_to" s_led_to ["reader", "row"]
  d_says : GDef K mg "says" s_says ["reader", "row"]
  d_is_step : GDef K mg "is_step" s_is_step ["value", "signs", "size"]
  d_are_steps : GDef K mg "are_steps" s_are_steps ["value", "signs", "size"]
  d_Guesser_init : DefAt K mg "__init__" "Guesser.__init__" s_Guesser_init ["self", "signs", "size", "begins", "steps", "goals"]
  d_Guesser_signs : DefAt K mg "signs" "Guesser.signs" s_Guesser_signs ["self"]
  d_Guesser_size : DefAt K mg "size" "Guesser.size" s_Guesser_size ["self"]
  d_Guesser_begins : DefAt K mg "begins" "Guesser.begins" s_Guesser_begins ["self"]
  d_Guesser_steps : DefAt K mg "steps" "Guesser.steps" s_Guesser_steps ["self"]
  d_Guesser_goals : DefAt K mg "goals" "Guesser.goals" s_Guesser_goals ["self"]
  d_Guesser_eq : DefAt K mg "__eq__" "Guesser.__eq__" s_Guesser_eq ["self", "other"]
  d_check_guesser : GDef K mg "check_guesser" s_check_guesser ["guesser"]
  d_goals_by : GDef K mg "goals_by" s_goals_by ["size", "steps"]
  d_spread_out : GDef K mg "spread_out" s_spread_out ["tables", "stands"]
  d_reader_of_steps : GDef K mg "reader_of_steps" s_reader_of_steps ["signs", "size", "begins", "steps", "goals"]
  d_reader_from : GDef K mg "reader_from" s_reader_from ["guesser"]
  d_steps_of : GDef K mg "steps_of" s_steps_of ["reader"]
  d_guesser_of : GDef K mg "guesser_of" s_guesser_of ["reader"]
  d_turned : GDef K mg "turned" s_turned ["guesser"]
  d_least_by : GDef K mg "least_by" s_least_by ["reader"]
  d_least : GDef K mg "least" s_least ["reader"]
  d__law_barrel : GDef K mg "_law_barrel" s__law_barrel ["_law_script", "_law_turn"]
  d__law_dip : GDef K mg "_law_dip" s__law_dip ["_law_barrel_here", "_law_top"]
  d__law_one_of : GDef K mg "_law_one_of" s__law_one_of ["_law_barrel_here", "_law_menu"]
  d__law_arrows_for : GDef K mg "_law_arrows_for" s__law_arrows_for ["_law_barrel_here", "_law_width", "_law_stands"]
  d__law_ends_for : GDef K mg "_law_ends_for" s__law_ends_for ["_law_barrel_here", "_law_stands"]
  d__law_upto : GDef K mg "_law_upto" s__law_upto ["_law_width", "_law_deep"]
  d__law_steps : GDef K mg "_law_steps" s__law_steps ["_law_barrel_here", "_law_width", "_law_stands", "_law_many"]
  d__law_some : GDef K mg "_law_some" s__law_some ["_law_barrel_here", "_law_stands"]
  d__law_out : GDef K mg "_law_out" s__law_out ["_law_steps_here", "_law_lot"]
  d__law_guessed : GDef K mg "_law_guessed" s__law_guessed ["_law_steps_here", "_law_begins_here", "_law_goals_here", "_law_line"]
  d__law_guesser_right : GDef K mg "_law_guesser_right" s__law_guesser_right ["_law_barrel_here"]
  d__law_right : GDef K mg "_law_right" s__law_right ["_law_barrel_here"]
  d_law : GDef K mg "law" s_law ["_law_script"]
  CR : Addr
  gReader : mg "Reader" = some (.ref CR)
  clR : Cls K CR
  mkR : Mk K CR d_Reader_init.f
  npR : NoAttr K CR "parts"
  haR : PySem.W.findIn K (.ref CR) "__class__" = some (some (.builtin "object.__class__"))
  hmR : PySem.W.mroIn K CR (.type "object") = some true
  isR : PySem.W.kitOne K (.ref CR) (.ref CR) = some true
  eqR : PySem.W.findIn K (.ref CR) "__eq__" = some (some (.ref d_Reader_eq.f))
  neR : PySem.W.findIn K (.ref CR) "__ne__" = some (some (.builtin "object.__ne__"))
  feR : PySem.W.isFn K (.ref d_Reader_eq.f) = true
  a_Reader_signs : Addr
  p_Reader_signs : PropOf K CR "signs" a_Reader_signs d_Reader_signs.f
  a_Reader_arrows : Addr
  p_Reader_arrows : PropOf K CR "arrows" a_Reader_arrows d_Reader_arrows.f
  a_Reader_ends : Addr
  p_Reader_ends : PropOf K CR "ends" a_Reader_ends d_Reader_ends.f
  CG : Addr
  gGuesser : mg "Guesser" = some (.ref CG)
  clG : Cls K CG
  mkG : Mk K CG d_Guesser_init.f
  npG : NoAttr K CG "parts"
  haG : PySem.W.findIn K (.ref CG) "__class__" = some (some (.builtin "object.__class__"))
  hmG : PySem.W.mroIn K CG (.type "object") = some true
  isG : PySem.W.kitOne K (.ref CG) (.ref CG) = some true
  eqG : PySem.W.findIn K (.ref CG) "__eq__" = some (some (.ref d_Guesser_eq.f))
  neG : PySem.W.findIn K (.ref CG) "__ne__" = some (some (.builtin "object.__ne__"))
  feG : PySem.W.isFn K (.ref d_Guesser_eq.f) = true
  a_Guesser_signs : Addr
  p_Guesser_signs : PropOf K CG "signs" a_Guesser_signs d_Guesser_signs.f
  a_Guesser_size : Addr
  p_Guesser_size : PropOf K CG "size" a_Guesser_size d_Guesser_size.f
  a_Guesser_begins : Addr
  p_Guesser_begins : PropOf K CG "begins" a_Guesser_begins d_Guesser_begins.f
  a_Guesser_steps : Addr
  p_Guesser_steps : PropOf K CG "steps" a_Guesser_steps d_Guesser_steps.f
  a_Guesser_goals : Addr
  p_Guesser_goals : PropOf K CG "goals" a_Guesser_goals d_Guesser_goals.f
  hn : PySem.W.specialIn K (.builtin "object.__class__") "__get__" = some (some (.builtin "getset_descriptor.__get__"))
  htk : PySem.W.takesIn K (.builtin "object.__class__") = some true
  g_MOST_SIGNS : ∃ t, mg "MOST_SIGNS" = some (.int 8 t)
  g_MOST_STANDS : ∃ t, mg "MOST_STANDS" = some (.int 200 t)
  g_MOST_GUESSED : ∃ t, mg "MOST_GUESSED" = some (.int 12 t)
  g_MOST_ROW : ∃ t, mg "MOST_ROW" = some (.int 200 t)
  g_ALPHABET : ∃ t, mg "ALPHABET" = some (.str "abcdefgh" t)
  z_isinstance : mg "isinstance" = none
  z_len : mg "len" = none
  z_all : mg "all" = none
  z_any : mg "any" = none
  z_range : mg "range" = none
  z_enumerate : mg "enumerate" = none
  z_sorted : mg "sorted" = none
  z_set : mg "set" = none
  z_list : mg "list" = none
  z_tuple : mg "tuple" = none
  z_int : mg "int" = none
  z_bool : mg "bool" = none
  z_str : mg "str" = none
  z_max : mg "max" = none
  z_min : mg "min" = none
  z_abs : mg "abs" = none
  z_divmod : mg "divmod" = none
  z_repr : mg "repr" = none
end K14
set_option maxHeartbeats 4000000
namespace K14
open PySem L2 Evl

section
variable {K : PySem.W.Frag} {σ : L2.St} {H H' : Hp} {ta tb tc te : TE} {x y z v : V}
/-- a value's type as isinstance sees it stays as the heap grows -/
theorem tyx_ex {t : Value} (e : Ex H H') (h : TyX K H x t) : TyX K H' x t := by
  cases h with
  | base b =>
    refine .base ?_
    cases b with
    | non => exact .non
    | bl => exact .bl _
    | int => exact .int _
    | str => exact .str _
    | flt => exact .flt _
    | lst q => exact .lst (e _ _ q)
    | frz q => exact .frz (e _ _ q)
    | tup q => exact .tup (e _ _ q)
    | dK q => exact .dK (e _ _ q)
    | dT q => exact .dT (e _ _ q)
    | ins q c1 c2 c3 c4 c5 => exact .ins (e _ _ q) c1 c2 c3 c4 c5
  | byt => exact .byt _
  | set q => exact .set (e _ _ q)
  | kList q c => exact .kList q c
  | kTuple q c => exact .kTuple q c
  | kDict q c => exact .kDict q c
  | fTuple q => exact .fTuple (e _ _ q)
  | fDict q => exact .fDict (e _ _ q)
theorem rc_isi {c : V} {t u : Value} {b : Bool} (hc : ClsV c u) (ht : TyX K H x t) (hk : PySem.W.kitOne K t u = some b) : RC (rIsi K) [x, c] H (.bl b) :=
  fun H1 e _ q => ⟨x, c, t, u, b, rfl, hc, tyx_ex e ht, hk, q H1 (Ex.refl H1)⟩
theorem rc_isiInt {i : Int} : RC (rIsi K) [.int i, .ty "int"] H (.bl true) := rc_isi (.ty _) (.base (.int i)) (kit_ty (by decide +kernel))
theorem rc_isiBool {i : Int} : RC (rIsi K) [.int i, .ty "bool"] H (.bl false) := rc_isi (.ty _) (.base (.int i)) (kit_ty (by decide +kernel))
theorem rc_isiStr {s : Str} : RC (rIsi K) [.str s, .ty "str"] H (.bl true) := rc_isi (.ty _) (.base (.str s)) (kit_ty (by decide +kernel))
theorem rc_isiTup {a : Addr} {xs : List V} (h : H a = some (.tup xs)) : RC (rIsi K) [.ref a, .ty "tuple"] H (.bl true) := rc_isi (.ty _) (.base (.tup h)) (kit_ty (by decide +kernel))
theorem ev_chain {r r' : R2} {b c : Bool} (ha : Ev ta σ H x) (hb : Ev tb σ H y) (h1 : RV r x y H (.bl b)) (hc : b = true → Ev tc σ H z) (h2 : b = true → RV r' y z H (.bl c)) :
    Ev (tChain r r' ta tb tc) σ H (.bl (b && c)) := fun H1 e Q q =>
  ha H1 e _ fun H2 e2 => hb H2 (e.trans e2) _ fun H3 e3 => h1 H3 ((e.trans e2).trans e3) _ fun H4 e4 => ⟨b, rfl, by
    cases b with
    | true =>
      show tc σ H4 _
      exact hc rfl H4 (((e.trans e2).trans e3).trans e4) _ fun H5 e5 => h2 rfl H5 ((((e.trans e2).trans e3).trans e4).trans e5) Q fun H6 e6 => q H6 ((((e2.trans e3).trans e4).trans e5).trans e6)
    | false =>
      show Q (.bl false) H4
      exact q H4 ((e2.trans e3).trans e4)⟩
theorem rc_len {p : Addr} {xs : List V} (h : SqL K H p xs ∨ SqT K H p xs) : RC (fun vs H Q => ∃ p ys, vs = [.ref p] ∧ (SqL K H p ys ∨ SqT K H p ys) ∧ Q (.int ys.length) H) [.ref p] H (.int xs.length) :=
  fun H1 e _ q => ⟨p, xs, rfl, h.imp (ex_l e) (ex_t e), q H1 (Ex.refl H1)⟩
/-! ### comprehensions without tests -/
def Cm (H : Hp) (v : Nat → V) (D : Addr) (i : Nat) (H' : Hp) : Prop := H D = none ∧ Ex H H' ∧ H' D = some (.lst ((List.range i).map v))
theorem cm_next {v : Nat → V} {D : Addr} {i : Nat} {σ2 : L2.St} (p : Cm H v D i H') (hi : i < 50000) (he : Ev te σ2 H (v i)) :
    te σ2 H' fun y H4 => ∃ acc, H4 D = some (.lst acc) ∧ acc.length < sizeLine ∧ Cm H v D (i + 1) (upd H4 D (.lst (acc ++ [y]))) := by
  obtain ⟨p1, p2, p3⟩ := p
  refine he H' p2 _ fun H4 e4 => ⟨_, e4 _ _ p3, sz_lt (by simp; omega), p1, Ex.mut (p2.trans e4) p1, ?_⟩
  rw [List.range_succ, List.map_append]
  exact upd_same
theorem el_cT {a : Addr} {xs : List V} {tl : TE} {j : Nat} {vs : List Nat} (v : Nat → V) (h : Ev tl σ H (.ref a)) (hx : SqT K H a xs) (hz : xs.length ≤ 40000) (hw : ∀ x, wipe ((wipe σ vs).set j (some x)) vs = wipe σ vs)
    (he : ∀ (i : Nat) (x : V) H1, Ex H H1 → xs[i]? = some x → Ev te ((wipe σ vs).set j (some x)) H1 (v i)) : EvL (tLc (iTup K tl) (gName j) tYes te vs) σ H ((List.range xs.length).map v) := fun H0 e Q q =>
  h H0 e _ fun H1 e1 => ⟨a, rfl, ⟨xs, ex_t (e.trans e1) hx⟩, fun D hD =>
    lc_tup (xs := xs) (Cm H1 v D) ⟨hD, Ex.new hD, upd_same⟩ (fun i H2 _ p => ex_t ((e.trans e1).trans p.2.1) hx)
      (fun i x H2 hi p => ⟨hw x, cm_next p (by have := (List.getElem?_eq_some_iff.mp hi).1; omega) (he i x H1 (e.trans e1) hi)⟩) (fun H2 p => q D H2 (fresh_back e1 p.1) (e1.trans p.2.1) p.2.2)⟩
theorem el_cL {a : Addr} {xs : List V} {tl : TE} {j : Nat} {vs : List Nat} (v : Nat → V) (h : Ev tl σ H (.ref a)) (hx : SqL K H a xs) (hz : xs.length ≤ 40000) (hw : ∀ x, wipe ((wipe σ vs).set j (some x)) vs = wipe σ vs)
    (he : ∀ (i : Nat) (x : V) H1, Ex H H1 → xs[i]? = some x → Ev te ((wipe σ vs).set j (some x)) H1 (v i)) : EvL (tLc (iList K tl) (gName j) tYes te vs) σ H ((List.range xs.length).map v) := fun H0 e Q q =>
  h H0 e _ fun H1 e1 => ⟨a, rfl, ⟨xs, ex_l (e.trans e1) hx⟩, fun D hD =>
    lc_list (xs := xs) (Cm H1 v D) ⟨hD, Ex.new hD, upd_same⟩ (fun i H2 _ p => ex_l ((e.trans e1).trans p.2.1) hx)
      (fun i x H2 hi p => ⟨hw x, cm_next p (by have := (List.getElem?_eq_some_iff.mp hi).1; omega) (he i x H1 (e.trans e1) hi)⟩) (fun H2 p => q D H2 (fresh_back e1 p.1) (e1.trans p.2.1) p.2.2)⟩
theorem el_cR {ta : TA} {j : Nat} {vs : List Nat} {n : Int} (v : Nat → V) (h : EvA ta σ H [.int n]) (hn : n ≤ 40000 ∧ -40000 ≤ n) (hw : ∀ x, wipe ((wipe σ vs).set j (some x)) vs = wipe σ vs)
    (he : ∀ (i : Nat) H1, Ex H H1 → (i : Int) < n → Ev te ((wipe σ vs).set j (some (.int (i : Int)))) H1 (v i)) : EvL (tLc (iRng1 ta) (gName j) tYes te vs) σ H ((List.range n.toNat).map v) := fun H0 e Q q =>
  h H0 e _ fun H1 e1 => ⟨n, rfl, by omega, by omega, fun D hD =>
    lc_range (lo := 0) (n := n.toNat) (Cm H1 v D) ⟨hD, Ex.new hD, upd_same⟩
      (fun i H2 hi p => by
        have e0 : (0 : Int) + (i : Int) = (i : Int) := Int.zero_add _
        rw [e0]
        exact ⟨hw _, cm_next p (by omega) (he i H1 (e.trans e1) (by omega))⟩) (fun H2 p => q D H2 (fresh_back e1 p.1) (e1.trans p.2.1) p.2.2)⟩
/-- all, any of a new list of truth values -/
theorem ev_allN {xs : List V} (h : EvL te σ H xs) (ht : ∀ x ∈ xs, x = .bl true) : Ev (tCB (rAll K) (tCons te tNil)) σ H (.bl true) := fun H1 e Q q =>
  h H1 e _ fun p H2 _ e2 h2 => ⟨p, xs.map fun _ => true, rfl, sq_of (by
    rw [h2, List.map_map]
    refine congrArg (fun l => some (HO.lst l)) ?_
    exact (List.map_id xs).symm.trans (List.map_congr_left fun x hx => ht x hx)), by
    have : (xs.map fun _ => true).all id = true := by simp
    rw [this]
    exact q H2 e2⟩
theorem map_all {n : Nat} {v : Nat → V} (h : ∀ i, i < n → v i = .bl true) : ∀ x ∈ (List.range n).map v, x = .bl true := fun x hx => by
  obtain ⟨i, hi, rfl⟩ := List.mem_map.mp hx
  exact h i (List.mem_range.mp hi)
theorem yesT {A B : Hp → Prop} (h : A H) : tYes σ H (fun b H1 => if b = true then A H1 else B H1) := by
  show (if true = true then A H else B H)
  rw [if_pos rfl]
  exact h
/-- all(..) of two clauses over a tuple of tuples, each element true -/
theorem ev_all2T {a : Addr} {ps : List Addr} {tl : TE} {j j1 : Nat} {vs vs1 : List Nat} (h : Ev tl σ H (.ref a)) (hx : SqT K H a (ps.map V.ref)) (hz : ps.length ≤ 200)
    (hr : ∀ p ∈ ps, ∃ ys, H p = some (.tup ys) ∧ ys.length ≤ 100) (hj : j < σ.length) (hw : ∀ x, wipe ((wipe σ vs).set j (some x)) vs = wipe σ vs) (hw1 : ∀ x y, wipe ((wipe ((wipe σ vs).set j (some x)) vs1).set j1 (some y)) vs1 = wipe ((wipe σ vs).set j (some x)) vs1)
    (he : ∀ (p : Addr) (ys : List V) (k : Nat) (y : V) H1, Ex H H1 → p ∈ ps → H p = some (.tup ys) → ys[k]? = some y → Ev te ((wipe ((wipe σ vs).set j (some (.ref p))) vs1).set j1 (some y)) H1 (.bl true)) :
    Ev (tCB (rAll K) (tCons (tLc2 (iTup K tl) (gName j) tYes (iTup K (tVar j)) (gName j1) tYes te vs vs1) tNil)) σ H (.bl true) := fun H0 e Q q =>
  h H0 e _ fun H1 e1 => ⟨a, rfl, ⟨_, ex_t (e.trans e1) hx⟩, fun D hD => by
    refine ⟨fun i m H2 => m = ps.length - i ∧ i ≤ ps.length ∧ Ex H1 H2 ∧ ∃ zs, H2 D = some (.lst zs) ∧ (∀ z ∈ zs, z = .bl true) ∧ zs.length ≤ i * 100, ⟨_, rfl, Nat.zero_le _, Ex.new hD, [], upd_same, (fun z hz => by cases hz), Nat.zero_le _⟩, ?_⟩
    rintro i m H2 ⟨rfl, hi, e2, zs, hD2, hzs, hl⟩
    have hx2 := ex_t ((e.trans e1).trans e2) hx
    by_cases hlt : i < ps.length
    · refine .inr ⟨⟨_, _, hx2, by rw [List.getElem?_map, List.getElem?_eq_getElem hlt]; rfl⟩, _, fun H3 h3 => ⟨_, (by omega : ps.length - (i + 1) < _), rfl, hlt, h3⟩, fun x H3 y3 => ?_⟩
      obtain ⟨rfl, y3⟩ := y3
      have hp := y3 _ hx2
      rw [List.getElem?_map, List.getElem?_eq_getElem hlt] at hp
      obtain rfl : V.ref ps[i] = x := Option.some.inj hp
      have hm : ps[i] ∈ ps := List.getElem_mem hlt
      obtain ⟨ys, hys, hyl⟩ := hr _ hm
      refine ⟨hw _, ?_⟩
      refine yesT ?_
      refine ⟨_, by rw [List.getElem?_set_self (by rw [wipe_length]; exact hj)], _, rfl, ⟨_, st_of (((e.trans e1).trans e2) _ _ hys)⟩, ?_⟩
      refine ⟨fun k m H4 => m = ys.length - k ∧ k ≤ ys.length ∧ Ex H1 H4 ∧ ∃ zs, H4 D = some (.lst zs) ∧ (∀ z ∈ zs, z = .bl true) ∧ zs.length ≤ i * 100 + k, ⟨_, rfl, Nat.zero_le _, e2, zs, hD2, hzs, hl⟩, ?_⟩
      rintro k m H4 ⟨rfl, hk, e4, zs4, hD4, hzs4, hl4⟩
      have hy4 := st_of (K := K) (((e.trans e1).trans e4) _ _ hys)
      by_cases hkt : k < ys.length
      · refine .inr ⟨⟨_, _, hy4, List.getElem?_eq_getElem hkt⟩, _, fun H5 h5 => ⟨_, (by omega : ys.length - (k + 1) < _), rfl, hkt, h5⟩, fun y H5 y5 => ?_⟩
        obtain ⟨rfl, y5⟩ := y5
        have hyk := y5 _ hy4
        refine ⟨hw1 _ _, ?_⟩
        refine yesT ?_
        refine he _ ys k y H5 ((e.trans e1).trans e4) hm hys hyk H5 (Ex.refl _) _ fun H6 e6 => ⟨zs4, e6 _ _ hD4, sz_lt (by omega), Ex.mut (e4.trans e6) hD, _, upd_same, fun z hz => ?_, by rw [List.length_append, List.length_singleton]; omega⟩
        rcases List.mem_append.mp hz with hz | hz
        · exact hzs4 z hz
        · exact List.mem_singleton.mp hz
      · refine .inl ⟨⟨_, hy4, by omega⟩, e4, zs4, hD4, hzs4, by omega⟩
    · refine .inl ⟨⟨_, hx2, by rw [List.length_map]; omega⟩, D, zs.map fun _ => true, rfl, sq_of ?_, ?_⟩
      · rw [hD2, List.map_map]
        refine congrArg (fun l => some (HO.lst l)) ?_
        exact (List.map_id zs).symm.trans (List.map_congr_left fun x hx => hzs x hx)
      · have : (zs.map fun _ => true).all id = true := by simp
        rw [this]
        exact q H2 (e1.trans e2)⟩
end

/-! ### rules with the written part said -/
section
variable {X : Cx} {tg l : Expr} {tl : TE} (K : PySem.W.Frag)
theorem callRK {f : Value} {r : PySem.W.Frag → List V → Hp → VK → Prop} (h : CallR X f (r X.K)) (e : X.K = K := by rfl) : CallR X f (r K) := e ▸ h
theorem ixRK {r : PySem.W.Frag → R2} (h : IxR X (r X.K)) (e : X.K = K := by rfl) : IxR X (r K) := e ▸ h
theorem opRK {f : Value → Value → Sem Value} {r : PySem.W.Frag → R2} (h : OpR X f (r X.K)) (e : X.K = K := by rfl) : OpR X f (r K) := e ▸ h
theorem slRK {r : PySem.W.Frag → V → Option Int → Option Int → Hp → VK → Prop} (h : SlR X (r X.K)) (e : X.K = K := by rfl) : SlR X (r K) := e ▸ h
theorem k_ixT (e : X.K = K := by rfl) : IxR X (rIxT K) := ixRK K ix_tup e
theorem k_ixL (e : X.K = K := by rfl) : IxR X (rIxL K) := ixRK K ix_list e
theorem k_piT (hl : PE X l tl) (e : X.K = K := by rfl) : PI X tg l (iTup K tl) := by
  subst e
  exact pi_tup hl
theorem k_piL (hl : PE X l tl) (e : X.K = K := by rfl) : PI X tg l (iList K tl) := by
  subst e
  exact pi_list hl
theorem k_isi (e : X.K = K := by rfl) : CallR X (.builtin "isinstance") (rIsi K) := callRK K call_isi e
theorem k_all (hc : X.calm = true) (e : X.K = K := by rfl) : CallR X (.builtin "all") (rAll K) := callRK K (cr_all hc) e
theorem k_any (hc : X.calm = true) (e : X.K = K := by rfl) : CallR X (.builtin "any") (rAny K) := callRK K (cr_any hc) e
def rLenQ : List V → Hp → VK → Prop := fun vs H Q => ∃ p ys, vs = [.ref p] ∧ (SqL K H p ys ∨ SqT K H p ys) ∧ Q (.int (ys.length : Int)) H
theorem k_len (e : X.K = K := by rfl) : CallR X (.builtin "len") (rLenQ K) := by
  subst e
  exact call_len_seq
def rListQ : List V → Hp → VK → Prop := fun xs H Q => ∃ p ys, xs = [.ref p] ∧ (SqL K H p ys ∨ SqT K H p ys) ∧ ∀ l, H l = none → Q (.ref l) (upd H l (.lst ys))
theorem k_list (e : X.K = K := by rfl) : CallR X (.type "list") (rListQ K) := by
  subst e
  exact call_list_of
def rTupQ : List V → Hp → VK → Prop := fun xs H Q => ∃ p ys, xs = [.ref p] ∧ ((SqL K H p ys ∧ ∀ l, H l = none → Q (.ref l) (upd H l (.tup ys))) ∨ (SqT K H p ys ∧ Q (.ref p) H))
theorem k_tuple (e : X.K = K := by rfl) : CallR X (.type "tuple") (rTupQ K) := by
  subst e
  exact call_tuple_of
theorem k_inS (e : X.K = K := by rfl) : OpR X (compareOp .In) (rIn K false) := opRK K (r := fun K => rIn K false) op_in_seq e
theorem k_niS (e : X.K = K := by rfl) : OpR X (compareOp .NotIn) (rIn K true) := opRK K (r := fun K => rIn K true) op_notIn_seq e
theorem k_eqD (hu : X.A.units + 64 < cLine) (e : X.K = K := by rfl) : OpR X (compareOp .Eq) (rEqD K) := opRK K (op_eqD hu) e
theorem k_neD (hu : X.A.units + 64 < cLine) (e : X.K = K := by rfl) : OpR X (compareOp .NotEq) (rNeD K) := opRK K (op_neD hu) e
theorem k_slL (e : X.K = K := by rfl) : SlR X (rSlL K) := slRK K sl_list e
end
section
variable {K : PySem.W.Frag} {σ : L2.St} {H : Hp}
theorem rc_lenQ {p : Addr} {xs : List V} (h : SqL K H p xs ∨ SqT K H p xs) : RC (rLenQ K) [.ref p] H (.int (xs.length : Int)) :=
  fun H1 e _ q => ⟨p, xs, rfl, h.imp (ex_l e) (ex_t e), q H1 (Ex.refl H1)⟩
end

theorem get_map {α β : Type} {l : List α} {f : α → β} {i : Nat} {x : β} (h : (l.map f)[i]? = some x) : ∃ m, l[i]? = some m ∧ x = f m := by
  rw [List.getElem?_map] at h
  obtain ⟨m, h1, h2⟩ := Option.map_eq_some_iff.mp h
  exact ⟨m, h1, h2.symm⟩
theorem map_get {α β : Type} {l : List α} (f : α → β) {i : Nat} {m : α} (h : l[i]? = some m) : (l.map f)[i]? = some (f m) := by
  rw [List.getElem?_map, h] <;> rfl

section
variable {K : PySem.W.Frag} {σ : L2.St} {H : Hp} {te tl : TE}
/-- a comprehension over the signs of a text -/
theorem el_cS {z : Str} {j : Nat} {vs : List Nat} (v : Nat → V) (h : Ev tl σ H (.str z)) (hz : z.cps.size ≤ 40000) (hw : ∀ x, wipe ((wipe σ vs).set j (some x)) vs = wipe σ vs)
    (he : ∀ (i c : Nat) H1, Ex H H1 → z.cps[i]? = some c → Ev te ((wipe σ vs).set j (some (.str ⟨#[c]⟩))) H1 (v i)) : EvL (tLc (iStr tl) (gName j) tYes te vs) σ H ((List.range z.cps.size).map v) := fun H0 e Q q =>
  h H0 e _ fun H1 e1 => ⟨z, rfl, fun D hD =>
    lc_it walk_str (Cm H1 v D) ⟨hD, Ex.new hD, upd_same⟩ (fun _ _ _ _ => True.intro)
      (fun i x H2 H3 hi p y => by
        obtain ⟨rfl, c, hc, rfl⟩ := y
        exact ⟨hw _, cm_next p (by omega) (he i c H1 (e.trans e1) hc)⟩) (fun H2 p => q D H2 (fresh_back e1 p.1) (e1.trans p.2.1) p.2.2)⟩
theorem ev_slS {to tp : TO} {z : Str} {lo hi : Option Int} (h : Ev te σ H (.str z)) (h1 : EvO to σ H lo) (h2 : EvO tp σ H hi) (hz : z.length ≤ 100000) : Ev (tSl rSlS te to tp) σ H (.str (cutS z lo hi)) := fun H1 e _ q =>
  h H1 e _ fun H2 e2 => h1 H2 (e.trans e2) _ fun H3 e3 => h2 H3 ((e.trans e2).trans e3) _ fun H4 e4 => ⟨z, rfl, sz_of hz, q H4 ((e2.trans e3).trans e4)⟩
def rInG : R2 := fun x y H Q => ∃ (c : Nat) (z : Str), x = .str ⟨#[c]⟩ ∧ y = .str z ∧ Q (.bl (decide (c ∈ z.cps.toList))) H
theorem k_inG {X : Cx} : OpR X (compareOp .In) rInG := op_in_sign
theorem rv_inG {c : Nat} {z : Str} : RV rInG (.str ⟨#[c]⟩) (.str z) H (.bl (decide (c ∈ z.cps.toList))) := fun H1 _ _ q => ⟨c, z, rfl, rfl, q H1 (Ex.refl H1)⟩
end
/-- the first w letters -/
def lets (w : Nat) : List Nat := (List.range w).map (97 + ·)
theorem alpha_cut (w : Nat) (h : w ≤ 8) : cutS "abcdefgh" none (some (w : Int)) = ⟨(lets w).toArray⟩ := by
  have q : ∀ w : Fin 9, cutS "abcdefgh" none (some ((w : Nat) : Int)) = ⟨(lets (w : Nat)).toArray⟩ := by decide +kernel
  exact q ⟨w, by omega⟩
/-- a row of signs as a text -/
def rowS (r : List Nat) : Str := ⟨(r.map (97 + ·)).toArray⟩
/-- a goal as a value -/
def gV : Option Nat → V
  | none => .non
  | some k => .int k
structure Wf (w : Nat) (arr : List (List (Option Nat))) : Prop where
  ne : 1 ≤ arr.length
  wid : ∀ r ∈ arr, r.length = w
  bnd : ∀ r ∈ arr, ∀ k, some k ∈ r → k < arr.length
/-- the arrows as a tuple of tuples -/
def ArrT (H : Hp) (a : Addr) (arr : List (List (Option Nat))) : Prop :=
  ∃ ps : List Addr, H a = some (.tup (ps.map V.ref)) ∧ ps.length = arr.length ∧ ∀ (i : Nat) p r, ps[i]? = some p → arr[i]? = some r → H p = some (.tup (r.map gV))
theorem ArrT.ex {H H' : Hp} {a : Addr} {arr : List (List (Option Nat))} (h : ArrT H a arr) (e : Ex H H') : ArrT H' a arr := by
  obtain ⟨ps, h1, h2, h3⟩ := h
  exact ⟨ps, e _ _ h1, h2, fun i p r a b => e _ _ (h3 i p r a b)⟩
end K14
set_option maxHeartbeats 4000000
namespace K14
open PySem L2 Evl
local macro_rules | `(tactic| walk_at "ev") => `(tactic| repeat' (first
  | exact ev_var rfl | exact ev_c | exact ea_nil | apply ea_cons | exact rv_I0 | apply ev_op | apply ev_cb | apply ev_un | exact ru_neg
  | exact rc_isiInt | exact rc_isiBool | exact rc_isiStr))
section
variable {P : Program} {w : World} {K : PySem.W.Frag} {mg : Str → Option Value} {base : Heap}
def sp_is_number : Sp := fun vs H Q _ => ∃ n lo hi : Int, vs = [.int n, .int lo, .int hi] ∧ ∀ H', Ex H H' → Q (.bl (decide (lo ≤ n ∧ n ≤ hi))) H'
theorem ok_is_number (T : Tx K mg) : FnOk P w K mg base CX0 1 T.d_is_number.f T.d_is_number.fd ["value", "low", "high"] sp_is_number := by
  refine T.d_is_number.F.ok sc_is_number (fun vs H Q E h => ?_) (fun cdv A outer s H vs Q E hr h => ?_)
  · obtain ⟨n, lo, hi, rfl, _⟩ := h
    rfl
  · obtain ⟨n, lo, hi, rfl, k⟩ := h
    refine ⟨_, (pss_one (ps_ret (pe_and (pe_callB (k_isi K) (by rfl) T.z_isinstance (by decide +kernel) (pa_cons (pv 0) (pa_cons (pe_bltn (v := .ty "int") (by rfl) T.z_int (by decide +kernel) rfl) pa_nil))) (pe_and (pe_not (pe_callB (k_isi K) (by rfl) T.z_isinstance (by decide +kernel) (pa_cons (pv 0) (pa_cons (pe_bltn (v := .ty "bool") (by rfl) T.z_bool (by decide +kernel) rfl) pa_nil)))) (pe_one (pe_chain op_le op_le (pv 1) (pv 0) (pv 2))))))), ?_⟩
    refine s_ret (v := .bl (decide (lo ≤ n ∧ n ≤ hi))) (ev_is (ev_andV (by walk_at "ev") fun _ => ev_andV (ev_notV (by walk_at "ev")) fun _ => ev_chain (by walk_at "ev") (by walk_at "ev") rv_I0 (fun _ => by walk_at "ev") (fun _ => rv_I0)) (by simp)) k
theorem spv_is_number {n lo hi : Int} {H : Hp} : SpV sp_is_number ([.int n, .int lo, .int hi] ++ []) H (.bl (decide (lo ≤ n ∧ n ≤ hi))) := fun H1 _ Q q E => ⟨n, lo, hi, rfl, q⟩
theorem spv_is_numberT {n lo hi : Int} {H : Hp} (h : lo ≤ n ∧ n ≤ hi) : SpV sp_is_number ([.int n, .int lo, .int hi] ++ []) H (.bl true) := fun H1 _ Q q E => ⟨n, lo, hi, rfl, by rw [decide_eq_true h]; exact q⟩

/-- None or a stand below a number -/
def GoalV (n : Nat) (v : V) : Prop := v = .non ∨ ∃ k : Nat, v = .int k ∧ k < n
def sp_is_goal : Sp := fun vs H Q _ => ∃ (v : V) (n : Nat), vs = [v, .int n] ∧ GoalV n v ∧ ∀ H', Ex H H' → Q (.bl true) H'
theorem ok_is_goal (T : Tx K mg) : FnOk P w K mg base CX0 2 T.d_is_goal.f T.d_is_goal.fd ["value", "size"] sp_is_goal := by
  refine T.d_is_goal.F.ok sc_is_goal (fun vs H Q E h => ?_) (fun cdv A outer s H vs Q E hr h => ?_)
  · obtain ⟨v, n, rfl, _⟩ := h
    rfl
  · obtain ⟨v, n, rfl, hv, k⟩ := h
    refine ⟨_, (pss_one (ps_ret (pe_or (pe_cmpR op_isN (pv 0) pe_non (nomark _)) (pe_one (pe_call (ok_is_number T) (hr.mono (by decide)) rfl T.d_is_number.g T.d_is_number.F.kp T.d_is_number.b .nil pass0 (pa_cons (pv 0) (pa_cons pe_int (pa_cons (pe_op op_sub (pv 1) pe_int) pa_nil)))))))), ?_⟩
    refine s_ret (v := .bl true) ?_ k
    rcases hv with rfl | ⟨m, rfl, hm⟩
    · exact ev_is (ev_orV (ev_op (ev_var rfl) ev_c (rv_val (z := .bl true) fun H1 _ Q q => ⟨rfl, q⟩)) (by intro h; cases h) (b := true)) rfl
    · exact ev_is (ev_orV (ev_op (ev_var rfl) ev_c (rv_val (z := .bl false) fun H1 _ Q q => ⟨rfl, q⟩)) (fun _ => ev_call (by walk_at "ev") (spv_is_numberT (by omega)))) rfl
theorem spv_is_goal {v : V} {n : Nat} {H : Hp} (h : GoalV n v) : SpV sp_is_goal ([v, .int n] ++ []) H (.bl true) := fun H1 _ Q q E => ⟨v, n, rfl, h, q⟩

def sp_are_stands : Sp := fun vs H Q _ => ∃ (a : Addr) (ns : List Nat) (n : Nat), vs = [.ref a, .int n] ∧ H a = some (.tup (ns.map fun (k : Nat) => V.int k)) ∧ ns.Pairwise (· < ·) ∧ (∀ k ∈ ns, k < n) ∧ ns.length ≤ 1000 ∧ ∀ H', Ex H H' → Q (.bl true) H'
theorem ok_are_stands (T : Tx K mg) : FnOk P w K mg base CX0 2 T.d_are_stands.f T.d_are_stands.fd ["value", "size"] sp_are_stands := by
  refine T.d_are_stands.F.ok sc_are_stands (fun vs H Q E h => ?_) (fun cdv A outer s H vs Q E hr h => ?_)
  · obtain ⟨a, ns, n, rfl, _⟩ := h
    rfl
  · obtain ⟨a, ns, n, rfl, ha, hp, hb, hl, k⟩ := h
    refine ⟨_, (pss_cons (ps_if (PW.pt (pw_or (pt_not (pt_val (pe_callB (k_isi K) (by rfl) T.z_isinstance (by decide +kernel) (pa_cons (pv 0) (pa_cons (pe_bltn (v := .ty "tuple") (by rfl) T.z_tuple (by decide +kernel) rfl) pa_nil))))) (pw_or1 (pt_not (pt_val (pe_callB (k_all K rfl) (by rfl) T.z_all (by decide +kernel) (pa_cons (pe_lc (own := [("stand", 2)]) (g := (gName 2)) rfl sc_are_stands.nd (k_piT K (pv 0)) (blkOk_by (own := [("stand", 2)]) (N := ["value", "size", "stand", "place"]) (sc := defScope s_are_stands) (by decide +kernel)) (fun _ _ _ _ _ => (pg_name (i := 2) sc_are_stands.nd rfl (Or.inl rfl))) (fun _ _ _ _ _ => pts_nil) (fun _ _ _ _ _ => (pe_call (ok_is_number T) (hr.mono (by decide)) rfl T.d_is_number.g T.d_is_number.F.kp T.d_is_number.b .nil pass0 (pa_cons (pv 2) (pa_cons pe_int (pa_cons (pe_op op_sub (pv 1) pe_int) pa_nil)))))) pa_nil))))))) (pss_one (ps_ret pe_bl)) pss_nil)
      (pss_one (ps_ret (pe_callB (k_all K rfl) (by rfl) T.z_all (by decide +kernel) (pa_cons (pe_lc (own := [("place", 3)]) (g := (gName 3)) rfl sc_are_stands.nd (pi_range1 (by rfl) T.z_range (pa_cons (pe_op op_sub (pe_callB (k_len K) (by rfl) T.z_len (by decide +kernel) (pa_cons (pv 0) pa_nil)) pe_int) pa_nil)) (blkOk_by (own := [("place", 3)]) (N := ["value", "size", "stand", "place"]) (sc := defScope s_are_stands) (by decide +kernel)) (fun _ _ _ _ _ => (pg_name (i := 3) sc_are_stands.nd rfl (Or.inl rfl))) (fun _ _ _ _ _ => pts_nil) (fun _ _ _ _ _ => (pe_cmpR op_lt (pe_ix (k_ixT K) (pv 0) (pv 3) (fun _ _ => rfl)) (pe_ix (k_ixT K) (pv 0) (pe_op op_add (pv 3) pe_int) (fun _ _ => rfl)) (nomark _)))) pa_nil))))), ?_⟩
    have hT : ∀ H1, Ex H H1 → SqT K H1 a (ns.map fun (k : Nat) => V.int k) := fun H1 e => st_of (e _ _ ha)
    refine q_when (b := false) (et_is (et_or (et_not (et_B (ev_cb (by walk_at "ev") (rc_isiTup ha)))) fun _ => et_not (et_B (ev_allN (el_cT (fun _ => .bl true) (ev_var rfl) (st_of ha) (by simp; omega) (fun _ => rfl) fun i x H1 e hx => ?_) (map_all fun _ _ => rfl)))) rfl) (fun h => nomatch h) fun _ H1 e1 => ?_
    · obtain ⟨m, hm, rfl⟩ := get_map hx
      have := hb m (List.mem_of_getElem? hm)
      exact ev_call (by walk_at "ev") (spv_is_numberT (by omega))
    · refine s_ret (v := .bl true) (ev_allN (el_cR (fun _ => .bl true) (n := (ns.length : Int) - 1) ?_ (by omega) (fun _ => rfl) fun i H2 e2 hi => ?_) (map_all fun _ _ => rfl)) fun H2 e2 => k _ (e1.trans e2)
      · exact ea_cons (ev_op (ev_cb (ea_cons (ev_var rfl) ea_nil) (rc_lenQ (.inr (st_of (e1 _ _ ha))))) ev_c (by rw [List.length_map]; exact rv_I0)) ea_nil
      · have h0 : i < ns.length := by omega
        have h1 : i + 1 < ns.length := by omega
        have hlt : ns[i] < ns[i + 1] := List.pairwise_iff_getElem.mp hp i (i + 1) h0 h1 (Nat.lt_succ_self i)
        refine ev_is (ev_op (ev_op (ev_var rfl) (ev_var rfl) (rv_ixT (v := .int ns[i]) (st_of ((e1.trans e2) _ _ ha)) (at_of rfl (by rw [List.getElem?_map, List.getElem?_eq_getElem h0]; rfl)))) (ev_op (ev_var rfl) (ev_op (ev_var rfl) ev_c rv_I0) (rv_ixT (v := .int ns[i + 1]) (st_of ((e1.trans e2) _ _ ha)) (at_of (j := i + 1) (by omega) (by rw [List.getElem?_map, List.getElem?_eq_getElem h1]; rfl)))) rv_I0) ?_
        rw [decide_eq_true (by omega)]
theorem spv_are_stands {a : Addr} {ns : List Nat} {n : Nat} {H : Hp} (h1 : H a = some (.tup (ns.map fun (k : Nat) => V.int k))) (h2 : ns.Pairwise (· < ·)) (h3 : ∀ k ∈ ns, k < n) (h4 : ns.length ≤ 1000) : SpV sp_are_stands ([.ref a, .int n] ++ []) H (.bl true) :=
  fun H1 e Q q E => ⟨a, ns, n, rfl, e _ _ h1, h2, h3, h4, q⟩
end
end K14
set_option maxHeartbeats 4000000
namespace K14
open PySem L2 Evl
local macro_rules | `(tactic| walk_at "ev") => `(tactic| repeat' (first
  | exact ev_var rfl | exact ev_c | exact ea_nil | apply ea_cons | exact rv_I0 | apply ev_op | apply ev_cb | apply ev_un | exact ru_neg
  | exact rc_isiInt | exact rc_isiBool | exact rc_isiStr))
section
variable {P : Program} {w : World} {K : PySem.W.Frag} {mg : Str → Option Value} {base : Heap}
theorem goal_of {arr : List (List (Option Nat))} {n : Nat} (h : Wf n arr) {r : List (Option Nat)} (hr : r ∈ arr) {k : Nat} {y : V} (hy : (r.map gV)[k]? = some y) : GoalV arr.length y := by
  obtain ⟨g, hg, rfl⟩ := get_map hy
  cases g with
  | none => exact .inl rfl
  | some m => exact .inr ⟨m, rfl, h.bnd r hr m (List.mem_of_getElem? hg)⟩
def sp_are_arrows : Sp := fun vs H Q _ => ∃ (a : Addr) (arr : List (List (Option Nat))) (n : Nat), vs = [.ref a, .int n] ∧ ArrT H a arr ∧ Wf n arr ∧ arr.length ≤ 200 ∧ n ≤ 8 ∧ ∀ H', Ex H H' → Q (.bl true) H'
theorem ok_are_arrows (T : Tx K mg) : FnOk P w K mg base CX0 3 T.d_are_arrows.f T.d_are_arrows.fd ["value", "signs"] sp_are_arrows := by
  refine T.d_are_arrows.F.ok sc_are_arrows (fun vs H Q E h => ?_) (fun cdv A outer s H vs Q E hr h => ?_)
  · obtain ⟨a, arr, n, rfl, _⟩ := h
    rfl
  · obtain ⟨a, arr, n, rfl, ⟨ps, ha, hlen, hrow⟩, W, hl, hn, k⟩ := h
    refine ⟨_, (pss_cons (ps_if (PW.pt (pw_or (pt_not (pt_val (pe_callB (k_isi K) (by rfl) T.z_isinstance (by decide +kernel) (pa_cons (pv 0) (pa_cons (pe_bltn (v := .ty "tuple") (by rfl) T.z_tuple (by decide +kernel) rfl) pa_nil))))) (pw_or1 (pt_not (pt_chain op_le op_le pe_int (pe_callB (k_len K) (by rfl) T.z_len (by decide +kernel) (pa_cons (pv 0) pa_nil)) (pe_glob (v := .int 200) rfl T.g_MOST_STANDS.choose_spec ⟨_, rfl⟩)))))) (pss_one (ps_ret pe_bl)) pss_nil)
      (pss_cons (ps_if (pt_not (pt_val (pe_callB (k_all K rfl) (by rfl) T.z_all (by decide +kernel) (pa_cons (pe_lc (own := [("row", 2)]) (g := (gName 2)) rfl sc_are_arrows.nd (k_piT K (pv 0)) (blkOk_by (own := [("row", 2)]) (N := ["value", "signs", "row", "goal"]) (sc := defScope s_are_arrows) (by decide +kernel)) (fun _ _ _ _ _ => (pg_name (i := 2) sc_are_arrows.nd rfl (Or.inl rfl))) (fun _ _ _ _ _ => pts_nil) (fun _ _ _ _ _ => (pe_and (pe_callB (k_isi K) (by rfl) T.z_isinstance (by decide +kernel) (pa_cons (pv 2) (pa_cons (pe_bltn (v := .ty "tuple") (by rfl) T.z_tuple (by decide +kernel) rfl) pa_nil))) (pe_one (pe_cmpR op_eq (pe_callB (k_len K) (by rfl) T.z_len (by decide +kernel) (pa_cons (pv 2) pa_nil)) (pv 1) (nomark _)))))) pa_nil)))) (pss_one (ps_ret pe_bl)) pss_nil)
      (pss_one (ps_ret (pe_callB (k_all K rfl) (by rfl) T.z_all (by decide +kernel) (pa_cons (pe_lc2 (own := [("row", 2), ("goal", 3)]) (vs1 := [3]) (g := (gName 2)) (g1 := (gName 3)) rfl sc_are_arrows.nd (k_piT K (pv 0)) (blkOk_by (own := [("row", 2), ("goal", 3)]) (N := ["value", "signs", "row", "goal"]) (sc := defScope s_are_arrows) (by decide +kernel)) (by decide) (fun _ _ _ _ _ => (pg_name (i := 2) sc_are_arrows.nd rfl (Or.inl rfl))) (fun _ _ _ _ _ => pts_nil) (fun _ _ _ _ _ => (k_piT K (pv 2))) (fun _ _ _ _ _ => (pg_name (i := 3) sc_are_arrows.nd rfl (Or.inl rfl))) (fun _ _ _ _ _ => pts_nil) (fun _ _ _ _ _ => (pe_call (ok_is_goal T) (hr.mono (by decide)) rfl T.d_is_goal.g T.d_is_goal.F.kp T.d_is_goal.b .nil pass0 (pa_cons (pv 3) (pa_cons (pe_callB (k_len K) (by rfl) T.z_len (by decide +kernel) (pa_cons (pv 0) pa_nil)) pa_nil))))) pa_nil)))))), ?_⟩
    have hps : ∀ (i : Nat) p, ps[i]? = some p → ∃ r, r ∈ arr ∧ H p = some (.tup (r.map gV)) := fun i p hp => by
      have hi : i < arr.length := by rw [← hlen]; exact (List.getElem?_eq_some_iff.mp hp).1
      exact ⟨arr[i], List.getElem_mem hi, hrow i p _ hp (List.getElem?_eq_getElem hi)⟩
    have one := W.ne
    refine q_when (b := false) (et_is (et_or (et_not (et_B (ev_cb (by walk_at "ev") (rc_isiTup ha)))) fun _ => et_not (et_test (ev_chain ev_c (ev_cb (by walk_at "ev") (rc_lenQ (.inr (st_of ha)))) rv_I0 (fun _ => ev_c) fun _ => rv_I0))) ?_) (fun h => nomatch h) fun _ H1 e1 => ?_
    · simp
      omega
    · refine q_when (b := false) (et_is (et_not (et_B (ev_allN (el_cT (fun _ => .bl true) (ev_var rfl) (st_of (e1 _ _ ha)) (by simp; omega) (fun _ => rfl) fun i x H2 e2 hx => ?_) (map_all fun _ _ => rfl)))) rfl) (fun h => nomatch h) fun _ H2 e2 => ?_
      · obtain ⟨p, hp, rfl⟩ := get_map hx
        obtain ⟨r, hm, hpr⟩ := hps i p hp
        have h2 := (e1.trans e2) _ _ hpr
        refine ev_is (ev_andV (ev_cb (by walk_at "ev") (rc_isiTup h2)) fun _ => ev_op (ev_cb (by walk_at "ev") (rc_lenQ (.inr (st_of h2)))) (ev_var rfl) (rv_eq rfl)) ?_
        rw [List.length_map, W.wid r hm]
        simp
      · refine s_ret (v := .bl true) (ev_all2T (ps := ps) (ev_var rfl) (st_of ((e1.trans e2) _ _ ha)) (by omega) (fun p hp => ?_) (by show 2 < 4; decide) (fun _ => rfl) (fun _ _ => rfl) fun p ys kk y H3 e3 hp hys hy => ?_) fun H3 e3 => k _ ((e1.trans e2).trans e3)
        · obtain ⟨i, hi⟩ := List.mem_iff_getElem?.mp hp
          obtain ⟨r, hm, hpr⟩ := hps i p hi
          exact ⟨_, (e1.trans e2) _ _ hpr, by rw [List.length_map, W.wid r hm]; omega⟩
        · obtain ⟨i, hi⟩ := List.mem_iff_getElem?.mp hp
          obtain ⟨r, hm, hpr⟩ := hps i p hi
          have h4 := (e1.trans e2) _ _ hpr
          have ey : ys = r.map gV := HO.tup.inj (Option.some.inj (hys.symm.trans h4))
          subst ey
          refine ev_call (ea_cons (ev_var rfl) (ea_cons (ev_cb (by walk_at "ev") (rc_lenQ (.inr (st_of ((e1.trans e2).trans e3 _ _ ha))))) ea_nil)) ?_
          rw [List.length_map, hlen]
          exact spv_is_goal (goal_of W hm hy)
end
end K14
set_option maxHeartbeats 4000000
namespace K14
open PySem L2 Evl
local macro_rules | `(tactic| walk_at "ev") => `(tactic| repeat' (first
  | exact ev_var rfl | exact ev_c | exact ea_nil | apply ea_cons | exact rv_I0 | apply ev_op | apply ev_cb | apply ev_un | exact ru_neg
  | exact rc_isiInt | exact rc_isiBool | exact rc_isiStr))
section
variable {P : Program} {w : World} {K : PySem.W.Frag} {mg : Str → Option Value} {base : Heap}
theorem mem_lets {w c : Nat} (h : c < w) : (97 + c) ∈ lets w := List.mem_map.mpr ⟨c, List.mem_range.mpr h, rfl⟩
theorem rowS_get {r : List Nat} {i c : Nat} (h : (rowS r).cps[i]? = some c) : ∃ a, r[i]? = some a ∧ c = 97 + a := by
  have h' : (r.map (97 + ·))[i]? = some c := by simpa [rowS] using h
  obtain ⟨a, h1, h2⟩ := get_map h'
  exact ⟨a, h1, h2⟩
theorem rowS_size (r : List Nat) : (rowS r).cps.size = r.length := by simp [rowS]
theorem rowS_len (r : List Nat) : (rowS r).length = r.length := by
  show (rowS r).cps.size = _
  exact rowS_size r
theorem ev_lenS {σ : L2.St} {H : Hp} {te : TE} {z : Str} (h : Ev te σ H (.str z)) (hz : z.length ≤ 100000) : Ev (tCB (fun xs H Q => ∃ z, xs = [.str z] ∧ z.length ≤ sizeLine ∧ Q (.int z.length) H) (tCons te tNil)) σ H (.int z.length) :=
  fun H1 e Q q => h H1 e _ fun H2 e2 => ⟨z, rfl, sz_of hz, q H2 e2⟩
def sp_is_row : Sp := fun vs H Q _ => ∃ (r : List Nat) (n : Nat), vs = [.str (rowS r), .int n, .int 200] ∧ n ≤ 8 ∧ (∀ a ∈ r, a < n) ∧ r.length ≤ 200 ∧ ∀ H', Ex H H' → Q (.bl true) H'
theorem ok_is_row (T : Tx K mg) : FnOk P w K mg base CX0 1 T.d_is_row.f T.d_is_row.fd ["value", "signs", "most"] sp_is_row := by
  refine T.d_is_row.F.ok sc_is_row (fun vs H Q E h => ?_) (fun cdv A outer s H vs Q E hr h => ?_)
  · obtain ⟨r, n, rfl, _⟩ := h
    rfl
  · obtain ⟨r, n, rfl, hn, hb, hl, k⟩ := h
    refine ⟨_, (pss_cons (ps_if (PW.pt (pw_or (pt_not (pt_val (pe_callB (k_isi K) (by rfl) T.z_isinstance (by decide +kernel) (pa_cons (pv 0) (pa_cons (pe_bltn (v := .ty "str") (by rfl) T.z_str (by decide +kernel) rfl) pa_nil))))) (pw_or1 (pt_not (pt_val (pe_callB (k_all K rfl) (by rfl) T.z_all (by decide +kernel) (pa_cons (pe_lc (own := [("sign", 3)]) (g := (gName 3)) rfl sc_is_row.nd (pi_str (pv 0)) (blkOk_by (own := [("sign", 3)]) (N := ["value", "signs", "most", "sign"]) (sc := defScope s_is_row) (by decide +kernel)) (fun _ _ _ _ _ => (pg_name (i := 3) sc_is_row.nd rfl (Or.inl rfl))) (fun _ _ _ _ _ => pts_nil) (fun _ _ _ _ _ => (pe_cmpR k_inG (pv 3) (pe_slice sl_str (pe_glob (v := .str "abcdefgh") rfl T.g_ALPHABET.choose_spec ⟨_, rfl⟩) po_none (po_some (pv 1))) rfl))) pa_nil))))))) (pss_one (ps_ret pe_bl)) pss_nil)
      (pss_one (ps_ret (pe_or (pe_cmpR op_isN (pv 2) pe_non (nomark _)) (pe_one (pe_cmpR op_le (pe_callB call_len_str (by rfl) T.z_len (by decide +kernel) (pa_cons (pv 0) pa_nil)) (pv 2) (nomark _))))))), ?_⟩
    refine q_when (b := false) (et_is (et_or (et_not (et_B (ev_cb (by walk_at "ev") rc_isiStr))) fun _ => et_not (et_B (ev_allN (el_cS (fun _ => .bl true) (ev_var rfl) (by rw [rowS_size]; omega) (fun _ => rfl) fun i c H1 e hx => ?_) (map_all fun _ _ => rfl)))) rfl) (fun h => nomatch h) fun _ H1 e1 => ?_
    · obtain ⟨a, ha, rfl⟩ := rowS_get hx
      refine ev_is (ev_op (ev_var rfl) (ev_slS ev_c eo_none (eo_some (ev_var rfl)) (by decide)) rv_inG) ?_
      rw [alpha_cut n hn, decide_eq_true]
      simpa using mem_lets (hb a (List.mem_of_getElem? ha))
    · refine s_ret (v := .bl true) (ev_is (ev_orV (ev_op (ev_var rfl) ev_c (rv_val (z := .bl false) fun H1 _ Q q => ⟨rfl, q⟩)) (fun _ => ev_op (ev_lenS (ev_var rfl) (by rw [rowS_len]; omega)) (ev_var rfl) rv_I0)) ?_) fun H2 e2 => k _ (e1.trans e2)
      rw [rowS_len, decide_eq_true (by omega)]
      rfl
theorem spv_is_row {r : List Nat} {n : Nat} {H : Hp} (h1 : n ≤ 8) (h2 : ∀ a ∈ r, a < n) (h3 : r.length ≤ 200) : SpV sp_is_row ([.str (rowS r), .int n, .int 200] ++ []) H (.bl true) := fun H1 _ Q q E => ⟨r, n, rfl, h1, h2, h3, q⟩
def sp_is_signs : Sp := fun vs H Q _ => ∃ n : Nat, vs = [.int n] ∧ 1 ≤ n ∧ n ≤ 8 ∧ ∀ H', Ex H H' → Q (.bl true) H'
theorem ok_is_signs (T : Tx K mg) : FnOk P w K mg base CX0 2 T.d_is_signs.f T.d_is_signs.fd ["value"] sp_is_signs := by
  refine T.d_is_signs.F.ok sc_is_signs (fun vs H Q E h => ?_) (fun cdv A outer s H vs Q E hr h => ?_)
  · obtain ⟨n, rfl, _⟩ := h
    rfl
  · obtain ⟨n, rfl, h1, h2, k⟩ := h
    refine ⟨_, (pss_one (ps_ret (pe_call (ok_is_number T) (hr.mono (by decide)) rfl T.d_is_number.g T.d_is_number.F.kp T.d_is_number.b .nil pass0 (pa_cons (pv 0) (pa_cons pe_int (pa_cons (pe_glob (v := .int 8) rfl T.g_MOST_SIGNS.choose_spec ⟨_, rfl⟩) pa_nil)))))), ?_⟩
    exact s_ret (v := .bl true) (ev_call (by walk_at "ev") (spv_is_numberT (by omega))) k
theorem spv_is_signs {n : Nat} {H : Hp} (h1 : 1 ≤ n) (h2 : n ≤ 8) : SpV sp_is_signs ([.int n] ++ []) H (.bl true) := fun H1 _ Q q E => ⟨n, rfl, h1, h2, q⟩
def sp_check_signs : Sp := fun vs H Q _ => ∃ n : Nat, vs = [.int n] ∧ 1 ≤ n ∧ n ≤ 8 ∧ ∀ H', Ex H H' → Q .non H'
theorem ok_check_signs (T : Tx K mg) : FnOk P w K mg base CX0 3 T.d_check_signs.f T.d_check_signs.fd ["signs"] sp_check_signs := by
  refine T.d_check_signs.F.ok sc_check_signs (fun vs H Q E h => ?_) (fun cdv A outer s H vs Q E hr h => ?_)
  · obtain ⟨n, rfl, _⟩ := h
    rfl
  · obtain ⟨n, rfl, h1, h2, k⟩ := h
    refine ⟨_, (pss_one (ps_if (pt_not (pt_val (pe_call (ok_is_signs T) (hr.mono (by decide)) rfl T.d_is_signs.g T.d_is_signs.F.kp T.d_is_signs.b .nil pass0 (pa_cons (pv 0) pa_nil)))) (pss_one ps_never) pss_nil)), ?_⟩
    exact s_when (b := false) (et_not (et_B (ev_call (by walk_at "ev") (spv_is_signs h1 h2)))) (fun h => nomatch h) fun _ H1 e1 => k _ e1
theorem spv_check_signs {n : Nat} {H : Hp} (h1 : 1 ≤ n) (h2 : n ≤ 8) : SpV sp_check_signs ([.int n] ++ []) H .non := fun H1 _ Q q E => ⟨n, rfl, h1, h2, q⟩
def sp_check_row : Sp := fun vs H Q _ => ∃ (r : List Nat) (n : Nat), vs = [.str (rowS r), .int n] ∧ n ≤ 8 ∧ (∀ a ∈ r, a < n) ∧ r.length ≤ 200 ∧ ∀ H', Ex H H' → Q .non H'
theorem ok_check_row (T : Tx K mg) : FnOk P w K mg base CX0 2 T.d_check_row.f T.d_check_row.fd ["row", "signs"] sp_check_row := by
  refine T.d_check_row.F.ok sc_check_row (fun vs H Q E h => ?_) (fun cdv A outer s H vs Q E hr h => ?_)
  · obtain ⟨r, n, rfl, _⟩ := h
    rfl
  · obtain ⟨r, n, rfl, h1, h2, h3, k⟩ := h
    refine ⟨_, (pss_one (ps_if (pt_not (pt_val (pe_call (ok_is_row T) (hr.mono (by decide)) rfl T.d_is_row.g T.d_is_row.F.kp T.d_is_row.b .nil pass0 (pa_cons (pv 0) (pa_cons (pv 1) (pa_cons (pe_glob (v := .int 200) rfl T.g_MOST_ROW.choose_spec ⟨_, rfl⟩) pa_nil)))))) (pss_one ps_never) pss_nil)), ?_⟩
    exact s_when (b := false) (et_not (et_B (ev_call (by walk_at "ev") (spv_is_row h1 h2 h3)))) (fun h => nomatch h) fun _ H1 e1 => k _ e1
theorem spv_check_row {r : List Nat} {n : Nat} {H : Hp} (h1 : n ≤ 8) (h2 : ∀ a ∈ r, a < n) (h3 : r.length ≤ 200) : SpV sp_check_row ([.str (rowS r), .int n] ++ []) H .non := fun H1 _ Q q E => ⟨r, n, rfl, h1, h2, h3, q⟩
end
end K14
set_option maxHeartbeats 4000000
namespace K14
open PySem L2 Evl
local macro_rules | `(tactic| walk_at "ev") => `(tactic| repeat' (first
  | exact ev_var rfl | exact ev_c | exact ea_nil | apply ea_cons | exact rv_I0 | apply ev_op | apply ev_cb | apply ev_un | exact ru_neg
  | exact rc_isiInt | exact rc_isiBool | exact rc_isiStr))
/-! ### a new object -/
/-- e gives a new object of which R is true -/
def EvR (te : TE) (σ : L2.St) (H : Hp) (R : Hp → Addr → Prop) : Prop := ∀ H1, Ex H H1 → ∀ Q : VK, (∀ p H2, H1 p = none → Ex H1 H2 → R H2 p → Q (.ref p) H2) → te σ H1 Q
def SpR (sp : Sp) (vs : List V) (H : Hp) (R : Hp → Addr → Prop) : Prop := ∀ H1, Ex H H1 → ∀ Q : VK, (∀ p H2, H1 p = none → Ex H1 H2 → R H2 p → Q (.ref p) H2) → ∀ E : XK, sp vs H1 Q E
section
variable {K : PySem.W.Frag} {σ : L2.St} {H H' : Hp} {ta te : TE} {v z : V} {D : Ends} {tz : TS} {R : Hp → Addr → Prop}
theorem EvR.mono (e : Ex H H') (h : EvR te σ H R) : EvR te σ H' R := fun H1 a Q q => h H1 (e.trans a) Q q
theorem er_call {sp : Sp} {dvs vs : List V} {E : XK} {ta : TA} (h : EvA ta σ H vs) (hs : SpR sp (vs ++ dvs) H R) : EvR (tCall sp dvs E ta) σ H R := fun H1 e Q q =>
  h H1 e _ fun H2 e2 => hs H2 (e.trans e2) Q (fun p H3 hp e3 h3 => q p H3 (fresh_back e2 hp) (e2.trans e3) h3) E
theorem s_retR (h : EvR te σ H R) (k : ∀ p H1, H p = none → Ex H H1 → R H1 p → D.rt (.ref p) H1) : tRet te D σ H := h H (Ex.refl H) _ k
theorem q_asgR {i : Nat} (h : EvR te σ H R) (k : ∀ p H1, H p = none → Ex H H1 → R H1 p → tz D (σ.set i (some (.ref p))) H1) : tSeq (tAsg te (gName i)) tz D σ H := h H (Ex.refl H) _ k
theorem er_L {xs : List V} (h : EvL te σ H xs) : EvR te σ H (fun H p => H p = some (.lst xs)) := h
theorem er_U {xs : List V} (h : EvU te σ H xs) : EvR te σ H (fun H p => H p = some (.tup xs)) := h
theorem er_imp {R' : Hp → Addr → Prop} (h : EvR te σ H R) (hi : ∀ H1 p, Ex H H1 → R H1 p → R' H1 p) : EvR te σ H R' := fun H1 e Q q => h H1 e Q fun p H2 hp e2 r => q p H2 hp e2 (hi H2 p (e.trans e2) r)
theorem ev_fld {a C dx : Addr} {fs : List (Str × V)} {f : Str} (h : Ev ta σ H (.ref a)) (ha : H a = some (.ins C dx fs)) (c : Cls K C) (n : NoAttr K C f) (l : fs.lookup f = some v) : Ev (tFld K ta f) σ H v := fun H1 e _ q =>
  h H1 e _ fun H2 e2 => ⟨a, C, dx, fs, v, rfl, (e.trans e2) _ _ ha, c, n, l, q H2 e2⟩
theorem ev_prop {a C dx : Addr} {fs : List (Str × V)} {sp : Sp} {dvs : List V} {E : XK} (h : Ev ta σ H (.ref a)) (ha : H a = some (.ins C dx fs)) (hs : SpV sp (.ref a :: dvs) H z) : Ev (tProp C sp dvs E ta) σ H z := fun H1 e Q q =>
  h H1 e _ fun H2 e2 => ⟨a, dx, fs, rfl, (e.trans e2) _ _ ha, hs H2 (e.trans e2) Q (fun H3 e3 => q H3 (e2.trans e3)) E⟩
end
/-! ### the objects -/
def nV (k : Nat) : V := .int (k : Int)
/-- an instance of the class at C that has the parts xs -/
def PartsAt (C : Addr) (H : Hp) (p : Addr) (xs : List V) : Prop := ∃ dx t, H p = some (.ins C dx [("parts", .ref t)]) ∧ H t = some (.tup xs)
theorem PartsAt.ex {C p : Addr} {H H' : Hp} {xs : List V} (h : PartsAt C H p xs) (e : Ex H H') : PartsAt C H' p xs := by
  obtain ⟨dx, t, h1, h2⟩ := h
  exact ⟨dx, t, e _ _ h1, e _ _ h2⟩
theorem look_parts {t : Addr} : ([("parts", .ref t)] : List (Str × V)).lookup ("parts" : Str) = some (.ref t) := by
  have h := lookup_putF ("parts" : Str) "parts" (.ref t) []
  rw [if_pos rfl] at h
  exact h
/-- stands as a tuple -/
def StT (H : Hp) (a : Addr) (ns : List Nat) : Prop := H a = some (.tup (ns.map fun (k : Nat) => V.int k))
theorem StT.ex {a : Addr} {H H' : Hp} {ns : List Nat} (h : StT H a ns) (e : Ex H H') : StT H' a ns := e _ _ h
/-- a reader -/
structure RdrAt (C : Addr) (H : Hp) (p : Addr) (n : Nat) (arr : List (List (Option Nat))) (ends : List Nat) : Prop where
  at_ : ∃ aa ae, PartsAt C H p [.int n, .ref aa, .ref ae] ∧ ArrT H aa arr ∧ StT H ae ends
theorem RdrAt.ex {C p : Addr} {H H' : Hp} {n : Nat} {arr : List (List (Option Nat))} {ends : List Nat} (h : RdrAt C H p n arr ends) (e : Ex H H') : RdrAt C H' p n arr ends := by
  obtain ⟨aa, ae, h1, h2, h3⟩ := h
  exact ⟨aa, ae, h1.ex e, h2.ex e, h3.ex e⟩
/-- a step: from, its sign (none: without one), to -/
abbrev Stp := Nat × Option Nat × Nat
def sgS : Option Nat → Str
  | none => ⟨#[]⟩
  | some a => ⟨#[97 + a]⟩
def stpV (s : Stp) : List V := [.int (s.1 : Nat), .str (sgS s.2.1), .int (s.2.2 : Nat)]
/-- steps as a tuple of triples -/
def StpT (H : Hp) (a : Addr) (ss : List Stp) : Prop := ∃ ps : List Addr, H a = some (.tup (ps.map V.ref)) ∧ ps.length = ss.length ∧ ∀ (i : Nat) p s, ps[i]? = some p → ss[i]? = some s → H p = some (.tup (stpV s))
theorem StpT.ex {H H' : Hp} {a : Addr} {ss : List Stp} (h : StpT H a ss) (e : Ex H H') : StpT H' a ss := by
  obtain ⟨ps, h1, h2, h3⟩ := h
  exact ⟨ps, e _ _ h1, h2, fun i p r a b => e _ _ (h3 i p r a b)⟩
/-- a guesser -/
structure GsrAt (C : Addr) (H : Hp) (p : Addr) (n m : Nat) (begins : List Nat) (steps : List Stp) (goals : List Nat) : Prop where
  at_ : ∃ ab as ag, PartsAt C H p [.int n, .int m, .ref ab, .ref as, .ref ag] ∧ StT H ab begins ∧ StpT H as steps ∧ StT H ag goals
theorem GsrAt.ex {C p : Addr} {H H' : Hp} {n m : Nat} {begins : List Nat} {steps : List Stp} {goals : List Nat} (h : GsrAt C H p n m begins steps goals) (e : Ex H H') : GsrAt C H' p n m begins steps goals := by
  obtain ⟨ab, as, ag, h1, h2, h3, h4⟩ := h
  exact ⟨ab, as, ag, h1.ex e, h2.ex e, h3.ex e, h4.ex e⟩
section
variable {P : Program} {w : World} {K : PySem.W.Frag} {mg : Str → Option Value} {base : Heap}
def sp_get (C : Addr) (i : Nat) : Sp := fun vs H Q _ => ∃ (p : Addr) (xs : List V) (v : V), vs = [.ref p] ∧ PartsAt C H p xs ∧ xs[i]? = some v ∧ ∀ H', Ex H H' → Q v H'
theorem spv_get {C p : Addr} {i : Nat} {xs : List V} {v : V} {H : Hp} (h : PartsAt C H p xs) (hv : xs[i]? = some v) : SpV (sp_get C i) [.ref p] H v := fun H1 e Q q E => ⟨p, xs, v, rfl, h.ex e, hv, q⟩
theorem ev_get {σ : L2.St} {H : Hp} {ta : TE} {C p : Addr} {i : Nat} {xs : List V} {v : V} {E : XK} (h : Ev ta σ H (.ref p)) (hp : PartsAt C H p xs) (hv : xs[i]? = some v) : Ev (tProp C (sp_get C i) [] E ta) σ H v := by
  obtain ⟨dx, t, h1, h2⟩ := id hp
  exact ev_prop h h1 (spv_get hp hv)

theorem ok_Reader_signs (T : Tx K mg) : FnOk P w K mg base CX0 1 T.d_Reader_signs.f T.d_Reader_signs.fd ["self"] (sp_get T.CR 0) := by
  refine T.d_Reader_signs.F.ok sc_Reader_signs (fun vs H Q E h => ?_) (fun cdv A outer s H vs Q E hr h => ?_)
  · obtain ⟨p, xs, v, rfl, _⟩ := h
    rfl
  · obtain ⟨p, xs, v, rfl, ⟨dx, t, h1, h2⟩, hv, k⟩ := h
    refine ⟨_, (pss_one (ps_ret (pe_ix (k_ixT K) (pe_fld (pv 0) rfl) pe_int (fun _ _ => rfl)))), ?_⟩
    exact s_ret (v := v) (ev_op (ev_fld (ev_var rfl) h1 T.clR T.npR look_parts) ev_c (rv_ixT (st_of h2) (at_of (j := 0) rfl hv))) k
theorem ok_Reader_arrows (T : Tx K mg) : FnOk P w K mg base CX0 1 T.d_Reader_arrows.f T.d_Reader_arrows.fd ["self"] (sp_get T.CR 1) := by
  refine T.d_Reader_arrows.F.ok sc_Reader_arrows (fun vs H Q E h => ?_) (fun cdv A outer s H vs Q E hr h => ?_)
  · obtain ⟨p, xs, v, rfl, _⟩ := h
    rfl
  · obtain ⟨p, xs, v, rfl, ⟨dx, t, h1, h2⟩, hv, k⟩ := h
    refine ⟨_, (pss_one (ps_ret (pe_ix (k_ixT K) (pe_fld (pv 0) rfl) pe_int (fun _ _ => rfl)))), ?_⟩
    exact s_ret (v := v) (ev_op (ev_fld (ev_var rfl) h1 T.clR T.npR look_parts) ev_c (rv_ixT (st_of h2) (at_of (j := 1) rfl hv))) k
theorem ok_Reader_ends (T : Tx K mg) : FnOk P w K mg base CX0 1 T.d_Reader_ends.f T.d_Reader_ends.fd ["self"] (sp_get T.CR 2) := by
  refine T.d_Reader_ends.F.ok sc_Reader_ends (fun vs H Q E h => ?_) (fun cdv A outer s H vs Q E hr h => ?_)
  · obtain ⟨p, xs, v, rfl, _⟩ := h
    rfl
  · obtain ⟨p, xs, v, rfl, ⟨dx, t, h1, h2⟩, hv, k⟩ := h
    refine ⟨_, (pss_one (ps_ret (pe_ix (k_ixT K) (pe_fld (pv 0) rfl) pe_int (fun _ _ => rfl)))), ?_⟩
    exact s_ret (v := v) (ev_op (ev_fld (ev_var rfl) h1 T.clR T.npR look_parts) ev_c (rv_ixT (st_of h2) (at_of (j := 2) rfl hv))) k
theorem ok_Guesser_signs (T : Tx K mg) : FnOk P w K mg base CX0 1 T.d_Guesser_signs.f T.d_Guesser_signs.fd ["self"] (sp_get T.CG 0) := by
  refine T.d_Guesser_signs.F.ok sc_Guesser_signs (fun vs H Q E h => ?_) (fun cdv A outer s H vs Q E hr h => ?_)
  · obtain ⟨p, xs, v, rfl, _⟩ := h
    rfl
  · obtain ⟨p, xs, v, rfl, ⟨dx, t, h1, h2⟩, hv, k⟩ := h
    refine ⟨_, (pss_one (ps_ret (pe_ix (k_ixT K) (pe_fld (pv 0) rfl) pe_int (fun _ _ => rfl)))), ?_⟩
    exact s_ret (v := v) (ev_op (ev_fld (ev_var rfl) h1 T.clG T.npG look_parts) ev_c (rv_ixT (st_of h2) (at_of (j := 0) rfl hv))) k
theorem ok_Guesser_size (T : Tx K mg) : FnOk P w K mg base CX0 1 T.d_Guesser_size.f T.d_Guesser_size.fd ["self"] (sp_get T.CG 1) := by
  refine T.d_Guesser_size.F.ok sc_Guesser_size (fun vs H Q E h => ?_) (fun cdv A outer s H vs Q E hr h => ?_)
  · obtain ⟨p, xs, v, rfl, _⟩ := h
    rfl
  · obtain ⟨p, xs, v, rfl, ⟨dx, t, h1, h2⟩, hv, k⟩ := h
    refine ⟨_, (pss_one (ps_ret (pe_ix (k_ixT K) (pe_fld (pv 0) rfl) pe_int (fun _ _ => rfl)))), ?_⟩
    exact s_ret (v := v) (ev_op (ev_fld (ev_var rfl) h1 T.clG T.npG look_parts) ev_c (rv_ixT (st_of h2) (at_of (j := 1) rfl hv))) k
theorem ok_Guesser_begins (T : Tx K mg) : FnOk P w K mg base CX0 1 T.d_Guesser_begins.f T.d_Guesser_begins.fd ["self"] (sp_get T.CG 2) := by
  refine T.d_Guesser_begins.F.ok sc_Guesser_begins (fun vs H Q E h => ?_) (fun cdv A outer s H vs Q E hr h => ?_)
  · obtain ⟨p, xs, v, rfl, _⟩ := h
    rfl
  · obtain ⟨p, xs, v, rfl, ⟨dx, t, h1, h2⟩, hv, k⟩ := h
    refine ⟨_, (pss_one (ps_ret (pe_ix (k_ixT K) (pe_fld (pv 0) rfl) pe_int (fun _ _ => rfl)))), ?_⟩
    exact s_ret (v := v) (ev_op (ev_fld (ev_var rfl) h1 T.clG T.npG look_parts) ev_c (rv_ixT (st_of h2) (at_of (j := 2) rfl hv))) k
theorem ok_Guesser_steps (T : Tx K mg) : FnOk P w K mg base CX0 1 T.d_Guesser_steps.f T.d_Guesser_steps.fd ["self"] (sp_get T.CG 3) := by
  refine T.d_Guesser_steps.F.ok sc_Guesser_steps (fun vs H Q E h => ?_) (fun cdv A outer s H vs Q E hr h => ?_)
  · obtain ⟨p, xs, v, rfl, _⟩ := h
    rfl
  · obtain ⟨p, xs, v, rfl, ⟨dx, t, h1, h2⟩, hv, k⟩ := h
    refine ⟨_, (pss_one (ps_ret (pe_ix (k_ixT K) (pe_fld (pv 0) rfl) pe_int (fun _ _ => rfl)))), ?_⟩
    exact s_ret (v := v) (ev_op (ev_fld (ev_var rfl) h1 T.clG T.npG look_parts) ev_c (rv_ixT (st_of h2) (at_of (j := 3) rfl hv))) k
theorem ok_Guesser_goals (T : Tx K mg) : FnOk P w K mg base CX0 1 T.d_Guesser_goals.f T.d_Guesser_goals.fd ["self"] (sp_get T.CG 4) := by
  refine T.d_Guesser_goals.F.ok sc_Guesser_goals (fun vs H Q E h => ?_) (fun cdv A outer s H vs Q E hr h => ?_)
  · obtain ⟨p, xs, v, rfl, _⟩ := h
    rfl
  · obtain ⟨p, xs, v, rfl, ⟨dx, t, h1, h2⟩, hv, k⟩ := h
    refine ⟨_, (pss_one (ps_ret (pe_ix (k_ixT K) (pe_fld (pv 0) rfl) pe_int (fun _ _ => rfl)))), ?_⟩
    exact s_ret (v := v) (ev_op (ev_fld (ev_var rfl) h1 T.clG T.npG look_parts) ev_c (rv_ixT (st_of h2) (at_of (j := 4) rfl hv))) k
def sp_check_reader (C : Addr) : Sp := fun vs H Q _ => ∃ (p dx : Addr) (fs : List (Str × V)), vs = [.ref p] ∧ H p = some (.ins C dx fs) ∧ ∀ H', Ex H H' → Q .non H'
theorem rc_isiReader (T : Tx K mg) {H : Hp} {p dx : Addr} {fs : List (Str × V)} (h : H p = some (.ins T.CR dx fs)) : RC (rIsi K) [.ref p, .ref T.CR] H (.bl true) :=
  rc_isi (.own _) (.base (.ins h T.clR T.haR T.hn T.htk T.hmR)) T.isR
theorem ok_check_reader (T : Tx K mg) : FnOk P w K mg base CX0 1 T.d_check_reader.f T.d_check_reader.fd ["reader"] (sp_check_reader T.CR) := by
  refine T.d_check_reader.F.ok sc_check_reader (fun vs H Q E h => ?_) (fun cdv A outer s H vs Q E hr h => ?_)
  · obtain ⟨p, dx, fs, rfl, _⟩ := h
    rfl
  · obtain ⟨p, dx, fs, rfl, h1, k⟩ := h
    refine ⟨_, (pss_one (ps_if (pt_not (pt_val (pe_callB (k_isi K) (by rfl) T.z_isinstance (by decide +kernel) (pa_cons (pv 0) (pa_cons (pe_glob (v := .ref T.CR) rfl T.gReader rfl) pa_nil))))) (pss_one ps_never) pss_nil)), ?_⟩
    exact s_when (b := false) (et_not (et_B (ev_cb (by walk_at "ev") (rc_isiReader T h1)))) (fun h => nomatch h) fun _ H1 e1 => k _ e1
theorem spv_check_reader {C p : Addr} {xs : List V} {H : Hp} (h : PartsAt C H p xs) : SpV (sp_check_reader C) ([.ref p] ++ []) H .non := by
  obtain ⟨dx, t, h1, h2⟩ := h
  exact fun H1 e Q q E => ⟨p, dx, _, rfl, e _ _ h1, q⟩
def sp_check_guesser (C : Addr) : Sp := fun vs H Q _ => ∃ (p dx : Addr) (fs : List (Str × V)), vs = [.ref p] ∧ H p = some (.ins C dx fs) ∧ ∀ H', Ex H H' → Q .non H'
theorem rc_isiGuesser (T : Tx K mg) {H : Hp} {p dx : Addr} {fs : List (Str × V)} (h : H p = some (.ins T.CG dx fs)) : RC (rIsi K) [.ref p, .ref T.CG] H (.bl true) :=
  rc_isi (.own _) (.base (.ins h T.clG T.haG T.hn T.htk T.hmG)) T.isG
theorem ok_check_guesser (T : Tx K mg) : FnOk P w K mg base CX0 1 T.d_check_guesser.f T.d_check_guesser.fd ["guesser"] (sp_check_guesser T.CG) := by
  refine T.d_check_guesser.F.ok sc_check_guesser (fun vs H Q E h => ?_) (fun cdv A outer s H vs Q E hr h => ?_)
  · obtain ⟨p, dx, fs, rfl, _⟩ := h
    rfl
  · obtain ⟨p, dx, fs, rfl, h1, k⟩ := h
    refine ⟨_, (pss_one (ps_if (pt_not (pt_val (pe_callB (k_isi K) (by rfl) T.z_isinstance (by decide +kernel) (pa_cons (pv 0) (pa_cons (pe_glob (v := .ref T.CG) rfl T.gGuesser rfl) pa_nil))))) (pss_one ps_never) pss_nil)), ?_⟩
    exact s_when (b := false) (et_not (et_B (ev_cb (by walk_at "ev") (rc_isiGuesser T h1)))) (fun h => nomatch h) fun _ H1 e1 => k _ e1
theorem spv_check_guesser {C p : Addr} {xs : List V} {H : Hp} (h : PartsAt C H p xs) : SpV (sp_check_guesser C) ([.ref p] ++ []) H .non := by
  obtain ⟨dx, t, h1, h2⟩ := h
  exact fun H1 e Q q E => ⟨p, dx, _, rfl, e _ _ h1, q⟩
end
end K14
set_option maxHeartbeats 4000000
namespace K14
open PySem L2 Evl
local macro_rules | `(tactic| walk_at "ev") => `(tactic| repeat' (first
  | exact ev_var rfl | exact ev_c | exact ea_nil | apply ea_cons | exact rv_I0 | apply ev_op | apply ev_cb | apply ev_un | exact ru_neg
  | exact rc_isiInt | exact rc_isiBool | exact rc_isiStr))
section
variable {P : Program} {w : World} {K : PySem.W.Frag} {mg : Str → Option Value} {base : Heap}
theorem spv_are_arrows {a : Addr} {arr : List (List (Option Nat))} {n : Nat} {H : Hp} (h1 : ArrT H a arr) (h2 : Wf n arr) (h3 : arr.length ≤ 200) (h4 : n ≤ 8) : SpV sp_are_arrows ([.ref a, .int n] ++ []) H (.bl true) :=
  fun H1 e Q q E => ⟨a, arr, n, rfl, h1.ex e, h2, h3, h4, q⟩
/-- ascending, below n, few -/
structure Asc (n : Nat) (ns : List Nat) : Prop where
  asc : ns.Pairwise (· < ·)
  bd : ∀ k ∈ ns, k < n
theorem asc_len {n : Nat} {ns : List Nat} (h : Asc n ns) : ns.length ≤ n := by
  have hn : ns.Nodup := h.asc.imp fun h => Nat.ne_of_lt h
  have := nat_nodup_len ns (List.range n) hn (fun x hx => List.mem_range.mpr (h.bd x hx))
  simpa using this
theorem ArrT.len {H : Hp} {a : Addr} {arr : List (List (Option Nat))} (h : ArrT H a arr) : ∃ xs, H a = some (.tup xs) ∧ xs.length = arr.length := by
  obtain ⟨ps, h1, h2, _⟩ := h
  exact ⟨_, h1, by rw [List.length_map, h2]⟩
theorem ev_lenArr {σ : L2.St} {H : Hp} {te : TE} {a : Addr} {arr : List (List (Option Nat))} (h : Ev te σ H (.ref a)) (ha : ArrT H a arr) : Ev (tCB (rLenQ K) (tCons te tNil)) σ H (.int arr.length) := by
  obtain ⟨xs, h1, h2⟩ := ha.len
  rw [← h2]
  exact ev_cb (ea_cons h ea_nil) (rc_lenQ (.inr (st_of h1)))
/-- what a new instance's __init__ leaves: the parts, all else as it was -/
def Inited (C : Addr) (p : Addr) (xs : List V) (H H' : Hp) : Prop := PartsAt C H' p xs ∧ ∀ b o, H b = some o → b ≠ p → H' b = some o
def sp_Reader_init (C : Addr) : Sp := fun vs H Q _ => ∃ (p dx aa ae : Addr) (n : Nat) (arr : List (List (Option Nat))) (ends : List Nat), vs = [.ref p, .int n, .ref aa, .ref ae] ∧ H p = some (.ins C dx []) ∧ ArrT H aa arr ∧ StT H ae ends ∧
  Wf n arr ∧ arr.length ≤ 200 ∧ 1 ≤ n ∧ n ≤ 8 ∧ Asc arr.length ends ∧ ∀ H', Inited C p [.int n, .ref aa, .ref ae] H H' → Q .non H'
theorem set_parts {σ : L2.St} {H0 H : Hp} {ta tv : TE} {D : Ends} {C p dx : Addr} {xs : List V} (c : Cls K C) (nf : NoAttr K C "parts") (h0 : H0 p = some (.ins C dx [])) (e : Ex H0 H) (hv : EvU tv σ H xs) (ha : Ev ta σ H (.ref p))
    (k : ∀ H', Inited C p xs H0 H' → D.nx σ H') : sFld K ta tv "parts" D σ H := by
  refine hv H (Ex.refl H) _ fun t H1 ht e1 h1 => ?_
  refine ha H1 e1 _ fun H2 e2 => ?_
  have hp := (e.trans (e1.trans e2)) _ _ h0
  refine ⟨p, C, dx, [], rfl, hp, c, nf, (by show 0 < 1000; decide), k _ ⟨⟨dx, t, ?_, ?_⟩, fun b o hb hn => ?_⟩⟩
  · rw [upd_same] <;> rfl
  · have : t ≠ p := fun q => by
      rw [q, e _ _ h0] at ht
      cases ht
    rw [upd_ne this]
    exact e2 _ _ h1
  · rw [upd_ne hn]
    exact (e.trans (e1.trans e2)) _ _ hb
theorem ok_Reader_init (T : Tx K mg) : FnOk P w K mg base CX0 4 T.d_Reader_init.f T.d_Reader_init.fd ["self", "signs", "arrows", "ends"] (sp_Reader_init T.CR) := by
  refine T.d_Reader_init.F.ok sc_Reader_init (fun vs H Q E h => ?_) (fun cdv A outer s H vs Q E hr h => ?_)
  · obtain ⟨p, dx, aa, ae, n, arr, ends, rfl, _⟩ := h
    rfl
  · obtain ⟨p, dx, aa, ae, n, arr, ends, rfl, hp, ha, he, W, hl, h1, h8, A, k⟩ := h
    refine ⟨_, (pss_cons (ps_expr (pe_call (ok_check_signs T) (hr.mono (by decide)) rfl T.d_check_signs.g T.d_check_signs.F.kp T.d_check_signs.b .nil pass0 (pa_cons (pv 1) pa_nil)))
      (pss_cons (ps_if (pt_not (pt_val (pe_call (ok_are_arrows T) (hr.mono (by decide)) rfl T.d_are_arrows.g T.d_are_arrows.F.kp T.d_are_arrows.b .nil pass0 (pa_cons (pv 2) (pa_cons (pv 1) pa_nil))))) (pss_one ps_never) pss_nil)
      (pss_cons (ps_if (pt_not (pt_val (pe_call (ok_are_stands T) (hr.mono (by decide)) rfl T.d_are_stands.g T.d_are_stands.F.kp T.d_are_stands.b .nil pass0 (pa_cons (pv 3) (pa_cons (pe_callB (k_len K) (by rfl) T.z_len (by decide +kernel) (pa_cons (pv 2) pa_nil)) pa_nil))))) (pss_one ps_never) pss_nil)
      (pss_one (ps_fld (pv 0) (pe_tup (pa_cons (pv 1) (pa_cons (pv 2) (pa_cons (pv 3) pa_nil)))) rfl))))), ?_⟩
    refine q_drop (ev_call (by walk_at "ev") (spv_check_signs h1 h8)) fun H1 e1 => ?_
    refine q_when (b := false) (et_not (et_B (ev_call (by walk_at "ev") (spv_are_arrows (ha.ex e1) W hl h8)))) (fun h => nomatch h) fun _ H2 e2 => ?_
    have e12 := e1.trans e2
    refine q_when (b := false) (et_not (et_B (ev_call (ea_cons (ev_var rfl) (ea_cons (ev_lenArr (ev_var rfl) (ha.ex e12)) ea_nil)) (spv_are_stands (he.ex e12) A.asc A.bd (by have := asc_len A; omega))))) (fun h => nomatch h) fun _ H3 e3 => ?_
    exact set_parts T.clR T.npR hp (e12.trans e3) (eu_tup (by walk_at "ev") (by show 3 ≤ 100000; decide)) (ev_var rfl) k
theorem inited_new {C x dx : Addr} {xs : List V} {H H' : Hp} (hx : H x = none) (hd : H dx = none) (h : Inited C x xs (upd (upd H dx (.own x)) x (.ins C dx [])) H') : PartsAt C H' x xs ∧ Ex H H' :=
  ⟨h.1, fun b o hb => h.2 b o (by rw [upd_ne (ne_of_none hb hx), upd_ne (ne_of_none hb hd)]; exact hb) (ne_of_none hb hx)⟩
theorem er_Reader {σ : L2.St} {H : Hp} {t : TA} {C aa ae : Addr} {n : Nat} {arr : List (List (Option Nat))} {ends : List Nat} {E : XK} (h : EvA t σ H [.int n, .ref aa, .ref ae]) (ha : ArrT H aa arr) (he : StT H ae ends) (W : Wf n arr) (hl : arr.length ≤ 200)
    (h1 : 1 ≤ n) (h8 : n ≤ 8) (A : Asc arr.length ends) : EvR (tMake C (sp_Reader_init C) [] E t) σ H (fun H p => RdrAt C H p n arr ends) := fun H1 e Q q =>
  h H1 e _ fun H2 e2 x dx hx hd hn => by
    have e3 : Ex H2 (upd (upd H2 dx (.own x)) x (.ins C dx [])) := fun b o hb => by rw [upd_ne (ne_of_none hb hx), upd_ne (ne_of_none hb hd)]; exact hb
    refine ⟨x, dx, aa, ae, n, arr, ends, rfl, upd_same, ha.ex ((e.trans e2).trans e3), he.ex ((e.trans e2).trans e3), W, hl, h1, h8, A, fun H' I => ⟨rfl, ?_⟩⟩
    obtain ⟨i1, i2⟩ := inited_new hx hd I
    exact q x H' (fresh_back e2 hx) (e2.trans i2) ⟨aa, ae, i1, ha.ex ((e.trans e2).trans i2), he.ex ((e.trans e2).trans i2)⟩

/-! ### steps -/
theorem sgS_len (a : Option Nat) : (sgS a).length ≤ 1 := by cases a <;> simp [sgS, Str.length]
structure SOk (n m : Nat) (s : Stp) : Prop where
  b : s.1 < m
  g : s.2.2 < m
  a : ∀ c, s.2.1 = some c → c < n
def sp_is_step : Sp := fun vs H Q _ => ∃ (p : Addr) (s : Stp) (n m : Nat), vs = [.ref p, .int n, .int m] ∧ H p = some (.tup (stpV s)) ∧ SOk n m s ∧ n ≤ 8 ∧ ∀ H', Ex H H' → Q (.bl true) H'
theorem ok_is_step (T : Tx K mg) : FnOk P w K mg base CX0 2 T.d_is_step.f T.d_is_step.fd ["value", "signs", "size"] sp_is_step := by
  refine T.d_is_step.F.ok sc_is_step (fun vs H Q E h => ?_) (fun cdv A outer s H vs Q E hr h => ?_)
  · obtain ⟨p, s, n, m, rfl, _⟩ := h
    rfl
  · obtain ⟨p, s, n, m, rfl, hp, S, hn, k⟩ := h
    refine ⟨_, (pss_cons (ps_if (PW.pt (pw_or (pt_not (pt_val (pe_callB (k_isi K) (by rfl) T.z_isinstance (by decide +kernel) (pa_cons (pv 0) (pa_cons (pe_bltn (v := .ty "tuple") (by rfl) T.z_tuple (by decide +kernel) rfl) pa_nil))))) (pw_or (pt_cmpR op_ne (pe_callB (k_len K) (by rfl) T.z_len (by decide +kernel) (pa_cons (pv 0) pa_nil)) pe_int (nomark _)) (pw_or1 (pt_not (pt_val (pe_callB (k_isi K) (by rfl) T.z_isinstance (by decide +kernel) (pa_cons (pe_ix (k_ixT K) (pv 0) pe_int (fun _ _ => rfl)) (pa_cons (pe_bltn (v := .ty "str") (by rfl) T.z_str (by decide +kernel) rfl) pa_nil))))))))) (pss_one (ps_ret pe_bl)) pss_nil)
      (pss_cons (ps_if (PW.pt (pw_or (pt_not (pt_val (pe_call (ok_is_number T) (hr.mono (by decide)) rfl T.d_is_number.g T.d_is_number.F.kp T.d_is_number.b .nil pass0 (pa_cons (pe_ix (k_ixT K) (pv 0) pe_int (fun _ _ => rfl)) (pa_cons pe_int (pa_cons (pe_op op_sub (pv 2) pe_int) pa_nil)))))) (pw_or1 (pt_not (pt_val (pe_call (ok_is_number T) (hr.mono (by decide)) rfl T.d_is_number.g T.d_is_number.F.kp T.d_is_number.b .nil pass0 (pa_cons (pe_ix (k_ixT K) (pv 0) pe_int (fun _ _ => rfl)) (pa_cons pe_int (pa_cons (pe_op op_sub (pv 2) pe_int) pa_nil))))))))) (pss_one (ps_ret pe_bl)) pss_nil)
      (pss_one (ps_ret (pe_or (pe_cmpR op_eq (pe_ix (k_ixT K) (pv 0) pe_int (fun _ _ => rfl)) pe_str (nomark _)) (pe_one (pe_and (pe_cmpR op_eq (pe_callB call_len_str (by rfl) T.z_len (by decide +kernel) (pa_cons (pe_ix (k_ixT K) (pv 0) pe_int (fun _ _ => rfl)) pa_nil)) pe_int (nomark _)) (pe_one (pe_cmpR k_inG (pe_ix (k_ixT K) (pv 0) pe_int (fun _ _ => rfl)) (pe_slice sl_str (pe_glob (v := .str "abcdefgh") rfl T.g_ALPHABET.choose_spec ⟨_, rfl⟩) po_none (po_some (pv 1))) rfl))))))))), ?_⟩
    have hT : ∀ H1, Ex H H1 → SqT K H1 p (stpV s) := fun H1 e => st_of (e _ _ hp)
    have i1 : ∀ H1, Ex H H1 → ∀ (σ : L2.St), σ[0]? = some (some (.ref p)) → Ev (tOp (rIxT K) (tVar 0) (tC (.int 1))) σ H1 (.str (sgS s.2.1)) := fun H1 e σ h => ev_op (ev_var h) ev_c (rv_ixT (hT H1 e) (at_of (j := 1) rfl rfl))
    have i0 : ∀ H1, Ex H H1 → ∀ (σ : L2.St), σ[0]? = some (some (.ref p)) → Ev (tOp (rIxT K) (tVar 0) (tC (.int 0))) σ H1 (.int (s.1 : Nat)) := fun H1 e σ h => ev_op (ev_var h) ev_c (rv_ixT (hT H1 e) (at_of (j := 0) rfl rfl))
    have i2 : ∀ H1, Ex H H1 → ∀ (σ : L2.St), σ[0]? = some (some (.ref p)) → Ev (tOp (rIxT K) (tVar 0) (tC (.int 2))) σ H1 (.int (s.2.2 : Nat)) := fun H1 e σ h => ev_op (ev_var h) ev_c (rv_ixT (hT H1 e) (at_of (j := 2) rfl rfl))
    refine q_when (b := false) (et_is (et_or (et_not (et_B (ev_cb (by walk_at "ev") (rc_isiTup hp)))) fun _ => et_or (et_test (ev_op (ev_cb (by walk_at "ev") (rc_lenQ (.inr (hT H (Ex.refl H))))) ev_c (rv_ne rfl))) fun _ => et_not (et_B (ev_cb (ea_cons (i1 H (Ex.refl H) _ rfl) (ea_cons ev_c ea_nil)) rc_isiStr))) (by show (!true || (!decide (V.int (3 : Int) = V.int 3) || !true)) = false; decide)) (fun h => nomatch h) fun _ H1 e1 => ?_
    refine q_when (b := false) (et_is (et_or (et_not (et_B (ev_call (ea_cons (i0 H1 e1 _ rfl) (by walk_at "ev")) (spv_is_numberT (by have := S.b; omega))))) fun _ => et_not (et_B (ev_call (ea_cons (i2 H1 e1 _ rfl) (by walk_at "ev")) (spv_is_numberT (by have := S.g; omega))))) rfl) (fun h => nomatch h) fun _ H2 e2 => ?_
    have e12 := e1.trans e2
    refine s_ret (v := .bl true) ?_ fun H3 e3 => k _ (e12.trans e3)
    cases hs : s.2.1 with
    | none =>
      refine ev_is (ev_orV (b := true) (ev_op (i1 H2 e12 _ rfl) ev_c (rv_eq rfl)) fun h => ?_) ?_
      · rw [hs] at h
        exact absurd h (by decide)
      · rw [Bool.or_true]
    | some c =>
      have hc := S.a c hs
      refine ev_is (ev_orV (ev_op (i1 H2 e12 _ rfl) ev_c (rv_eq rfl)) fun _ => ev_andV (ev_op (ev_lenS (i1 H2 e12 _ rfl) (by have := sgS_len s.2.1; omega)) ev_c (rv_eq rfl)) fun _ => ev_op (ev_is (i1 H2 e12 _ rfl) (by rw [hs]; rfl)) (ev_slS ev_c eo_none (eo_some (ev_var rfl)) (by decide)) rv_inG) ?_
      rw [alpha_cut n hn, hs, decide_eq_true (p := 97 + c ∈ _) (by simpa using mem_lets hc)]
      rw [Bool.and_true, decide_eq_true (p := V.int ((sgS (some c)).length : Int) = V.int 1) rfl, Bool.or_true]
theorem spv_is_step {p : Addr} {s : Stp} {n m : Nat} {H : Hp} (h1 : H p = some (.tup (stpV s))) (h2 : SOk n m s) (h3 : n ≤ 8) : SpV sp_is_step ([.ref p, .int n, .int m] ++ []) H (.bl true) := fun H1 e Q q E => ⟨p, s, n, m, rfl, e _ _ h1, h2, h3, q⟩
end
end K14
set_option maxHeartbeats 4000000
namespace K14
open PySem L2 Evl
/-! ### steps as data, their order -/
def sgN : Option Nat → Nat
  | none => 0
  | some a => a + 1
/-- steps below the bounds in their order, as a number -/
def cd (s : Stp) : Nat := (s.1 * 9 + sgN s.2.1) * 12 + s.2.2
def encS (s : Stp) : PyData := .tuple [.int (s.1 : Nat), .str (sgS s.2.1), .int (s.2.2 : Nat)]
structure SBd (s : Stp) : Prop where
  g : s.2.2 < 12
  a : ∀ c, s.2.1 = some c → c < 8
theorem SBd.sg {s : Stp} (h : SBd s) : sgN s.2.1 ≤ 8 := by
  cases q : s.2.1 with
  | none => exact Nat.zero_le _
  | some c =>
    have := h.a c q
    show c + 1 ≤ 8
    omega
theorem SOk.bd {n m : Nat} {s : Stp} (h : SOk n m s) (hn : n ≤ 8) (hm : m ≤ 12) : SBd s := ⟨by have := h.g; omega, fun c hc => by have := h.a c hc; omega⟩
theorem sgN_inj {a b : Option Nat} (h : sgN a = sgN b) : a = b := by
  cases a <;> cases b <;> simp [sgN] at h <;> simp [h]
theorem cd_inj {s t : Stp} (hs : SBd s) (ht : SBd t) (h : cd s = cd t) : s = t := by
  obtain ⟨a, b, c⟩ := s
  obtain ⟨a', b', c'⟩ := t
  have h1 := hs.sg
  have h2 := ht.sg
  have h3 := hs.g
  have h4 := ht.g
  unfold cd at h
  simp only at h h1 h2 h3 h4
  have e1 : c = c' := by omega
  have e2 : a * 9 + sgN b = a' * 9 + sgN b' := by omega
  have e3 : a = a' := by omega
  have e4 : sgN b = sgN b' := by omega
  rw [e1, e3, sgN_inj e4]
theorem sg_eqv (a b : Option Nat) : PyData.eqv (.str (sgS a)) (.str (sgS b)) = decide (sgN a = sgN b) := by
  have h : PyData.eqv (.str (sgS a)) (.str (sgS b)) = (sgS a == sgS b) := by simp [PyData.eqv]
  rw [h]
  cases a with
  | none => cases b with
    | none => rfl
    | some d =>
      rw [decide_eq_false (by simp [sgN])]
      simp [sgS]
  | some c => cases b with
    | none =>
      rw [decide_eq_false (by simp [sgN])]
      simp [sgS]
    | some d =>
      by_cases e : c = d
      · subst e
        simp
      · rw [decide_eq_false (by simp [sgN]; exact e)]
        simp [sgS, e]
theorem sg_lt (a b : Option Nat) : PySem.W.dataLt (.str (sgS a)) (.str (sgS b)) = decide (sgN a < sgN b) := by
  rw [PySem.W.dataLt_str]
  cases a with
  | none => cases b with
    | none => rfl
    | some d => rw [decide_eq_true (p := sgN none < sgN (some d)) (Nat.succ_pos _)]; simp [sgS]
  | some c => cases b with
    | none => rw [decide_eq_false (p := sgN (some c) < sgN none) (Nat.not_lt_zero _)]; simp [sgS]
    | some d =>
      have : ((sgS (some c)).cps.toList < (sgS (some d)).cps.toList) ↔ sgN (some c) < sgN (some d) := by
        show ([97 + c] < [97 + d]) ↔ c + 1 < d + 1
        rw [List.cons_lt_cons_iff]
        simp
      exact decide_eq_decide.mpr this
theorem int_eqv (a b : Nat) : PyData.eqv (.int (a : Nat)) (.int (b : Nat)) = decide (a = b) := by
  have h : PyData.eqv (.int (a : Nat)) (.int (b : Nat)) = (((a : Nat) : Int) == ((b : Nat) : Int)) := by simp [PyData.eqv]
  rw [h, Bool.eq_iff_iff]
  simp
  omega
theorem int_lt (a b : Nat) : PySem.W.dataLt (.int (a : Nat)) (.int (b : Nat)) = decide (a < b) := by
  rw [PySem.W.dataLt_int]
  exact decide_eq_decide.mpr (by omega)
theorem lt_enc {s t : Stp} (hs : SBd s) (ht : SBd t) : PySem.W.dataLt (encS s) (encS t) = decide (cd s < cd t) := by
  obtain ⟨a, b, c⟩ := s
  obtain ⟨a', b', c'⟩ := t
  have h1 := hs.sg
  have h2 := ht.sg
  have h3 := hs.g
  have h4 := ht.g
  simp only at h1 h2 h3 h4
  unfold encS cd
  rw [PySem.W.dataLt_tuple, PySem.W.dataLt_cons (by simp [PySem.W.alike]), PySem.W.dataLt_cons (by simp [PySem.W.alike]), PySem.W.dataLt_cons (by simp [PySem.W.alike]), sg_eqv, sg_lt, int_eqv, int_eqv, int_lt, int_lt]
  have e0 : PyProof.Rows.lexLt PyProof.Rows.itemOrd (PySem.W.keyToksAll []) (PySem.W.keyToksAll []) = false := by simp [PySem.W.keyToksAll, PyProof.Rows.lex_irrefl]
  rw [e0]
  simp only [decide_eq_true_eq]
  split
  · split
    · split
      · exact (decide_eq_false (by omega)).symm
      · exact decide_eq_decide.mpr (by omega)
    · exact decide_eq_decide.mpr (by omega)
  · exact decide_eq_decide.mpr (by omega)
end K14
set_option maxHeartbeats 4000000
namespace K14
open PySem L2 Evl
local macro_rules | `(tactic| walk_at "ev") => `(tactic| repeat' (first
  | exact ev_var rfl | exact ev_c | exact ea_nil | apply ea_cons | exact rv_I0 | apply ev_op | apply ev_cb | apply ev_un | exact ru_neg
  | exact rc_isiInt | exact rc_isiBool | exact rc_isiStr))
theorem dp_stp {K : PySem.W.Frag} {H : Hp} {p : Addr} {s : Stp} (h : H p = some (.tup (stpV s))) : Dp K H (.ref p) (encS s) :=
  .tup (SqT.of h) (.cons (.int _) (.cons (.str _) (.cons (.int _) .nil)))
theorem dep_stp (s : Stp) : (encS s).depth = 1 := by simp [encS, PyData.depth, PyData.depthAll]
def rLtS : R2 := fun x y H Q => ∃ p q s t, x = .ref p ∧ y = .ref q ∧ H p = some (.tup (stpV s)) ∧ H q = some (.tup (stpV t)) ∧ SBd s ∧ SBd t ∧ Q (.bl (decide (cd s < cd t))) H
theorem k_ltS {X : Cx} (hu : X.A.units + 64 < cLine) : OpR X (compareOp .Lt) rLtS := by
  intro pins s0 σ H x y v u Q I rx ry h
  obtain ⟨p, q, s, t, rfl, rfl, hp, hq, bs, bt, k⟩ := h
  obtain ⟨as, r1⟩ := Dp.reads I _ _ v (dp_stp hp) rx
  obtain ⟨bs', r2⟩ := Dp.reads I _ _ u (dp_stp hq) ry
  show wpAny (model X.prog X.w) X.A (richCompare .Lt v u) _ _ _
  refine PySem.W.rcLt_alike (encS s) (encS t) X.A s0 v u as bs' r1 r2 (by simp [encS, PySem.W.alike, PySem.W.alikeAll]) (by simp [encS]) (by rw [dep_stp, dep_stp]; omega) X.prog X.w _ _ ?_
  rw [lt_enc bs bt]
  exact ⟨.bl _, H, I, rfl, k⟩
def rSortS (K : PySem.W.Frag) : List V → Hp → VK → Prop := fun vs H Q => ∃ (a : Addr) (bs : List (Addr × Stp)), vs = [V.ref a] ∧ SqL K H a (bs.map fun b => V.ref b.1) ∧ (∀ b ∈ bs, H b.1 = some (.tup (stpV b.2))) ∧ bs.length ≤ 1000 ∧
  ∀ p, H p = none → Q (.ref p) (upd H p (.lst ((bs.mergeSort (PySem.W.dataLe false fun b => encS b.2)).map fun b => V.ref b.1)))
theorem each_refs : ∀ {bs : List (Addr × Stp)} {us : List Value}, Vals (bs.map fun b => V.ref b.1) us → PySem.W.EachIs (fun v (b : Addr × Stp) => v = Value.ref b.1) us bs
  | [], _, r => by
    cases r
    exact .nil
  | b :: bs, _, r => by
    cases r with
    | cons h t =>
      cases h
      exact .cons rfl (each_refs t)
theorem refs_each : ∀ {bs : List (Addr × Stp)} {us : List Value}, PySem.W.EachIs (fun v (b : Addr × Stp) => v = Value.ref b.1) us bs → Vals (bs.map fun b => V.ref b.1) us
  | _, _, .nil => .nil
  | _, _, .cons h t => .cons h (refs_each t)
theorem k_sortS {X : Cx} (K : PySem.W.Frag) (hu : X.A.units + 64 < cLine) (e : X.K = K := by rfl) : CallR X (.builtin "sorted") (rSortS K) := by
  subst e
  intro pins s σ H vs us Q I r h
  obtain ⟨a, bs, rfl, hs, hb, hl, q⟩ := h
  obtain ⟨its, rv, hL, hz⟩ := I.list hs
  rw [Vals.ref1 r]
  have e1 := each_refs rv
  have e2 : PySem.W.EachIs (fun v (b : Addr × Stp) => ∃ as, Reads s.heap v (encS b.2) as) its bs := by
    refine (PySem.W.each_mem e1).mono fun v b hvb => ?_
    obtain ⟨rfl, hm⟩ := hvb
    exact Dp.reads I _ _ _ (dp_stp (hb b hm)) rfl
  refine PySem.W.sorted_data (enc := fun b : Addr × Stp => encS b.2) hL.isList e1 e2 (PySem.W.AllAlike.of fun _ _ => by simp [encS, PySem.W.alike, PySem.W.alikeAll]) (PySem.W.Sortable.tuples fun _ => ⟨_, _, rfl⟩) (by rw [sizeLine_eq]; omega) (fun b _ => by rw [dep_stp]; omega) fun out ho eo => ?_
  obtain ⟨ep, he'⟩ := PyProof.Rows.sortedAll_at s.heap its out.toArray
  have hv := refs_each eo
  refine ⟨.ref _, upd H (s.heap.objs.size + 1) (.lst _), I.laid (t' := s.toks) (fun _ _ => PyProof.Rows.sortedAll_old) (Nat.le_succ _) ⟨?_, out, ep, hv, he'⟩, rfl, q _ (I.hok.fresh (Nat.le_succ _))⟩
  rw [hv.length, ho, sizeLine_eq]
  omega
section
variable {P : Program} {w : World} {K : PySem.W.Frag} {mg : Str → Option Value} {base : Heap}
/-- steps of a guesser: each right, ascending -/
structure SsOk (n m : Nat) (ss : List Stp) : Prop where
  ok : ∀ s ∈ ss, SOk n m s
  asc : ss.Pairwise fun s t => cd s < cd t
theorem rv_ltS {H : Hp} {p q : Addr} {s t : Stp} (h1 : H p = some (.tup (stpV s))) (h2 : H q = some (.tup (stpV t))) (b1 : SBd s) (b2 : SBd t) : RV rLtS (.ref p) (.ref q) H (.bl (decide (cd s < cd t))) :=
  rv_val fun H1 e Q k => ⟨p, q, s, t, rfl, rfl, e _ _ h1, e _ _ h2, b1, b2, k⟩
def sp_are_steps : Sp := fun vs H Q _ => ∃ (a : Addr) (ss : List Stp) (n m : Nat), vs = [.ref a, .int n, .int m] ∧ StpT H a ss ∧ SsOk n m ss ∧ n ≤ 8 ∧ m ≤ 12 ∧ ss.length ≤ 1000 ∧ ∀ H', Ex H H' → Q (.bl true) H'
theorem ok_are_steps (T : Tx K mg) : FnOk P w K mg base CX0 3 T.d_are_steps.f T.d_are_steps.fd ["value", "signs", "size"] sp_are_steps := by
  refine T.d_are_steps.F.ok sc_are_steps (fun vs H Q E h => ?_) (fun cdv A outer s H vs Q E hr h => ?_)
  · obtain ⟨a, ss, n, m, rfl, _⟩ := h
    rfl
  · obtain ⟨a, ss, n, m, rfl, ⟨ps, ha, hlen, hps⟩, S, hn, hm, hl, k⟩ := h
    refine ⟨_, (pss_cons (ps_if (PW.pt (pw_or (pt_not (pt_val (pe_callB (k_isi K) (by rfl) T.z_isinstance (by decide +kernel) (pa_cons (pv 0) (pa_cons (pe_bltn (v := .ty "tuple") (by rfl) T.z_tuple (by decide +kernel) rfl) pa_nil))))) (pw_or1 (pt_not (pt_val (pe_callB (k_all K rfl) (by rfl) T.z_all (by decide +kernel) (pa_cons (pe_lc (own := [("step", 3)]) (g := (gName 3)) rfl sc_are_steps.nd (k_piT K (pv 0)) (blkOk_by (own := [("step", 3)]) (N := ["value", "signs", "size", "step", "place"]) (sc := defScope s_are_steps) (by decide +kernel)) (fun _ _ _ _ _ => (pg_name (i := 3) sc_are_steps.nd rfl (Or.inl rfl))) (fun _ _ _ _ _ => pts_nil) (fun _ _ _ _ _ => (pe_call (ok_is_step T) (hr.mono (by decide)) rfl T.d_is_step.g T.d_is_step.F.kp T.d_is_step.b .nil pass0 (pa_cons (pv 3) (pa_cons (pv 1) (pa_cons (pv 2) pa_nil)))))) pa_nil))))))) (pss_one (ps_ret pe_bl)) pss_nil)
      (pss_one (ps_ret (pe_callB (k_all K rfl) (by rfl) T.z_all (by decide +kernel) (pa_cons (pe_lc (own := [("place", 4)]) (g := (gName 4)) rfl sc_are_steps.nd (pi_range1 (by rfl) T.z_range (pa_cons (pe_op op_sub (pe_callB (k_len K) (by rfl) T.z_len (by decide +kernel) (pa_cons (pv 0) pa_nil)) pe_int) pa_nil)) (blkOk_by (own := [("place", 4)]) (N := ["value", "signs", "size", "step", "place"]) (sc := defScope s_are_steps) (by decide +kernel)) (fun _ _ _ _ _ => (pg_name (i := 4) sc_are_steps.nd rfl (Or.inl rfl))) (fun _ _ _ _ _ => pts_nil) (fun _ _ _ _ _ => (pe_cmpR (k_ltS hr.units) (pe_ix (k_ixT K) (pv 0) (pv 4) (fun _ _ => rfl)) (pe_ix (k_ixT K) (pv 0) (pe_op op_add (pv 4) pe_int) (fun _ _ => rfl)) (nomark _)))) pa_nil))))), ?_⟩
    have hall : ∀ (i : Nat) p, ps[i]? = some p → ∃ s, ss[i]? = some s ∧ H p = some (.tup (stpV s)) := fun i p hp => by
      have hi : i < ss.length := by rw [← hlen]; exact (List.getElem?_eq_some_iff.mp hp).1
      exact ⟨ss[i], List.getElem?_eq_getElem hi, hps i p _ hp (List.getElem?_eq_getElem hi)⟩
    refine q_when (b := false) (et_is (et_or (et_not (et_B (ev_cb (by walk_at "ev") (rc_isiTup ha)))) fun _ => et_not (et_B (ev_allN (el_cT (fun _ => .bl true) (ev_var rfl) (st_of ha) (by rw [List.length_map, hlen]; omega) (fun _ => rfl) fun i x H1 e hx => ?_) (map_all fun _ _ => rfl)))) rfl) (fun h => nomatch h) fun _ H1 e1 => ?_
    · obtain ⟨p, hp, rfl⟩ := get_map hx
      obtain ⟨s, hs, hps⟩ := hall i p hp
      exact ev_call (by walk_at "ev") (spv_is_step (e _ _ hps) (S.ok s (List.mem_of_getElem? hs)) hn)
    · refine s_ret (v := .bl true) (ev_allN (el_cR (fun _ => .bl true) (n := (ss.length : Int) - 1) ?_ (by omega) (fun _ => rfl) fun i H2 e2 hi => ?_) (map_all fun _ _ => rfl)) fun H2 e2 => k _ (e1.trans e2)
      · exact ea_cons (ev_op (ev_cb (ea_cons (ev_var rfl) ea_nil) (rc_lenQ (.inr (st_of (e1 _ _ ha))))) ev_c (by rw [List.length_map, hlen]; exact rv_I0)) ea_nil
      · have h0 : i < ss.length := by omega
        have h1 : i + 1 < ss.length := by omega
        have p0 : ps[i]? = some ps[i] := List.getElem?_eq_getElem (by omega)
        have p1 : ps[i + 1]? = some ps[i + 1] := List.getElem?_eq_getElem (by omega)
        have hlt : cd ss[i] < cd ss[i + 1] := List.pairwise_iff_getElem.mp S.asc i (i + 1) h0 h1 (Nat.lt_succ_self i)
        have hT := st_of (K := K) ((e1.trans e2) _ _ ha)
        refine ev_is (ev_op (ev_op (ev_var rfl) (ev_var rfl) (rv_ixT hT (at_of rfl (map_get V.ref p0)))) (ev_op (ev_var rfl) (ev_op (ev_var rfl) ev_c rv_I0) (rv_ixT hT (at_of (j := i + 1) (by omega) (map_get V.ref p1))))
          (rv_ltS ((e1.trans e2) _ _ (hps i _ _ p0 (List.getElem?_eq_getElem h0))) ((e1.trans e2) _ _ (hps (i + 1) _ _ p1 (List.getElem?_eq_getElem h1))) ((S.ok _ (List.getElem_mem h0)).bd hn hm) ((S.ok _ (List.getElem_mem h1)).bd hn hm))) ?_
        rw [decide_eq_true hlt]
theorem spv_are_steps {a : Addr} {ss : List Stp} {n m : Nat} {H : Hp} (h1 : StpT H a ss) (h2 : SsOk n m ss) (h3 : n ≤ 8) (h4 : m ≤ 12) (h5 : ss.length ≤ 1000) : SpV sp_are_steps ([.ref a, .int n, .int m] ++ []) H (.bl true) :=
  fun H1 e Q q E => ⟨a, ss, n, m, rfl, h1.ex e, h2, h3, h4, h5, q⟩
def sp_Guesser_init (C : Addr) : Sp := fun vs H Q _ => ∃ (p dx ab as ag : Addr) (n m : Nat) (bs : List Nat) (ss : List Stp) (gs : List Nat), vs = [.ref p, .int n, .int m, .ref ab, .ref as, .ref ag] ∧ H p = some (.ins C dx []) ∧ StT H ab bs ∧ StpT H as ss ∧ StT H ag gs ∧
  1 ≤ n ∧ n ≤ 8 ∧ 1 ≤ m ∧ m ≤ 12 ∧ Asc m bs ∧ SsOk n m ss ∧ ss.length ≤ 1000 ∧ Asc m gs ∧ ∀ H', Inited C p [.int n, .int m, .ref ab, .ref as, .ref ag] H H' → Q .non H'
theorem ok_Guesser_init (T : Tx K mg) : FnOk P w K mg base CX0 4 T.d_Guesser_init.f T.d_Guesser_init.fd ["self", "signs", "size", "begins", "steps", "goals"] (sp_Guesser_init T.CG) := by
  refine T.d_Guesser_init.F.ok sc_Guesser_init (fun vs H Q E h => ?_) (fun cdv A outer s H vs Q E hr h => ?_)
  · obtain ⟨p, dx, ab, as, ag, n, m, bs, ss, gs, rfl, _⟩ := h
    rfl
  · obtain ⟨p, dx, ab, as, ag, n, m, bs, ss, gs, rfl, hp, hb, hs, hg, n1, n8, m1, m12, Ab, S, hl, Ag, k⟩ := h
    refine ⟨_, (pss_cons (ps_expr (pe_call (ok_check_signs T) (hr.mono (by decide)) rfl T.d_check_signs.g T.d_check_signs.F.kp T.d_check_signs.b .nil pass0 (pa_cons (pv 1) pa_nil)))
      (pss_cons (ps_if (pt_not (pt_val (pe_call (ok_is_number T) (hr.mono (by decide)) rfl T.d_is_number.g T.d_is_number.F.kp T.d_is_number.b .nil pass0 (pa_cons (pv 2) (pa_cons pe_int (pa_cons (pe_glob (v := .int 12) rfl T.g_MOST_GUESSED.choose_spec ⟨_, rfl⟩) pa_nil)))))) (pss_one ps_never) pss_nil)
      (pss_cons (ps_if (pt_not (pt_val (pe_call (ok_are_stands T) (hr.mono (by decide)) rfl T.d_are_stands.g T.d_are_stands.F.kp T.d_are_stands.b .nil pass0 (pa_cons (pv 3) (pa_cons (pv 2) pa_nil))))) (pss_one ps_never) pss_nil)
      (pss_cons (ps_if (pt_not (pt_val (pe_call (ok_are_steps T) (hr.mono (by decide)) rfl T.d_are_steps.g T.d_are_steps.F.kp T.d_are_steps.b .nil pass0 (pa_cons (pv 4) (pa_cons (pv 1) (pa_cons (pv 2) pa_nil)))))) (pss_one ps_never) pss_nil)
      (pss_cons (ps_if (pt_not (pt_val (pe_call (ok_are_stands T) (hr.mono (by decide)) rfl T.d_are_stands.g T.d_are_stands.F.kp T.d_are_stands.b .nil pass0 (pa_cons (pv 5) (pa_cons (pv 2) pa_nil))))) (pss_one ps_never) pss_nil)
      (pss_one (ps_fld (pv 0) (pe_tup (pa_cons (pv 1) (pa_cons (pv 2) (pa_cons (pv 3) (pa_cons (pv 4) (pa_cons (pv 5) pa_nil)))))) rfl))))))), ?_⟩
    refine q_drop (ev_call (by walk_at "ev") (spv_check_signs n1 n8)) fun H1 e1 => ?_
    refine q_when (b := false) (et_not (et_B (ev_call (by walk_at "ev") (spv_is_numberT (by omega))))) (fun h => nomatch h) fun _ H2 e2 => ?_
    have e12 := e1.trans e2
    refine q_when (b := false) (et_not (et_B (ev_call (by walk_at "ev") (spv_are_stands (hb.ex e12) Ab.asc Ab.bd (by have := asc_len Ab; omega))))) (fun h => nomatch h) fun _ H3 e3 => ?_
    have e13 := e12.trans e3
    refine q_when (b := false) (et_not (et_B (ev_call (by walk_at "ev") (spv_are_steps (hs.ex e13) S n8 m12 hl)))) (fun h => nomatch h) fun _ H4 e4 => ?_
    have e14 := e13.trans e4
    refine q_when (b := false) (et_not (et_B (ev_call (by walk_at "ev") (spv_are_stands (hg.ex e14) Ag.asc Ag.bd (by have := asc_len Ag; omega))))) (fun h => nomatch h) fun _ H5 e5 => ?_
    exact set_parts T.clG T.npG hp (e14.trans e5) (eu_tup (by walk_at "ev") (by show 5 ≤ 100000; decide)) (ev_var rfl) k
theorem er_Guesser {σ : L2.St} {H : Hp} {t : TA} {C ab as ag : Addr} {n m : Nat} {bs : List Nat} {ss : List Stp} {gs : List Nat} {E : XK} (h : EvA t σ H [.int n, .int m, .ref ab, .ref as, .ref ag]) (hb : StT H ab bs) (hs : StpT H as ss) (hg : StT H ag gs)
    (n1 : 1 ≤ n) (n8 : n ≤ 8) (m1 : 1 ≤ m) (m12 : m ≤ 12) (Ab : Asc m bs) (S : SsOk n m ss) (hl : ss.length ≤ 1000) (Ag : Asc m gs) : EvR (tMake C (sp_Guesser_init C) [] E t) σ H (fun H p => GsrAt C H p n m bs ss gs) := fun H1 e Q q =>
  h H1 e _ fun H2 e2 x dx hx hd hn => by
    have e3 : Ex H2 (upd (upd H2 dx (.own x)) x (.ins C dx [])) := fun b o hb => by rw [upd_ne (ne_of_none hb hx), upd_ne (ne_of_none hb hd)]; exact hb
    have e4 := (e.trans e2).trans e3
    refine ⟨x, dx, ab, as, ag, n, m, bs, ss, gs, rfl, upd_same, hb.ex e4, hs.ex e4, hg.ex e4, n1, n8, m1, m12, Ab, S, hl, Ag, fun H' I => ⟨rfl, ?_⟩⟩
    obtain ⟨i1, i2⟩ := inited_new hx hd I
    have e5 := (e.trans e2).trans i2
    exact q x H' (fresh_back e2 hx) (e2.trans i2) ⟨ab, as, ag, i1, hb.ex e5, hs.ex e5, hg.ex e5⟩
end
end K14
set_option maxHeartbeats 4000000
/-! dict comprehensions: keys ints, texts or tuples of these; one clause or two; as a value or stored to a local -/
namespace K14
open PySem L2
theorem tupleKind_room_of {P : Program} {w : World} {A : Around} (hu : A.units + 1 < cLine) : (tupleKind (mixKind P w)).room A := Nat.lt_of_succ_lt hu
section
variable {X : Cx} {pins : List (Addr × Obj)} {σ : L2.St} {H H' : Hp} {s : Shared} {D : Addr} {y v : V} {u r : Value} {Q : Unit → Shared → Prop} {E : Value → Shared → Prop}
/-- the store of a dict comprehension, by what it does to the abstract heap -/
theorem dput_set (hu : X.A.units + 1 < cLine) (I : Inv X pins σ H s) (g : DPut H D y v H') (ry : RelV y u) (rv : RelV v r) (h : ∀ s', Inv X pins σ H' s' → Q () s') : wpAny (model X.prog X.w) X.A (dictSet D u r) Q E s := by
  rcases g with ⟨kvs, k, e, rfl, l, rfl⟩ | ⟨kvs, k, b, e, rfl, eb, l, rfl⟩
  · exact d_dictSet I e l ry rv h
  · cases (show u = Value.ref b from ry)
    obtain ⟨z, hd, xs, rel, dd⟩ := dt_of I.hok e
    have lx : xs.length = kvs.length := (Paired.length rel).symm
    have kx := key_of I.hok eb
    refine wpAny_dictSet_heap (tupleKind_room_of hu) kx dd (fun h' dd' sb => ?_) (by rw [lx]; exact z)
    have ne : ∀ c ys, H c = some (.tup ys) → upd H D (.dT (putK kvs k v)) c = some (.tup ys) := fun c ys q => by
      rw [upd_ne (fun w => by rw [w, e] at q; cases q)]
      exact q
    obtain ⟨ob, es, ep, g1, g2, g3, g4, g5, g6⟩ := id dd'
    exact h _ (d_write (t' := s.toks + (tupleKind (mixKind X.prog X.w)).draws k) I (by rw [e]; exact True.intro) sb ⟨ob, g1⟩ ⟨by have := length_putK kvs k v; omega, hd, _, (rel.put k eb rv).keeps ne, ob, es, ep, g1, g2, g3, g4, g6⟩)
end
/-- one turn of a comprehension's loop, body what is done where the tests hold -/
def turnOf (e : Expr) (d : Nat) (tg : Expr) (ip : Pos) (ifs : List Expr) (it acc : Value) (env : Env) (after : Sem PySem.Fin) : Sem PySem.Fin := do
  standAt ip
  match ← pyNext it with
  | none => pure (.done .next)
  | some v =>
    letOwnedTupleGo tg it v
    assign tg env v
    let mut ok := true
    for c in ifs do
      if ok then
        ok ← isTrue c env (eval c env)
    if ok then after else again (.compLoop e d it acc env)
/-- k: v stored -/
def emit0 (kx vx : Expr) (D : Addr) (env : Env) : Sem Unit := do
  let kv ← eval kx env
  let vv ← holding [kv] (eval vx env)
  standAt { kx.pos with endLine := vx.pos.endLine, endCol := vx.pos.endCol }
  holding [kv, vv] (dictSet D kv vv)
def emitOf (e : Expr) (d : Nat) (it : Value) (kx vx : Expr) (D : Addr) (env : Env) : Sem PySem.Fin := do
  emit0 kx vx D env
  again (.compLoop e d it (.ref D) env)
/-- the second clause run -/
def innerOf (e i1 : Expr) (it acc : Value) (env : Env) : Sem PySem.Fin := do
  let x ← eval i1 env
  standAt i1.pos
  let x ← foldedSetIterable i1 env x
  let _ ← runOwn (.compStart e 1 (← holding [x] (pyIter x)) acc env) env
  again (.compLoop e 0 it acc env)
theorem turn_one (kx vx tg iter : Expr) (ifs : List Expr) (scope : Scope) (pos : Pos) (it : Value) (D : Addr) (env : Env) :
    compTurn (.DictComp kx vx [⟨tg, iter, ifs, 0⟩] scope pos) 0 it (.ref D) env = turnOf (.DictComp kx vx [⟨tg, iter, ifs, 0⟩] scope pos) 0 tg iter.pos ifs it (.ref D) env (emitOf (.DictComp kx vx [⟨tg, iter, ifs, 0⟩] scope pos) 0 it kx vx D env) := by rfl
theorem turn_in (kx vx t0 i0 t1 i1 : Expr) (f0 f1 : List Expr) (scope : Scope) (pos : Pos) (it : Value) (D : Addr) (env : Env) :
    compTurn (.DictComp kx vx [⟨t0, i0, f0, 0⟩, ⟨t1, i1, f1, 0⟩] scope pos) 1 it (.ref D) env = turnOf (.DictComp kx vx [⟨t0, i0, f0, 0⟩, ⟨t1, i1, f1, 0⟩] scope pos) 1 t1 i1.pos f1 it (.ref D) env (emitOf (.DictComp kx vx [⟨t0, i0, f0, 0⟩, ⟨t1, i1, f1, 0⟩] scope pos) 1 it kx vx D env) := by rfl
theorem turn_out (kx vx t0 i0 t1 i1 : Expr) (f0 f1 : List Expr) (scope : Scope) (pos : Pos) (it acc : Value) (env : Env) :
    compTurn (.DictComp kx vx [⟨t0, i0, f0, 0⟩, ⟨t1, i1, f1, 0⟩] scope pos) 0 it acc env = turnOf (.DictComp kx vx [⟨t0, i0, f0, 0⟩, ⟨t1, i1, f1, 0⟩] scope pos) 0 t0 i0.pos f0 it acc env (innerOf (.DictComp kx vx [⟨t0, i0, f0, 0⟩, ⟨t1, i1, f1, 0⟩] scope pos) i1 it acc env) := by rfl
section
variable {B : Cx} {kx vx tg : Expr} {gens : List Comprehension} {scope : Scope} {pos ip : Pos} {d : Nat} {ifs : List Expr} {acc : Value} {after : Sem PySem.Fin} {J : It} {fp : List Addr} {it : Addr} {tn : Nat → Heap → Prop} {g : TG} {tt : TT} {pins : List (Addr × Obj)} {σ : L2.St} {vs : List Nat}
/-- what is done where the tests hold, from slots σ2 to what N says, then the loop again; slots of vs may be lost -/
def BodyOk (B : Cx) (vs : List Nat) (c : Code) (after : Sem PySem.Fin) (tb : L2.St → Hp → (Hp → Prop) → Prop) : Prop :=
  ∀ (pins : List (Addr × Obj)) (s : Shared) (σ2 : L2.St) (H : Hp) (N : Hp → Prop) (R : PySem.Fin → Shared → Prop), Inv B pins σ2 H s → tb σ2 H N →
    (∀ (s' : Shared) (σ' : L2.St) (H' : Hp), Inv B pins σ' H' s' → σ'.length = σ2.length → (∀ (j : Nat) (v : V), (wipe σ2 vs)[j]? = some (some v) → σ'[j]? = some (some v)) → N H' → R (.again c) s') →
    wpAny (model B.prog B.w) B.A after R (fun _ _ => False) s
/-- the loop of a clause -/
theorem loop_of {R : Result → Shared → Prop} {tb : L2.St → Hp → (Hp → Prop) → Prop} {Qs : Hp → Prop} (hc : B.calm = true)
    (ht : compTurn (.DictComp kx vx gens scope pos) d (.ref it) acc B.env = turnOf (.DictComp kx vx gens scope pos) d tg ip ifs (.ref it) acc B.env after)
    (T : Turn B.prog B.w B.K tg J fp it tn) (pg : PG B tg g) (pt : PTs B ifs tt) (pb : BodyOk B vs (.compLoop (.DictComp kx vx gens scope pos) d (.ref it) acc B.env) after tb) (hxe : ∀ e s, ¬ B.xe e s)
    (stat : ∀ H : Hp, (∀ b ∈ fp, H b = none) → ∀ b ∈ fp, FpOk B pins H b)
    (fin : ∀ s' H', Inv B pins (wipe σ vs) H' s' → (∀ b ∈ fp, H' b = none) → Qs H' → R (.ok .next) s')
    (W : Nat → Nat → Hp → Prop)
    (turn : ∀ i m H, W i m H → (J.stop i H ∧ Qs H) ∨ (J.go i H ∧ ∃ Nx : Hp → Prop, (∀ H', Nx H' → ∃ m', m' < m ∧ W (i + 1) m' H') ∧ ∀ x H', J.yld i H x H' → g x (wipe σ vs) H' fun σ2 H2 => wipe σ2 vs = wipe σ vs ∧ tt σ2 H2 fun b H3 => if b = true then tb σ2 H3 Nx else Nx H3))
    {m0 : Nat} {H : Hp} {s : Shared} (I : Inv B pins (wipe σ vs) H s) (st : tn 0 s.heap) (nf : ∀ b ∈ fp, H b = none) (w0 : W 0 m0 H) :
    codeAny (model B.prog B.w) B.A (.compLoop (.DictComp kx vx gens scope pos) d (.ref it) acc B.env) R s := by
  have low : ∀ {α : Type} {t : Sem α} {Q Q' : α → Shared → Prop} {z : Shared} {E : Value → Shared → Prop}, wpAny (model B.prog B.w) B.A t Q B.xe z → (∀ a z', Q a z' → Q' a z') → wpAny (model B.prog B.w) B.A t Q' E z := fun h k => wpAny_mono h k fun e z q => absurd q (hxe e z)
  refine codeAny_loop rfl (fun n s' => ∃ i H', Inv B pins (wipe σ vs) H' s' ∧ tn i s'.heap ∧ (∀ b ∈ fp, H' b = none) ∧ W i n H') ?_ m0 ⟨0, H, I, st, nf, w0⟩
  rintro n sA ⟨i, HA, IA, stA, nA, wA⟩
  show wpAny _ B.A ((compTurn (.DictComp kx vx gens scope pos) d (.ref it) acc B.env).onRaise (fun z => do noteFrame z B.env; theTreesLotGoes z)) _ _ sA
  rw [ht]
  refine wpAny_noted ?_
  unfold turnOf
  refine wpAny_bind (wpAny_standAt (wpAny_bind ?_))
  rcases turn i n HA wA with ⟨stop, qs⟩ | ⟨go, Nx, hNx, step⟩
  · refine thnF (T.done B rfl rfl rfl hc i pins sA _ HA (fun _ _ => False) IA (stat HA nA) stA stop) fun r sB hB => ?_
    obtain ⟨rfl, IB⟩ := hB
    exact wpAny_pure (fin sB HA IB nA qs)
  · refine thnF (T.item B rfl rfl rfl hc i pins sA _ HA (fun _ _ => False) IA (stat HA nA) stA go) fun r sB hB => ?_
    obtain ⟨u, rfl, hB⟩ := hB
    refine wpAny_bind (thnF hB fun _ sC hC => ?_)
    obtain ⟨x, HC, IC, rx, yC, stC, nC⟩ := hC
    have IP := IC.pinned (stat HC nC) (T.obj _ _ stC)
    refine wpAny_bind (low (pg.run _ sC _ HC x u _ IP rx (step x HC yC)) fun _ sD hD => ?_)
    obtain ⟨σD, HD, ID, eD, qD⟩ := hD
    refine wpAny_bind (low (pt.run _ sD σD HD _ ID qD) fun b sE hE => ?_)
    obtain ⟨HE, IE, qE⟩ := hE
    have lD : (wipe σ vs).length = σD.length := by rw [← eD, wipe_length]
    have fin1 : ∀ (s' : Shared) (σ' : L2.St) (H' : Hp), Inv B (pins ++ pinsAt fp sC.heap) σ' H' s' → σ'.length = σD.length → (∀ (j : Nat) (v : V), (wipe σD vs)[j]? = some (some v) → σ'[j]? = some (some v)) → Nx H' →
        ∃ m, m < n ∧ ∃ i H', Inv B pins (wipe σ vs) H' s' ∧ tn i s'.heap ∧ (∀ b ∈ fp, H' b = none) ∧ W i m H' := fun s' σ' H' I' l' k' nx => by
      obtain ⟨m', hm, w'⟩ := hNx H' nx
      have pn : ∀ b ∈ fp, ∀ o, sC.heap.get? b = some o → s'.heap.get? b = some o ∧ H' b = none := fun b hb o q => by
        have z := I'.pin (b, o) (List.mem_append_right _ (List.mem_append_right _ (mem_pinsAt hb q)))
        exact ⟨z.1, z.2.1⟩
      refine ⟨m', hm, i + 1, H', I'.unpinned.weak (lD.trans l'.symm) (fun j v q => k' j v (by rw [eD]; exact q)), T.keep _ _ _ stC (fun b hb o q => (pn b hb o q).1), fun b hb => ?_, w'⟩
      obtain ⟨o, q, _⟩ := T.obj _ _ stC b hb
      exact (pn b hb o q).2
    cases b with
    | false =>
      simp only [Bool.false_eq_true, if_false] at qE ⊢
      exact wpAny_pure ⟨rfl, fin1 sE σD HE IE rfl (fun j v q => (wipe_some q).1) qE⟩
    | true =>
      simp only [if_true] at qE ⊢
      refine thnF (pb _ sE σD HE Nx _ IE qE fun s' σ' H' I' l' k' nx => ?_) fun _ _ q => q
      exact ⟨rfl, fin1 s' σ' H' I' l' k' nx⟩

def tEmit (D : Addr) (tk tv : TE) : L2.St → Hp → (Hp → Prop) → Prop := fun σ H N => tk σ H fun y H1 => tv σ H1 fun z H2 => ∃ H3, DPut H2 D y z H3 ∧ N H3
theorem body_emit {e : Expr} {D : Addr} {tk tv : TE} (hu : B.A.units + 1 < cLine) (hxe : ∀ e s, ¬ B.xe e s) (hk : PE B kx tk) (hv : PE B vx tv) :
    BodyOk B vs (.compLoop e d (.ref it) (.ref D) B.env) (emitOf e d (.ref it) kx vx D B.env) (tEmit D tk tv) := by
  have low : ∀ {α : Type} {t : Sem α} {Q Q' : α → Shared → Prop} {z : Shared} {E : Value → Shared → Prop}, wpAny (model B.prog B.w) B.A t Q B.xe z → (∀ a z', Q a z' → Q' a z') → wpAny (model B.prog B.w) B.A t Q' E z := fun h k => wpAny_mono h k fun e z q => absurd q (hxe e z)
  intro pins s σ2 H N R I h k
  unfold emitOf emit0
  refine wpAny_bind (wpAny_bind (low (hk.run pins s σ2 H _ I h) fun kv sA hA => ?_))
  obtain ⟨y, HA, IA, ry, hA⟩ := hA
  refine wpAny_bind (wpAny_holding (low (hv.run pins sA σ2 HA _ IA hA) fun vv sB hB => ?_))
  obtain ⟨z, HB, IB, rz, H3, pt, hN⟩ := hB
  refine wpAny_bind (wpAny_standAt (wpAny_holding (dput_set hu IB pt ry rz fun sC IC => ?_)))
  exact wpAny_pure (k sC σ2 H3 IC rfl (fun j v q => (wipe_some q).1) hN)
variable {t0 i0 t1 i1 : Expr} {f0 f1 : List Expr} {wi1 : TI} {g1 : TG} {tt1 : TT} {vs1 : List Nat}
def tInner (D : Addr) (wi1 : TI) (g1 : TG) (tt1 : TT) (tk tv : TE) (vs1 : List Nat) : L2.St → Hp → (Hp → Prop) → Prop := fun σ2 H N => wi1 σ2 H fun J H1 => ∃ W : Nat → Nat → Hp → Prop, (∃ m, W 0 m H1) ∧ ∀ i m H, W i m H → (J.stop i H ∧ N H) ∨ (J.go i H ∧ ∃ Nx : Hp → Prop,
  (∀ H', Nx H' → ∃ m', m' < m ∧ W (i + 1) m' H') ∧ ∀ x H', J.yld i H x H' → g1 x (wipe σ2 vs1) H' fun σ3 H2 => wipe σ3 vs1 = wipe σ2 vs1 ∧ tt1 σ3 H2 fun b H3 => if b = true then tEmit D tk tv σ3 H3 Nx else Nx H3)
theorem body_inner {D it0 : Addr} {tk tv : TE} (hc : B.calm = true) (hu : B.A.units + 1 < cLine) (hxe : ∀ e s, ¬ B.xe e s) (hsub : ∀ i ∈ vs1, i ∈ vs) (hi1 : PI B t1 i1 wi1) (hg1 : PG B t1 g1) (ht1 : PTs B f1 tt1) (hk : PE B kx tk) (hv : PE B vx tv)
    (hs1 : ∀ x, foldedSetIterable i1 B.env x = pure x) :
    BodyOk B vs (.compLoop (.DictComp kx vx [⟨t0, i0, f0, 0⟩, ⟨t1, i1, f1, 0⟩] scope pos) 0 (.ref it0) (.ref D) B.env) (innerOf (.DictComp kx vx [⟨t0, i0, f0, 0⟩, ⟨t1, i1, f1, 0⟩] scope pos) i1 (.ref it0) (.ref D) B.env) (tInner D wi1 g1 tt1 tk tv vs1) := by
  have low : ∀ {α : Type} {t : Sem α} {Q Q' : α → Shared → Prop} {z : Shared} {E : Value → Shared → Prop}, wpAny (model B.prog B.w) B.A t Q B.xe z → (∀ a z', Q a z' → Q' a z') → wpAny (model B.prog B.w) B.A t Q' E z := fun h k => wpAny_mono h k fun e z q => absurd q (hxe e z)
  intro pins s σ2 H N R I h k
  unfold innerOf
  refine wpAny_bind (low (hi1.run pins s σ2 H _ I h) fun xv sA hA => ?_)
  refine wpAny_bind (wpAny_standAt (wpAny_bind (wpAny_of_eq (hs1 xv) (wpAny_bind (wpAny_holding (low hA fun itv sB hB => ?_))))))
  obtain ⟨it1, fp1, tn1, J1, HB, rfl, IB, T1, st1, fk1, W, ⟨m0, w0⟩, turn⟩ := hB
  refine wpAny_bind (wpAny_runOwn ?_)
  rw [Around.mark_none]
  have stat : ∀ H' : Hp, (∀ b ∈ fp1, H' b = none) → ∀ b ∈ fp1, FpOk B pins H' b := fun H' nf b hb => ⟨nf b hb, (fk1 b hb).2⟩
  have Iw : Inv B pins (wipe σ2 vs1) HB sB := IB.weak (wipe_length _ _) fun j v q => (wipe_some q).1
  have loop : codeAny (model B.prog B.w) B.A (.compLoop (.DictComp kx vx [⟨t0, i0, f0, 0⟩, ⟨t1, i1, f1, 0⟩] scope pos) 1 (.ref it1) (.ref D) B.env)
      (fun r s' => r = .ok .next ∧ ∃ H', Inv B pins (wipe σ2 vs1) H' s' ∧ N H') sB :=
    loop_of hc (turn_in kx vx t0 i0 t1 i1 f0 f1 scope pos (.ref it1) D B.env) T1 hg1 ht1 (body_emit hu hxe hk hv) hxe stat (fun s' H' I' _ n => ⟨rfl, H', I', n⟩) W turn Iw st1 (fun b hb => (fk1 b hb).1) w0
  have start : codeAny (model B.prog B.w) B.A (.compStart (.DictComp kx vx [⟨t0, i0, f0, 0⟩, ⟨t1, i1, f1, 0⟩] scope pos) 1 (.ref it1) (.ref D) B.env)
      (fun r s' => r = .ok .next ∧ ∃ H', Inv B pins (wipe σ2 vs1) H' s' ∧ N H') sB := by
    refine codeAny_of_tree ?_
    show wpAny _ B.A ((compStart (.DictComp kx vx [⟨t0, i0, f0, 0⟩, ⟨t1, i1, f1, 0⟩] scope pos) 1 (.ref it1) (.ref D) B.env).onRaise (fun z => do noteFrame z B.env; standAt theWindowsPlace)) _ _ sB
    refine wpAny_notedAt ?_
    unfold compStart
    show wpAny _ B.A (ask >>= _) _ _ sB
    refine wpAny_bind (wpAny_askSetting (wpAny_ite ?_))
    have go2 : wpAny (model B.prog B.w) B.A (pyIter (.ref it1)) (fun it' z => codeAny (model B.prog B.w) B.A (.compLoop (.DictComp kx vx [⟨t0, i0, f0, 0⟩, ⟨t1, i1, f1, 0⟩] scope pos) 1 it' (.ref D) B.env) (fun r s' => r = .ok .next ∧ ∃ H', Inv B pins (wipe σ2 vs1) H' s' ∧ N H') z) (fun _ _ => False) sB :=
      T1.self B.A 0 _ _ _ st1 loop
    split
    · first
        | exact wpAny_pure ⟨rfl, loop⟩
        | exact wpAny_bind (wpAny_pure (wpAny_pure ⟨rfl, loop⟩))
    · first
        | exact wpAny_bind (wpAny_rule (wpAny_bind (wpAny_standAt (wpAny_bind (thnF go2 fun it' z q => wpAny_pure ⟨rfl, q⟩)))))
        | (refine wpAny_bind (wpAny_rule ?_); show wpAny _ _ (standAt i1.pos >>= _) _ _ sB; exact wpAny_bind (wpAny_standAt (wpAny_bind (thnF go2 fun it' z q => wpAny_pure ⟨rfl, q⟩))))
  refine codeAny_mono start fun r s' hr => ?_
  obtain ⟨rfl, H', I', n⟩ := hr
  have fin : R (.again (.compLoop (.DictComp kx vx [⟨t0, i0, f0, 0⟩, ⟨t1, i1, f1, 0⟩] scope pos) 0 (.ref it0) (.ref D) B.env)) s' := by
    refine k s' _ H' I' (wipe_length _ _) (fun j v q => ?_) n
    obtain ⟨q1, q2⟩ := wipe_some q
    rw [wipe_out fun z => q2 (hsub j z)]
    exact q1
  first
    | exact wpAny_pure fin
    | exact wpAny_bind (wpAny_pure (wpAny_pure fin))
end
section
variable {X : Cx}
/-- p holds of the block of a comprehension, whatever it starts from -/
abbrev InBlk (X : Cx) (scope : Scope) (p : Cx → Prop) : Prop := ∀ (z : Shared) (h : Hp) (c : Addr) (l : List (Str × Addr)) (k : List Addr), p (X.blk z h scope (compEnvC scope l c X.env) k)
/-- a name that the block does not bind has its cell outside -/
theorem cells_of {pins : List (Addr × Obj)} {σ : L2.St} {H : Hp} {s : Shared} {scope : Scope} {own : List (Str × Nat)} (I : L2.Inv X pins σ H s) (ok : BlkOk X.N X.env.scope scope own) (y : Str × NameKind) (m : y ∈ scope.names) (f : y.2 = .free) : ∃ c, X.env.cells.lookup y.1 = some c :=
  (ok.free y m f).elim (fun k => I.ok.has _ (.inl k)) (fun k => I.ok.has _ (.inr k))
/-- the heap with an empty dict on top -/
abbrev withD (h : Heap) : Heap := h.push { cls := .type "dict", data := .dict #[] }
theorem inv_dict {pins : List (Addr × Obj)} {σ : L2.St} {H : Hp} {s : Shared} {o0 : HO} (I : L2.Inv X pins σ H s) (z : o0 = .dK [] ∨ o0 = .dT []) : L2.Inv X pins σ (upd H s.heap.objs.size o0) { s with heap := withD s.heap } :=
  I.laid (t' := s.toks) (fun _ _ q => Heap.get?_push_of_some _ q) (Nat.le_refl _) (z.elim (fun q => by rw [q]; exact dk_empty _ I.big) fun q => by rw [q]; exact dt_empty _ I.big)
/-- a dict comprehension: o0 the empty dict of the kind wanted, tb what is done where the tests hold (D the new dict) -/
def tDcG (o0 : HO) (wi : TI) (g : TG) (tt : TT) (tb : Addr → L2.St → Hp → (Hp → Prop) → Prop) (vs : List Nat) : TE := fun σ H Q => wi σ H fun J H1 => ∀ D, H1 D = none → ∃ W : Nat → Nat → Hp → Prop, (∃ m, W 0 m (upd H1 D o0)) ∧ ∀ i m H, W i m H →
  (J.stop i H ∧ Q (.ref D) H) ∨ (J.go i H ∧ ∃ Nx : Hp → Prop, (∀ H', Nx H' → ∃ m', m' < m ∧ W (i + 1) m' H') ∧ ∀ x H', J.yld i H x H' → g x (wipe σ vs) H' fun σ2 H2 => wipe σ2 vs = wipe σ vs ∧ tt σ2 H2 fun b H3 => if b = true then tb D σ2 H3 Nx else Nx H3)
/-- what stands when the comprehension's block has come to its end -/
def DcEnd (X : Cx) (pins : List (Addr × Obj)) (σ : L2.St) (Q : VK) (D C : Addr) (s' : Shared) : Prop := ∃ m H', L2.Inv X pins σ H' s' ∧ Q (.ref D) H' ∧ s'.heap.Ns C m ∧ FpOk X pins H' C
section
variable {kx vx tg iter : Expr} {ifs : List Expr} {rest : List Comprehension} {scope : Scope} {own : List (Str × Nat)} {pos pos' : Pos} {wi : TI} {g : TG} {tt : TT} {o0 : HO} {tb : Addr → L2.St → Hp → (Hp → Prop) → Prop} {after : Value → Addr → Env → Sem PySem.Fin}
/-- the block itself, from the new dict on -/
theorem dcg_block {pins : List (Addr × Obj)} {s : Shared} {σ : L2.St} {H : Hp} {Q : VK} {R : Result → Shared → Prop} {it D : Addr} {J : It} {fp : List Addr} {tn : Nat → Heap → Prop} {W : Nat → Nat → Hp → Prop} {m0 : Nat}
    (hc : X.calm = true) (hN : X.N.Nodup) (I : L2.Inv X pins σ H s) (ok : BlkOk X.N X.env.scope scope own) (T : Turn X.prog X.w X.K tg J fp it tn) (st : tn 0 s.heap) (ff : ∀ b ∈ fp, FpOk X pins H b)
    (hg : InBlk X scope fun B => PG B tg g) (ht : InBlk X scope fun B => PTs B ifs tt)
    (hturn : ∀ it D env, compTurn (.DictComp kx vx (⟨tg, iter, ifs, 0⟩ :: rest) scope pos) 0 it (.ref D) env = turnOf (.DictComp kx vx (⟨tg, iter, ifs, 0⟩ :: rest) scope pos) 0 tg iter.pos ifs it (.ref D) env (after it D env))
    (hb : InBlk X scope fun B => BodyOk B (own.map (·.2)) (.compLoop (.DictComp kx vx (⟨tg, iter, ifs, 0⟩ :: rest) scope pos) 0 (.ref it) (.ref D) B.env) (after (.ref it) D B.env) (tb D))
    (w0 : W 0 m0 H)
    (turn : ∀ i m H, W i m H → (J.stop i H ∧ Q (.ref D) H) ∨ (J.go i H ∧ ∃ Nx : Hp → Prop, (∀ H', Nx H' → ∃ m', m' < m ∧ W (i + 1) m' H') ∧ ∀ x H', J.yld i H x H' → g x (wipe σ (own.map (·.2))) H' fun σ2 H2 => wipe σ2 (own.map (·.2)) = wipe σ (own.map (·.2)) ∧ tt σ2 H2 fun b H3 => if b = true then tb D σ2 H3 Nx else Nx H3))
    (fin : ∀ s', DcEnd X pins σ Q D s.heap.objs.size s' → R (.ok .next) s') :
    codeAny (model X.prog X.w) X.A (.compStart (.DictComp kx vx (⟨tg, iter, ifs, 0⟩ :: rest) scope pos) 0 (.ref it) (.ref D) (compEnvC scope (cellsFrom (s.heap.objs.size + 1) scope.names (cloFrom X.env.cells scope.names [])) s.heap.objs.size X.env)) R { s with heap := pushCells (withD s.heap) scope.names } := by
  have at0 : ∀ b ∈ fp, FpOk X pins H b ∧ b < s.heap.objs.size := fun b m => ⟨ff b m, let ⟨_, q, _⟩ := T.obj _ _ st b m; Heap.lt_size q⟩
  have J4 := block_start I ok hN at0
  have up : ∀ b o, s.heap.get? b = some o → (pushCells (withD s.heap) scope.names).get? b = some o := fun b o q => pushCells_keeps _ _ _ _ (Heap.get?_push_of_some _ q)
  have h1 := hg s H s.heap.objs.size (cellsFrom (s.heap.objs.size + 1) scope.names (cloFrom X.env.cells scope.names [])) fp
  have h2 := ht s H s.heap.objs.size (cellsFrom (s.heap.objs.size + 1) scope.names (cloFrom X.env.cells scope.names [])) fp
  have h3 := hb s H s.heap.objs.size (cellsFrom (s.heap.objs.size + 1) scope.names (cloFrom X.env.cells scope.names [])) fp
  have begun : tn 0 (pushCells (withD s.heap) scope.names) := T.keep _ _ _ st fun b _ o q => up b o q
  revert J4 h1 h2 h3
  generalize en : compEnvC scope (cellsFrom (s.heap.objs.size + 1) scope.names (cloFrom X.env.cells scope.names [])) s.heap.objs.size X.env = env
  intro J4 h1 h2 h3
  have le : env.locals = s.heap.objs.size := by rw [← en]; rfl
  have go : codeAny (model X.prog X.w) X.A (.compLoop (.DictComp kx vx (⟨tg, iter, ifs, 0⟩ :: rest) scope pos) 0 (.ref it) (.ref D) env) R { s with heap := pushCells (withD s.heap) scope.names } := by
    refine loop_of (B := X.blk s H scope env fp) (pins := []) (Qs := fun H' => Q (.ref D) H') hc (hturn _ _ _) T h1 h2 h3 (fun _ _ q => q) ?_ ?_ W turn J4 begun (fun b m => (ff b m).1) w0
    · intro H' nf b m
      refine ⟨nf b m, (J4.ok.exf b m).1, J4.ok.exfs b m, .inl m, fun x c q => (J4.ok.exf b m).2 x c q, fun q hq => ?_⟩
      have hq : q ∈ ([] : List (Addr × Obj)) := hq
      cases hq
    · intro z H' I' _ q
      refine fin z ?_
      have back : L2.Inv X pins σ H' z := I.call' (ch := fp) I'.os I'.base I'.hok I'.bare fun b m => by
        obtain ⟨_, x1, x2, x3, x4, x5⟩ := ff b m
        exact ⟨x3, x1, x4, x5⟩
      obtain ⟨m, ns, _⟩ := I'.loc
      have no : H' env.locals = none := I'.free
      have ns : z.heap.Ns env.locals m := ns
      rw [le] at no ns
      exact ⟨m, H', back, q, ns, I.fpOk (Nat.le_refl _) no⟩
  exact codeAny_compStart_dict go (T.self X.A 0 _ _ _ begun go)
theorem dcg_core {pins : List (Addr × Obj)} {s : Shared} {σ : L2.St} {H : Hp} {Q : VK} {use : Option (Value → Sem Unit)} {Qf : Value → Shared → Prop}
    (hc : X.calm = true) (hN : X.N.Nodup) (I : L2.Inv X pins σ H s) (hi : PI X tg iter wi) (ok : BlkOk X.N X.env.scope scope own) (ho0 : o0 = .dK [] ∨ o0 = .dT [])
    (hg : InBlk X scope fun B => PG B tg g) (ht : InBlk X scope fun B => PTs B ifs tt)
    (hturn : ∀ it D env, compTurn (.DictComp kx vx (⟨tg, iter, ifs, 0⟩ :: rest) scope pos) 0 it (.ref D) env = turnOf (.DictComp kx vx (⟨tg, iter, ifs, 0⟩ :: rest) scope pos) 0 tg iter.pos ifs it (.ref D) env (after it D env))
    (hb : ∀ it D, InBlk X scope fun B => BodyOk B (own.map (·.2)) (.compLoop (.DictComp kx vx (⟨tg, iter, ifs, 0⟩ :: rest) scope pos) 0 (.ref it) (.ref D) B.env) (after (.ref it) D B.env) (tb D))
    (hs : ∀ x, foldedSetIterable iter X.env x = pure x)
    (h : tDcG o0 wi g tt tb (own.map (·.2)) σ H Q)
    (hRR : ∀ D C s', DcEnd X pins σ Q D C s' → compPost (model X.prog X.w) X.A X.xe use Qf (.ref D) C (.ok .next) s') :
    wpAny (model X.prog X.w) X.A (comprehension (.DictComp kx vx (⟨tg, iter, ifs, 0⟩ :: rest) scope pos) scope X.env pos' newDict false (eval iter X.env) use) Qf X.xe s := by
  refine wpAny_comprehension_free (use := use) rfl hs (closure_ok (cells_of I ok)) ok.kind (fun y m f => by rw [ok.uniq y m, f]) (thn (hi.run pins s σ H _ I h) fun _ _ step => thn step fun _ s2 got => ?_)
  obtain ⟨it, fp, tn, J, H2, rfl, I2, T, begun, fok, more⟩ := got
  obtain ⟨W, ⟨m0, w0⟩, turn⟩ := more s2.heap.objs.size (I2.hok.fresh (Nat.le_refl _))
  refine wpAny_newObj_type (newEnv_comp ?_)
  refine dcg_block (D := s2.heap.objs.size) hc hN (inv_dict I2 ho0) ok T (T.keep _ _ _ begun fun b _ o q => Heap.get?_push_of_some _ q) (fun b m => ?_) hg ht hturn (hb it _) w0 turn fun s' q => hRR _ _ s' q
  obtain ⟨o, q, _⟩ := T.obj _ _ begun b m
  refine ⟨?_, (fok b m).2⟩
  rw [upd_ne (Nat.ne_of_lt (Heap.lt_size q))]
  exact (fok b m).1
/-- the end, the dict as a value -/
theorem dc_value {pins : List (Addr × Obj)} {σ : L2.St} {Q : VK} {D C : Addr} {s' : Shared} (q : DcEnd X pins σ Q D C s') : compPost (model X.prog X.w) X.A X.xe none (fun r t => ∃ v H', L2.Inv X pins σ H' t ∧ RelV v r ∧ Q v H') (.ref D) C (.ok .next) s' := by
  obtain ⟨m, H', I', q, ns, f0, f1, f2, f3, f4, f5⟩ := q
  exact ⟨m, ns, fun _ sb => ⟨.ref D, H', I'.turned (t' := s'.toks) (fun b o n q => (sb.2 b n).trans q) f0 f1 f3 f4 f5, rfl, q⟩⟩
/-- the end, the dict stored to a local -/
theorem dc_local {pins : List (Addr × Obj)} {σ : L2.St} {D : Ends} {i : Nat} {y : Str} {py : Pos} {L C : Addr} {s' : Shared} (hN : X.N.Nodup) (hy : X.N[i]? = some y) (hyl : X.env.scope.names.lookup y = some .local) (q : DcEnd X pins σ (fun x H1 => gName i x σ H1 D.nx) L C s') :
    compPost (model X.prog X.w) X.A X.xe (some (assign (.Name y py) X.env)) (fun _ t => SP X pins D .next t) (.ref L) C (.ok .next) s' := by
  obtain ⟨m, H', I', q, ns, f0, f1, f2, f3, f4, f5⟩ := q
  refine wpAny_assign_Name (store_ok2 (v := V.ref L) I' hN hy (.inl hyl) rfl (fun t I2 ⟨a, sb, at1⟩ => ?_) (.inr hyl))
  have ne : C ≠ a := at1.elim (fun z => by rw [z]; exact f1) (fun z w => f4 y a z w.symm)
  exact ⟨m, ns.sameBut sb ne, fun _ sb' => ⟨_, H', I2.turned (t' := t.toks) (fun b o n q => (sb'.2 b n).trans q) f0 f1 f3 f4 f5, q⟩⟩
variable {tk tv : TE}
/-- one clause, as a value -/
theorem pe_dcg (o0 : HO) (hu : X.A.units + 1 < cLine) (hc : X.calm = true) (hN : X.N.Nodup) (hi : PI X tg iter wi) (ok : BlkOk X.N X.env.scope scope own) (hg : InBlk X scope fun B => PG B tg g) (ht : InBlk X scope fun B => PTs B ifs tt)
    (hk : InBlk X scope fun B => PE B kx tk) (he : InBlk X scope fun B => PE B vx tv) (ho0 : o0 = .dK [] ∨ o0 = .dT []) (hs : ∀ x, foldedSetIterable iter X.env x = pure x := by intro _; rfl) :
    PE X (.DictComp kx vx [⟨tg, iter, ifs, 0⟩] scope pos) (tDcG o0 wi g tt (fun D => tEmit D tk tv) (own.map (·.2))) where
  run pins s σ H Q I h := by
    rw [arm_eval_DictComp]
    exact dcg_core hc hN I hi ok ho0 hg ht (after := fun it D env => emitOf (.DictComp kx vx [⟨tg, iter, ifs, 0⟩] scope pos) 0 it kx vx D env) (fun it D env => turn_one kx vx tg iter ifs scope pos it D env)
      (fun it D z h c l k => body_emit hu (fun _ _ q => q) (hk z h c l k) (he z h c l k)) hs h fun _ _ _ q => dc_value q
/-- whether it is stored from within the block -/
theorem swD_true {gs : List Comprehension} {py : Pos} {y : Str} {l : Nat} {env : Env} (fn : env.scope.kind = .function) (own : env.scope.names.lookup y = some .local) (row : (py.line == pos.line) = true)
    (not : (scope.names.any fun (n, k) => n == y && (k == .local || k == .cell)) = false) : swapsWith (.DictComp kx vx gs scope pos) (some (.Name y py)) l env = pure true := by
  unfold swapsWith
  simp only [show env.blockKind = .function by unfold Env.blockKind; rw [fn]; rfl, show env.kindOf y = some .local from own, not, Expr.pos, row]
  rfl
/-- one clause, stored to a local on the same line -/
theorem ps_setDcg (o0 : HO) {i : Nat} {y : Str} {py spos : Pos} (hu : X.A.units + 1 < cLine) (hc : X.calm = true) (hN : X.N.Nodup) (hy : X.N[i]? = some y) (hyl : X.env.scope.names.lookup y = some .local)
    (hsw : swapsWith (.DictComp kx vx [⟨tg, iter, ifs, 0⟩] scope pos) (some (.Name y py)) spos.line X.env = pure true) (hi : PI X tg iter wi) (ok : BlkOk X.N X.env.scope scope own) (hg : InBlk X scope fun B => PG B tg g) (ht : InBlk X scope fun B => PTs B ifs tt)
    (hk : InBlk X scope fun B => PE B kx tk) (he : InBlk X scope fun B => PE B vx tv) (ho0 : o0 = .dK [] ∨ o0 = .dT []) (hs : ∀ x, foldedSetIterable iter X.env x = pure x := by intro _; rfl) :
    PS X (.Assign [.Name y py] (.DictComp kx vx [⟨tg, iter, ifs, 0⟩] scope pos) spos) (tAsg (tDcG o0 wi g tt (fun D => tEmit D tk tv) (own.map (·.2))) (gName i)) where
  run pins s σ H D I h := by
    rw [exec_Assign_Name_used _ _ _ _ hsw]
    have h : tDcG o0 wi g tt (fun D => tEmit D tk tv) (own.map (·.2)) σ H (fun x H1 => gName i x σ H1 D.nx) := h
    have core : wpAny (model X.prog X.w) X.A (comprehension (.DictComp kx vx [⟨tg, iter, ifs, 0⟩] scope pos) scope X.env (firstIterPos [⟨tg, iter, ifs, 0⟩] pos) newDict false (eval iter X.env) (some (assign (.Name y py) X.env))) (fun _ t => SP X pins D .next t) X.xe s :=
      dcg_core hc hN I hi ok ho0 hg ht (after := fun it D env => emitOf (.DictComp kx vx [⟨tg, iter, ifs, 0⟩] scope pos) 0 it kx vx D env) (fun it D env => turn_one kx vx tg iter ifs scope pos it D env)
        (fun it D z h c l k => body_emit hu (fun _ _ q => q) (hk z h c l k) (he z h c l k)) hs h fun _ _ _ q => dc_local hN hy hyl q
    exact wpAny_bind (wpAny_standAt (wpAny_bind (wpAny_bind (thn core fun _ _ q => wpAny_pure (wpAny_pure q)))))
variable {tg1 iter1 : Expr} {ifs1 : List Expr} {wi1 : TI} {g1 : TG} {tt1 : TT} {vs1 : List Nat}
/-- two clauses, as a value -/
theorem pe_dcg2 (o0 : HO) (hu : X.A.units + 1 < cLine) (hc : X.calm = true) (hN : X.N.Nodup) (hi : PI X tg iter wi) (ok : BlkOk X.N X.env.scope scope own) (hv : ∀ i ∈ vs1, i ∈ own.map (·.2)) (hg : InBlk X scope fun B => PG B tg g) (ht : InBlk X scope fun B => PTs B ifs tt)
    (hi1 : InBlk X scope fun B => PI B tg1 iter1 wi1) (hg1 : InBlk X scope fun B => PG B tg1 g1) (ht1 : InBlk X scope fun B => PTs B ifs1 tt1)
    (hk : InBlk X scope fun B => PE B kx tk) (he : InBlk X scope fun B => PE B vx tv) (ho0 : o0 = .dK [] ∨ o0 = .dT []) (hs : ∀ x, foldedSetIterable iter X.env x = pure x := by intro _; rfl) (hs1 : ∀ env x, foldedSetIterable iter1 env x = pure x := by intro _ _; rfl) :
    PE X (.DictComp kx vx [⟨tg, iter, ifs, 0⟩, ⟨tg1, iter1, ifs1, 0⟩] scope pos) (tDcG o0 wi g tt (fun D => tInner D wi1 g1 tt1 tk tv vs1) (own.map (·.2))) where
  run pins s σ H Q I h := by
    rw [arm_eval_DictComp]
    exact dcg_core hc hN I hi ok ho0 hg ht (after := fun it D env => innerOf (.DictComp kx vx [⟨tg, iter, ifs, 0⟩, ⟨tg1, iter1, ifs1, 0⟩] scope pos) iter1 it (.ref D) env) (fun it D env => turn_out kx vx tg iter tg1 iter1 ifs ifs1 scope pos it (.ref D) env)
      (fun it D z h c l k => body_inner hc hu (fun _ _ q => q) hv (hi1 z h c l k) (hg1 z h c l k) (ht1 z h c l k) (hk z h c l k) (he z h c l k) (hs1 _)) hs h fun _ _ _ q => dc_value q
end
end
end K14
set_option maxHeartbeats 4000000
/-! iterables, dicts and new objects in the words of Evl -/
namespace K14
open PySem L2 Evl
/-! ### alternatives -/
section
variable {X : Cx} {e tg : Expr}
def tOrE (t u : TE) : TE := fun σ H Q => t σ H Q ∨ u σ H Q
def iOr (t u : TI) : TI := fun σ H R => t σ H R ∨ u σ H R
def sOr (t u : TS) : TS := fun D σ H => t D σ H ∨ u D σ H
theorem pe_either {t u : TE} (h1 : PE X e t) (h2 : PE X e u) : PE X e (tOrE t u) := ⟨fun pins s σ H Q I h => h.elim (h1.run pins s σ H Q I) (h2.run pins s σ H Q I)⟩
theorem pi_either {t u : TI} (h1 : PI X tg e t) (h2 : PI X tg e u) : PI X tg e (iOr t u) := ⟨fun pins s σ H R I h => h.elim (h1.run pins s σ H R I) (h2.run pins s σ H R I)⟩
theorem ps_either {st : Stmt} {t u : TS} (h1 : PS X st t) (h2 : PS X st u) : PS X st (sOr t u) := ⟨fun pins s σ H D I h => h.elim (h1.run pins s σ H D I) (h2.run pins s σ H D I)⟩
end
/-! ### iterables -/
/-- the heap without D -/
def off (D : Addr) (H : Hp) : Hp := fun a => if a = D then none else H a
theorem off_at {D : Addr} {H : Hp} : off D H D = none := if_pos rfl
theorem off_ne {D a : Addr} {H : Hp} (h : a ≠ D) : off D H a = H a := if_neg h
theorem off_ex {D : Addr} {H : Hp} : Ex (off D H) H := fun a o h => by
  by_cases c : a = D
  · rw [c, off_at] at h
    cases h
  · rwa [off_ne c] at h
theorem ex_off {D : Addr} {H H' : Hp} (e : Ex H H') (h : H D = none) : Ex H (off D H') := fun a o q => by
  have c : a ≠ D := fun z => by rw [z, h] at q; cases q
  rw [off_ne c]
  exact e _ _ q
/-- e gives n things one by one, the i-th of which y tells; the heap only grows -/
def EvI (wi : TI) (σ : L2.St) (H : Hp) (n : Nat) (y : Nat → V → Hp → Prop) : Prop :=
  ∀ H1, Ex H H1 → ∀ R : It → Hp → Prop, (∀ J H2 G, Ex H1 H2 → Walk J n G (fun i H x H' => Ex H H' ∧ y i x H' ∧ ∀ D, H D ≠ none → y i x (off D H')) → (∀ H3, Ex H2 H3 → G H3) → R J H2) → wi σ H1 R
/-- a target takes x -/
def EvG (g : TG) (x : V) (σ : L2.St) (H : Hp) (σ2 : L2.St) : Prop := ∀ H1, Ex H H1 → ∀ Q, (∀ H2, Ex H1 H2 → Q σ2 H2) → g x σ H1 Q
def EvGs (t : TGs) (xs : List V) (σ : L2.St) (H : Hp) (σ2 : L2.St) : Prop := ∀ H1, Ex H H1 → ∀ Q, (∀ H2, Ex H1 H2 → Q σ2 H2) → t xs σ H1 Q
/-- e gives some value of which p is true, by what stood before or by what is new -/
def EvP (te : TE) (σ : L2.St) (H : Hp) (p : V → Hp → Prop) : Prop := ∀ H1, Ex H H1 → ∀ Q : VK, (∀ v H2, Ex H1 H2 → (∃ Hs, Ex Hs H2 ∧ (∀ a, H a = none → H1 a ≠ none → Hs a = none) ∧ p v Hs) → Q v H2) → te σ H1 Q
section
variable {K : PySem.W.Frag} {σ σ1 σ2 : L2.St} {H H' : Hp} {ta tb tc te tl tk : TE} {x y z v : V} {D : Ends} {tz tu tw : TS} {g : TG} {tt : TT} {wi : TI}
theorem EvI.left {w2 : TI} {n : Nat} {y : Nat → V → Hp → Prop} (h : EvI wi σ H n y) : EvI (iOr wi w2) σ H n y := fun H1 e R k => .inl (h H1 e R k)
theorem EvI.right {w2 : TI} {n : Nat} {y : Nat → V → Hp → Prop} (h : EvI w2 σ H n y) : EvI (iOr wi w2) σ H n y := fun H1 e R k => .inr (h H1 e R k)
theorem Ev.left (h : Ev ta σ H v) : Ev (tOrE ta tb) σ H v := fun H1 e Q q => .inl (h H1 e Q q)
theorem Ev.right (h : Ev tb σ H v) : Ev (tOrE ta tb) σ H v := fun H1 e Q q => .inr (h H1 e Q q)
theorem EvL.left {xs : List V} (h : EvL ta σ H xs) : EvL (tOrE ta tb) σ H xs := fun H1 e Q q => .inl (h H1 e Q q)
theorem EvL.right {xs : List V} (h : EvL tb σ H xs) : EvL (tOrE ta tb) σ H xs := fun H1 e Q q => .inr (h H1 e Q q)
theorem ei_T {a : Addr} {xs : List V} (h : Ev tl σ H (.ref a)) (hx : SqT K H a xs) : EvI (iTup K tl) σ H xs.length (fun i x _ => xs[i]? = some x) := fun H1 e R k =>
  h H1 e _ fun H2 e2 => ⟨a, rfl, ⟨xs, ex_t (e.trans e2) hx⟩, k _ H2 (fun H => SqT K H a xs) e2 (walk_tup.mono (fun _ h => h) fun i H x H' _ _ q => ⟨q.1 ▸ Ex.refl _, q.2, fun _ _ => q.2⟩) fun H3 e3 => ex_t ((e.trans e2).trans e3) hx⟩
theorem ei_L {a : Addr} {xs : List V} (h : Ev tl σ H (.ref a)) (hx : SqL K H a xs) : EvI (iList K tl) σ H xs.length (fun i x _ => xs[i]? = some x) := fun H1 e R k =>
  h H1 e _ fun H2 e2 => ⟨a, rfl, ⟨xs, ex_l (e.trans e2) hx⟩, k _ H2 (fun H => SqL K H a xs) e2 (walk_list.mono (fun _ h => h) fun i H x H' _ _ q => ⟨q.1 ▸ Ex.refl _, q.2, fun _ _ => q.2⟩) fun H3 e3 => ex_l ((e.trans e2).trans e3) hx⟩
theorem ei_NL {xs : List V} (h : EvL tl σ H xs) : EvI (iList K tl) σ H xs.length (fun i x _ => xs[i]? = some x) := fun H1 e R k =>
  h H1 e _ fun p H2 hp e2 h2 => ⟨p, rfl, ⟨xs, sq_of h2⟩, k _ H2 (fun H => SqL K H p xs) e2 (walk_list.mono (fun _ h => h) fun i H x H' _ _ q => ⟨q.1 ▸ Ex.refl _, q.2, fun _ _ => q.2⟩) fun H3 e3 => sq_of (e3 _ _ h2)⟩
theorem ei_S {s : Str} (h : Ev tl σ H (.str s)) : EvI (iStr tl) σ H s.cps.size (fun i x _ => ∃ c, s.cps[i]? = some c ∧ x = .str ⟨#[c]⟩) := fun H1 e R k =>
  h H1 e _ fun H2 e2 => ⟨s, rfl, k _ H2 (fun _ => True) e2 (walk_str.mono (fun _ h => h) fun i H x H' _ _ q => ⟨q.1 ▸ Ex.refl _, q.2, fun _ _ => q.2⟩) fun _ _ => True.intro⟩
theorem ei_R1 {ta : TA} {n : Nat} (h : EvA ta σ H [.int n]) (hn : n ≤ 100000) : EvI (iRng1 ta) σ H n (fun i x _ => x = .int (i : Nat)) := fun H1 e R k =>
  h H1 e _ fun H2 e2 => ⟨n, rfl, by omega, by omega, by
    have w := (walk_range (lo := 0) (n := n)).mono (G' := fun _ => True) (Y' := fun i H x H' => Ex H H' ∧ x = .int (i : Nat) ∧ ∀ D, H D ≠ none → x = .int (i : Nat)) (fun _ h => h) fun i H x H' _ _ q => by
      have z : x = .int (i : Nat) := by
        rw [q.2]
        exact congrArg V.int (Int.zero_add _)
      exact ⟨q.1 ▸ Ex.refl _, z, fun _ _ => z⟩
    exact k _ H2 (fun _ => True) e2 (by simpa using w) fun _ _ => True.intro⟩
theorem ei_E {ta : TA} {a : Addr} {xs : List V} (h : EvA ta σ H [.ref a]) (hx : SqL K H a xs) : EvI (iEnum K ta) σ H xs.length (fun i x H => ∃ T z, x = .ref T ∧ xs[i]? = some z ∧ H T = some (.tup [.int (i : Nat), z])) := fun H1 e R k =>
  h H1 e _ fun H2 e2 => ⟨a, xs, rfl, ex_l (e.trans e2) hx, k _ H2 (fun H => SqL K H a xs) e2 (walk_enum.mono (fun _ h => h) fun i H x H' _ _ q => by
    obtain ⟨T, p, z, rfl, hT, rfl, h1, h2⟩ := q
    cases h1
    refine ⟨Ex.new hT, ⟨T, z, rfl, h2, upd_same⟩, fun D hD => ⟨T, z, rfl, h2, ?_⟩⟩
    rw [off_ne fun w : T = D => hD (by rw [← w]; exact hT)]
    exact upd_same) fun H3 e3 => ex_l ((e.trans e2).trans e3) hx⟩
theorem eg_name {j : Nat} : EvG (gName j) x σ H (σ.set j (some x)) := fun H1 _ _ q => q H1 (Ex.refl _)
theorem egs_nil : EvGs gNil [] σ H σ := fun H1 _ _ q => ⟨rfl, q H1 (Ex.refl _)⟩
theorem egs_cons {t : TGs} {xs : List V} (h : EvG g x σ H σ1) (hr : EvGs t xs σ1 H σ2) : EvGs (gCons g t) (x :: xs) σ H σ2 := fun H1 e Q q => ⟨x, xs, rfl, h H1 e _ fun H2 e2 => hr H2 (e.trans e2) Q fun H3 e3 => q H3 (e2.trans e3)⟩
theorem eg_tup {t : TGs} {xs : List V} {T : Addr} {n : Nat} (hx : H T = some (.tup xs)) (hn : xs.length = n) (h : EvGs t xs σ H σ2) : EvG (gTup K n t) (.ref T) σ H σ2 := fun H1 e Q q => ⟨T, xs, rfl, st_of (e _ _ hx), hn, h H1 e Q q⟩
theorem ep_of {p : V → Hp → Prop} (h : Ev te σ H v) (hp : p v H) : EvP te σ H p := fun H1 e Q q => h H1 e Q fun H2 e2 => q v H2 e2 ⟨H, e.trans e2, fun _ z _ => z, hp⟩
theorem ep_new {p : V → Hp → Prop} {u : HO} (h : EvR te σ H (fun H a => H a = some u)) (hp : ∀ a, H a = none → p (.ref a) (upd H a u)) : EvP te σ H p := fun H1 e Q q => h H1 e Q fun a H2 ha e2 r => q (.ref a) H2 e2
  ⟨upd H a u, fun b o hb => by
    by_cases c : b = a
    · rw [c] at hb ⊢
      rw [upd_same] at hb
      rw [r]
      exact hb
    · rw [upd_ne c] at hb
      exact e2 _ _ (e _ _ hb), fun b hb hn => by rw [upd_ne fun w : b = a => hn (by rw [w]; exact ha)]; exact hb, hp a (fresh_back e ha)⟩
/-! ### list comprehensions -/
/-- the list so far: an element for each number of ns -/
def Got (p : Nat → V → Hp → Prop) (ns : List Nat) (xs : List V) (H : Hp) : Prop := xs.length = ns.length ∧ ∀ (k i : Nat) v, ns[k]? = some i → xs[k]? = some v → p i v H
def Mono (p : V → Hp → Prop) : Prop := ∀ v H H', Ex H H' → p v H → p v H'
theorem Got.ex {p : Nat → V → Hp → Prop} (m : ∀ i, Mono (p i)) {ns : List Nat} {xs : List V} (h : Got p ns xs H) (e : Ex H H') : Got p ns xs H' := ⟨h.1, fun k i v a b => m i v _ _ e (h.2 k i v a b)⟩
theorem Got.snoc {p : Nat → V → Hp → Prop} {ns : List Nat} {xs : List V} {i : Nat} (h : Got p ns xs H) (hv : p i v H) : Got p (ns ++ [i]) (xs ++ [v]) H := by
  refine ⟨by simp [h.1], fun k j w a b => ?_⟩
  by_cases c : k < ns.length
  · rw [List.getElem?_append_left c] at a
    rw [List.getElem?_append_left (by rw [h.1]; exact c)] at b
    exact h.2 k j w a b
  · rw [List.getElem?_append_right (by omega)] at a
    rw [List.getElem?_append_right (by rw [h.1]; omega), h.1] at b
    cases e : k - ns.length with
    | zero =>
      rw [e] at a b
      cases a
      cases b
      exact hv
    | succ m =>
      rw [e] at a
      cases a
theorem range_filter {n : Nat} {f : Nat → Bool} : ((List.range (n + 1)).filter f) = if f n = true then (List.range n).filter f ++ [n] else (List.range n).filter f := by
  rw [List.range_succ, List.filter_append]
  cases h : f n <;> simp [h]
theorem filter_len {n : Nat} {f : Nat → Bool} : ((List.range n).filter f).length ≤ n := by
  have := List.length_filter_le f (List.range n)
  simpa using this
/-- a list comprehension in full: the i-th thing is taken where f i is true, and gives a value of which p i is true -/
theorem er_comp {vs : List Nat} {n : Nat} {y : Nat → V → Hp → Prop} (f : Nat → Bool) (p : Nat → V → Hp → Prop) (m : ∀ i, Mono (p i)) (h : EvI wi σ H n y) (hz : n ≤ 40000)
    (hs : ∀ i x H1, Ex H H1 → i < n → y i x H1 → ∃ σ2, EvG g x (wipe σ vs) H1 σ2 ∧ wipe σ2 vs = wipe σ vs ∧ EvT tt σ2 H1 (f i) ∧ (f i = true → EvP te σ2 H1 (p i))) :
    EvR (tLc wi g tt te vs) σ H (fun H a => ∃ xs, H a = some (.lst xs) ∧ Got p ((List.range n).filter f) xs H) := fun H0 e Q q =>
  h H0 e _ fun J H1 G e1 w hG D hD => by
    refine lc_it w (fun i H' => H1 D = none ∧ Ex H1 H' ∧ ∃ xs, H' D = some (.lst xs) ∧ Got p ((List.range i).filter f) xs (off D H')) ⟨hD, Ex.new hD, [], upd_same, rfl, fun k i v a => by cases a⟩ (fun i H' _ q => hG H' q.2.1) (fun i x H2 H3 hi P yy => ?_) (fun H2 P => ?_)
    · obtain ⟨hD, e2, xs, hx, gx⟩ := P
      obtain ⟨e3, _, yy⟩ := yy
      have e03 := e.trans (e1.trans (e2.trans e3))
      have nD : H D = none := fresh_back (e.trans e1) hD
      obtain ⟨σ2, h1, h2, h3, h4⟩ := hs i x (off D H3) (ex_off e03 nD) hi (yy D (by rw [hx]; exact fun z => nomatch z))
      refine h1 H3 off_ex _ fun H4 e4 => ⟨h2, h3 H4 (off_ex.trans e4) _ fun H5 e5 => ?_⟩
      have e35 := e4.trans e5
      cases c : f i with
      | false =>
        simp only [Bool.false_eq_true, if_false]
        refine ⟨hD, (e2.trans e3).trans e35, xs, (e3.trans e35) _ _ hx, ?_⟩
        rw [range_filter, if_neg (by rw [c]; decide)]
        exact gx.ex m (ex_off (off_ex.trans (e3.trans e35)) off_at)
      | true =>
        simp only [if_true]
        refine h4 c H5 (off_ex.trans e35) _ fun v H6 e6 pv => ?_
        obtain ⟨Hs, s1, s2, s3⟩ := pv
        have e26 := e3.trans (e35.trans e6)
        have hx5 := (e3.trans e35) _ _ hx
        have sD : Hs D = none := s2 D off_at (by rw [hx5]; exact fun z => nomatch z)
        have fin : ∀ (T : Hp) (o : HO), Ex T H6 → T D = none → Ex T (off D (upd H6 D o)) := fun T o t n a u q => by
          have c : a ≠ D := fun z => by rw [z, n] at q; cases q
          rw [off_ne c, upd_ne c]
          exact t _ _ q
        refine ⟨xs, e6 _ _ hx5, sz_lt (by rw [gx.1]; have := filter_len (n := i) (f := f); omega), hD, Ex.mut (e2.trans e26) hD, xs ++ [v], upd_same, ?_⟩
        rw [range_filter, if_pos c]
        exact (gx.ex m (fin _ _ (off_ex.trans e26) off_at)).snoc (m i v _ _ (fin _ _ s1 sD) s3)
    · obtain ⟨hD, e2, xs, hx, gx⟩ := P
      exact q D H2 (fresh_back e1 hD) (e1.trans e2) ⟨xs, hx, gx.ex m off_ex⟩
theorem et_yes : EvT tYes σ H true := fun H1 _ _ q => q H1 (Ex.refl _)
/-- a list comprehension each element of which is told beforehand -/
theorem el_comp {vs : List Nat} {n : Nat} {y : Nat → V → Hp → Prop} (f : Nat → Bool) (v : Nat → V) (h : EvI wi σ H n y) (hz : n ≤ 40000)
    (hs : ∀ i x H1, Ex H H1 → i < n → y i x H1 → ∃ σ2, EvG g x (wipe σ vs) H1 σ2 ∧ wipe σ2 vs = wipe σ vs ∧ EvT tt σ2 H1 (f i) ∧ (f i = true → Ev te σ2 H1 (v i))) :
    EvL (tLc wi g tt te vs) σ H (given n f v) := fun H1 e Q q =>
  er_comp f (fun i u _ => u = v i) (fun _ _ _ _ _ h => h) h hz (fun i x H1 e hi hy => by
    obtain ⟨σ2, h1, h2, h3, h4⟩ := hs i x H1 e hi hy
    exact ⟨σ2, h1, h2, h3, fun c => ep_of (h4 c) rfl⟩) H1 e Q fun a H2 ha e2 r => q a H2 ha e2 (by
    obtain ⟨xs, r1, r2, r3⟩ := r
    rw [r1]
    refine congrArg (fun l => some (HO.lst l)) (List.ext_getElem? fun k => ?_)
    show xs[k]? = (((List.range n).filter f).map v)[k]?
    by_cases c : k < ((List.range n).filter f).length
    · have c' : k < xs.length := by rw [r2]; exact c
      rw [List.getElem?_map, List.getElem?_eq_getElem c, List.getElem?_eq_getElem c']
      exact congrArg some (r3 k _ _ (List.getElem?_eq_getElem c) (List.getElem?_eq_getElem c'))
    · rw [List.getElem?_eq_none (by omega), List.getElem?_eq_none (by rw [List.length_map]; omega)])
/-! ### dict comprehensions -/
/-- a dict of the pairs of l, one after another -/
def fillK {κ : Type} [DecidableEq κ] (l : List (κ × V)) : List (κ × V) := l.foldl (fun acc kv => putK acc kv.1 kv.2) []
theorem fillK_snoc {κ : Type} [DecidableEq κ] (l : List (κ × V)) (k : κ) (v : V) : fillK (l ++ [(k, v)]) = putK (fillK l) k v := by
  unfold fillK
  rw [List.foldl_append]
  rfl
theorem fill_len {κ : Type} [DecidableEq κ] : ∀ (l acc : List (κ × V)), (l.foldl (fun acc kv => putK acc kv.1 kv.2) acc).length ≤ acc.length + l.length
  | [], acc => Nat.le_refl _
  | p :: r, acc => by
    have h1 := fill_len r (putK acc p.1 p.2)
    have h2 := length_putK acc p.1 p.2
    rw [List.foldl_cons, List.length_cons]
    omega
theorem fillK_len {κ : Type} [DecidableEq κ] (l : List (κ × V)) : (fillK l).length ≤ l.length := by
  have := fill_len l []
  simpa [fillK] using this
theorem valV_none {κ : Type} [DecidableEq κ] {l : List (κ × V)} {k : κ} (h : ∀ p ∈ l, p.1 ≠ k) : valV l k = none := by
  induction l with
  | nil => rfl
  | cons p r ih => rw [valV_neg (h p (List.mem_cons_self ..)), ih fun q hq => h q (List.mem_cons_of_mem _ hq)]
theorem valV_mem {κ : Type} [DecidableEq κ] {l : List (κ × V)} {k : κ} {v : V} (hn : (l.map (·.1)).Nodup) (h : (k, v) ∈ l) : valV l k = some v := by
  induction l with
  | nil => cases h
  | cons p r ih =>
    rw [List.map_cons, List.nodup_cons] at hn
    rcases List.mem_cons.mp h with rfl | h
    · exact valV_pos rfl
    · rw [valV_neg (fun e : p.1 = k => hn.1 (by rw [e]; exact List.mem_map.mpr ⟨_, h, rfl⟩)), ih hn.2 h]
theorem fill_nodup {κ : Type} [DecidableEq κ] : ∀ (l acc : List (κ × V)), ((acc ++ l).map (·.1)).Nodup → l.foldl (fun acc kv => putK acc kv.1 kv.2) acc = acc ++ l
  | [], acc, _ => by simp
  | p :: r, acc, hn => by
    have hp : ∀ q ∈ acc, q.1 ≠ p.1 := fun q hq e => by
      rw [List.map_append, List.nodup_append] at hn
      exact hn.2.2 _ (List.mem_map.mpr ⟨q, hq, rfl⟩) _ (List.mem_map.mpr ⟨p, List.mem_cons_self .., rfl⟩) e
    rw [List.foldl_cons, putK_new _ (valV_none hp), fill_nodup r _ (by simpa using hn)]
    simp
theorem fillK_nodup {κ : Type} [DecidableEq κ] (l : List (κ × V)) (hn : (l.map (·.1)).Nodup) : fillK l = l := by
  have := fill_nodup l [] (by simpa using hn)
  simpa [fillK] using this
/-- a dict comprehension, keys ints or texts -/
theorem ed_comp {vs : List Nat} {n : Nat} {y : Nat → V → Hp → Prop} (f : Nat → Bool) (key : Nat → Key) (v : Nat → V) (h : EvI wi σ H n y) (hz : n ≤ 40000)
    (hs : ∀ i x H1, Ex H H1 → i < n → y i x H1 → ∃ σ2, EvG g x (wipe σ vs) H1 σ2 ∧ wipe σ2 vs = wipe σ vs ∧ EvT tt σ2 H1 (f i) ∧ (f i = true → Ev tk σ2 H1 (kV (key i)) ∧ Ev te σ2 H1 (v i))) :
    EvR (tDcG (.dK []) wi g tt (fun D => tEmit D tk te) vs) σ H (fun H a => H a = some (.dK (fillK (((List.range n).filter f).map fun i => (key i, v i))))) := fun H0 e Q q =>
  h H0 e _ fun J H1 G e1 w hG D hD => by
    refine ⟨fun i m H' => m = n - i ∧ i ≤ n ∧ H1 D = none ∧ Ex H1 H' ∧ H' D = some (.dK (fillK (((List.range i).filter f).map fun i => (key i, v i)))), ⟨n, by simp, Nat.zero_le _, hD, Ex.new hD, upd_same⟩, ?_⟩
    rintro i m H2 ⟨rfl, hi, hD, e2, hx⟩
    by_cases hlt : i < n
    · refine .inr ⟨w.goes i H2 hlt (hG _ e2), _, fun H' p => ⟨n - (i + 1), by omega, rfl, hlt, p⟩, fun x H3 yld => ?_⟩
      obtain ⟨e3, _, yy⟩ := w.yields i H2 x H3 hlt (hG _ e2) yld
      have e03 := e.trans (e1.trans (e2.trans e3))
      have nD : H D = none := fresh_back (e.trans e1) hD
      obtain ⟨σ2, h1, h2, h3, h4⟩ := hs i x (off D H3) (ex_off e03 nD) hlt (yy D (by rw [hx]; exact fun z => nomatch z))
      refine h1 H3 off_ex _ fun H4 e4 => ⟨h2, h3 H4 (off_ex.trans e4) _ fun H5 e5 => ?_⟩
      have e35 := e4.trans e5
      cases c : f i with
      | false =>
        simp only [Bool.false_eq_true, if_false]
        refine ⟨hD, (e2.trans e3).trans e35, ?_⟩
        rw [range_filter, if_neg (by rw [c]; decide)]
        exact (e3.trans e35) _ _ hx
      | true =>
        simp only [if_true]
        refine (h4 c).1 H5 (off_ex.trans e35) _ fun H6 e6 => (h4 c).2 H6 ((off_ex.trans e35).trans e6) _ fun H7 e7 => ?_
        have hx7 := (e3.trans (e35.trans (e6.trans e7))) _ _ hx
        have hl : (fillK (((List.range i).filter f).map fun i => (key i, v i))).length ≤ i := by
          refine Nat.le_trans (fillK_len _) ?_
          rw [List.length_map]
          exact filter_len
        refine ⟨_, DPut.k hx7 (sz_lt (by omega)), hD, Ex.mut ((e2.trans e3).trans (e35.trans (e6.trans e7))) hD, ?_⟩
        rw [range_filter, if_pos c, List.map_append, List.map_singleton, fillK_snoc]
        exact upd_same
    · have : i = n := by omega
      subst this
      exact .inl ⟨w.stops H2 (hG _ e2), q D H2 (fresh_back e1 hD) (e1.trans e2) hx⟩
/-- a dict comprehension, keys tuples -/
theorem edt_comp {vs : List Nat} {n : Nat} {y : Nat → V → Hp → Prop} (f : Nat → Bool) (key : Nat → List Key) (v : Nat → V) (h : EvI wi σ H n y) (hz : n ≤ 40000)
    (hs : ∀ i x H1, Ex H H1 → i < n → y i x H1 → ∃ σ2, EvG g x (wipe σ vs) H1 σ2 ∧ wipe σ2 vs = wipe σ vs ∧ EvT tt σ2 H1 (f i) ∧ (f i = true → (∃ b, H1 b = some (.tup ((key i).map kV)) ∧ Ev tk σ2 H1 (.ref b)) ∧ Ev te σ2 H1 (v i))) :
    EvR (tDcG (.dT []) wi g tt (fun D => tEmit D tk te) vs) σ H (fun H a => H a = some (.dT (fillK (((List.range n).filter f).map fun i => (key i, v i))))) := fun H0 e Q q =>
  h H0 e _ fun J H1 G e1 w hG D hD => by
    refine ⟨fun i m H' => m = n - i ∧ i ≤ n ∧ H1 D = none ∧ Ex H1 H' ∧ H' D = some (.dT (fillK (((List.range i).filter f).map fun i => (key i, v i)))), ⟨n, by simp, Nat.zero_le _, hD, Ex.new hD, upd_same⟩, ?_⟩
    rintro i m H2 ⟨rfl, hi, hD, e2, hx⟩
    by_cases hlt : i < n
    · refine .inr ⟨w.goes i H2 hlt (hG _ e2), _, fun H' p => ⟨n - (i + 1), by omega, rfl, hlt, p⟩, fun x H3 yld => ?_⟩
      obtain ⟨e3, _, yy⟩ := w.yields i H2 x H3 hlt (hG _ e2) yld
      have e03 := e.trans (e1.trans (e2.trans e3))
      have nD : H D = none := fresh_back (e.trans e1) hD
      obtain ⟨σ2, h1, h2, h3, h4⟩ := hs i x (off D H3) (ex_off e03 nD) hlt (yy D (by rw [hx]; exact fun z => nomatch z))
      refine h1 H3 off_ex _ fun H4 e4 => ⟨h2, h3 H4 (off_ex.trans e4) _ fun H5 e5 => ?_⟩
      have e35 := e4.trans e5
      cases c : f i with
      | false =>
        simp only [Bool.false_eq_true, if_false]
        refine ⟨hD, (e2.trans e3).trans e35, ?_⟩
        rw [range_filter, if_neg (by rw [c]; decide)]
        exact (e3.trans e35) _ _ hx
      | true =>
        simp only [if_true]
        obtain ⟨⟨b, hb, ht⟩, hv⟩ := h4 c
        refine ht H5 (off_ex.trans e35) _ fun H6 e6 => hv H6 ((off_ex.trans e35).trans e6) _ fun H7 e7 => ?_
        have hx7 := (e3.trans (e35.trans (e6.trans e7))) _ _ hx
        have hl : (fillK (((List.range i).filter f).map fun i => (key i, v i))).length ≤ i := by
          refine Nat.le_trans (fillK_len _) ?_
          rw [List.length_map]
          exact filter_len
        refine ⟨_, DPut.t hx7 ((off_ex.trans (e35.trans (e6.trans e7))) _ _ hb) (sz_lt (by omega)), hD, Ex.mut ((e2.trans e3).trans (e35.trans (e6.trans e7))) hD, ?_⟩
        rw [range_filter, if_pos c, List.map_append, List.map_singleton, fillK_snoc]
        exact upd_same
    · have : i = n := by omega
      subst this
      exact .inl ⟨w.stops H2 (hG _ e2), q D H2 (fresh_back e1 hD) (e1.trans e2) hx⟩
/-! ### dicts -/
theorem ev_dget {a : Addr} {r : V} (h1 : Ev ta σ H (.ref a)) (h2 : Ev tb σ H y) (g : ∀ H1, Ex H H1 → DGet H1 a y (some r)) : Ev (tDGet ta tb) σ H r := fun H1 e Q q =>
  h1 H1 e _ fun H2 e2 => h2 H2 (e.trans e2) _ fun H3 e3 => ⟨a, r, rfl, g H3 ((e.trans e2).trans e3), q H3 (e2.trans e3)⟩
theorem ev_dget1 {a : Addr} {o : Option V} (h1 : Ev ta σ H (.ref a)) (h2 : Ev tb σ H y) (d : ∀ H1, Ex H H1 → IsD H1 a) (g : ∀ H1, Ex H H1 → DGet H1 a y o) : Ev (tDGet1 ta tb) σ H (o.getD .non) := fun H1 e Q q =>
  h1 H1 e _ fun H2 e2 => ⟨a, rfl, d H2 (e.trans e2), h2 H2 (e.trans e2) _ fun H3 e3 => ⟨o, g H3 ((e.trans e2).trans e3), q H3 (e2.trans e3)⟩⟩
theorem ev_dget2 {a : Addr} {o : Option V} (h1 : Ev ta σ H (.ref a)) (h2 : Ev tb σ H y) (h3 : Ev tc σ H z) (d : ∀ H1, Ex H H1 → IsD H1 a) (g : ∀ H1, Ex H H1 → DGet H1 a y o) : Ev (tDGet2 ta tb tc) σ H (o.getD z) := fun H1 e Q q =>
  h1 H1 e _ fun H2 e2 => ⟨a, rfl, d H2 (e.trans e2), h2 H2 (e.trans e2) _ fun H3 e3 => h3 H3 ((e.trans e2).trans e3) _ fun H4 e4 => ⟨o, g H4 (((e.trans e2).trans e3).trans e4), q H4 ((e2.trans e3).trans e4)⟩⟩
theorem ev_din {a : Addr} {o : Option V} (h1 : Ev tb σ H y) (h2 : Ev ta σ H (.ref a)) (g : ∀ H1, Ex H H1 → DGet H1 a y o) : Ev (tDIn tb ta) σ H (.bl o.isSome) := fun H1 e Q q =>
  h1 H1 e _ fun H2 e2 => h2 H2 (e.trans e2) _ fun H3 e3 => ⟨a, o, rfl, g H3 ((e.trans e2).trans e3), q H3 (e2.trans e3)⟩
theorem ev_dni {a : Addr} {o : Option V} (h1 : Ev tb σ H y) (h2 : Ev ta σ H (.ref a)) (g : ∀ H1, Ex H H1 → DGet H1 a y o) : Ev (tDNotIn tb ta) σ H (.bl (!o.isSome)) := fun H1 e Q q =>
  h1 H1 e _ fun H2 e2 => h2 H2 (e.trans e2) _ fun H3 e3 => ⟨a, o, rfl, g H3 ((e.trans e2).trans e3), q H3 (e2.trans e3)⟩
theorem s_dput {a : Addr} (hv : Ev tc σ H v) (ho : Ev ta σ H (.ref a)) (hi : Ev tb σ H y) (k : ∀ H1, Ex H H1 → ∃ H2, DPut H1 a y v H2 ∧ D.nx σ H2) : sDPut ta tb tc D σ H :=
  hv H (Ex.refl H) _ fun H1 e1 => ho H1 e1 _ fun H2 e2 => hi H2 (e1.trans e2) _ fun H3 e3 => by
    obtain ⟨H4, h, n⟩ := k H3 ((e1.trans e2).trans e3)
    exact ⟨a, H4, rfl, h, n⟩
theorem q_dput {a : Addr} (hv : Ev tc σ H v) (ho : Ev ta σ H (.ref a)) (hi : Ev tb σ H y) (k : ∀ H1, Ex H H1 → ∃ H2, DPut H1 a y v H2 ∧ tz D σ H2) : tSeq (sDPut ta tb tc) tz D σ H := s_dput (D := { D with nx := tz D }) hv ho hi k
end
/-- a key that is a number -/
def ik (n : Nat) : Key := .inl (n : Int)
theorem ik_inj {m n : Nat} (h : ik m = ik n) : m = n := by
  have := Sum.inl.inj h
  omega
theorem kV_ik (n : Nat) : kV (ik n) = .int (n : Nat) := rfl
/-- a dict of numbers -/
def nD (l : List (Nat × V)) : List (Key × V) := l.map fun p => (ik p.1, p.2)
theorem nD_keys (l : List (Nat × V)) (h : (l.map (·.1)).Nodup) : ((nD l).map (·.1)).Nodup := by
  have e : (nD l).map (·.1) = (l.map (·.1)).map ik := by simp [nD]
  rw [e]
  exact (List.Pairwise.map ik (fun a b hab c => hab (ik_inj c)) h)
theorem nD_some {l : List (Nat × V)} {k : Nat} {v : V} (h : (l.map (·.1)).Nodup) (m : (k, v) ∈ l) : valV (nD l) (ik k) = some v := valV_mem (nD_keys l h) (List.mem_map.mpr ⟨_, m, rfl⟩)
theorem nD_none {l : List (Nat × V)} {k : Nat} (h : k ∉ l.map (·.1)) : valV (nD l) (ik k) = none := valV_none fun p hp e => by
  obtain ⟨q, hq, rfl⟩ := List.mem_map.mp hp
  exact h (List.mem_map.mpr ⟨q, hq, ik_inj e⟩)
theorem nD_put {l : List (Nat × V)} {k : Nat} {v : V} (h : k ∉ l.map (·.1)) : putK (nD l) (ik k) v = nD (l ++ [(k, v)]) := by
  rw [putK_new _ (nD_none h)]
  simp [nD]
/-- the numbers of ns, each with True -/
def nS (ns : List Nat) : List (Key × V) := nD (ns.map fun n => (n, .bl true))
theorem nS_fst (ns : List Nat) : (ns.map fun n => ((n, .bl true) : Nat × V)).map (·.1) = ns := by
  rw [List.map_map]
  exact List.map_id ns
theorem nS_val {ns : List Nat} {k : Nat} : (valV (nS ns) (ik k)).isSome = decide (k ∈ ns) := by
  by_cases c : k ∈ ns
  · rw [decide_eq_true c, ← valV_any]
    refine List.any_eq_true.mpr ⟨(ik k, .bl true), List.mem_map.mpr ⟨(k, .bl true), List.mem_map.mpr ⟨k, c, rfl⟩, rfl⟩, by simp⟩
  · rw [decide_eq_false c, nS, nD_none (by rw [nS_fst]; exact c)]
    rfl
theorem nS_put {ns : List Nat} {k : Nat} (h : k ∉ ns) : putK (nS ns) (ik k) (.bl true) = nS (ns ++ [k]) := by
  unfold nS
  rw [nD_put (by rw [nS_fst]; exact h), List.map_append, List.map_singleton]
theorem nS_fill {ns : List Nat} (h : ns.Nodup) : fillK (ns.map fun n => (ik n, V.bl true)) = nS ns := by
  rw [fillK_nodup]
  · simp [nS, nD]
  · rw [List.map_map]
    exact List.Pairwise.map _ (fun a b hab c => hab (ik_inj c)) h
theorem nS_len {ns : List Nat} : (nS ns).length = ns.length := by simp [nS, nD]
end K14
set_option maxHeartbeats 4000000
/-! enumerate(tuple) -/
namespace K14
open PySem L2 Evl
theorem enumT_new {a : Addr} {items : Array Value} :
    Meets (Builtin.«enumerate.__new__» ⟨[.type "enumerate", .ref a], []⟩) (fun _ R s => s.heap.IsTuple a items ∧
      R (.ok (.ret (.ref (s.heap.push { cls := .type "tuple_iterator", data := .fields #[.ref a, .int 0 0] }).objs.size)))
        { s with heap := (s.heap.push { cls := .type "tuple_iterator", data := .fields #[.ref a, .int 0 0] }).push { cls := .type "enumerate", data := .fields #[.none, .bool false, .ref s.heap.objs.size, rawInt 0, .none, .none] } }) :=
  .of_wp fun prog w A R s h => by
    obtain ⟨hp, g, d, tk, os⟩ := s
    obtain ⟨ht, h⟩ := h
    have sub := sub_enumerate
    have go : ∀ {A' : Around} {E : Value → Shared → Prop} {Q : Value → Shared → Prop}, Q (.ref hp.objs.size) ⟨hp.push { cls := .type "tuple_iterator", data := .fields #[.ref a, .int 0 0] }, g, d, tk, os⟩ → wpAny (model prog w) A' (pyIter (.ref a)) Q E ⟨hp, g, d, tk, os⟩ :=
      fun q => (begins_tuple a items).iter prog w _ _ ⟨hp, g, d, tk, os⟩ _ ht q
    wp_walk using go
    refine wpAny_stack_any fun st => wpAny_pure ?_
    split
    · rename_i c _ _ _ _ _
      cases (c == Value.type "enumerate") <;> (wp_walk using go; exact ⟨_, rfl, h⟩)
    · wp_walk using go
      exact ⟨_, rfl, h⟩
theorem call_enumT {prog : Program} {w : World} {A : Around} {E : Value → Shared → Prop} {s : Shared} {a : Addr} {items : Array Value} {Q : Value → Shared → Prop} (ht : s.heap.IsTuple a items)
    (h : ∀ h', IsEnum h' (s.heap.objs.size + 1) s.heap.objs.size 0 .none → h'.IsTupleIter s.heap.objs.size a 0 → (∀ b o, s.heap.get? b = some o → h'.get? b = some o) → Q (.ref (s.heap.objs.size + 1)) { s with heap := h' }) :
    wpAny (model prog w) A (call (.type "enumerate") [.ref a]) Q E s := by
  refine callType_new F.called_enumerate (by decide) (F.typeCall_enumerate_1 _) (F.newCall_enumerate_1 _) (fun obj => F.args_object_init_2 obj _) F.entry_enumerate_new enumT_new ⟨ht, ?_⟩
  have z : (s.heap.push { cls := .type "tuple_iterator", data := .fields #[.ref a, .int 0 0] }).objs.size = s.heap.objs.size + 1 := Heap.size_push ..
  have en : IsEnum ((s.heap.push { cls := .type "tuple_iterator", data := .fields #[.ref a, .int 0 0] }).push { cls := .type "enumerate", data := .fields #[.none, .bool false, .ref s.heap.objs.size, rawInt 0, .none, .none] })
      (s.heap.objs.size + 1) s.heap.objs.size 0 .none := by
    rw [← z]
    exact Heap.get?_push_size _ rfl
  show _ ∧ _
  rw [z]
  exact ⟨⟨_, en, rfl⟩, h _ en ⟨_, Heap.get?_push_of_some _ (Heap.get?_push_size _ rfl), rfl, rfl⟩ fun b o q => Heap.get?_push_of_some _ (Heap.get?_push_of_some _ q)⟩
/-- the tuple at a at each turn, each item in a new pair -/
def ItE (K : PySem.W.Frag) (a : Addr) : It :=
  ⟨fun i H => ∃ (xs : List V) (x : V), SqT K H a xs ∧ xs[i]? = some x, fun i H v H' => ∃ T x, v = .ref T ∧ H T = none ∧ H' = upd H T (.tup [.int (i : Nat), x]) ∧ ∀ xs, SqT K H a xs → xs[i]? = some x, fun i H => ∃ xs : List V, SqT K H a xs ∧ xs.length ≤ i⟩
theorem turn_enumT {P : Program} {w : World} {K : PySem.W.Frag} {elts : List Expr} {kk : Nat} {tpos : Pos} (a e it : Addr) (hae : a ≠ e) (hai : a ≠ it) (hei : e ≠ it) :
    Turn P w K (.Tuple elts kk tpos) (ItE K a) [e, it] e (fun i h => (∃ old, IsEnum h e it ((i : Nat) : Int) old) ∧ h.IsTupleIter it a i) where
  mem := List.mem_cons_self ..
  obj := fun i h st b hb => by
    obtain ⟨⟨old, q⟩, ⟨o, r1, r2, r3⟩⟩ := st
    rcases List.mem_cons.mp hb with rfl | hb
    · exact ⟨_, q, fun v z => nomatch z⟩
    · obtain rfl := List.mem_singleton.mp hb
      exact ⟨o, r1, fun v z => by rw [r3] at z; cases z⟩
  keep := fun i h h' st k => ⟨⟨st.1.choose, k e (by simp) _ st.1.choose_spec⟩, st.2.at fun o q => k it (by simp) o q⟩
  item := by
    rintro X rfl rfl rfl hc i pins s σ H E I hf ⟨⟨old, hen⟩, hit⟩ ⟨xs, x, hq, hx⟩
    obtain ⟨its, rv, tp, hz⟩ := I.tuple hq
    obtain ⟨u, hu, ru⟩ := rv.get hx
    have tp : s.heap.IsTuple a its.toArray := tp
    have le : e < s.heap.objs.size := Heap.lt_size hen
    have li : it < s.heap.objs.size := let ⟨_, q, _⟩ := hit; Heap.lt_size q
    refine wpAny_pyNext_enum_itemD (Draws.tuple (A := X.A.in1) (I.ok.hd hc) it a hai its.toArray) hen ⟨hit, tp⟩ (by simpa using (List.getElem?_eq_some_iff.mp hu).1) hei (by simp [hei, hae.symm]) fun u' h' tk pu out st' hT hsz hk => ?_
    have : u' = u := by
      have pu : its.toArray[i]? = some u' := pu
      rw [List.getElem?_toArray, hu] at pu
      exact (Option.some.inj pu).symm
    subst this
    refine ⟨_, rfl, wpAny_letOwnedTupleGo_enum (s := { s with heap := h', toks := tk + 1 }) out fun h2 en2 sb => ?_⟩
    have atT : h2.get? s.heap.objs.size = some { cls := .type "tuple", data := .seq #[.int i tk, u'] } := (sb.2 _ (Nat.ne_of_gt le)).trans hT
    have I1 : L2.Inv X pins σ (upd H s.heap.objs.size (.tup [.int (i : Nat), x])) { s with heap := h2, toks := tk + 1 } :=
      I.turnedNew (ch := [e, it]) (fun b ob hb q => (sb.2 b (fun z => hb (by simp [z]))).trans (hk b ob (fun z => hb (by simp [z])) (fun z => hb (by simp [z])) q)) hf (Nat.le_refl _)
        ⟨by show 2 ≤ sizeLine; decide, [.int i tk, u'], .cons ⟨_, rfl⟩ (.cons ru .nil), ⟨_, atT, rfl, _, rfl⟩⟩
    refine ⟨.ref s.heap.objs.size, _, I1, rfl, ⟨_, x, rfl, I.hok.fresh (Nat.le_refl _), rfl, fun ys hy => by rw [I.tuple_inj hy hq]; exact hx⟩, ⟨⟨u', ?_⟩, st'.1.at fun o q => (sb.2 it hei.symm).trans q⟩, fun b hb => ?_⟩
    · rw [Int.natCast_add]
      exact en2
    · have lb : b < s.heap.objs.size := by
        rcases List.mem_cons.mp hb with rfl | hb
        · exact le
        · obtain rfl := List.mem_singleton.mp hb
          exact li
      rw [upd_ne (Nat.ne_of_lt lb)]
      exact (hf b hb).1
  done := by
    rintro X rfl rfl rfl hc i pins s σ H E I hf ⟨⟨old, hen⟩, hit⟩ ⟨xs, hq, hx⟩
    obtain ⟨its, rv, tp, hz⟩ := I.tuple hq
    have tp : s.heap.IsTuple a its.toArray := tp
    have hl := rv.length
    obtain ⟨f0, f1, f2, f3, f4, f5⟩ := hf it (by simp)
    unfold pyNext
    refine wpAny_bind (wpAny_attempt (wpAny_callSpecial?_slot (name := Str.ofString "__next__") ⟨_, hen, rfl⟩ F.slot_enumerate_next (wpAny_call_entry F.slot_enumerate_next ⟨_, hen, rfl⟩ F.entry_enumerate_next ?_ (F.args_enumerate_next_1 _))))
    show wpAny _ _ (field (.ref e) 2 >>= _) _ _ _
    refine wpAny_bind (wpAny_field hen rfl (x := .ref it) rfl (wpAny_bind ?_))
    refine wpAny_nextOf_tuple_end (I.ok.hd hc) hit tp (by simp; omega) fun h' x he' hx' => ?_
    obtain ⟨o, ho, hc⟩ := hx'
    exact wpAny_bind (wpAny_isInstance (T := "StopIteration") (b := true) ⟨o, ho, hc⟩ isSubtype_stop (wpAny_pure ⟨rfl, I.turned (t' := s.toks) (fun b o hb q => he' b o hb q) f0 f1 f3 f4 f5⟩))
  self := fun A i s Q E st h => wpAny_pyIter_enum st.1.choose_spec h
def iEnumT (K : PySem.W.Frag) (ta : TA) : TI := fun σ H R => ta σ H fun vs H1 => ∃ a xs, vs = [.ref a] ∧ SqT K H1 a xs ∧ R (ItE K a) H1
theorem k_piET {X : Cx} {e : Expr} {ta : TA} {p pos tpos : Pos} {elts : List Expr} {kk : Nat} (K : PySem.W.Frag) (hg : Gl X "enumerate") (hm : X.mg "enumerate" = none) (ha : PA X [e] ta) (hs : starEach [e] X.env = [(false, eval e X.env)] := by rfl) (eK : X.K = K := by rfl) :
    PI X (.Tuple elts kk tpos) (.Call (.Name "enumerate" p) [e] [] pos) (iEnumT K ta) where
  run pins s σ H R I h := by
    subst eK
    refine PyProof.Rows.Call_ (ld_blt I hg hm PyProof.Rows.boot_enumerate (PyProof.Rows.callWith_type1 (thn (ha.run pos pins s σ H _ I h) fun us s1 got => ?_) hs rfl))
    obtain ⟨vs, H1, I1, r1, a, xs, rfl, hq, q⟩ := got
    cases r1 with
    | cons r rr =>
      cases rr
      cases r
      obtain ⟨its, rv, tp, hz⟩ := I1.tuple hq
      have tp : s1.heap.IsTuple a its.toArray := tp
      have la : a < s1.heap.objs.size := let ⟨_, q, _⟩ := tp; Heap.lt_size q
      refine call_enumT tp fun h' en it0 hk => wpAny_pyIter_enum en ?_
      refine ⟨s1.heap.objs.size + 1, [s1.heap.objs.size + 1, s1.heap.objs.size], _, _, H1, rfl, I1.kept (t' := s1.toks) hk, turn_enumT a (s1.heap.objs.size + 1) s1.heap.objs.size (Nat.ne_of_lt (Nat.lt_succ_of_lt la)) (Nat.ne_of_lt la) (Nat.succ_ne_self _), ⟨⟨.none, en⟩, it0⟩, fun b hb => ?_, q⟩
      have le : s1.heap.objs.size ≤ b := by
        rcases List.mem_cons.mp hb with rfl | hb
        · exact Nat.le_succ _
        · rw [List.mem_singleton.mp hb]
          exact Nat.le_refl _
      exact I1.fpOk le (I1.hok.fresh le)
theorem k_piEL {X : Cx} {e : Expr} {ta : TA} {p pos tpos : Pos} {elts : List Expr} {kk : Nat} (K : PySem.W.Frag) (hg : Gl X "enumerate") (hm : X.mg "enumerate" = none) (ha : PA X [e] ta) (hs : starEach [e] X.env = [(false, eval e X.env)] := by rfl) (eK : X.K = K := by rfl) :
    PI X (.Tuple elts kk tpos) (.Call (.Name "enumerate" p) [e] [] pos) (iEnum K ta) := by
  subst eK
  exact pi_enum hg hm ha hs
theorem k_tup {X : Cx} {es : List Expr} {k : Nat} {pos : Pos} {t : TGs} {n : Nat} (K : PySem.W.Frag) (hc : X.calm = true) (h : PGs X es t) (hn : (assignEach es X.env).length = n := by rfl) (hst : (assignEach es X.env).findIdx? (·.1) = none := by rfl) (eK : X.K = K := by rfl) : PG X (.Tuple es k pos) (gTup K n t) := by
  subst eK
  exact pg_tup hc h hn hst
section
variable {K : PySem.W.Frag} {σ : L2.St} {H : Hp}
theorem walk_enumT {a : Addr} {xs : List V} : Walk (ItE K a) xs.length (fun H => SqT K H a xs) (YPair (fun i => some (.int (i : Nat))) (fun i => xs[i]?)) where
  goes i _ hi q := ⟨xs, xs[i], q, List.getElem?_eq_getElem hi⟩
  stops _ q := ⟨xs, q, Nat.le_refl _⟩
  yields i H v H' _ q y := by
    obtain ⟨T, x, h1, h2, h3, h4⟩ := y
    exact ⟨T, .int (i : Nat), x, h1, h2, h3, rfl, h4 xs q⟩
theorem ei_ET {ta : TA} {a : Addr} {xs : List V} (h : EvA ta σ H [.ref a]) (hx : SqT K H a xs) : EvI (iEnumT K ta) σ H xs.length (fun i x H => ∃ T z, x = .ref T ∧ xs[i]? = some z ∧ H T = some (.tup [.int (i : Nat), z])) := fun H1 e R k =>
  h H1 e _ fun H2 e2 => ⟨a, xs, rfl, ex_t (e.trans e2) hx, k _ H2 (fun H => SqT K H a xs) e2 (walk_enumT.mono (fun _ h => h) fun i H x H' _ _ q => by
    obtain ⟨T, p, z, rfl, hT, rfl, h1, h2⟩ := q
    cases h1
    refine ⟨Ex.new hT, ⟨T, z, rfl, h2, upd_same⟩, fun D hD => ⟨T, z, rfl, h2, ?_⟩⟩
    rw [off_ne fun w : T = D => hD (by rw [← w]; exact hT)]
    exact upd_same) fun H3 e3 => ex_t ((e.trans e2).trans e3) hx⟩
end
end K14
set_option maxHeartbeats 4000000
namespace K14
open PySem L2 Evl
local macro_rules | `(tactic| walk_at "ev") => `(tactic| repeat' (first
  | exact ev_var rfl | exact ev_c | exact ea_nil | apply ea_cons | exact rv_I0 | apply ev_op | apply ev_cb | apply ev_un | exact ru_neg
  | exact rc_isiInt | exact rc_isiBool | exact rc_isiStr))
section
variable {P : Program} {w : World} {K : PySem.W.Frag} {mg : Str → Option Value} {base : Heap}
variable {σ : L2.St} {H H' : Hp} {ta te to ti : TE} {v : V} {D : Ends}
/-- all but what is at a is as it was -/
def ExB (a : Addr) (H H' : Hp) : Prop := ∀ b o, b ≠ a → H b = some o → H' b = some o
theorem ExB.refl {a : Addr} : ExB a H H := fun _ _ _ h => h
theorem ExB.trans {a : Addr} {H1 H2 H3 : Hp} (h : ExB a H1 H2) (k : ExB a H2 H3) : ExB a H1 H3 := fun b o n e => k b o n (h b o n e)
theorem Ex.exb {a : Addr} (h : Ex H H') : ExB a H H' := fun b o _ e => h b o e
theorem exb_upd {a : Addr} {o : HO} : ExB a H (upd H a o) := fun b o n e => by rw [upd_ne n]; exact e
/-- three numbers in a list -/
def Bar (H : Hp) (a : Addr) : Prop := ∃ u v t : Int, H a = some (.lst [.int u, .int v, .int t])
theorem Bar.ex {a : Addr} (h : Bar H a) (e : Ex H H') : Bar H' a := by
  obtain ⟨u, v, t, h⟩ := h
  exact ⟨u, v, t, e _ _ h⟩
theorem rc_i1 {i : Int} : RC (fun xs H (Q : VK) => (∃ i, xs = [V.int i] ∧ Q (.int i) H) ∨ ∃ k, xs = [V.bl k] ∧ Q (.int (if k then 1 else 0)) H) [.int i] H (.int i) := fun H1 _ _ q => .inl ⟨i, rfl, q H1 (Ex.refl H1)⟩
theorem barrel_at {a : Addr} {x y z : Int} {j : Nat} {v : V} (s0 : σ[0]? = some (some (.ref a))) (hb : H a = some (.lst [.int x, .int y, .int z])) (h : [V.int x, V.int y, V.int z][j]? = some v) : Ev (tOp (rIxL K) (tVar 0) (tC (.int (j : Int)))) σ H v :=
  ev_op (ev_var s0) ev_c (rv_ixL (sq_of hb) (at_of (j := j) rfl h))
theorem q_divmod {tA : TA} {tz : TS} {g : TGs} {i j : Int} (hA : EvA tA σ H [.int i, .int j]) (hc : CDiv i j) (k : ∀ T H1, Ex H H1 → H1 T = none → g [.int (i / j), .int (i % j)] σ (upd H1 T (.tup [.int (i / j), .int (i % j)])) (tz D)) :
    tSeq (tAsg (tCB (fun xs H (Q : VK) => ∃ i j, xs = [V.int i, V.int j] ∧ CDiv i j ∧ ∀ p, H p = none → Q (.ref p) (upd H p (.tup [.int (i / j), .int (i % j)]))) tA) (gTup K 2 g)) tz D σ H :=
  hA H (Ex.refl H) _ fun H1 e1 => ⟨i, j, rfl, hc, fun T hT => ⟨T, _, rfl, st_of upd_same, rfl, k T H1 e1 hT⟩⟩
/-- the first cell and a name -/
theorem g_cell {a : Addr} {xs : List V} {n : Nat} {x y : V} {Q : L2.St → Hp → Prop} (ho : Ev ta σ H (.ref a)) (ha : H a = some (.lst xs)) (hl : 0 < xs.length) (k : ∀ H1, Ex H H1 → Q (σ.set n (some y)) (upd H1 a (.lst (xs.set 0 x)))) :
    gCons (gSub ta (tC (.int 0)) rSetL) (gCons (gName n) gNil) [x, y] σ H Q :=
  ⟨x, [y], rfl, ho H (Ex.refl H) _ fun H1 e1 => ⟨a, xs, 0, 0, rfl, rfl, e1 _ _ ha, by rw [show ((0 : Int)) = ((0 : Nat) : Int) from rfl]; exact ixN_nat hl, y, [], rfl, rfl, k H1 e1⟩⟩
def sp_dip : Sp := fun vs H Q _ => ∃ (a : Addr) (top : Nat), vs = [.ref a, .int top] ∧ 0 < top ∧ top < 1073741824 ∧ Bar H a ∧ ∀ H' (d : Nat), d < top → Bar H' a → ExB a H H' → Q (.int d) H'
theorem ok_dip (T : Tx K mg) : FnOk P w K mg base CX0 1 T.d__law_dip.f T.d__law_dip.fd ["_law_barrel_here", "_law_top"] sp_dip := by
  refine T.d__law_dip.F.ok sc__law_dip (fun vs H Q E h => ?_) (fun cdv A outer s H vs Q E hr h => ?_)
  · obtain ⟨p, q, rfl, _⟩ := h
    rfl
  · obtain ⟨a, top, rfl, h0, h1, ⟨x, y, z, hb⟩, k⟩ := h
    refine ⟨_, (pss_cons (ps_asg (pe_op op_add (pe_ix (k_ixL K) (pv 0) pe_int (fun _ _ => rfl)) pe_int) (pg_sub (pv 0) pe_int set_list))
      (pss_cons (ps_asg (pe_op op_mod (pe_callTy call_int1 (by rfl) T.z_int (by decide +kernel) (pa_cons (pe_op op_add (pe_op op_add (pe_op op_mul (pe_ix (k_ixL K) (pv 0) pe_int (fun _ _ => rfl)) pe_int) (pe_op op_mul pe_int (pe_ix (k_ixL K) (pv 0) pe_int (fun _ _ => rfl)))) pe_int) pa_nil)) pe_int) (pg_sub (pv 0) pe_int set_list))
      (pss_cons (ps_if (pt_cmpR op_gt (pe_ix (k_ixL K) (pv 0) pe_int (fun _ _ => rfl)) pe_int (nomark _)) (pss_cons (ps_asg (pe_callB call_divmod (by rfl) T.z_divmod (by decide +kernel) (pa_cons (pe_ix (k_ixL K) (pv 0) pe_int (fun _ _ => rfl)) (pa_cons (pv 1) pa_nil))) (k_tup (n := 2) K rfl (pgs_cons (pg_sub (pv 0) pe_int set_list) (pgs_cons (pg_name (i := 2) sc__law_dip.nd rfl (Or.inl rfl)) pgs_nil))))
      (pss_one (ps_ret (pv 2)))) pss_nil)
      (pss_one (ps_ret (pe_op op_mod (pe_callTy call_int1 (by rfl) T.z_int (by decide +kernel) (pa_cons (pe_op op_add (pe_op op_fdiv (pe_ix (k_ixL K) (pv 0) pe_int (fun _ _ => rfl)) pe_int) (pe_op op_fdiv (pe_ix (k_ixL K) (pv 0) pe_int (fun _ _ => rfl)) pe_int)) pa_nil)) (pv 1))))))), ?_⟩
    refine q_setL (j := 2) hb (ev_op (barrel_at (j := 2) rfl hb rfl) ev_c rv_I0) (ev_var rfl) ev_c (by show 2 < 3; decide) fun H1 e1 => ?_
    have b1 : (upd H1 a (.lst [.int x, .int y, .int (z + 1)])) a = some (.lst [.int x, .int y, .int (z + 1)]) := upd_same
    have x1 : ExB a H (upd H1 a (.lst [.int x, .int y, .int (z + 1)])) := (Ex.exb e1).trans exb_upd
    refine q_setL (j := 1) (v := .int ((y * 40692 + 3791 * (z + 1) + 12345) % 2147483399)) b1 (ev_op (ev_cb (ea_cons (ev_op (ev_op (ev_op (barrel_at (j := 1) rfl b1 rfl) ev_c (rv_I (by right; decide))) (ev_op ev_c (barrel_at (j := 2) rfl b1 rfl) (rv_I (by left; decide))) rv_I0) ev_c rv_I0) ea_nil) rc_i1) ev_c (rv_I (by decide))) (ev_var rfl) ev_c (by show 1 < 3; decide) fun H2 e2 => ?_
    generalize (y * 40692 + 3791 * (z + 1) + 12345) % 2147483399 = y2
    have b2 : (upd H2 a (.lst [.int x, .int y2, .int (z + 1)])) a = some (.lst [.int x, .int y2, .int (z + 1)]) := upd_same
    have x2 : ExB a H (upd H2 a (.lst [.int x, .int y2, .int (z + 1)])) := x1.trans ((Ex.exb e2).trans exb_upd)
    have hp : (0 : Int) < top := by omega
    by_cases hx : 0 < x
    · refine q_if (b := true) (et_test (ev_is (ev_op (barrel_at (j := 0) rfl b2 rfl) ev_c rv_I0) (by rw [decide_eq_true hx]))) (fun _ H3 e3 => ?_) (fun h => nomatch h)
      have b3 := e3 _ _ b2
      have x3 : ExB a H H3 := x2.trans (Ex.exb e3)
      have ed : ∀ T, H3 T = none → T ≠ a := fun T hT q => by rw [q, b3] at hT; cases hT
      refine q_divmod (ea_cons (barrel_at (j := 0) rfl b3 rfl) (ea_cons (ev_var rfl) ea_nil)) ⟨hp, by omega⟩ fun T H4 e4 hT => ?_
      have b4 : (upd H4 T (.tup [.int (x / top), .int (x % top)])) a = some (.lst [.int x, .int y2, .int (z + 1)]) := (Ex.new hT) _ _ (e4 _ _ b3)
      have x4 := x3.trans ((Ex.exb (a := a) e4).trans (Ex.exb (Ex.new (o := .tup [.int (x / top), .int (x % top)]) hT)))
      refine g_cell (ev_var rfl) b4 (by show 0 < 3; decide) fun H5 e5 => ?_
      have := Int.emod_lt_of_pos x hp
      have hn := Int.emod_nonneg x (b := (top : Int)) (by omega)
      refine s_ret (v := .int ((x % (top : Int)).toNat : Nat)) (ev_is (ev_var rfl) (by rw [Int.toNat_of_nonneg hn])) fun H7 e7 => ?_
      exact k H7 _ (by omega) ⟨_, _, _, e7 _ _ upd_same⟩ ((x4.trans (Ex.exb e5)).trans (exb_upd.trans (Ex.exb e7)))
    · refine q_if (b := false) (et_test (ev_is (ev_op (barrel_at (j := 0) rfl b2 rfl) ev_c rv_I0) (by rw [decide_eq_false hx]))) (fun h => nomatch h) fun _ H3 e3 => ?_
      have b3 := e3 _ _ b2
      refine s_ret (v := .int (((y2 / 97 + y2 / 65537) % (top : Int)).toNat : Nat)) (ev_is (ev_op (ev_cb (ea_cons (ev_op (ev_op (barrel_at (j := 1) rfl b3 rfl) ev_c (rv_I (by exact ⟨by decide, by decide⟩))) (ev_op (barrel_at (j := 1) rfl b3 rfl) ev_c (rv_I (by exact ⟨by decide, by decide⟩))) rv_I0) ea_nil) rc_i1) (ev_var rfl) (rv_I (by exact hp))) ?_) fun H4 e4 => ?_
      · rw [Int.toNat_of_nonneg (Int.emod_nonneg _ (by omega))]
      · have := Int.emod_lt_of_pos (y2 / 97 + y2 / 65537) hp
        have := Int.emod_nonneg (y2 / 97 + y2 / 65537) (b := (top : Int)) (by omega)
        exact k H4 _ (by omega) ⟨_, _, _, e4 _ _ b3⟩ ((x2.trans (Ex.exb e3)).trans (Ex.exb e4))
end
end K14
set_option maxHeartbeats 4000000
namespace K14
open PySem L2 Evl
local macro_rules | `(tactic| walk_at "ev") => `(tactic| repeat' (first
  | exact ev_var rfl | exact ev_c | exact ea_nil | apply ea_cons | exact rv_I0 | apply ev_op | apply ev_cb | apply ev_un | exact ru_neg
  | exact rc_isiInt | exact rc_isiBool | exact rc_isiStr))
/-! ### the plain walk through a reader -/
/-- where sign a leads from stand s -/
def stp (arr : List (List (Option Nat))) (s a : Nat) : Option Nat := ((arr.getD s []).getD a none)
/-- .. a row of signs -/
def run (arr : List (List (Option Nat))) (o : Option Nat) (r : List Nat) : Option Nat := r.foldl (fun o a => o.bind fun s => stp arr s a) o
theorem run_none (arr : List (List (Option Nat))) (r : List Nat) : run arr none r = none := by
  induction r with
  | nil => rfl
  | cons a r ih => exact ih
theorem run_cons (arr : List (List (Option Nat))) (s a : Nat) (r : List Nat) : run arr (some s) (a :: r) = run arr (stp arr s a) r := rfl
theorem run_append (arr : List (List (Option Nat))) (o : Option Nat) (r q : List Nat) : run arr o (r ++ q) = run arr (run arr o r) q := List.foldl_append ..
theorem run_take (arr : List (List (Option Nat))) (o : Option Nat) (r : List Nat) (i : Nat) (h : i < r.length) : run arr o (r.take (i + 1)) = (run arr o (r.take i)).bind fun s => stp arr s r[i] := by
  rw [List.take_succ_eq_append_getElem h, run_append]
  rfl
theorem Wf.row {w s : Nat} {arr : List (List (Option Nat))} (W : Wf w arr) (h : s < arr.length) : arr[s]? = some (arr.getD s []) ∧ (arr.getD s []).length = w := by
  have e : arr.getD s [] = arr[s] := by rw [List.getD_eq_getElem?_getD, List.getElem?_eq_getElem h]; rfl
  exact ⟨by rw [e]; exact List.getElem?_eq_getElem h, by rw [e]; exact W.wid _ (List.getElem_mem h)⟩
theorem Wf.cell {w s a : Nat} {arr : List (List (Option Nat))} (W : Wf w arr) (h : s < arr.length) (ha : a < w) : (arr.getD s [])[a]? = some (stp arr s a) := by
  have hl := (W.row h).2
  unfold stp
  generalize arr.getD s [] = r at hl ⊢
  rw [List.getD_eq_getElem?_getD, List.getElem?_eq_getElem (by omega)]
  rfl
theorem Wf.stp_lt {w s a t : Nat} {arr : List (List (Option Nat))} (W : Wf w arr) (h : s < arr.length) (ha : a < w) (e : stp arr s a = some t) : t < arr.length := by
  have h1 := W.cell h ha
  rw [e] at h1
  exact W.bnd _ (List.mem_of_getElem? (W.row h).1) _ (List.mem_of_getElem? h1)
theorem Wf.run_lt {w : Nat} {arr : List (List (Option Nat))} (W : Wf w arr) : ∀ {r : List Nat} {s t : Nat}, s < arr.length → (∀ a ∈ r, a < w) → run arr (some s) r = some t → t < arr.length
  | [], s, t, h, _, e => by
    cases e
    exact h
  | a :: r, s, t, h, hr, e => by
    rw [run_cons] at e
    cases q : stp arr s a with
    | none =>
      rw [q, run_none] at e
      cases e
    | some u =>
      rw [q] at e
      exact W.run_lt (W.stp_lt h (hr a (List.mem_cons_self ..)) q) (fun b hb => hr b (List.mem_cons_of_mem _ hb)) e
section
variable {P : Program} {w : World} {K : PySem.W.Frag} {mg : Str → Option Value} {base : Heap}
variable {σ σ1 σ2 : L2.St} {H H' : Hp} {ta tb tc te tl tk : TE} {x y z v : V} {D : Ends} {tz tu tw : TS} {g : TG} {tt : TT} {wi : TI}
theorem ArrT.get {a : Addr} {arr : List (List (Option Nat))} {s : Nat} {n : Nat} (h : ArrT H a arr) (W : Wf n arr) (hs : s < arr.length) :
    ∃ (ps : List Addr) (p : Addr), H a = some (.tup (ps.map V.ref)) ∧ ps[s]? = some p ∧ H p = some (.tup ((arr.getD s []).map gV)) := by
  obtain ⟨ps, h1, h2, h3⟩ := h
  have hp : ps[s]? = some ps[s] := List.getElem?_eq_getElem (by omega)
  exact ⟨ps, ps[s], h1, hp, h3 s _ _ hp (W.row hs).1⟩
/-- arrows[s] -/
theorem ev_rowT {a : Addr} {arr : List (List (Option Nat))} {s n : Nat} (h1 : Ev ta σ H (.ref a)) (h2 : Ev tb σ H (.int s)) (ha : ArrT H a arr) (W : Wf n arr) (hs : s < arr.length) :
    ∃ p, Ev (tOp (rIxT K) ta tb) σ H (.ref p) ∧ H p = some (.tup ((arr.getD s []).map gV)) := by
  obtain ⟨ps, p, q1, q2, q3⟩ := ha.get W hs
  exact ⟨p, ev_op h1 h2 (rv_ixT (st_of q1) (at_of rfl (map_get V.ref q2))), q3⟩
/-- arrows[s][a] -/
theorem ev_cellT {a : Addr} {arr : List (List (Option Nat))} {s n c : Nat} (h1 : Ev ta σ H (.ref a)) (h2 : Ev tb σ H (.int s)) (h3 : Ev tc σ H (.int c)) (ha : ArrT H a arr) (W : Wf n arr) (hs : s < arr.length) (hc : c < n) :
    Ev (tOp (rIxT K) (tOp (rIxT K) ta tb) tc) σ H (gV (stp arr s c)) := by
  obtain ⟨p, q1, q2⟩ := ev_rowT (K := K) h1 h2 ha W hs
  exact ev_op q1 h3 (rv_ixT (st_of q2) (at_of rfl (map_get gV (W.cell hs hc))))
theorem s_forS {j : Nat} {z : Str} (h : Ev tl σ H (.str z)) (Pv : Nat → L2.St → Hp → Prop) (h0 : ∀ H1, Ex H H1 → Pv 0 σ H1)
    (hs : ∀ i c σ' H', z.cps[i]? = some c → Pv i σ' H' → tu { D with nx := Pv (i + 1), ct := Pv (i + 1), bk := D.nx } (σ'.set j (some (.str ⟨#[c]⟩))) H') (hd : ∀ σ' H', Pv z.cps.size σ' H' → D.nx σ' H') : tFor (iStr tl) (gName j) tu D σ H :=
  h H (Ex.refl H) _ fun H1 e => ⟨z, rfl, for_it walk_str Pv (h0 H1 e) (fun _ _ _ _ _ => trivial) (fun i x σ' H' H'' hi p yy => by
    obtain ⟨rfl, c, hc, rfl⟩ := yy
    exact hs i c σ' _ hc p) hd⟩
theorem q_forS {j : Nat} {z : Str} (h : Ev tl σ H (.str z)) (Pv : Nat → L2.St → Hp → Prop) (h0 : ∀ H1, Ex H H1 → Pv 0 σ H1)
    (hs : ∀ i c σ' H', z.cps[i]? = some c → Pv i σ' H' → tu { D with nx := Pv (i + 1), ct := Pv (i + 1), bk := tz D } (σ'.set j (some (.str ⟨#[c]⟩))) H') (hd : ∀ σ' H', Pv z.cps.size σ' H' → tz D σ' H') : tSeq (tFor (iStr tl) (gName j) tu) tz D σ H :=
  s_forS (D := { D with nx := tz D }) h Pv h0 hs hd
/-- whether a goal is None -/
def rNoneQ : R2 := fun x y H Q => y = .non ∧ Q (.bl (decide (x = .non))) H
theorem rv_isN {o : Option Nat} : RV rNoneQ (gV o) .non H (.bl o.isNone) := rv_val fun H1 e Q q => by
  cases o with
  | none => exact ⟨rfl, q⟩
  | some k => exact ⟨rfl, q⟩
theorem alpha_at {a : Nat} (h : a < 8) : Builtin.Str.occurrences "abcdefgh" ⟨#[97 + a]⟩ 0 (("abcdefgh" : Str).length) 1 = [a] := by
  have q : ∀ a : Fin 8, Builtin.Str.occurrences "abcdefgh" ⟨#[97 + (a : Nat)]⟩ 0 (("abcdefgh" : Str).length) 1 = [(a : Nat)] := by decide +kernel
  exact q ⟨a, h⟩
def rIndexS : V → List V → Hp → VK → Prop := fun x xs H Q => ∃ a b i rest, x = .str a ∧ xs = [.str b] ∧ Builtin.Str.occurrences a b 0 a.length 1 = i :: rest ∧ Q (.int (i : Nat)) H
/-- ALPHABET.index(sign) -/
theorem ev_index {a : Nat} (h1 : Ev ta σ H (.str "abcdefgh")) (h2 : Ev tb σ H (.str ⟨#[97 + a]⟩)) (ha : a < 8) : Ev (tBM K "str" rIndexS ta (tCons tb tNil)) σ H (.int a) := fun H1 e Q q =>
  h1 H1 e _ fun H2 e2 => ⟨rfl, h2 H2 (e.trans e2) _ fun H3 e3 => ⟨_, _, a, [], rfl, rfl, alpha_at ha, q H3 (e2.trans e3)⟩⟩
def sp_goal_by : Sp := fun vs H Q _ => ∃ (aa : Addr) (arr : List (List (Option Nat))) (n s : Nat) (r : List Nat), vs = [.ref aa, .int s, .str (rowS r)] ∧ ArrT H aa arr ∧ Wf n arr ∧ n ≤ 8 ∧ s < arr.length ∧ (∀ a ∈ r, a < n) ∧ ∀ H', Ex H H' → Q (gV (run arr (some s) r)) H'
theorem ok_goal_by (T : Tx K mg) : FnOk P w K mg base CX0 1 T.d_goal_by.f T.d_goal_by.fd ["arrows", "stand", "row"] sp_goal_by := by
  refine T.d_goal_by.F.ok sc_goal_by (fun vs H Q E h => ?_) (fun cdv A outer s H vs Q E hr h => ?_)
  · obtain ⟨aa, arr, n, s, r, rfl, _⟩ := h
    rfl
  · obtain ⟨aa, arr, n, s0, r, rfl, ha, W, hn, hs, hr', k⟩ := h
    refine ⟨_, (pss_cons (ps_for PassesOwn.never rfl (pi_str (pv 2)) (pg_name (i := 3) sc_goal_by.nd rfl (Or.inl rfl)) (pss_cons (ps_if (pt_cmpR op_isN (pv 1) pe_non (nomark _)) (pss_one (ps_ret pe_non)) pss_nil)
      (pss_one (ps_set (i := 1) sc_goal_by.nd rfl (Or.inl rfl) (pe_ix (k_ixT K) (pe_ix (k_ixT K) (pv 0) (pv 1) (fun _ _ => rfl)) (pe_bm PySem.F.plainAttrs_str PySem.F.slot_str_index PySem.F.type_str_index mt_sindex (pe_glob (v := .str "abcdefgh") rfl T.g_ALPHABET.choose_spec ⟨_, rfl⟩) (pa_cons (pv 3) pa_nil)) (fun _ _ => rfl))))))
      (pss_one (ps_ret (pv 1)))), ?_⟩
    refine q_forS (ev_var rfl) (fun i σ' H' => Ex H H' ∧ ∃ l, σ' = [some (.ref aa), some (gV (run arr (some s0) (r.take i))), some (.str (rowS r)), l]) (fun H1 e => ⟨e, none, rfl⟩) (fun i c σ' H' hc P => ?_) (fun σ' H' P => ?_)
    · obtain ⟨e, l, rfl⟩ := P
      obtain ⟨a, h1, rfl⟩ := rowS_get hc
      obtain ⟨hi, rfl⟩ := List.getElem?_eq_some_iff.mp h1
      have hA := hr' _ (List.getElem_mem hi)
      refine q_when (b := (run arr (some s0) (r.take i)).isNone) (fun H1 e1 Q q => ev_op (ev_var rfl) ev_c rv_isN H1 e1 _ fun H2 e2 => ⟨_, rfl, q H2 e2⟩) (fun c H1 e1 => ?_) fun c H1 e1 => ?_
      · refine s_ret ev_c fun H2 e2 => ?_
        have := k H2 ((e.trans e1).trans e2)
        rw [← List.take_append_drop i r, run_append, Option.isNone_iff_eq_none.mp c, run_none] at this
        exact this
      · cases q : run arr (some s0) (r.take i) with
        | none =>
          rw [q] at c
          cases c
        | some t =>
          have ht : t < arr.length := W.run_lt hs (fun b hb => hr' b (List.mem_of_mem_take hb)) q
          refine s_asg (v := gV (stp arr t r[i])) (ev_cellT (ev_var rfl) (ev_var rfl) (ev_index ev_c (ev_var rfl) (by omega)) (ha.ex (e.trans e1)) W ht hA) fun H2 e2 => ⟨(e.trans e1).trans e2, some (.str ⟨#[97 + r[i]]⟩), ?_⟩
          rw [run_take arr _ r i hi, q]
          rfl
    · obtain ⟨e, l, rfl⟩ := P
      rw [rowS_size, List.take_of_length_le (Nat.le_refl _)] at *
      exact s_ret (ev_var rfl) fun H2 e2 => k H2 (e.trans e2)
theorem spv_goal_by {aa : Addr} {arr : List (List (Option Nat))} {n s : Nat} {r : List Nat} (h1 : ArrT H aa arr) (h2 : Wf n arr) (h3 : n ≤ 8) (h4 : s < arr.length) (h5 : ∀ a ∈ r, a < n) : SpV sp_goal_by ([.ref aa, .int s, .str (rowS r)] ++ []) H (gV (run arr (some s) r)) :=
  fun H1 e Q q E => ⟨aa, arr, n, s, r, rfl, h1.ex e, h2, h3, h4, h5, q⟩
def sp_led_to (C : Addr) : Sp := fun vs H Q _ => ∃ (p : Addr) (arr : List (List (Option Nat))) (ends : List Nat) (n : Nat) (r : List Nat), vs = [.ref p, .str (rowS r)] ∧ RdrAt C H p n arr ends ∧ Wf n arr ∧ n ≤ 8 ∧ (∀ a ∈ r, a < n) ∧ r.length ≤ 200 ∧ ∀ H', Ex H H' → Q (gV (run arr (some 0) r)) H'
theorem ok_led_to (T : Tx K mg) : FnOk P w K mg base CX0 3 T.d_led_to.f T.d_led_to.fd ["reader", "row"] (sp_led_to T.CR) := by
  refine T.d_led_to.F.ok sc_led_to (fun vs H Q E h => ?_) (fun cdv A outer s H vs Q E hr h => ?_)
  · obtain ⟨p, arr, ends, n, r, rfl, _⟩ := h
    rfl
  · obtain ⟨p, arr, ends, n, r, rfl, ⟨aa, ae, hp, ha, he⟩, W, hn, hr', hl, k⟩ := h
    refine ⟨_, (pss_cons (ps_expr (pe_call (ok_check_reader T) (hr.mono (by decide)) rfl T.d_check_reader.g T.d_check_reader.F.kp T.d_check_reader.b .nil pass0 (pa_cons (pv 0) pa_nil)))
      (pss_cons (ps_expr (pe_call (ok_check_row T) (hr.mono (by decide)) rfl T.d_check_row.g T.d_check_row.F.kp T.d_check_row.b .nil pass0 (pa_cons (pv 1) (pa_cons (pe_prop (pv 0) T.clR T.p_Reader_signs (ok_Reader_signs T) (hr.mono (by decide)) T.d_Reader_signs.b .nil pass0 rfl) pa_nil))))
      (pss_one (ps_ret (pe_call (ok_goal_by T) (hr.mono (by decide)) rfl T.d_goal_by.g T.d_goal_by.F.kp T.d_goal_by.b .nil pass0 (pa_cons (pe_prop (pv 0) T.clR T.p_Reader_arrows (ok_Reader_arrows T) (hr.mono (by decide)) T.d_Reader_arrows.b .nil pass0 rfl) (pa_cons pe_int (pa_cons (pv 1) pa_nil)))))))), ?_⟩
    refine q_drop (ev_call (by walk_at "ev") (spv_check_reader hp)) fun H1 e1 => ?_
    refine q_drop (ev_call (ea_cons (ev_var rfl) (ea_cons (ev_get (ev_var rfl) (hp.ex e1) rfl) ea_nil)) (spv_check_row hn hr' hl)) fun H2 e2 => ?_
    exact s_ret (ev_call (ea_cons (ev_get (ev_var rfl) (hp.ex (e1.trans e2)) rfl) (ea_cons ev_c (ea_cons (ev_var rfl) ea_nil))) (spv_goal_by (s := 0) (ha.ex (e1.trans e2)) W hn W.ne hr')) fun H3 e3 => k _ ((e1.trans e2).trans e3)
theorem spv_led_to {C p : Addr} {arr : List (List (Option Nat))} {ends : List Nat} {n : Nat} {r : List Nat} (h1 : RdrAt C H p n arr ends) (h2 : Wf n arr) (h3 : n ≤ 8) (h4 : ∀ a ∈ r, a < n) (h5 : r.length ≤ 200) : SpV (sp_led_to C) ([.ref p, .str (rowS r)] ++ []) H (gV (run arr (some 0) r)) :=
  fun H1 e Q q E => ⟨p, arr, ends, n, r, rfl, h1.ex e, h2, h3, h4, h5, q⟩
/-- whether a row leads to an end -/
def acc (arr : List (List (Option Nat))) (ends : List Nat) (o : Option Nat) (r : List Nat) : Bool := match run arr o r with
  | none => false
  | some k => decide (k ∈ ends)
theorem flat_nats (ns : List Nat) : ((ns.map fun (k : Nat) => V.int k).all flatV) = true := by
  rw [List.all_map]
  exact List.all_eq_true.mpr fun _ _ => rfl
theorem in_nats (k : Nat) (ns : List Nat) : inV (.int k) (ns.map fun (k : Nat) => V.int k) = decide (k ∈ ns) := by
  rw [inV, List.any_map]
  by_cases c : k ∈ ns
  · rw [decide_eq_true c]
    exact List.any_eq_true.mpr ⟨k, c, by simp [eqV]⟩
  · rw [decide_eq_false c]
    refine List.any_eq_false.mpr fun j hj => ?_
    have : j ≠ k := fun e => c (e ▸ hj)
    simp [eqV]
    omega
theorem in_goal (o : Option Nat) (ns : List Nat) : inV (gV o) (ns.map fun (k : Nat) => V.int k) = (match o with | none => false | some k => decide (k ∈ ns)) := by
  cases o with
  | none =>
    rw [inV, List.any_map]
    exact List.any_eq_false.mpr fun j hj => by simp [eqV, gV]
  | some k => exact in_nats k ns
def sp_says (C : Addr) : Sp := fun vs H Q _ => ∃ (p : Addr) (arr : List (List (Option Nat))) (ends : List Nat) (n : Nat) (r : List Nat), vs = [.ref p, .str (rowS r)] ∧ RdrAt C H p n arr ends ∧ Wf n arr ∧ n ≤ 8 ∧ (∀ a ∈ r, a < n) ∧ r.length ≤ 200 ∧ ∀ H', Ex H H' → Q (.bl (acc arr ends (some 0) r)) H'
theorem ok_says (T : Tx K mg) : FnOk P w K mg base CX0 4 T.d_says.f T.d_says.fd ["reader", "row"] (sp_says T.CR) := by
  refine T.d_says.F.ok sc_says (fun vs H Q E h => ?_) (fun cdv A outer s H vs Q E hr h => ?_)
  · obtain ⟨p, arr, ends, n, r, rfl, _⟩ := h
    rfl
  · obtain ⟨p, arr, ends, n, r, rfl, R, W, hn, hr', hl, k⟩ := h
    obtain ⟨aa, ae, hp, ha, he⟩ := id R
    refine ⟨_, (pss_one (ps_ret (pe_cmpR (k_inS K) (pe_call (ok_led_to T) (hr.mono (by decide)) rfl T.d_led_to.g T.d_led_to.F.kp T.d_led_to.b .nil pass0 (pa_cons (pv 0) (pa_cons (pv 1) pa_nil))) (pe_prop (pv 0) T.clR T.p_Reader_ends (ok_Reader_ends T) (hr.mono (by decide)) T.d_Reader_ends.b .nil pass0 rfl) rfl))), ?_⟩
    refine s_ret (v := .bl (acc arr ends (some 0) r)) (ev_is (ev_op (ev_call (by walk_at "ev") (spv_led_to R W hn hr' hl)) (ev_get (ev_var rfl) hp rfl) (rv_isT (st_of he) (by cases run arr (some 0) r <;> rfl) (flat_nats ends))) ?_) k
    rw [in_goal]
    rfl
theorem spv_says {C p : Addr} {arr : List (List (Option Nat))} {ends : List Nat} {n : Nat} {r : List Nat} (h1 : RdrAt C H p n arr ends) (h2 : Wf n arr) (h3 : n ≤ 8) (h4 : ∀ a ∈ r, a < n) (h5 : r.length ≤ 200) : SpV (sp_says C) ([.ref p, .str (rowS r)] ++ []) H (.bl (acc arr ends (some 0) r)) :=
  fun H1 e Q q E => ⟨p, arr, ends, n, r, rfl, h1.ex e, h2, h3, h4, h5, q⟩
end
end K14
set_option maxHeartbeats 4000000
namespace K14
open PySem L2 Evl
local macro_rules | `(tactic| walk_at "ev") => `(tactic| repeat' (first
  | exact ev_var rfl | exact ev_c | exact ea_nil | apply ea_cons | exact rv_I0 | apply ev_op | apply ev_cb | apply ev_un | exact ru_neg
  | exact rc_isiInt | exact rc_isiBool | exact rc_isiStr))
theorem hu64 {n : Nat} (h : n + 64 < cLine) : n + 1 < cLine := by omega
/-! ### the plain reach -/
abbrev Rows := List (List (Option Nat))
inductive Rch (rows : Rows) (S : List Nat) : Nat → Prop
  | base {k : Nat} : k ∈ S → Rch rows S k
  | step {j k : Nat} : Rch rows S j → some k ∈ rows.getD j [] → Rch rows S k
structure RI (rows : Rows) (S ks ls : List Nat) : Prop where
  nd : ks.Nodup
  bd : ∀ k ∈ ks, k < rows.length
  sub : ∀ k ∈ ls, k ∈ ks
  src : ∀ k ∈ S, k ∈ ks
  rch : ∀ k ∈ ks, Rch rows S k
/-- how much is left -/
def left (rows : Rows) (ks ls : List Nat) : Nat := 2 * (rows.length - ks.length) + ls.length
def Done (rows : Rows) (ks : List Nat) (k : Nat) : Prop := ∀ t, some t ∈ rows.getD k [] → t ∈ ks
theorem RI.len {rows : Rows} {S ks ls : List Nat} (h : RI rows S ks ls) : ks.length ≤ rows.length := by
  have := nat_nodup_len ks (List.range rows.length) h.nd (fun x hx => List.mem_range.mpr (h.bd x hx))
  simpa using this
theorem RI.add {rows : Rows} {S ks ls : List Nat} {t s : Nat} (h : RI rows S ks ls) (ht : t ∉ ks) (hs : s ∈ ks) (he : some t ∈ rows.getD s []) (hb : t < rows.length) : RI rows S (ks ++ [t]) (ls ++ [t]) ∧ left rows (ks ++ [t]) (ls ++ [t]) + 1 ≤ left rows ks ls := by
  have hn : (ks ++ [t]).Nodup := List.nodup_append.mpr ⟨h.nd, by simp, fun a ha b hb e => ht (by rw [List.mem_singleton.mp hb] at e; exact e ▸ ha)⟩
  have n : RI rows S (ks ++ [t]) (ls ++ [t]) := ⟨hn, fun k hk => by
    rcases List.mem_append.mp hk with hk | hk
    · exact h.bd k hk
    · rw [List.mem_singleton.mp hk]
      exact hb, fun k hk => by
    rcases List.mem_append.mp hk with hk | hk
    · exact List.mem_append_left _ (h.sub k hk)
    · exact List.mem_append_right _ hk, fun k hk => List.mem_append_left _ (h.src k hk), fun k hk => by
    rcases List.mem_append.mp hk with hk | hk
    · exact h.rch k hk
    · rw [List.mem_singleton.mp hk]
      exact .step (h.rch s hs) he⟩
  refine ⟨n, ?_⟩
  have := n.len
  unfold left
  simp at this ⊢
  omega
theorem RI.end {rows : Rows} {S ks : List Nat} (h : RI rows S ks []) (d : ∀ k ∈ ks, k ∈ ([] : List Nat) ∨ Done rows ks k) (k : Nat) : k ∈ ks ↔ Rch rows S k := by
  refine ⟨h.rch k, fun r => ?_⟩
  induction r with
  | base m => exact h.src _ m
  | step _ m ih => exact ((d _ ih).resolve_left (List.not_mem_nil)) _ m
/-- rows as a list or tuple of lists or tuples -/
def SeqAt (H : Hp) (a : Addr) (xs : List V) : Prop := H a = some (.tup xs) ∨ H a = some (.lst xs)
theorem SeqAt.ex {H H' : Hp} {a : Addr} {xs : List V} (h : SeqAt H a xs) (e : Ex H H') : SeqAt H' a xs := h.imp (e _ _) (e _ _)
def Grid (H : Hp) (a : Addr) (rows : Rows) : Prop := ∃ ps : List Addr, SeqAt H a (ps.map V.ref) ∧ ps.length = rows.length ∧ ∀ (i : Nat) p r, ps[i]? = some p → rows[i]? = some r → SeqAt H p (r.map gV)
theorem Grid.ex {H H' : Hp} {a : Addr} {rows : Rows} (h : Grid H a rows) (e : Ex H H') : Grid H' a rows := by
  obtain ⟨ps, h1, h2, h3⟩ := h
  exact ⟨ps, h1.ex e, h2, fun i p r a b => (h3 i p r a b).ex e⟩
theorem ArrT.grid {H : Hp} {a : Addr} {arr : Rows} (h : ArrT H a arr) : Grid H a arr := by
  obtain ⟨ps, h1, h2, h3⟩ := h
  exact ⟨ps, .inl h1, h2, fun i p r a b => .inl (h3 i p r a b)⟩
theorem Grid.get {H : Hp} {a : Addr} {rows : Rows} {s : Nat} (h : Grid H a rows) (hs : s < rows.length) : ∃ (ps : List Addr) (p : Addr), SeqAt H a (ps.map V.ref) ∧ ps[s]? = some p ∧ SeqAt H p ((rows.getD s []).map gV) := by
  obtain ⟨ps, h1, h2, h3⟩ := h
  have hp : ps[s]? = some ps[s] := List.getElem?_eq_getElem (by omega)
  refine ⟨ps, ps[s], h1, hp, h3 s _ _ hp ?_⟩
  rw [List.getD_eq_getElem?_getD, List.getElem?_eq_getElem hs]
  rfl
/-- numbers as a list or as the keys of a dict -/
def Nums (H : Hp) (a : Addr) (ns : List Nat) : Prop := H a = some (.lst (ns.map fun (k : Nat) => V.int k)) ∨ H a = some (.dK (nS ns))
section
variable {P : Program} {w : World} {K : PySem.W.Frag} {mg : Str → Option Value} {base : Heap}
variable {σ σ1 σ2 : L2.St} {H H' : Hp} {ta tb tc te tl tk td : TE} {x y z v : V} {D : Ends} {tz tu tw : TS} {g : TG} {tt : TT} {wi : TI}
theorem ei_K {d : Addr} {od : Obj} {kvs : List (Key × V)} (h : Ev td σ H (.ref d)) (hd : H d = some (.frz od (.dK kvs))) : EvI (iKeys td) σ H kvs.length (fun i x _ => ∃ k v, kvs[i]? = some (k, v) ∧ x = kV k) := fun H1 e R k =>
  h H1 e _ fun H2 e2 => ⟨d, od, rfl, .inl ⟨kvs, (e.trans e2) _ _ hd, k _ H2 (fun H => H d = some (.frz od (.dK kvs))) e2 (walk_keys.mono (fun _ h => h) fun i H x H' _ _ q => ⟨q.1 ▸ Ex.refl _, q.2, fun _ _ => q.2⟩) fun H3 e3 => ((e.trans e2).trans e3) _ _ hd⟩⟩
theorem s_lockAsg {d : Addr} {u o : HO} {i : Nat} (hd : H d = some u) (mu : Mut (some u)) (h : ∀ od, EvR te σ (upd H d (.frz od u)) (fun H p => H p = some o)) (k : ∀ p H1, H p = none → Ex H H1 → H1 p = some o → D.nx (σ.set i (some (.ref p))) H1) :
    tLock (tAsg te (gName i)) D σ H := ⟨d, u, hd, mu, fun od => h od _ (Ex.refl _) _ fun p H2 hp e2 r => by
  have hpd : p ≠ d := fun e => by rw [e, upd_same] at hp; cases hp
  rw [upd_ne hpd] at hp
  refine ⟨e2 d _ upd_same, k p _ hp (fun a o ha => ?_) (by rw [upd_ne hpd]; exact r)⟩
  by_cases c : a = d
  · rw [c] at ha ⊢
    rw [upd_same, ← hd, ha]
  · rw [upd_ne c]
    exact e2 _ _ (by rw [upd_ne c]; exact ha)⟩
theorem ed_ofNums {ns : List Nat} (hn : ns.Nodup) : fillK (((List.range ns.length).filter fun _ => true).map fun i => (ik (ns.getD i 0), V.bl true)) = nS ns := by
  rw [← nS_fill hn, List.filter_eq_self.mpr (fun _ _ => rfl)]
  congr 1
  refine List.ext_getElem (by simp) fun i h1 h2 => ?_
  simp at h1
  simp [List.getD_eq_getElem?_getD, List.getElem?_eq_getElem h1]
theorem getD_of {α : Type} {l : List α} {i : Nat} {x d : α} (h : l[i]? = some x) : l.getD i d = x := by rw [List.getD_eq_getElem?_getD, h]; rfl
/-- found = {stand: True for stand in stands} -/
theorem q_marks {d : Addr} {ns : List Nat} {j b i : Nat} {vs : List Nat} (hi : σ[j]? = some (some (.ref d))) (hd : Nums H d ns) (hn : ns.Nodup) (hz : ns.length ≤ 40000) (hw : ∀ x, wipe ((wipe σ vs).set b (some x)) vs = wipe σ vs) (hb : ∀ x, ((wipe σ vs).set b (some x))[b]? = some (some x))
    (k : ∀ p H1, H p = none → Ex H H1 → H1 p = some (.dK (nS ns)) → tz D (σ.set i (some (.ref p))) H1) :
    tSeq (sOr (tAsg (tDcG (.dK []) (iList K (tVar j)) (gName b) tYes (fun D => tEmit D (tVar b) (tC (.bl true))) vs) (gName i)) (tLock (tAsg (tDcG (.dK []) (iKeys (tVar j)) (gName b) tYes (fun D => tEmit D (tVar b) (tC (.bl true))) vs) (gName i)))) tz D σ H := by
  rcases hd with hd | hd
  · refine .inl ?_
    have h := ed_comp (vs := vs) (tt := tYes) (g := gName b) (tk := tVar b) (te := tC (.bl true)) (fun _ => true) (fun i => ik (ns.getD i 0)) (fun _ => .bl true) (ei_L (K := K) (ev_var hi) (sq_of hd)) (by rw [List.length_map]; exact hz) (fun i x H1 e hi hy => ⟨_, eg_name, hw x, et_yes, fun _ => ⟨?_, ev_c⟩⟩)
    · rw [List.length_map, ed_ofNums hn] at h
      exact h H (Ex.refl H) _ k
    · obtain ⟨m, hm, rfl⟩ := get_map hy
      rw [kV_ik, getD_of hm]
      exact ev_var (hb _)
  · refine .inr (s_lockAsg (o := .dK (nS ns)) hd trivial (fun od => ?_) k)
    have h := ed_comp (H := upd H d (.frz od (.dK (nS ns)))) (vs := vs) (tt := tYes) (g := gName b) (tk := tVar b) (te := tC (.bl true)) (fun _ => true) (fun i => ik (ns.getD i 0)) (fun _ => .bl true) (ei_K (td := tVar j) (ev_var hi) upd_same) (by rw [nS_len]; exact hz) (fun i x H1 e hi hy => ⟨_, eg_name, hw x, et_yes, fun _ => ⟨?_, ev_c⟩⟩)
    · rw [nS_len, ed_ofNums hn] at h
      exact h
    · obtain ⟨k, v, hk, rfl⟩ := hy
      obtain ⟨p, hp, hq⟩ := get_map hk
      obtain ⟨m, hm, rfl⟩ := get_map hp
      cases hq
      rw [getD_of hm]
      exact ev_var (hb _)
def rListDK : List V → Hp → VK → Prop := fun xs H Q => ∃ p kvs, xs = [.ref p] ∧ H p = some (.dK kvs) ∧ ∀ q, H q = none → Q (.ref q) (upd H q (.lst (kvs.map fun kv => kV kv.1)))
/-- list(stands) -/
theorem el_nums {d : Addr} {ns : List Nat} (h : Ev ta σ H (.ref d)) (hd : Nums H d ns) : EvL (tOrE (tCB (rListQ K) (tCons ta tNil)) (tCB rListDK (tCons ta tNil))) σ H (ns.map fun (k : Nat) => V.int k) := fun H1 e Q q => by
  rcases hd with hd | hd
  · exact .inl (h H1 e _ fun H2 e2 => ⟨d, _, rfl, .inl (sq_of ((e.trans e2) _ _ hd)), fun l hl => q l _ (fresh_back e2 hl) (e2.trans (Ex.new hl)) upd_same⟩)
  · exact .inr (h H1 e _ fun H2 e2 => ⟨d, _, rfl, (e.trans e2) _ _ hd, fun l hl => q l _ (fresh_back e2 hl) (e2.trans (Ex.new hl)) (by rw [upd_same]; simp [nS, nD, kV_ik, Function.comp_def])⟩)
/-- for .. in a row that a popped number tells -/
theorem s_forPop {j i0 i1 : Nat} {a la : Addr} {rows : Rows} {s : Nat} {ls : List Nat} (ha : σ[i0]? = some (some (.ref a))) (hla : σ[i1]? = some (some (.ref la))) {H0 : Hp} (e0 : Ex H0 H) (hl0 : H0 la = none) (hG : Grid H0 a rows) (hs : s < rows.length) (hl : H la = some (.lst ((ls ++ [s]).map fun (k : Nat) => V.int k)))
    (Pv : Nat → L2.St → Hp → Prop) (h0 : Pv 0 σ (upd H la (.lst (ls.map fun (k : Nat) => V.int k)))) (hE : ∀ i σ' H', Pv i σ' H' → Ex H0 H')
    (hstep : ∀ i o σ' H', (rows.getD s [])[i]? = some o → Pv i σ' H' → tu { D with nx := Pv (i + 1), ct := Pv (i + 1), bk := D.nx } (σ'.set j (some (gV o))) H') (hd : ∀ σ' H', Pv (rows.getD s []).length σ' H' → D.nx σ' H') :
    tFor (iOr (iList K (tOrE (tOp (rIxL K) (tVar i0) (tBM0 K "list" rPop (tVar i1))) (tOp (rIxT K) (tVar i0) (tBM0 K "list" rPop (tVar i1))))) (iTup K (tOrE (tOp (rIxL K) (tVar i0) (tBM0 K "list" rPop (tVar i1))) (tOp (rIxT K) (tVar i0) (tBM0 K "list" rPop (tVar i1)))))) (gName j) tu D σ H := by
  obtain ⟨ps, p, hA, hp, hrow⟩ := hG.get hs
  have e1 : Ex H0 (upd H la (.lst (ls.map fun (k : Nat) => V.int k))) := Ex.mut e0 hl0
  have val : ∀ Q : VK, Q (.ref p) (upd H la (.lst (ls.map fun (k : Nat) => V.int k))) → (tOrE (tOp (rIxL K) (tVar i0) (tBM0 K "list" rPop (tVar i1))) (tOp (rIxT K) (tVar i0) (tBM0 K "list" rPop (tVar i1)))) σ H Q := fun Q q => by
    have pop : ∀ R : VK, R (.int s) (upd H la (.lst (ls.map fun (k : Nat) => V.int k))) → tBM0 K "list" rPop (tVar i1) σ H R := fun R r => by
      refine ⟨_, hla, Or.inl ⟨rfl, _, sq_of hl⟩, la, _, .int s, rfl, rfl, hl, by simp, ?_⟩
      rw [List.map_append, List.map_singleton, List.dropLast_concat]
      exact r
    rcases hA with hA | hA
    · exact .inr ⟨_, ha, pop _ ⟨a, _, (s : Int), .ref p, rfl, rfl, st_of (e1 _ _ hA), at_of rfl (map_get V.ref hp), q⟩⟩
    · exact .inl ⟨_, ha, pop _ ⟨a, _, (s : Int), .ref p, rfl, rfl, sq_of (e1 _ _ hA), at_of rfl (map_get V.ref hp), q⟩⟩
  rcases hrow with hrow | hrow
  · refine .inr (val _ ⟨p, rfl, ⟨_, st_of (e1 _ _ hrow)⟩, for_tup Pv h0 (fun i σ' H' _ P => st_of (hE i σ' H' P _ _ hrow)) (fun i x σ' H' hx P => ?_) (fun σ' H' P => hd σ' H' (by rw [List.length_map] at P; exact P))⟩)
    obtain ⟨o, ho, rfl⟩ := get_map hx
    exact hstep i o σ' H' ho P
  · refine .inl (val _ ⟨p, rfl, ⟨_, sq_of (e1 _ _ hrow)⟩, for_list Pv h0 (fun i σ' H' _ P => sq_of (hE i σ' H' P _ _ hrow)) (fun i x σ' H' hx P => ?_) (fun σ' H' P => hd σ' H' (by rw [List.length_map] at P; exact P))⟩)
    obtain ⟨o, ho, rfl⟩ := get_map hx
    exact hstep i o σ' H' ho P
theorem rv_notN {o : Option Nat} : RV (fun x y H Q => y = .non ∧ Q (.bl (!decide (x = .non))) H) (gV o) .non H (.bl o.isSome) := rv_val fun H1 e Q q => by
  cases o with
  | none => exact ⟨rfl, q⟩
  | some k => exact ⟨rfl, q⟩
def sp_reached : Sp := fun vs H Q _ => ∃ (a b : Addr) (rows : Rows) (S : List Nat), vs = [.ref a, .ref b] ∧ Grid H a rows ∧ rows.length ≤ 1000 ∧ (∀ r ∈ rows, ∀ t, some t ∈ r → t < rows.length) ∧ Nums H b S ∧ S.Nodup ∧ (∀ k ∈ S, k < rows.length) ∧
  ∀ p H' ks, H p = none → Ex H H' → H' p = some (.dK (nS ks)) → (∀ k, k ∈ ks ↔ Rch rows S k) → Q (.ref p) H'
theorem ok_reached (T : Tx K mg) : FnOk P w K mg base CX0 1 T.d_reached.f T.d_reached.fd ["arrows", "stands"] sp_reached := by
  refine T.d_reached.F.ok sc_reached (fun vs H Q E h => ?_) (fun cdv A outer s H vs Q E hr h => ?_)
  · obtain ⟨a, b, rows, S, rfl, _⟩ := h
    rfl
  · obtain ⟨a, b, rows, S, rfl, hG, hrl, hbd, hS, hSn, hSb, k⟩ := h
    refine ⟨_, (pss_cons (ps_either (ps_setDcg (own := [("stand", 3)]) (g := (gName 3)) (.dK []) (i := 2) (hu64 hr.units) rfl sc_reached.nd rfl rfl (swD_true rfl rfl rfl (by decide +kernel)) (k_piL K (pv 1)) (blkOk_by (own := [("stand", 3)]) (N := ["arrows", "stands", "found", "stand", "line", "goal"]) (sc := defScope s_reached) (by decide +kernel)) (fun _ _ _ _ _ => (pg_name (i := 3) sc_reached.nd rfl (Or.inl rfl))) (fun _ _ _ _ _ => pts_nil) (fun _ _ _ _ _ => (pv 3)) (fun _ _ _ _ _ => pe_bl) (.inl rfl)) (ps_lock (ps_setDcg (own := [("stand", 3)]) (g := (gName 3)) (.dK []) (i := 2) (hu64 hr.units) rfl sc_reached.nd rfl rfl (swD_true rfl rfl rfl (by decide +kernel)) (pi_keys (pv 1)) (blkOk_by (own := [("stand", 3)]) (N := ["arrows", "stands", "found", "stand", "line", "goal"]) (sc := defScope s_reached) (by decide +kernel)) (fun _ _ _ _ _ => (pg_name (i := 3) sc_reached.nd rfl (Or.inl rfl))) (fun _ _ _ _ _ => pts_nil) (fun _ _ _ _ _ => (pv 3)) (fun _ _ _ _ _ => pe_bl) (.inl rfl))))
      (pss_cons (ps_set (i := 4) sc_reached.nd rfl (Or.inl rfl) (pe_either (pe_callTy (k_list K) (by rfl) T.z_list (by decide +kernel) (pa_cons (pv 1) pa_nil)) (pe_callTy (call_list_dK rfl) (by rfl) T.z_list (by decide +kernel) (pa_cons (pv 1) pa_nil))))
      (pss_cons (ps_while PassesOwn.never (pt_cmpR op_gt (pe_callB (k_len K) (by rfl) T.z_len (by decide +kernel) (pa_cons (pv 4) pa_nil)) pe_int (nomark _)) (pss_one (ps_for PassesOwn.never rfl (pi_either (k_piL K (pe_either (pe_ix (k_ixL K) (pv 0) (pe_bm0 PySem.F.plainAttrs_list PySem.F.slot_list_pop PySem.F.type_list_pop mt_pop (pv 4)) (fun _ _ => rfl)) (pe_ix (k_ixT K) (pv 0) (pe_bm0 PySem.F.plainAttrs_list PySem.F.slot_list_pop PySem.F.type_list_pop mt_pop (pv 4)) (fun _ _ => rfl)))) (k_piT K (pe_either (pe_ix (k_ixL K) (pv 0) (pe_bm0 PySem.F.plainAttrs_list PySem.F.slot_list_pop PySem.F.type_list_pop mt_pop (pv 4)) (fun _ _ => rfl)) (pe_ix (k_ixT K) (pv 0) (pe_bm0 PySem.F.plainAttrs_list PySem.F.slot_list_pop PySem.F.type_list_pop mt_pop (pv 4)) (fun _ _ => rfl))))) (pg_name (i := 5) sc_reached.nd rfl (Or.inl rfl)) (pss_one (ps_if (PW.pt (pw_and (pt_cmpR op_notN (pv 5) pe_non (nomark _)) (pw_and1 (pt_cmp (pc_dnotin (hu64 hr.units) (pv 5) (pv 2)))))) (pss_cons (ps_dput (hu64 hr.units) (pv 2) (pv 5) pe_bl rfl)
      (pss_one (ps_expr (pe_bm PySem.F.plainAttrs_list PySem.F.slot_list_append PySem.F.type_list_append mt_append (pv 4) (pa_cons (pv 5) pa_nil))))) pss_nil)))))
      (pss_one (ps_ret (pv 2)))))), ?_⟩
    have hSl : S.length ≤ rows.length := by
      have := nat_nodup_len S (List.range rows.length) hSn (fun x hx => List.mem_range.mpr (hSb x hx))
      simpa using this
    refine q_marks (ns := S) rfl hS hSn (by omega) (fun _ => rfl) (fun _ => rfl) fun fa H1 hfa e1 hf => ?_
    have hS1 : Nums H1 b S := hS.imp (e1 _ _) (e1 _ _)
    refine q_asgL (el_nums (ev_var rfl) hS1) fun la H2 hla e2 hl => ?_
    have e12 := e1.trans e2
    have hla0 := fresh_back e1 hla
    refine q_while (fun m σ' H' => ∃ (ks ls : List Nat) (g1 g2 : Option V), m = left rows ks ls ∧ left rows ks ls ≤ 2 * rows.length ∧ σ' = [some (.ref a), some (.ref b), some (.ref fa), g1, some (.ref la), g2] ∧ Ex H H' ∧ H' fa = some (.dK (nS ks)) ∧ H' la = some (.lst (ls.map fun (k : Nat) => V.int k)) ∧ RI rows S ks ls ∧ ∀ k ∈ ks, k ∈ ls ∨ Done rows ks k) _
      ⟨S, S, none, none, rfl, by unfold left; omega, rfl, e12, e2 _ _ hf, hl, ⟨hSn, hSb, fun k h => h, fun k h => h, fun k h => .base h⟩, fun k h => .inl h⟩ fun m σ' H' hW => ?_
    obtain ⟨ks, ls, g1, g2, rfl, hm0, rfl, e, hf', hl', R, hd⟩ := hW
    refine ⟨decide (0 < (ls.length : Int)), ?_, fun c H3 e3 => ?_, fun c H3 e3 => ?_⟩
    · refine fun H3 e3 Q q => ev_op (ev_cb (ea_cons (ev_var rfl) ea_nil) (rc_lenQ (.inl (sq_of hl')))) ev_c rv_I0 H3 e3 _ fun H4 e4 => ⟨_, rfl, ?_⟩
      rw [List.length_map]
      exact q H4 e4
    · have hne : ls ≠ [] := fun z => by rw [z] at c; cases c
      obtain ⟨ls0, s, rfl⟩ : ∃ ls0 s, ls = ls0 ++ [s] := ⟨ls.dropLast, ls.getLast hne, (List.dropLast_concat_getLast hne).symm⟩
      have hs : s ∈ ks := R.sub s (by simp)
      have hsl := R.bd s hs
      have e' := e.trans e3
      have hne2 : fa ≠ la := fun z => by rw [z, hl'] at hf'; cases hf'
      refine ⟨_, fun σ2 H2 h => h, ?_⟩
      refine s_forPop (s := s) (ls := ls0) rfl rfl e' hla0 hG hsl (e3 _ _ hl')
        (fun i σ' H' => ∃ (ks' ls' : List Nat) (g1 g2 : Option V), left rows ks' ls' + 1 ≤ left rows ks (ls0 ++ [s]) ∧ σ' = [some (.ref a), some (.ref b), some (.ref fa), g1, some (.ref la), g2] ∧ Ex H H' ∧ H' fa = some (.dK (nS ks')) ∧ H' la = some (.lst (ls'.map fun (k : Nat) => V.int k)) ∧ RI rows S ks' ls' ∧ s ∈ ks' ∧ ∀ k ∈ ks', k ∈ ls' ∨ (k = s ∧ ∀ t, some t ∈ (rows.getD s []).take i → t ∈ ks') ∨ Done rows ks' k) ?_ ?_ ?_ ?_
      · refine ⟨ks, ls0, g1, g2, ?_, rfl, Ex.mut e' hla0, ?_, upd_same, ⟨R.nd, R.bd, fun k h => R.sub k (List.mem_append_left _ h), R.src, R.rch⟩, hs, fun k hk => ?_⟩
        · unfold left
          simp
          omega
        · rw [upd_ne hne2]
          exact e3 _ _ hf'
        · rcases hd k hk with h | h
          · rcases List.mem_append.mp h with h | h
            · exact .inl h
            · exact .inr (.inl ⟨List.mem_singleton.mp h, fun t h => by cases h⟩)
          · exact .inr (.inr h)
      · rintro i σ' H' ⟨_, _, _, _, _, _, h, _⟩
        exact h
      · rintro i o σ' H' ho ⟨ks', ls', g1, g2, hm, rfl, e5, hf5, hl5, R5, hs5, hd5⟩
        have hrow : rows[s]? = some (rows.getD s []) := by
          rw [List.getD_eq_getElem?_getD, List.getElem?_eq_getElem hsl]
          rfl
        have htk : ∀ t, some t ∈ (rows.getD s []).take (i + 1) → some t ∈ (rows.getD s []).take i ∨ some t = o := fun t h => by
          obtain ⟨hi, rfl⟩ := List.getElem?_eq_some_iff.mp ho
          rw [List.take_succ_eq_append_getElem hi] at h
          exact (List.mem_append.mp h).imp_right List.mem_singleton.mp
        have test : EvT (tAnd (tTest (tOp (fun x y H Q => y = .non ∧ Q (.bl (!decide (x = .non))) H) (tVar 5) (tC .non))) (tB (tDNotIn (tVar 5) (tVar 2)))) [some (.ref a), some (.ref b), some (.ref fa), g1, some (.ref la), some (gV o)] H' (o.isSome && !decide (∃ t, o = some t ∧ t ∈ ks')) := by
          refine et_and (et_test (ev_op (ev_var rfl) ev_c rv_notN)) fun c => ?_
          obtain ⟨t, rfl⟩ := Option.isSome_iff_exists.mp c
          refine et_is (et_B (ev_dni (o := valV (nS ks') (ik t)) (ev_var rfl) (ev_var rfl) fun H1 e1 => DGet.k (k := ik t) (e1 _ _ hf5))) ?_
          rw [nS_val]
          simp
        refine s_when test (fun c H6 e6 => ?_) fun c H6 e6 => ?_
        · rw [Bool.and_eq_true] at c
          obtain ⟨t, rfl⟩ := Option.isSome_iff_exists.mp c.1
          have ht : t ∉ ks' := fun h => by simp [h] at c
          have hmem : some t ∈ rows.getD s [] := List.mem_of_getElem? ho
          have htb := hbd _ (List.mem_of_getElem? hrow) t hmem
          obtain ⟨R6, hlt⟩ := R5.add ht hs5 hmem htb
          refine q_dput ev_c (ev_var rfl) (ev_var rfl) fun H7 e7 => ⟨_, DPut.k (k := ik t) ((e6.trans e7) _ _ hf5) (sz_lt (by have := R5.len; rw [nS_len]; omega)), ?_⟩
          have hfl : fa ≠ la := hne2
          refine s_app (xs := ls'.map fun (k : Nat) => V.int k) ?_ (ev_var rfl) (ev_var rfl) (by rw [List.length_map]; have : ls'.length ≤ left rows ks' ls' := Nat.le_add_left _ _; omega) fun H8 e8 => ?_
          · rw [upd_ne hfl.symm]
            exact (e6.trans e7) _ _ hl5
          · refine ⟨ks' ++ [t], ls' ++ [t], _, _, by omega, rfl, Ex.mut ((Ex.mut ((e5.trans e6).trans e7) hfa).trans e8) hla0, ?_, by rw [upd_same, List.map_append]; rfl, R6, List.mem_append_left _ hs5, fun k hk => ?_⟩
            · rw [upd_ne hfl, e8 _ _ upd_same, nS_put ht]
            · rcases List.mem_append.mp hk with hk | hk
              · rcases hd5 k hk with h | h | h
                · exact .inl (List.mem_append_left _ h)
                · refine .inr (.inl ⟨h.1, fun t' h' => ?_⟩)
                  rcases htk t' h' with h' | h'
                  · exact List.mem_append_left _ (h.2 t' h')
                  · cases h'
                    simp
                · exact .inr (.inr fun t' h' => List.mem_append_left _ (h t' h'))
              · exact .inl (List.mem_append_right _ hk)
        · refine ⟨ks', ls', _, _, hm, rfl, e5.trans e6, e6 _ _ hf5, e6 _ _ hl5, R5, hs5, fun k hk => ?_⟩
          rcases hd5 k hk with h | h | h
          · exact .inl h
          · refine .inr (.inl ⟨h.1, fun t' h' => ?_⟩)
            rcases htk t' h' with h' | rfl
            · exact h.2 t' h'
            · simpa using c
          · exact .inr (.inr h)
      · rintro σ' H' ⟨ks', ls', g1, g2, hm, rfl, e5, hf5, hl5, R5, hs5, hd5⟩
        refine ⟨_, by omega, ks', ls', g1, g2, rfl, by omega, rfl, e5, hf5, hl5, R5, fun k hk => ?_⟩
        rcases hd5 k hk with h | h | h
        · exact .inl h
        · rw [List.take_of_length_le (Nat.le_refl _)] at h
          exact .inr (h.1 ▸ h.2)
        · exact .inr h
    · have hne : ls = [] := by
        cases ls with
        | nil => rfl
        | cons x xs =>
          rw [decide_eq_false_iff_not] at c
          exact absurd (by simp) c
      subst hne
      exact s_ret (ev_var rfl) fun H4 e4 => k fa H4 ks hfa ((e.trans e3).trans e4) (e4 _ _ (e3 _ _ hf')) (R.end hd)
end
end K14
set_option maxHeartbeats 4000000
namespace K14
open PySem L2 Evl
local macro_rules | `(tactic| walk_at "ev") => `(tactic| repeat' (first
  | exact ev_var rfl | exact ev_c | exact ea_nil | apply ea_cons | exact rv_I0 | apply ev_op | apply ev_cb | apply ev_un | exact ru_neg
  | exact rc_isiInt | exact rc_isiBool | exact rc_isiStr))
/-! ### the rows turned back, plainly -/
def rep (j : Nat) (r : List (Option Nat)) (t : Nat) : List (Option Nat) := (r.filter fun o => o == some t).map fun _ => some j
def backTill (rows : Rows) (i k t : Nat) : List (Option Nat) := ((List.range i).flatMap fun j => rep j (rows.getD j []) t) ++ rep i ((rows.getD i []).take k) t
def back (rows : Rows) : Rows := (List.range rows.length).map fun t => backTill rows rows.length 0 t
theorem rep_len (j : Nat) (r : List (Option Nat)) (t : Nat) : (rep j r t).length ≤ r.length := by
  rw [rep, List.length_map]
  exact List.length_filter_le ..
theorem mem_rep {j t : Nat} {r : List (Option Nat)} {o : Option Nat} : o ∈ rep j r t ↔ o = some j ∧ some t ∈ r := by
  unfold rep
  rw [List.mem_map]
  constructor
  · rintro ⟨a, h, rfl⟩
    rw [List.mem_filter, beq_iff_eq] at h
    exact ⟨rfl, h.2 ▸ h.1⟩
  · rintro ⟨rfl, h⟩
    exact ⟨some t, List.mem_filter.mpr ⟨h, beq_self_eq_true _⟩, rfl⟩
theorem backTill_len {rows : Rows} (hw : ∀ r ∈ rows, r.length ≤ 100) (i k t : Nat) (hk : k ≤ 100) : (backTill rows i k t).length ≤ i * 100 + k := by
  have h : ∀ j, (rows.getD j []).length ≤ 100 := fun j => by
    rw [List.getD_eq_getElem?_getD]
    cases c : rows[j]? with
    | none => exact Nat.zero_le _
    | some r => exact hw r (List.mem_of_getElem? c)
  have h1 : ∀ i, ((List.range i).flatMap fun j => rep j (rows.getD j []) t).length ≤ i * 100 := fun i => by
    induction i with
    | zero => simp
    | succ i ih =>
      rw [List.range_succ, List.flatMap_append, List.length_append, List.flatMap_cons, List.flatMap_nil, List.append_nil]
      have := rep_len i (rows.getD i []) t
      have := h i
      omega
  have h2 := rep_len i ((rows.getD i []).take k) t
  have h3 : ((rows.getD i []).take k).length ≤ k := by rw [List.length_take]; omega
  have h4 := h1 i
  rw [backTill, List.length_append]
  omega
theorem backTill_row {rows : Rows} (i t : Nat) : backTill rows i (rows.getD i []).length t = backTill rows (i + 1) 0 t := by
  unfold backTill
  rw [List.range_succ, List.flatMap_append, List.take_of_length_le (Nat.le_refl _), List.take_zero]
  simp [rep]
theorem backTill_snoc {rows : Rows} {i k t : Nat} {o : Option Nat} (h : (rows.getD i [])[k]? = some o) : backTill rows i (k + 1) t = if o = some t then backTill rows i k t ++ [some i] else backTill rows i k t := by
  unfold backTill
  generalize rows.getD i [] = r at h
  obtain ⟨hk, rfl⟩ := List.getElem?_eq_some_iff.mp h
  rw [List.take_succ_eq_append_getElem hk]
  unfold rep
  rw [List.filter_append]
  by_cases c : r[k] = some t
  · rw [if_pos c]
    simp [c]
  · rw [if_neg c]
    have : (r[k] == some t) = false := by simpa using c
    simp [this]
theorem back_get {rows : Rows} {t : Nat} (h : t < rows.length) : (back rows).getD t [] = backTill rows rows.length 0 t := by
  unfold back
  rw [List.getD_eq_getElem?_getD, List.getElem?_map, List.getElem?_range h]
  rfl
theorem back_len (rows : Rows) : (back rows).length = rows.length := by simp [back]
theorem mem_back {rows : Rows} {t j : Nat} (h : t < rows.length) : some j ∈ (back rows).getD t [] ↔ j < rows.length ∧ some t ∈ rows.getD j [] := by
  rw [back_get h, backTill, List.take_zero]
  simp only [List.mem_append, List.mem_flatMap, List.mem_range, mem_rep]
  constructor
  · rintro (⟨a, h1, h2, h3⟩ | ⟨h1, h2⟩)
    · cases h2
      exact ⟨h1, h3⟩
    · cases h2
  · rintro ⟨h1, h2⟩
    exact .inl ⟨j, h1, rfl, h2⟩
theorem back_bd (rows : Rows) : ∀ r ∈ back rows, ∀ t, some t ∈ r → t < (back rows).length := fun r hr t ht => by
  rw [back_len]
  obtain ⟨s, hs, rfl⟩ := List.mem_map.mp hr
  have hs := List.mem_range.mp hs
  rw [← back_get hs] at ht
  exact ((mem_back hs).mp ht).1
/-- what leads to an end -/
inductive Co (rows : Rows) (ends : List Nat) : Nat → Prop
  | base {k : Nat} : k ∈ ends → Co rows ends k
  | step {j k : Nat} : Co rows ends k → j < rows.length → some k ∈ rows.getD j [] → Co rows ends j
theorem co_back {rows : Rows} {ends : List Nat} (he : ∀ k ∈ ends, k < rows.length) (hb : ∀ r ∈ rows, ∀ t, some t ∈ r → t < rows.length) (k : Nat) : Rch (back rows) ends k ↔ Co rows ends k := by
  have hd : ∀ {j k}, some k ∈ rows.getD j [] → k < rows.length := fun {j k} h => by
    rw [List.getD_eq_getElem?_getD] at h
    cases c : rows[j]? with
    | none =>
      rw [c] at h
      cases h
    | some r =>
      rw [c] at h
      exact hb r (List.mem_of_getElem? c) k h
  have lt : ∀ k, Rch (back rows) ends k → k < rows.length := fun k h => by
    induction h with
    | base m => exact he _ m
    | step _ m ih => exact ((mem_back ih).mp m).1
  constructor
  · intro h
    induction h with
    | base m => exact .base m
    | step r m ih =>
      obtain ⟨h1, h2⟩ := (mem_back (lt _ r)).mp m
      exact .step ih h1 h2
  · intro h
    induction h with
    | base m => exact .base m
    | step r h1 h2 ih => exact .step ih ((mem_back (hd h2)).mpr ⟨h1, h2⟩)
theorem nodup_inj {α : Type} {l : List α} (h : l.Nodup) {i j : Nat} {hi : i < l.length} {hj : j < l.length} (e : l[i] = l[j]) : i = j := by
  rcases Nat.lt_trichotomy i j with c | c | c
  · exact absurd e (List.pairwise_iff_getElem.mp h i j hi hj c)
  · exact c
  · exact absurd e.symm (List.pairwise_iff_getElem.mp h j i hj hi c)
/-! ### new objects, each its own -/
section
variable {P : Program} {w : World} {K : PySem.W.Frag} {mg : Str → Option Value} {base : Heap}
variable {σ σ1 σ2 : L2.St} {H H' : Hp} {ta tb tc te tl tk td : TE} {x y z v : V} {D : Ends} {tz tu tw : TS} {g : TG} {tt : TT} {wi : TI} {tA : TA}
/-- [new for ..]: as many new objects, no two the same -/
theorem er_news {vs : List Nat} {n : Nat} {y : Nat → V → Hp → Prop} {u : HO} (h : EvI wi σ H n y) (hz : n ≤ 40000)
    (hs : ∀ i x H1, Ex H H1 → i < n → y i x H1 → ∃ σ2, EvG g x (wipe σ vs) H1 σ2 ∧ wipe σ2 vs = wipe σ vs ∧ EvR te σ2 H1 (fun H a => H a = some u)) :
    EvR (tLc wi g tYes te vs) σ H (fun H' a => ∃ qs : List Addr, H' a = some (.lst (qs.map V.ref)) ∧ qs.length = n ∧ qs.Nodup ∧ a ∉ qs ∧ ∀ q ∈ qs, H q = none ∧ H' q = some u) := fun H0 e Q q =>
  h H0 e _ fun J H1 G e1 w hG D hD => by
    refine lc_it w (fun i H' => H1 D = none ∧ Ex H1 H' ∧ ∃ qs : List Addr, H' D = some (.lst (qs.map V.ref)) ∧ qs.length = i ∧ qs.Nodup ∧ D ∉ qs ∧ ∀ q ∈ qs, H1 q = none ∧ H' q = some u) ⟨hD, Ex.new hD, [], upd_same, rfl, List.nodup_nil, List.not_mem_nil, fun q hq => by cases hq⟩ (fun i H' _ q => hG H' q.2.1) (fun i x H2 H3 hi P yy => ?_) (fun H2 P => ?_)
    · obtain ⟨hD, e2, qs, hx, hl, hn, hDq, hq⟩ := P
      obtain ⟨e3, yy, _⟩ := yy
      obtain ⟨σ2, h1, h2, h4⟩ := hs i x H3 (e.trans (e1.trans (e2.trans e3))) hi yy
      refine h1 H3 (Ex.refl _) _ fun H4 e4 => ⟨h2, yesT ?_⟩
      refine h4 H4 e4 _ fun a H5 ha e5 r => ?_
      have e25 := e3.trans (e4.trans e5)
      have e15 := e2.trans e25
      have hD4 := (e3.trans e4) _ _ hx
      have ne : a ≠ D := fun w => by rw [w, hD4] at ha; cases ha
      have na : a ∉ qs := fun w => by rw [(e3.trans e4) _ _ (hq a w).2] at ha; cases ha
      refine ⟨qs.map V.ref, e5 _ _ hD4, sz_lt (by rw [List.length_map]; omega), hD, Ex.mut e15 hD, qs ++ [a], by rw [upd_same, List.map_append]; rfl, by simp [hl], ?_, ?_, fun q hq' => ?_⟩
      · exact List.nodup_append.mpr ⟨hn, by simp, fun b hb c hc w => na (by rw [List.mem_singleton.mp hc] at w; exact w ▸ hb)⟩
      · intro w
        rcases List.mem_append.mp w with w | w
        · exact hDq w
        · exact ne (List.mem_singleton.mp w).symm
      · rcases List.mem_append.mp hq' with w | w
        · refine ⟨(hq q w).1, ?_⟩
          rw [upd_ne (fun z => hDq (by rw [← z]; exact w))]
          exact e25 _ _ (hq q w).2
        · obtain rfl := List.mem_singleton.mp w
          refine ⟨fresh_back (e2.trans (e3.trans e4)) ha, ?_⟩
          rw [upd_ne ne]
          exact r
    · obtain ⟨hD, e2, qs, hx, hl, hn, hDq, hq⟩ := P
      exact q D H2 (fresh_back e1 hD) (e1.trans e2) ⟨qs, hx, hl, hn, hDq, fun p hp => ⟨fresh_back (e.trans e1) (hq p hp).1, (hq p hp).2⟩⟩
theorem ei_sq {i : Nat} {a : Addr} {xs : List V} (h : σ[i]? = some (some (.ref a))) (hx : SeqAt H a xs) : EvI (iOr (iList K (tVar i)) (iTup K (tVar i))) σ H xs.length (fun i x _ => xs[i]? = some x) := by
  rcases hx with hx | hx
  · exact (ei_T (ev_var h) (st_of hx)).right
  · exact (ei_L (ev_var h) (sq_of hx)).left
/-- for .. in a list or tuple -/
theorem s_forSq {i j : Nat} {a : Addr} {xs : List V} (h : σ[i]? = some (some (.ref a))) (hx : SeqAt H a xs) (Pv : Nat → L2.St → Hp → Prop) (h0 : Pv 0 σ H) (hk : ∀ i σ' H', Pv i σ' H' → H' a = H a)
    (hs : ∀ i x σ' H', xs[i]? = some x → Pv i σ' H' → tu { D with nx := Pv (i + 1), ct := Pv (i + 1), bk := D.nx } (σ'.set j (some x)) H') (hd : ∀ σ' H', Pv xs.length σ' H' → D.nx σ' H') : tFor (iOr (iList K (tVar i)) (iTup K (tVar i))) (gName j) tu D σ H := by
  rcases hx with hx | hx
  · exact .inr ⟨_, h, a, rfl, ⟨_, st_of hx⟩, for_tup Pv h0 (fun i σ' H' _ P => st_of (by rw [hk i σ' H' P]; exact hx)) hs hd⟩
  · exact .inl ⟨_, h, a, rfl, ⟨_, sq_of hx⟩, for_list Pv h0 (fun i σ' H' _ P => sq_of (by rw [hk i σ' H' P]; exact hx)) hs hd⟩
/-- for i, x in enumerate(list or tuple) -/
theorem s_forEn {i j1 j2 : Nat} {a : Addr} {xs : List V} (h : σ[i]? = some (some (.ref a))) (hx : SeqAt H a xs) (Pv : Nat → L2.St → Hp → Prop) (h0 : Pv 0 σ H) (hk : ∀ i σ' H', Pv i σ' H' → H' a = H a)
    (hs : ∀ i x σ' H' T, xs[i]? = some x → Pv i σ' H' → H' T = none → tu { D with nx := Pv (i + 1), ct := Pv (i + 1), bk := D.nx } ((σ'.set j1 (some (.int (i : Nat)))).set j2 (some x)) (upd H' T (.tup [.int (i : Nat), x]))) (hd : ∀ σ' H', Pv xs.length σ' H' → D.nx σ' H') :
    tFor (iOr (iEnum K (tCons (tVar i) tNil)) (iEnumT K (tCons (tVar i) tNil))) (gTup K 2 (gCons (gName j1) (gCons (gName j2) gNil))) tu D σ H := by
  have st : ∀ i x σ' H' H'', i < xs.length → Pv i σ' H' → YPair (fun i => some (V.int (i : Nat))) (fun i => xs[i]?) i H' x H'' → gTup K 2 (gCons (gName j1) (gCons (gName j2) gNil)) x σ' H'' fun σ2 H2 => tu { D with nx := Pv (i + 1), ct := Pv (i + 1), bk := D.nx } σ2 H2 := by
    intro i x σ' H' H'' hi P yy
    obtain ⟨T, p, z, rfl, hT, rfl, h1, h2⟩ := yy
    cases h1
    exact ⟨T, _, rfl, st_of upd_same, rfl, _, _, rfl, _, _, rfl, rfl, hs i z σ' H' T h2 P hT⟩
  rcases hx with hx | hx
  · exact .inr ⟨_, h, a, xs, rfl, st_of hx, for_it walk_enumT Pv h0 (fun i σ' H' _ P => st_of (by rw [hk i σ' H' P]; exact hx)) st hd⟩
  · exact .inl ⟨_, h, a, xs, rfl, sq_of hx, for_it walk_enum Pv h0 (fun i σ' H' _ P => sq_of (by rw [hk i σ' H' P]; exact hx)) st hd⟩
/-! ### arguments that are new -/
def EvAs (ta : TA) (σ : L2.St) (H : Hp) (p : List V → Hp → Prop) : Prop := ∀ H1, Ex H H1 → ∀ Q : List V → Hp → Prop, (∀ vs H2, Ex H1 H2 → p vs H2 → Q vs H2) → ta σ H1 Q
theorem as_nil : EvAs tNil σ H (fun vs _ => vs = []) := fun H1 _ Q q => q [] H1 (Ex.refl _) rfl
theorem as_v {p : List V → Hp → Prop} (h : Ev te σ H v) (hr : EvAs tA σ H p) : EvAs (tCons te tA) σ H (fun vs H' => ∃ r, vs = v :: r ∧ p r H') := fun H1 e Q q =>
  h H1 e _ fun H2 e2 => hr H2 (e.trans e2) _ fun vs H3 e3 r => q _ H3 (e2.trans e3) ⟨vs, rfl, r⟩
theorem as_r {p : List V → Hp → Prop} {R : Hp → Addr → Prop} (h : EvR te σ H R) (m : ∀ H H' a, Ex H H' → R H a → R H' a) (hr : EvAs tA σ H p) : EvAs (tCons te tA) σ H (fun vs H' => ∃ a r, vs = .ref a :: r ∧ R H' a ∧ p r H') := fun H1 e Q q =>
  h H1 e _ fun a H2 _ e2 ra => hr H2 (e.trans e2) _ fun vs H3 e3 r => q _ H3 (e2.trans e3) ⟨a, vs, rfl, m _ _ _ e3 ra, r⟩
theorem er_callAs {p : List V → Hp → Prop} {sp : Sp} {dvs : List V} {E : XK} {R : Hp → Addr → Prop} (h : EvAs tA σ H p) (hs : ∀ vs H1, Ex H H1 → p vs H1 → SpR sp (vs ++ dvs) H1 R) : EvR (tCall sp dvs E tA) σ H R := fun H1 e Q q =>
  h H1 e _ fun vs H2 e2 r => hs vs H2 (e.trans e2) r H2 (Ex.refl _) Q (fun a H3 ha e3 ra => q a H3 (fresh_back e2 ha) (e2.trans e3) ra) E
def sp_turned_back : Sp := fun vs H Q _ => ∃ (a : Addr) (rows : Rows), vs = [.ref a] ∧ Grid H a rows ∧ rows.length ≤ 500 ∧ (∀ r ∈ rows, r.length ≤ 100) ∧ (∀ r ∈ rows, ∀ t, some t ∈ r → t < rows.length) ∧
  ∀ p H', H p = none → Ex H H' → Grid H' p (back rows) → Q (.ref p) H'
theorem ok_turned_back (T : Tx K mg) : FnOk P w K mg base CX0 1 T.d_turned_back.f T.d_turned_back.fd ["arrows"] sp_turned_back := by
  refine T.d_turned_back.F.ok sc_turned_back (fun vs H Q E h => ?_) (fun cdv A outer s H vs Q E hr h => ?_)
  · obtain ⟨a, rows, rfl, _⟩ := h
    rfl
  · obtain ⟨a, rows, rfl, ⟨ps, hA, hpl, hps⟩, hrl, hw, hb, k⟩ := h
    refine ⟨_, (pss_cons (ps_setLc (i := 1) (own := [("row", 2)]) (g := (gName 2)) rfl sc_turned_back.nd rfl rfl (sw_true rfl rfl rfl (by decide +kernel)) (pi_either (k_piL K (pv 0)) (k_piT K (pv 0))) (blkOk_by (own := [("row", 2)]) (N := ["arrows", "found", "row", "stand", "goal"]) (sc := defScope s_turned_back) (by decide +kernel)) (fun _ _ _ _ _ => (pg_name (i := 2) sc_turned_back.nd rfl (Or.inl rfl))) (fun _ _ _ _ _ => pts_nil) (fun _ _ _ _ _ => (pe_lst pa_nil)))
      (pss_cons (ps_for PassesOwn.never rfl (pi_either (k_piEL K (by rfl) T.z_enumerate (pa_cons (pv 0) pa_nil)) (k_piET K (by rfl) T.z_enumerate (pa_cons (pv 0) pa_nil))) (k_tup (n := 2) K rfl (pgs_cons (pg_name (i := 3) sc_turned_back.nd rfl (Or.inl rfl)) (pgs_cons (pg_name (i := 2) sc_turned_back.nd rfl (Or.inl rfl)) pgs_nil))) (pss_one (ps_for PassesOwn.never rfl (pi_either (k_piL K (pv 2)) (k_piT K (pv 2))) (pg_name (i := 4) sc_turned_back.nd rfl (Or.inl rfl)) (pss_one (ps_if (pt_cmpR op_notN (pv 4) pe_non (nomark _)) (pss_one (ps_expr (pe_bm PySem.F.plainAttrs_list PySem.F.slot_list_append PySem.F.type_list_append mt_append (pe_ix (k_ixL K) (pv 1) (pv 4) (fun _ _ => rfl)) (pa_cons (pv 3) pa_nil)))) pss_nil)))))
      (pss_one (ps_ret (pv 1))))), ?_⟩
    have hml : (ps.map V.ref).length = rows.length := by rw [List.length_map, hpl]
    refine q_asgR (er_news (u := .lst []) (ei_sq rfl hA) (by omega) fun i x H1 e hi hy => ⟨_, eg_name, rfl, el_lst ea_nil (by decide)⟩) fun fa H1 hfa e1 hf => ?_
    obtain ⟨qs, hf, hql, hqn, hqf, hq⟩ := hf
    have hA1 := hA.ex e1
    refine s_forEn (D := { nx := _, rt := _, bk := _, ct := _ }) rfl hA1 (fun i σ' H' => ∃ g1 g2 g3 : Option V, σ' = [some (.ref a), some (.ref fa), g1, g2, g3] ∧ Ex H H' ∧ H' fa = some (.lst (qs.map V.ref)) ∧ ∀ (t : Nat) q, qs[t]? = some q → H' q = some (.lst ((backTill rows i 0 t).map gV)))
      ⟨none, none, none, rfl, e1, hf, fun t q h => (hq q (List.mem_of_getElem? h)).2⟩ (fun i σ' H' P => ?_) (fun i x σ' H' TT hx P hTT => ?_) (fun σ' H' P => ?_)
    · obtain ⟨_, _, _, _, e, _⟩ := P
      rcases hA with hA | hA
      · rw [e _ _ hA, e1 _ _ hA]
      · rw [e _ _ hA, e1 _ _ hA]
    · obtain ⟨g1, g2, g3, rfl, e, hf', hq'⟩ := P
      obtain ⟨p, hp, rfl⟩ := get_map hx
      have hi : i < rows.length := by rw [← hpl]; exact (List.getElem?_eq_some_iff.mp hp).1
      have hrow : rows[i]? = some (rows.getD i []) := by
        rw [List.getD_eq_getElem?_getD, List.getElem?_eq_getElem hi]
        rfl
      have hP := hps i p _ hp hrow
      have eT : Ex H' (upd H' TT (.tup [.int (i : Nat), .ref p])) := Ex.new hTT
      refine s_forSq rfl (hP.ex (e.trans eT)) (fun k σ' H' => ∃ g3 : Option V, σ' = [some (.ref a), some (.ref fa), some (.ref p), some (.int (i : Nat)), g3] ∧ Ex H H' ∧ H' fa = some (.lst (qs.map V.ref)) ∧ ∀ (t : Nat) q, qs[t]? = some q → H' q = some (.lst ((backTill rows i k t).map gV)))
        ⟨g3, rfl, e.trans eT, eT _ _ hf', fun t q h => eT _ _ (hq' t q h)⟩ (fun k σ' H2 P => ?_) (fun k x σ' H2 hk P => ?_) (fun σ' H2 P => ?_)
      · obtain ⟨_, _, e2, _⟩ := P
        rcases hP with hP | hP
        · rw [e2 _ _ hP, eT _ _ (e _ _ hP)]
        · rw [e2 _ _ hP, eT _ _ (e _ _ hP)]
      · obtain ⟨g3, rfl, e2, hf2, hq2⟩ := P
        obtain ⟨o, ho, rfl⟩ := get_map hk
        have hk100 : k < 100 := by
          have := (List.getElem?_eq_some_iff.mp ho).1
          have := hw _ (List.mem_of_getElem? hrow)
          omega
        refine s_when (b := o.isSome) (et_test (ev_op (ev_var rfl) ev_c rv_notN)) (fun c H3 e3 => ?_) fun c H3 e3 => ?_
        · obtain ⟨t, rfl⟩ := Option.isSome_iff_exists.mp c
          have ht : t < qs.length := by
            rw [hql, hml]
            exact hb _ (List.mem_of_getElem? hrow) t (List.mem_of_getElem? ho)
          have hqt : qs[t]? = some qs[t] := List.getElem?_eq_getElem ht
          refine s_app (e3 _ _ (hq2 t _ hqt)) (ev_op (ev_var rfl) (ev_var rfl) (rv_ixL (i := (t : Int)) (sq_of (e3 _ _ hf2)) (at_of rfl (map_get V.ref hqt)))) (ev_var rfl) ?_ fun H4 e4 => ?_
          · rw [List.length_map]
            have := backTill_len hw i k t (by omega)
            omega
          · have e24 := e3.trans e4
            refine ⟨_, rfl, Ex.mut (e2.trans e24) (hq _ (List.getElem_mem ht)).1, ?_, fun t' q h => ?_⟩
            · rw [upd_ne (fun z => hqf (by rw [z]; exact List.getElem_mem ht))]
              exact e24 _ _ hf2
            · rw [backTill_snoc ho]
              by_cases c : t' = t
              · subst c
                rw [hqt] at h
                cases h
                rw [if_pos rfl, upd_same, List.map_append]
                rfl
              · rw [if_neg fun z => c (Option.some.inj z).symm, upd_ne fun z => c ?_]
                · exact e24 _ _ (hq2 t' q h)
                · obtain ⟨h1, h2⟩ := List.getElem?_eq_some_iff.mp h
                  exact nodup_inj hqn (h2.trans z)
        · have : o = none := by
            cases o with
            | none => rfl
            | some t => cases c
          subst this
          refine ⟨_, rfl, e2.trans e3, e3 _ _ hf2, fun t q h => ?_⟩
          rw [backTill_snoc ho, if_neg fun z => nomatch z]
          exact e3 _ _ (hq2 t q h)
      · obtain ⟨g3, rfl, e2, hf2, hq2⟩ := P
        refine ⟨_, _, _, rfl, e2, hf2, fun t q h => ?_⟩
        rw [← backTill_row]
        have := hq2 t q h
        rw [List.length_map] at this
        exact this
    · obtain ⟨g1, g2, g3, rfl, e, hf', hq'⟩ := P
      refine s_ret (ev_var rfl) fun H2 e2 => k fa H2 hfa (e.trans e2) ⟨qs, .inr (e2 _ _ hf'), by rw [hql, back_len, hml], fun t q r h h' => .inr ?_⟩
      obtain ⟨ht, hr⟩ := List.getElem?_eq_some_iff.mp h'
      rw [← hr]
      have : (back rows)[t] = backTill rows rows.length 0 t := by simp [back]
      rw [this]
      have := hq' t q h
      rw [hml] at this
      exact e2 _ _ this
theorem spr_turned_back {a : Addr} {rows : Rows} (h1 : Grid H a rows) (h2 : rows.length ≤ 500) (h3 : ∀ r ∈ rows, r.length ≤ 100) (h4 : ∀ r ∈ rows, ∀ t, some t ∈ r → t < rows.length) : SpR sp_turned_back ([.ref a] ++ []) H (fun H p => Grid H p (back rows)) :=
  fun H1 e Q q E => ⟨a, rows, rfl, h1.ex e, h2, h3, h4, fun p H' hp e' r => q p H' hp e' r⟩
theorem spr_reached {a b : Addr} {rows : Rows} {S : List Nat} (h1 : Grid H a rows) (h2 : rows.length ≤ 1000) (h3 : ∀ r ∈ rows, ∀ t, some t ∈ r → t < rows.length) (h4 : Nums H b S) (h5 : S.Nodup) (h6 : ∀ k ∈ S, k < rows.length) :
    SpR sp_reached ([.ref a, .ref b] ++ []) H (fun H p => ∃ ks, H p = some (.dK (nS ks)) ∧ ∀ k, k ∈ ks ↔ Rch rows S k) :=
  fun H1 e Q q E => ⟨a, b, rows, S, rfl, h1.ex e, h2, h3, h4.imp (e _ _) (e _ _), h5, h6, fun p H' ks hp e' hk hr => q p H' hp e' ⟨ks, hk, hr⟩⟩
/-- the stands on a way from the start to an end -/
def Useful (rows : Rows) (ends : List Nat) (k : Nat) : Prop := Rch rows [0] k ∧ Co rows ends k
/-- .. ascending -/
structure UsefulAre (rows : Rows) (ends : List Nat) (us : List Nat) : Prop where
  asc : us.Pairwise (· < ·)
  bd : ∀ k ∈ us, k < rows.length
  mem : ∀ k, k < rows.length → (k ∈ us ↔ Useful rows ends k)
theorem q_asgTup2 {p : List V → Hp → Prop} {i j : Nat} (h : EvAs tA σ H p) (hp : ∀ vs H, p vs H → ∃ x y, vs = [x, y]) (k : ∀ x y H1 T, Ex H H1 → p [x, y] H1 → H1 T = none → tz D ((σ.set i (some x)).set j (some y)) (upd H1 T (.tup [x, y]))) :
    tSeq (tAsg (tTup tA) (gTup K 2 (gCons (gName i) (gCons (gName j) gNil)))) tz D σ H := h H (Ex.refl H) _ fun vs H1 e r => by
  obtain ⟨x, y, rfl⟩ := hp vs H1 r
  exact ⟨by show 2 ≤ sizeLine; decide, fun T hT => ⟨T, _, rfl, st_of upd_same, rfl, _, _, rfl, _, _, rfl, rfl, k x y H1 T e r hT⟩⟩
def Found (P : Nat → Prop) (H : Hp) (p : Addr) : Prop := ∃ ks, H p = some (.dK (nS ks)) ∧ ∀ k, k ∈ ks ↔ P k
theorem Found.ex {P : Nat → Prop} {H H' : Hp} {p : Addr} (h : Found P H p) (e : Ex H H') : Found P H' p := by
  obtain ⟨ks, h1, h2⟩ := h
  exact ⟨ks, e _ _ h1, h2⟩
theorem as_reach2 {a b : Addr} {rows : Rows} {ends : List Nat} {E1 E2 E3 : XK} (s0 : σ[0]? = some (some (.ref a))) (s1 : σ[1]? = some (some (.ref b))) (hG : Grid H a rows) (h1 : 1 ≤ rows.length) (h5 : rows.length ≤ 500) (hw : ∀ r ∈ rows, r.length ≤ 100) (hb : ∀ r ∈ rows, ∀ t, some t ∈ r → t < rows.length)
    (hE : H b = some (.dK (nS ends))) (hEn : ends.Nodup) (hEb : ∀ k ∈ ends, k < rows.length) :
    EvAs (tCons (tCall sp_reached [] E1 (tCons (tVar 0) (tCons (tLst (tCons (tC (.int 0)) tNil)) tNil))) (tCons (tCall sp_reached [] E2 (tCons (tCall sp_turned_back [] E3 (tCons (tVar 0) tNil)) (tCons (tVar 1) tNil))) tNil)) σ H
      (fun vs H' => ∃ fa fb, vs = [.ref fa, .ref fb] ∧ Found (Rch rows [0]) H' fa ∧ Found (Co rows ends) H' fb) := fun H1 e1 Q q =>
  as_r (R := Found (Rch rows [0])) (er_callAs (as_v (ev_var s0) (as_r (R := fun H p => H p = some (.lst [V.int 0])) (er_L (el_lst (ea_cons ev_c ea_nil) (by decide))) (fun _ _ _ e h => e _ _ h) as_nil)) (fun vs H1 e ⟨r, e1, c, r2, e2, e3, e4⟩ => by
    subst e1 e2 e4
    exact spr_reached (S := [0]) (hG.ex e) (by omega) hb (.inl e3) (by simp) (fun k hk => by rw [List.mem_singleton.mp hk]; omega))) (fun _ _ _ e h => h.ex e)
    (as_r (R := Found (Co rows ends)) (er_imp (R := Found (Rch (back rows) ends)) (er_callAs (as_r (R := fun H p => Grid H p (back rows)) (er_callAs (as_v (ev_var s0) as_nil) (fun vs H1 e ⟨r, e1, e2⟩ => by
      subst e1 e2
      exact spr_turned_back (hG.ex e) h5 hw hb)) (fun _ _ _ e h => h.ex e) (as_v (ev_var s1) as_nil)) (fun vs H1 e ⟨c, r, e1, g, r2, e2, e3⟩ => by
      subst e1 e2 e3
      exact spr_reached (rows := back rows) (S := ends) g (by rw [back_len]; omega) (back_bd rows) (.inr (e _ _ hE)) hEn (by rw [back_len]; exact hEb))) (fun H1 p _ ⟨ks, k1, k2⟩ => ⟨ks, k1, fun k => (k2 k).trans (co_back hEb hb k)⟩)) (fun _ _ _ e h => h.ex e) as_nil) H1 e1 Q fun vs H2 e2 ⟨fa, r, e3, f1, fb, r2, e4, f2, e5⟩ => q vs H2 e2 ⟨fa, fb, by rw [e3, e4, e5], f1, f2⟩
def sp_useful_of : Sp := fun vs H Q _ => ∃ (a b : Addr) (rows : Rows) (ends : List Nat), vs = [.ref a, .ref b] ∧ Grid H a rows ∧ 1 ≤ rows.length ∧ rows.length ≤ 500 ∧ (∀ r ∈ rows, r.length ≤ 100) ∧ (∀ r ∈ rows, ∀ t, some t ∈ r → t < rows.length) ∧ H b = some (.dK (nS ends)) ∧ ends.Nodup ∧ (∀ k ∈ ends, k < rows.length) ∧
  ∀ p H' us, H p = none → Ex H H' → H' p = some (.lst (us.map fun (k : Nat) => V.int k)) → UsefulAre rows ends us → Q (.ref p) H'
theorem ok_useful_of (T : Tx K mg) : FnOk P w K mg base CX0 2 T.d_useful_of.f T.d_useful_of.fd ["arrows", "ends"] sp_useful_of := by
  refine T.d_useful_of.F.ok sc_useful_of (fun vs H Q E h => ?_) (fun cdv A outer s H vs Q E hr h => ?_)
  · obtain ⟨a, b, rows, ends, rfl, _⟩ := h
    rfl
  · obtain ⟨a, b, rows, ends, rfl, hG, h1, h5, hw, hb, hE, hEn, hEb, k⟩ := h
    refine ⟨_, (pss_cons (ps_asg (pe_tup (pa_cons (pe_call (ok_reached T) (hr.mono (by decide)) rfl T.d_reached.g T.d_reached.F.kp T.d_reached.b .nil pass0 (pa_cons (pv 0) (pa_cons (pe_lst (pa_cons pe_int pa_nil)) pa_nil))) (pa_cons (pe_call (ok_reached T) (hr.mono (by decide)) rfl T.d_reached.g T.d_reached.F.kp T.d_reached.b .nil pass0 (pa_cons (pe_call (ok_turned_back T) (hr.mono (by decide)) rfl T.d_turned_back.g T.d_turned_back.F.kp T.d_turned_back.b .nil pass0 (pa_cons (pv 0) pa_nil)) (pa_cons (pv 1) pa_nil))) pa_nil))) (k_tup (n := 2) K rfl (pgs_cons (pg_name (i := 2) sc_useful_of.nd rfl (Or.inr rfl)) (pgs_cons (pg_name (i := 3) sc_useful_of.nd rfl (Or.inr rfl)) pgs_nil))))
      (pss_one (ps_ret (pe_lc (own := [("stand", 4)]) (g := (gName 4)) rfl sc_useful_of.nd (pi_range1 (by rfl) T.z_range (pa_cons (pe_callB (k_len K) (by rfl) T.z_len (by decide +kernel) (pa_cons (pv 0) pa_nil)) pa_nil)) (blkOk_by (own := [("stand", 4)]) (N := ["arrows", "ends", "ahead", "behind", "stand"]) (sc := defScope s_useful_of) (by decide +kernel)) (fun _ _ _ _ _ => (pg_name (i := 4) sc_useful_of.nd rfl (Or.inl rfl))) (fun _ _ _ _ _ => (pts_one (PW.pt (pw_and (pt_cmp (pc_din (hu64 hr.units) (pv 4) (pv 2))) (pw_and1 (pt_cmp (pc_din (hu64 hr.units) (pv 4) (pv 3)))))))) (fun _ _ _ _ _ => (pv 4)))))), ?_⟩
    refine q_asgTup2 (as_reach2 (by rfl) (by rfl) hG h1 h5 hw hb hE hEn hEb) (fun vs H2 got => let ⟨fa, fb, h, _⟩ := got; ⟨_, _, h⟩) fun x y H1 T e1 got hT => ?_
    obtain ⟨fa, fb, hxy, ⟨ks1, f1, m1⟩, ks2, f2, m2⟩ := got
    cases hxy
    have eT : Ex H1 (upd H1 T (.tup [.ref fa, .ref fb])) := Ex.new hT
    have e02 := e1.trans eT
    obtain ⟨ps, hA, hpl, _⟩ := id hG
    have hlen : ∀ {H2 : Hp}, Ex H H2 → SqL K H2 a (ps.map V.ref) ∨ SqT K H2 a (ps.map V.ref) := fun e => hA.elim (fun h => .inr (st_of (e _ _ h))) fun h => .inl (sq_of (e _ _ h))
    have L := el_comp (vs := [4]) (te := tVar 4) (g := gName 4) (σ := [some (.ref a), some (.ref b), some (.ref fa), some (.ref fb), none]) (H := upd H1 T (.tup [.ref fa, .ref fb])) (fun s => decide (s ∈ ks1) && decide (s ∈ ks2)) (fun i => .int (i : Nat))
      (ei_R1 (n := rows.length) (ea_cons (ev_is (ev_cb (ea_cons (ev_var (i := 0) rfl) ea_nil) (rc_lenQ (hlen e02))) (by rw [List.length_map, hpl])) ea_nil) (by omega)) (by omega) (tt := tAnd (tB (tDIn (tVar 4) (tVar 2))) (tB (tDIn (tVar 4) (tVar 3)))) (fun i x H2 e hi hx => by
        subst hx
        exact ⟨_, eg_name, rfl, et_is (et_and (et_B (ev_din (o := valV (nS ks1) (ik i)) (ev_var rfl) (ev_var rfl) fun H3 e3 => DGet.k (k := ik i) ((e.trans e3) _ _ (eT _ _ f1)))) fun _ => et_B (ev_din (o := valV (nS ks2) (ik i)) (ev_var rfl) (ev_var rfl) fun H3 e3 => DGet.k (k := ik i) ((e.trans e3) _ _ (eT _ _ f2)))) (by rw [nS_val, nS_val]), fun _ => ev_var rfl⟩)
    refine s_retL L fun p H2 hp e2 h2 => k p H2 ((List.range rows.length).filter fun s => decide (s ∈ ks1) && decide (s ∈ ks2)) (fresh_back e02 hp) (e02.trans e2) ?_ ⟨?_, fun s hs => ?_, fun s hs => ?_⟩
    · rw [h2]
      rfl
    · exact List.Pairwise.filter _ List.pairwise_lt_range
    · exact List.mem_range.mp (List.mem_filter.mp hs).1
    · rw [List.mem_filter, List.mem_range, Bool.and_eq_true, decide_eq_true_eq, decide_eq_true_eq, m1, m2]
      exact ⟨fun h => h.2, fun h => ⟨hs, h⟩⟩
end
end K14
set_option maxHeartbeats 4000000
/-! plain: values and their number; stands sorted into kinds -/
namespace K14
/-- A holds the values of f on us, each once -/
structure ValsOf {α : Type} (f : Nat → α) (us : List Nat) (A : List α) : Prop where
  nd : A.Nodup
  mem : ∀ a, a ∈ A ↔ ∃ s ∈ us, f s = a
theorem nodup_map_inj {α β : Type} {f : α → β} : ∀ {l : List α}, (∀ a ∈ l, ∀ b ∈ l, f a = f b → a = b) → l.Nodup → (l.map f).Nodup
  | [], _, _ => List.nodup_nil
  | x :: l, h, hn => by
    rw [List.nodup_cons] at hn
    rw [List.map_cons, List.nodup_cons]
    refine ⟨fun m => ?_, nodup_map_inj (fun a ha b hb => h a (List.mem_cons_of_mem _ ha) b (List.mem_cons_of_mem _ hb)) hn.2⟩
    obtain ⟨y, hy, e⟩ := List.mem_map.mp m
    have := h y (List.mem_cons_of_mem _ hy) x (List.mem_cons_self ..) e
    exact hn.1 (this ▸ hy)
theorem sub_len {α : Type} [DecidableEq α] : ∀ {A B : List α}, B.Nodup → (∀ b ∈ B, b ∈ A) → B.length ≤ A.length
  | A, [], _, _ => Nat.zero_le _
  | A, x :: B, hn, h => by
    rw [List.nodup_cons] at hn
    have hx := h x (List.mem_cons_self ..)
    have h2 : ∀ b ∈ B, b ∈ A.erase x := fun b hb => (List.mem_erase_of_ne (fun e : b = x => hn.1 (e ▸ hb))).mpr (h b (List.mem_cons_of_mem _ hb))
    have := sub_len (A := A.erase x) hn.2 h2
    rw [List.length_erase_of_mem hx] at this
    have := List.length_pos_of_mem hx
    rw [List.length_cons]
    omega
theorem sub_all {α : Type} [DecidableEq α] {A B : List α} (hA : A.Nodup) (hB : B.Nodup) (h : ∀ b ∈ B, b ∈ A) (hl : A.length ≤ B.length) : ∀ a ∈ A, a ∈ B := fun a ha => by
  refine Classical.byContradiction fun c => ?_
  have h2 : ∀ b ∈ a :: B, b ∈ A := fun b hb => by
    rcases List.mem_cons.mp hb with rfl | hb
    · exact ha
    · exact h b hb
  have := sub_len (A := A) (B := a :: B) (List.nodup_cons.mpr ⟨c, hB⟩) h2
  rw [List.length_cons] at this
  omega
/-- a finer sorting has more values; with as many, it is the same sorting -/
theorem finer {α β : Type} [DecidableEq α] {f : Nat → α} {g : Nat → β} {us : List Nat} {A : List α} {B : List β} (hA : ValsOf f us A) (hB : ValsOf g us B) (h : ∀ s ∈ us, ∀ t ∈ us, f s = f t → g s = g t) :
    B.length ≤ A.length ∧ (A.length ≤ B.length → ∀ s ∈ us, ∀ t ∈ us, g s = g t → f s = f t) := by
  have ex : ∀ b, ∃ s, b ∈ B → s ∈ us ∧ g s = b := fun b => by
    by_cases c : b ∈ B
    · obtain ⟨s, h1, h2⟩ := (hB.mem b).mp c
      exact ⟨s, fun _ => ⟨h1, h2⟩⟩
    · exact ⟨0, fun c' => absurd c' c⟩
  obtain ⟨r, hr⟩ := Classical.axiomOfChoice ex
  have inj : ∀ a ∈ B, ∀ b ∈ B, f (r a) = f (r b) → a = b := fun a ha b hb e => by
    have := h _ (hr a ha).1 _ (hr b hb).1 e
    rw [(hr a ha).2, (hr b hb).2] at this
    exact this
  have nd : (B.map fun b => f (r b)).Nodup := nodup_map_inj inj hB.nd
  have sub : ∀ a ∈ B.map (fun b => f (r b)), a ∈ A := fun a ha => by
    obtain ⟨b, hb, rfl⟩ := List.mem_map.mp ha
    exact (hA.mem _).mpr ⟨_, (hr b hb).1, rfl⟩
  refine ⟨by have := sub_len nd sub; rwa [List.length_map] at this, fun hl s hs t ht e => ?_⟩
  have all := sub_all hA.nd nd sub (by rw [List.length_map]; exact hl)
  obtain ⟨b, hb, e1⟩ := List.mem_map.mp (all _ ((hA.mem _).mpr ⟨s, hs, rfl⟩))
  obtain ⟨c, hc, e2⟩ := List.mem_map.mp (all _ ((hA.mem _).mpr ⟨t, ht, rfl⟩))
  have g1 := h _ (hr b hb).1 _ hs e1
  have g2 := h _ (hr c hc).1 _ ht e2
  rw [(hr b hb).2] at g1
  rw [(hr c hc).2] at g2
  have : b = c := g1.trans (e.trans g2.symm)
  rw [← e1, ← e2, this]
/-- the kind of a goal: -1 where it is none of us -/
def kO (us : List Nat) (f : Nat → Nat) : Option Nat → Int
  | none => -1
  | some t => if t ∈ us then (f t : Int) else -1
/-- what a stand is sorted by -/
def mark (rows : Rows) (us : List Nat) (f : Nat → Nat) (s : Nat) : List Int := (f s : Int) :: (rows.getD s []).map (kO us f)
theorem mark_head {rows : Rows} {us : List Nat} {f : Nat → Nat} {s t : Nat} (h : mark rows us f s = mark rows us f t) : f s = f t := by
  have := (List.cons.inj h).1
  omega
/-- f tells stands apart as g does that looks one step farther -/
def Next (rows : Rows) (us : List Nat) (f g : Nat → Nat) : Prop := ∀ s ∈ us, ∀ t ∈ us, g s = g t ↔ mark rows us f s = mark rows us f t
/-- R says of s and t nothing that an end or a step belies -/
structure Alike (rows : Rows) (ends us : List Nat) (R : Nat → Nat → Prop) : Prop where
  fin : ∀ s ∈ us, ∀ t ∈ us, R s t → (s ∈ ends ↔ t ∈ ends)
  step : ∀ s ∈ us, ∀ t ∈ us, R s t → (rows.getD s []).length = (rows.getD t []).length ∧ ∀ (a : Nat) o p, (rows.getD s [])[a]? = some o → (rows.getD t [])[a]? = some p →
    ((∃ x ∈ us, o = some x) ↔ ∃ y ∈ us, p = some y) ∧ ∀ x ∈ us, ∀ y ∈ us, o = some x → p = some y → R x y
structure KInv (rows : Rows) (ends us : List Nat) (f : Nat → Nat) : Prop where
  fin : ∀ s ∈ us, ∀ t ∈ us, f s = f t → (s ∈ ends ↔ t ∈ ends)
  all : ∀ R, Alike rows ends us R → ∀ s ∈ us, ∀ t ∈ us, R s t → f s = f t
theorem KInv.init {rows : Rows} {ends us : List Nat} : KInv rows ends us (fun s => if s ∈ ends then 1 else 0) where
  fin s _ t _ h := by
    by_cases c : s ∈ ends <;> by_cases d : t ∈ ends <;> simp [c, d] at h ⊢
  all R A s hs t ht h := by
    have := A.fin s hs t ht h
    by_cases c : s ∈ ends
    · simp [c, this.mp c]
    · have d : t ∉ ends := fun d => c (this.mpr d)
      simp [c, d]
theorem KInv.next {rows : Rows} {ends us : List Nat} {f g : Nat → Nat} (h : KInv rows ends us f) (n : Next rows us f g) : KInv rows ends us g where
  fin s hs t ht e := h.fin s hs t ht (mark_head ((n s hs t ht).mp e))
  all R A s hs t ht r := by
    refine (n s hs t ht).mpr ?_
    obtain ⟨h1, h2⟩ := A.step s hs t ht r
    unfold mark
    rw [h.all R A s hs t ht r]
    congr 1
    refine List.ext_getElem (by rw [List.length_map, List.length_map, h1]) fun a a1 a2 => ?_
    rw [List.length_map] at a1 a2
    rw [List.getElem_map, List.getElem_map]
    obtain ⟨c1, c2⟩ := h2 a _ _ (List.getElem?_eq_getElem a1) (List.getElem?_eq_getElem a2)
    generalize (rows.getD s [])[a] = o at c1 c2
    generalize (rows.getD t [])[a] = p at c1 c2
    have out : ∀ {o : Option Nat}, (¬ ∃ x ∈ us, o = some x) → kO us f o = -1 := fun {o} c => by
      cases o with
      | none => rfl
      | some x =>
        have : x ∉ us := fun m => c ⟨x, m, rfl⟩
        simp [kO, this]
    by_cases c : ∃ x ∈ us, o = some x
    · obtain ⟨y, hy, rfl⟩ := c1.mp c
      obtain ⟨x, hx, rfl⟩ := c
      simp only [kO, hx, hy, if_true]
      rw [h.all R A x hx y hy (c2 x hx y hy rfl rfl)]
    · rw [out c, out fun d => c (c1.mpr d)]
/-- the sorting that is done: kinds, told apart by ends and steps and by nothing else -/
structure KindsOk (rows : Rows) (ends us : List Nat) (f : Nat → Nat) : Prop where
  inv : KInv rows ends us f
  step : ∀ s ∈ us, ∀ t ∈ us, f s = f t → (rows.getD s []).map (kO us f) = (rows.getD t []).map (kO us f)
theorem kinds_done {rows : Rows} {ends us : List Nat} {f g : Nat → Nat} {A B : List Int} (h : KInv rows ends us g) (n : Next rows us f g) (hA : ValsOf (fun s => (g s : Int)) us A) (hB : ValsOf (fun s => (f s : Int)) us B) (e : A.length = B.length) : KindsOk rows ends us g := by
  refine ⟨h, fun s hs t ht c => ?_⟩
  have hf := finer (f := fun s => (g s : Int)) (g := fun s => (f s : Int)) hA hB fun s hs t ht c => by
    have : g s = g t := by omega
    have := mark_head ((n s hs t ht).mp this)
    omega
  have m := (List.cons.inj ((n s hs t ht).mp c)).2
  have key : ∀ x ∈ us, ∀ y ∈ us, kO us f (some x) = kO us f (some y) → kO us g (some x) = kO us g (some y) := fun x hx y hy q => by
    simp only [kO, hx, hy, if_true] at q ⊢
    exact hf.2 (by omega) x hx y hy q
  have kin : ∀ {o : Option Nat}, (∃ x ∈ us, o = some x) ∨ ((¬ ∃ x ∈ us, o = some x) ∧ ∀ f, kO us f o = -1) := fun {o} => by
    by_cases c : ∃ x ∈ us, o = some x
    · exact .inl c
    · refine .inr ⟨c, fun f => ?_⟩
      cases o with
      | none => rfl
      | some x =>
        have : x ∉ us := fun m => c ⟨x, m, rfl⟩
        simp [kO, this]
  have hl : (rows.getD s []).length = (rows.getD t []).length := by
    have := congrArg List.length m
    simpa using this
  refine List.ext_getElem (by rw [List.length_map, List.length_map, hl]) fun a a1 a2 => ?_
  rw [List.length_map] at a1 a2
  have q : kO us f ((rows.getD s [])[a]) = kO us f ((rows.getD t [])[a]) := by
    have h1 : ((rows.getD s []).map (kO us f))[a]? = ((rows.getD t []).map (kO us f))[a]? := by rw [m]
    rw [List.getElem?_map, List.getElem?_map, List.getElem?_eq_getElem a1, List.getElem?_eq_getElem a2] at h1
    exact Option.some.inj h1
  rw [List.getElem_map, List.getElem_map]
  generalize (rows.getD s [])[a] = o at q
  generalize (rows.getD t [])[a] = p at q
  have pos : ∀ {x}, x ∈ us → kO us f (some x) ≠ -1 := fun {x} hx => by
    simp only [kO, hx, if_true]
    omega
  rcases kin (o := o) with ⟨x, hx, rfl⟩ | ⟨c, hc⟩
  · rcases kin (o := p) with ⟨y, hy, rfl⟩ | ⟨d, hd⟩
    · exact key x hx y hy q
    · rw [hd f] at q
      exact absurd q (pos hx)
  · rcases kin (o := p) with ⟨y, hy, rfl⟩ | ⟨d, hd⟩
    · rw [hc f] at q
      exact absurd q.symm (pos hy)
    · rw [hc g, hd g]
end K14
set_option maxHeartbeats 4000000
/-! d.get(None or ..); list(d.values()); len(set(ints)) -/
namespace K14
open PySem L2 Evl
theorem paired_get {α β : Type} {F : α → β → Prop} {l : List α} {m : List β} (h : Paired F l m) : ∀ {i : Nat} {a : α} {b : β}, l[i]? = some a → m[i]? = some b → F a b := by
  induction h with
  | nil => intro i a b q; cases q
  | cons r _ ih =>
    intro i a b q p
    cases i with
    | zero =>
      cases q
      cases p
      exact r
    | succ i => exact ih (by simpa using q) (by simpa using p)
section
variable {X : Cx} {o e f : Expr} {apos cpos : Pos} {td ty tx : TE}
/-- what d[y] is, y None among them (the keys are ints and texts then) -/
def NGet (H : Hp) (a : Addr) (y : V) (r : Option V) : Prop := DGet H a y r ∨ (y = .non ∧ r = none ∧ ∃ kvs, Rd H a (.dK kvs))
def tDGetN1 (td ty : TE) : TE := fun σ H Q => td σ H fun x H1 => ∃ a, x = .ref a ∧ IsD H1 a ∧ ty σ H1 fun y H2 => ∃ r, NGet H2 a y r ∧ Q (r.getD .non) H2
def tDGetN2 (td ty tx : TE) : TE := fun σ H Q => td σ H fun x H1 => ∃ a, x = .ref a ∧ IsD H1 a ∧ ty σ H1 fun y H2 => tx σ H2 fun z H3 => ∃ r, NGet H3 a y r ∧ Q (r.getD z) H3
theorem pe_dgetN1 (hu : X.A.units + 1 < cLine) (ho : PE X o td) (he : PE X e ty) (m : M1 X o "get" apos e cpos) : PE X (.Call (.Attribute o "get" apos) [e] [] cpos) (tDGetN1 td ty) where
  run pins s σ H Q I h := by
    refine wpAny_Call_method m.base m.few m.line PySem.F.plainAttrs_dict PySem.F.slot_dict_get PySem.F.type_dict_get (thn (ho.run pins s σ H _ I h) fun u s1 got => ?_)
    obtain ⟨x, H1, I1, rx, a, rfl, d, q1⟩ := got
    obtain rfl : u = Value.ref a := rx
    obtain ⟨t1, t2, _⟩ := isD_at I1 d
    refine ⟨t1, t2, ?_⟩
    rw [m.trees]
    refine Calls.callWith_builtin rfl (Calls.evalArgs_plain (Calls.spliced_cons (thn (he.run pins s1 σ H1 _ I1 q1) fun iv s2 got => Calls.spliced_nil ?_)))
    obtain ⟨y, H2, I2, ry, r, g, q2⟩ := got
    rcases g with g | ⟨rfl, rfl, kvs, g⟩
    · exact d_get1 hu I2 g ry fun w' s3 I3 rw' => ⟨_, H2, I3, rw', q2⟩
    · obtain rfl : iv = Value.none := ry
      obtain ⟨_, hd, vs, _, dd⟩ := dk_rd I2.hok g
      obtain ⟨f, hm, hf⟩ := none_map dd
      refine call_meetsIn PySem.F.slot_dict_get dd.typeIs PySem.F.entry_dict_get (PySem.F.args_dict_get_2 _ _) (meets_dict_get (noneKind X.prog X.w) a (k := none) rfl hd) ⟨_, hm, ?_⟩
      rw [hf]
      exact ⟨.non, H2, I2.tok _, rfl, q2⟩
theorem pe_dgetN2 (hu : X.A.units + 1 < cLine) (ho : PE X o td) (he : PE X e ty) (hf : PE X f tx) (m : M2 X o "get" apos e f cpos) : PE X (.Call (.Attribute o "get" apos) [e, f] [] cpos) (tDGetN2 td ty tx) where
  run pins s σ H Q I h := by
    refine wpAny_Call_method m.base m.few m.line PySem.F.plainAttrs_dict PySem.F.slot_dict_get PySem.F.type_dict_get (thn (ho.run pins s σ H _ I h) fun u s1 got => ?_)
    obtain ⟨x, H1, I1, rx, a, rfl, d, q1⟩ := got
    obtain rfl : u = Value.ref a := rx
    obtain ⟨t1, t2, _⟩ := isD_at I1 d
    refine ⟨t1, t2, ?_⟩
    rw [m.trees]
    refine Calls.callWith_builtin rfl (Calls.evalArgs_plain (Calls.spliced_cons (thn (he.run pins s1 σ H1 _ I1 q1) fun iv s2 got => ?_)))
    obtain ⟨y, H2, I2, ry, q2⟩ := got
    refine Calls.spliced_cons (thn (hf.run pins s2 σ H2 _ I2 q2) fun fv s3 got => Calls.spliced_nil ?_)
    obtain ⟨z, H3, I3, rz, r, g, q3⟩ := got
    rcases g with g | ⟨rfl, rfl, kvs, g⟩
    · exact d_get2 hu I3 g ry rz fun w' s4 I4 rw' => ⟨_, H3, I4, rw', q3⟩
    · obtain rfl : iv = Value.none := ry
      obtain ⟨_, hd, vs, _, dd⟩ := dk_rd I3.hok g
      obtain ⟨f, hm, hf⟩ := none_map dd
      refine call_meetsIn PySem.F.slot_dict_get dd.typeIs PySem.F.entry_dict_get (PySem.F.args_dict_get_3 _ _ _) (meets_dict_get_default (noneKind X.prog X.w) a (k := none) rfl hd fv) ⟨_, hm, ?_⟩
      rw [hf]
      exact ⟨z, H3, I3.tok _, rz, q3⟩
/-- list(d.values()) -/
def tListVals (td : TE) : TE := fun σ H Q => td σ H fun x H1 => ∃ d kvs, x = .ref d ∧ H1 d = some (.dK kvs) ∧ ∀ q, H1 q = none → Q (.ref q) (upd H1 q (.lst (kvs.map (·.2))))
theorem pe_listVals {p pos : Pos} (hc : X.calm = true) (hg : Gl X "list") (hm : X.mg "list" = none) (he : PE X e td) (hbase : attributeBase e "values" X.env (eval e X.env) = eval e X.env := by rfl) (hline : (apos.endLine == cpos.line) = true := by rfl)
    (na : starEach [.Call (.Attribute e "values" apos) [] [] cpos] X.env = (false, eval (.Call (.Attribute e "values" apos) [] [] cpos) X.env) :: starEach [] X.env := by rfl) :
    PE X (.Call (.Name "list" p) [.Call (.Attribute e "values" apos) [] [] cpos] [] pos) (tListVals td) where
  run pins s σ H Q I h := by
    refine PyProof.Rows.Call_ (ld_blt I hg hm (PyProof.Rows.boot_list) ?_)
    refine PyProof.Rows.callWith_type1 (PyProof.Rows.args_cons ?_ na) na rfl
    refine wpAny_Call_method (T := "dict") (id := "dict.values") hbase rfl hline F.plainAttrs_dict F.slot_dict_values F.type_dict_values (thn (he.run pins s σ H _ I h) fun u s1 got => ?_)
    obtain ⟨x, H1, I1, rx, d, kvs, rfl, hk, q⟩ := got
    obtain rfl : u = Value.ref d := rx
    obtain ⟨z, lo, vs, rk, hd⟩ := dk_of I1.hok hk
    refine ⟨hd.typeIs, hd.mapOf.noDict, ?_⟩
    have I2 : L2.Inv X pins σ H1 { s1 with heap := s1.heap.push { cls := .type "dict_values", data := .fields #[.ref d] } } := I1.kept (t' := s1.toks) fun b ob q => Heap.get?_push_of_some _ q
    refine method_meetsIn F.slot_dict_values F.entry_dict_values rfl (PySem.evalArgs_none ⟨rfl, hd.typeIs, F.args_dict_values_1 _, _, meets_dict_values (mixKind X.prog X.w) d lo, ⟨vs, hd⟩, ?_⟩)
    refine PyProof.Rows.args_nil ?_
    obtain ⟨z2, lo2, vs2, rk2, hd2⟩ := dk_of I2.hok hk
    obtain ⟨ep, hat⟩ := hd2.dictAt
    have hl : kvs.length = vs2.length := Paired.length rk2
    refine PySem.W.kdl_call (PySem.W.kdl_values (knd := mixKind X.prog X.w) (r := s1.heap.objs.size) (d := d) (kvs := vs2) (ep := ep)) (I2.ok.hd hc) ⟨⟨_, Heap.get?_push_size _ rfl, rfl, rfl⟩, hat⟩ (by rw [← hl]; exact z) fun h' tk acc c hkeep hS hacc => ?_
    refine ⟨.ref _, upd H1 _ (.lst (kvs.map (·.2))), I2.laid hkeep (Nat.le_refl _) ⟨by rw [List.length_map]; exact z, acc.toList, c, ?_, by rw [Array.toArray_toList]; exact hS⟩, rfl, q _ (I2.hok.fresh (Nat.le_refl _))⟩
    have el : acc.toList.length = acc.size := by simp
    refine vals_of_at (by rw [List.length_map, el, hacc.1, hl]) fun j x w h1 h2 => ?_
    obtain ⟨k, hk⟩ := hacc.2 j w (by rw [← Array.getElem?_toList]; exact h2)
    rw [List.getElem?_map] at h1
    obtain ⟨kv, h3, rfl⟩ := Option.map_eq_some_iff.mp h1
    exact (paired_get rk2 h3 hk).2
/-- how many differ -/
def diff (ns : List Int) : List Int := PyProof.Rows.firstMet (fun i => ns.getD i 0) ns.length
theorem met_nodup (f : Nat → Int) : ∀ i, (PyProof.Rows.firstMet f i).Nodup
  | 0 => by
    rw [PyProof.Rows.firstMet_zero]
    exact List.nodup_nil
  | i + 1 => by
    rw [PyProof.Rows.firstMet_succ]
    unfold PyProof.Rows.step_dedup
    split
    · exact met_nodup f i
    · rename_i c
      refine List.nodup_append.mpr ⟨met_nodup f i, by simp, fun a ha b hb e => c ?_⟩
      rw [List.mem_singleton.mp hb] at e
      exact List.any_eq_true.mpr ⟨a, ha, by rw [e]; exact beq_self_eq_true _⟩
theorem diff_nodup (ns : List Int) : (diff ns).Nodup := met_nodup _ _
theorem mem_diff (ns : List Int) (k : Int) : k ∈ diff ns ↔ k ∈ ns := by
  have h := PyProof.Rows.firstMet_any (fun i => ns.getD i 0) ns.length k
  have e : (List.range ns.length).map (fun i => ns.getD i 0) = ns := by
    refine List.ext_getElem (by simp) fun i h1 h2 => ?_
    simp [List.getD_eq_getElem?_getD, List.getElem?_eq_getElem h2]
  rw [e] at h
  have a : ∀ l : List Int, l.any (· == k) = true ↔ k ∈ l := fun l => by
    rw [List.any_eq_true]
    constructor
    · rintro ⟨x, hx, c⟩
      rw [← beq_iff_eq.mp c]
      exact hx
    · exact fun hx => ⟨k, hx, beq_self_eq_true _⟩
  unfold diff
  rw [← a, ← a ns, h]
def tLenSet (K : PySem.W.Frag) (ta : TE) : TE := fun σ H Q => ta σ H fun x H1 => ∃ (l : Addr) (ns : List Int), x = V.ref l ∧ SqL K H1 l (ns.map V.int) ∧ ns.length ≤ 1000 ∧ Q (.int (diff ns).length) H1
theorem pe_lenSet {a : Expr} {ta : TE} {p p2 q pos : Pos} (K : PySem.W.Frag) (hc : X.calm = true) (hg : Gl X "len") (hm : X.mg "len" = none) (hg2 : Gl X "set") (hm2 : X.mg "set" = none) (ha : PE X a ta)
    (na : starEach [a] X.env = (false, eval a X.env) :: starEach [] X.env := by rfl) (eK : X.K = K := by rfl) : PE X (.Call (.Name "len" p) [.Call (.Name "set" p2) [a] [] q] [] pos) (tLenSet K ta) where
  run pins s σ H Q I h := by
    subst eK
    refine PyProof.Rows.Call_ (ld_blt I hg hm PySem.boot_len (PyProof.Rows.callWith_builtin1 (PyProof.Rows.args_cons ?_ rfl) rfl rfl))
    refine PyProof.Rows.Call_ (ld_blt I hg2 hm2 PyProof.Rows.boot_set ?_)
    refine PyProof.Rows.callWith_type1 (PyProof.Rows.args_cons (thn (ha.run pins s σ H _ I h) fun v s1 got => PyProof.Rows.args_nil ?_) na) na rfl
    obtain ⟨x, H1, I1, r1, l, ns, rfl, hq, hl, q1⟩ := got
    cases r1
    obtain ⟨its, r, pl, hz⟩ := I1.list hq
    have sz : its.toArray.size = ns.length := by rw [List.size_toArray, ← r.length, List.length_map]
    refine call_set_list (I1.ok.hd hc) pl.isList (ns := ns) (by simpa using r.ints) (by rw [sz]; unfold scanBound; omega) fun h' tk hS hk => PyProof.Rows.args_nil ?_
    rw [sz] at hS
    obtain ⟨ob, es, ep, t, ho, hex, hd, _, _, _, hf, hn⟩ := hS
    have few : (PyProof.Rows.firstMet (fun i => ns.getD i 0) ns.length).length ≤ ns.length := PyProof.Rows.firstMet_length_le _ _
    have I2 : L2.Inv X pins σ H1 { s1 with heap := h', toks := tk } := I1.kept fun b o e => hk b o (Heap.lt_size e) e
    exact call_len_set ho hex hd hf (by rw [hn]; omega) ⟨.int (diff ns).length, H1, I2.tok _, ⟨_, by rw [hn]; rfl⟩, q1⟩
end
end K14
set_option maxHeartbeats 4000000
/-! sets of tuples of ints and texts: what is met, what is added -/
namespace K14
open PySem PySem.Spec PyProof.Rows L2
/-! ### plain: the looks of a search -/
/-- the c-th look -/
def look (m : Nat) (h : Int) (c : Nat) : SetTable.Probe := nth m (runAt m (SetTable.bits h % (m + 1)) (SetTable.bits h)) c
theorem look_add (m : Nat) (h : Int) (c q : Nat) : nth m (look m h c) q = look m h (c + q) := (nth_add m c _ q).symm
theorem look_next (m : Nat) (h : Int) (c : Nat) : look m h (c + 1) = adv m (look m h c) := nth_succ m _ c
theorem look_clean (m : Nat) (h : Int) : ∀ c, (look m h c).dummy = none
  | 0 => rfl
  | c + 1 => by
    have ih := look_clean m h c
    rw [look_next]
    unfold adv
    split
    · exact ih
    · exact ih
/-- from the c-th look on: a candidate ahead of the empty slot K, or that one -/
theorem looks {t : SetTable} {hs : List Int} (T : TabOk t hs) (hat : Nat → Int) (h : Int) {K c : Nat} (hc : c ≤ K) (hK : K < 10 * SetTable.turns t.mask) (free : way t.mask h K ∉ t.place.toList) (taken : ∀ d, d < K → way t.mask h d ∈ t.place.toList) :
    (∃ d i, c ≤ d ∧ d < K ∧ t.place.toList[i]? = some (way t.mask h d) ∧ (∀ e j, c ≤ e → e < d → t.place.toList[j]? = some (way t.mask h e) → hat j ≠ h) ∧ t.probe hat h (look t.mask h c) = some (.candidate (way t.mask h d) i (look t.mask h (d + 1)))) ∨
    ((∀ e j, c ≤ e → e < K → t.place.toList[j]? = some (way t.mask h e) → hat j ≠ h) ∧ t.probe hat h (look t.mask h c) = some (.empty (way t.mask h K) none)) := by
  have at_ : ∀ q, (nth t.mask (look t.mask h c) q).j = way t.mask h (c + q) := fun q => congrArg SetTable.Probe.j (look_add t.mask h c q)
  have back : ∀ e, c ≤ e → c + (e - c) = e := fun e he => by omega
  have g := go_spec t T.ris T.dm hat h (10 * SetTable.turns t.mask) (K - c) (look t.mask h c) (look_clean ..) (by omega) (fun q hq => by rw [at_]; exact taken _ (by omega)) (by rw [at_, back K hc]; exact free)
  rcases g with ⟨q, i, g1, g2, _, g3, g4⟩ | ⟨g1, g2⟩
  · rw [at_] at g2 g4
    rw [look_add] at g4
    refine .inl ⟨c + q, i, by omega, by omega, g2, fun e j h1 h2 h3 => g3 (e - c) j (by omega) (by rw [at_, back e h1]; exact h3), g4⟩
  · rw [at_, back K hc] at g2
    exact .inr ⟨fun e j h1 h2 h3 => g1 (e - c) j (by omega) (by rw [at_, back e h1]; exact h3), g2⟩
section
variable {P : Program} {w : World} {A : Around} {E : Value → Shared → Prop} {s : Shared}
abbrev mh (P : Program) (w : World) (k : List Key) : Int := tupleKeyHash (mixKind P w) k
abbrev MT (P : Program) (w : World) (h : Heap) (k : List Key) (a : Addr) : Prop := IsTupleKey (mixKind P w) h k a
/-! ### tuples show nothing when they are looked for -/
def IntStr (v : Value) : Prop := (∃ i t, v = Value.int i t) ∨ ∃ x t, v = Value.str x t
theorem items_flat {k : List Key} {vs : List Value} (h : ItemsAre (mixKind P w) k vs) : ∀ v ∈ vs, IntStr v := by
  induction h with
  | nil => exact fun v hv => nomatch hv
  | cons h1 _ ih =>
    intro v hv
    cases hv with
    | head =>
      rcases keyIs_shape h1 with ⟨i, t, _, e⟩ | ⟨x, t, _, e⟩
      · exact .inl ⟨i, t, e⟩
      · exact .inr ⟨x, t, e⟩
    | tail _ hv => exact ih v hv
theorem flat_noClass (n : Nat) {v : Value} (h : IntStr v) : ofAClassStatement n v = pure false := by
  rcases h with ⟨i, t, rfl⟩ | ⟨x, t, rfl⟩ <;> cases n <;> rfl
theorem flat_byValue (n : Nat) {v : Value} (h : IntStr v) : ∃ b, hashByValue n v = pure b := by
  rcases h with ⟨i, t, rfl⟩ | ⟨x, t, rfl⟩
  · exact ⟨true, by cases n <;> rfl⟩
  · exact ⟨false, by cases n <;> rfl⟩
theorem mt_noClass {k : List Key} {b : Addr} {Q : Bool → Shared → Prop} (hk : MT P w s.heap k b) (h : Q false s) : wpAny (model P w) A (ofAClassStatement 8 (.ref b)) Q E s := by
  have hT := hk.typeIs
  obtain ⟨o, its, n, ho, _, hd, hi⟩ := hk
  have hf := items_flat hi
  unfold ofAClassStatement
  refine wpAny_bind (wpAny_typeOf hT ?_)
  have e : (("tuple" : String) == "tuple") = true := by decide
  simp only [e, if_true, Bool.not_true, Bool.false_eq_true, if_false]
  try refine wpAny_bind (wpAny_pure ?_)
  try simp only [Bool.not_true, Bool.false_eq_true, if_false]
  show wpAny _ _ (seqItems? (.ref b) >>= _) _ _ s
  refine wpAny_bind (wpAny_seqItems ho hd ?_)
  try dsimp only
  refine wpAny_bind ?_
  show wpAny _ _ (forIn its _ _) _ _ s
  rw [← Array.forIn_toList]
  refine wpAny_forIn_list _ (fun rest r s' => s' = s ∧ r.1 = none ∧ ∀ v ∈ rest, IntStr v) _ (fun v rest r s' I => ?_) (fun r s' I => ?_) _ _ ⟨rfl, rfl, hf⟩
  · obtain ⟨rfl, hr, hv⟩ := I
    rw [flat_noClass 7 (hv v (.head _))]
    refine wpAny_bind (wpAny_pure ?_)
    simp only [Bool.false_eq_true, if_false]
    exact wpAny_pure ⟨rfl, rfl, fun u hu => hv u (.tail _ hu)⟩
  · obtain ⟨rfl, hr, _⟩ := I
    obtain ⟨r1, r2⟩ := r
    subst hr
    exact wpAny_pure h
theorem mt_byValue {k : List Key} {b : Addr} {Q : Bool → Shared → Prop} (hk : MT P w s.heap k b) (h : ∀ c, Q c s) : wpAny (model P w) A (hashByValue 8 (.ref b)) Q E s := by
  have hT := hk.typeIs
  obtain ⟨o, its, n, ho, _, hd, hi⟩ := hk
  have hf := items_flat hi
  unfold hashByValue
  refine wpAny_bind (wpAny_specialOf hT F.slot_tuple_hash.lookup ?_)
  show wpAny _ _ (seqItems? (.ref b) >>= _) _ _ s
  refine wpAny_bind (wpAny_seqItems ho hd ?_)
  refine wpAny_bind ?_
  show wpAny _ _ (forIn its _ _) _ _ s
  rw [← Array.forIn_toList]
  refine wpAny_forIn_list _ (fun rest r s' => s' = s ∧ ∀ v ∈ rest, IntStr v) _ (fun v rest r s' I => ?_) (fun r s' I => ?_) _ _ ⟨rfl, hf⟩
  · obtain ⟨rfl, hv⟩ := I
    obtain ⟨c, e⟩ := flat_byValue 7 (hv v (.head _))
    rw [e]
    refine wpAny_bind (wpAny_pure ?_)
    cases c with
    | true =>
      simp only [Bool.not_true, Bool.false_eq_true, if_false]
      exact wpAny_pure ⟨rfl, fun u hu => hv u (.tail _ hu)⟩
    | false =>
      simp only [Bool.not_false, if_true]
      exact wpAny_pure (wpAny_pure (h false))
  · obtain ⟨rfl, _⟩ := I
    obtain ⟨r1, r2⟩ := r
    cases r1 with
    | none => exact wpAny_pure (h true)
    | some c => exact wpAny_pure (h c)
theorem mt_unseen {k : List Key} {b : Addr} {Q : Bool → Shared → Prop} (hk : MT P w s.heap k b) {ys : List Value} (hy : ∀ y ∈ ys, ∃ k' c, y = Value.ref c ∧ MT P w s.heap k' c) (h : Q false s) : wpAny (model P w) A (searchCouldBeSeen (.ref b) ys) Q E s := by
  unfold searchCouldBeSeen
  refine wpAny_bind ?_
  refine wpAny_forIn_list _ (fun rest r s' => s' = s ∧ r.1 = none ∧ ∀ y ∈ rest, ∃ k' c, y = Value.ref c ∧ MT P w s.heap k' c) _ (fun v rest r s' I => ?_) (fun r s' I => ?_) _ _ ⟨rfl, rfl, hy⟩
  · obtain ⟨rfl, hr, hv⟩ := I
    obtain ⟨k', c, rfl, hc⟩ := hv v (.head _)
    have go : ∀ y ∈ rest, ∃ k' c, y = Value.ref c ∧ MT P w s'.heap k' c := fun y hy => hv y (.tail _ hy)
    dsimp only
    by_cases same : (b == c || (carriedByValue (.ref b) && carriedByValue (.ref c))) = true
    · exact wp_if_pos same (wpAny_pure ⟨rfl, rfl, go⟩)
    · refine wp_if_neg same (wpAny_bind (wpAny_eqIsQuiet_tuple hk ?_))
      simp only [Bool.not_true, Bool.false_eq_true, if_false]
      refine wpAny_bind (wpAny_eqIsQuiet_tuple hc ?_)
      simp only [Bool.not_true, Bool.false_eq_true, if_false]
      refine wpAny_bind (mt_noClass hk ?_)
      simp only [Bool.false_eq_true, if_false]
      refine wpAny_bind (mt_noClass hc ?_)
      simp only [Bool.false_eq_true, if_false]
      exact wpAny_pure ⟨rfl, rfl, go⟩
  · obtain ⟨rfl, hr, _⟩ := I
    obtain ⟨r1, r2⟩ := r
    subst hr
    exact wpAny_pure h
/-! ### the set -/
def entM (P : Program) (w : World) (L : List (Addr × List Key)) : List (Int × Value) := L.map fun p => (mh P w p.2, Value.ref p.1)
def hsM (P : Program) (w : World) (L : List (Addr × List Key)) : List Int := L.map fun p => mh P w p.2
/-- the set at a holds the tuples of L, in this order -/
structure SM (P : Program) (w : World) (h : Heap) (a : Addr) (L : List (Addr × List Key)) (es : Array (Int × Value)) (ep : Nat) (t : SetTable) : Prop where
  ob : ∃ o, h.get? a = some o ∧ o.ExactSet ∧ o.data = .set es ep t
  ent : es.toList = entM P w L
  tab : TabOk t (hsM P w L)
  nd : (L.map (·.2)).Nodup
  tup : ∀ p ∈ L, MT P w h p.2 p.1
  led : w.params.followText "set-order" = true ∨ t.led = true
  room : L.length * 5 < t.mask * 3
  few : L.length < 64
variable {a : Addr} {L : List (Addr × List Key)} {es : Array (Int × Value)} {ep : Nat} {t : SetTable}
theorem ent_size (h : es.toList = entM P w L) : es.size = L.length := by
  have q := congrArg List.length h
  rwa [entM, Array.length_toList, List.length_map] at q
theorem ent_at (h : es.toList = entM P w L) {i : Nat} {p : Addr × List Key} (hp : L[i]? = some p) : es[i]? = some (mh P w p.2, Value.ref p.1) := by
  rw [← Array.getElem?_toList, h, entM, List.getElem?_map, hp]
  rfl
theorem hs_at {i : Nat} {p : Addr × List Key} (hp : L[i]? = some p) : (hsM P w L)[i]? = some (mh P w p.2) := by
  rw [hsM, List.getElem?_map, hp]
  rfl
theorem hs_len : (hsM P w L).length = L.length := List.length_map ..
theorem tab_fits {hs : List Int} (T : TabOk t hs) {n : Nat} (hn : n = hs.length) (hm : n ≤ t.mask) : t.fits n = true := by
  have h1 := T.sz
  unfold SetTable.fits SetTable.fill
  rw [T.dm, Bool.and_eq_true, beq_iff_eq, decide_eq_true_eq]
  show t.place.size = n ∧ t.place.size + 0 ≤ t.mask
  omega
theorem SM.size (R : SM P w s.heap a L es ep t) : es.size = L.length := ent_size R.ent
theorem SM.fits (R : SM P w s.heap a L es ep t) : t.fits es.size = true := by
  have h1 := R.size
  have h2 := R.room
  exact tab_fits R.tab (by rw [hs_len, h1]) (by omega)
theorem gw_no (hm : MaskOk t.mask) : ¬ t.gaveWay = true := by
  unfold SetTable.gaveWay
  rw [mask_odd hm]
  decide
/-- looking for k, to add it -/
theorem seek (R : SM P w s.heap a L es ep t) {x : Addr} {k : List Key} (hx : MT P w s.heap k x) (hu : A.units < cLine) {K : Nat} (hK : K < 10 * SetTable.turns t.mask) (free : way t.mask (mh P w k) K ∉ t.place.toList)
    (taken : ∀ d, d < K → way t.mask (mh P w k) d ∈ t.place.toList) {Q : SetFound → Shared → Prop} (hin : k ∈ L.map (·.2) → Q (.there none) s) (hout : k ∉ L.map (·.2) → Q (.free (way t.mask (mh P w k) K) false) s) :
    ∀ (f c : Nat) (stand : Option SetTable.Probe), stand.getD (t.probeStart (mh P w k)) = look t.mask (mh P w k) c → c ≤ K → K < c + f →
      (∀ (i : Nat) p, L[i]? = some p → p.2 = k → ∃ d, c ≤ d ∧ d < K ∧ t.place.toList[i]? = some (way t.mask (mh P w k) d)) → wpAny (model P w) A (setSearchFrom a (.ref x) (mh P w k) true f stand) Q E s
  | 0, c, stand, _, h1, h2, _ => absurd h2 (by omega)
  | f + 1, c, stand, hst, hc, hf, ahead => by
    obtain ⟨o, ho, hex, hd⟩ := R.ob
    have fits := R.fits
    have hash : ∀ {i : Nat} {p : Addr × List Key}, L[i]? = some p → p.2 = k → (es[i]?.map fun z : Int × Value => z.1).getD 0 = mh P w k := fun {i p} hp e => by
      rw [ent_at R.ent hp, ← e]
      rfl
    rw [setSearchFrom_succ]
    refine wpAny_bind (wpAny_setState_of ho hd fits ?_)
    dsimp only
    refine wp_if_neg (gw_no R.tab.mok) ?_
    try refine wpAny_bind (wpAny_pure ?_)
    rw [hst]
    rcases looks R.tab (fun i => (es[i]?.map fun z : Int × Value => z.1).getD 0) (mh P w k) hc hK free taken with ⟨d, i, d1, d2, hi, none_, pr⟩ | ⟨none_, pr⟩
    · rw [pr]
      dsimp only
      have hil : i < L.length := by
        have h1 : i < t.place.toList.length := (List.getElem?_eq_some_iff.mp hi).1
        have h2 := R.tab.sz
        rw [hs_len] at h2
        rw [Array.length_toList] at h1
        omega
      obtain ⟨p, hp⟩ : ∃ p, L[i]? = some p := ⟨_, List.getElem?_eq_getElem hil⟩
      have hpt := R.tup p (List.mem_of_getElem? hp)
      have rest : wpAny (model P w) A (searchRest a (.ref x) (mh P w k) true f es t (way t.mask (mh P w k) d) i (look t.mask (mh P w k) (d + 1))) Q E s := by
        unfold searchRest
        rw [ent_at R.ent hp]
        dsimp only
        refine wpAny_bind (wpAny_holding (wpAny_eqBool_tuple hu hpt hx ?_))
        refine wpAny_bind (wpAny_setState_of ho hd fits ?_)
        dsimp only
        by_cases same : p.2 = k
        · refine wp_if_pos (by simp [same]) (wpAny_pure (hin ?_))
          exact List.mem_map.mpr ⟨p, List.mem_of_getElem? hp, same⟩
        · refine wp_if_neg (by simp [same]) ?_
          try refine wpAny_bind (wpAny_pure ?_)
          rw [sameMem]
          dsimp only
          have live : t.slot (way t.mask (mh P w k) d) = .live i := slot_live R.tab.ris hi
          simp only [if_true, live, ent_at R.ent hp]
          refine wpAny_bind (wpAny_isSame_ref_self (wpAny_bind (wpAny_pure ?_)))
          simp only [if_true]
          refine wp_if_neg (by simp [same]) ?_
          refine seek R hx hu hK free taken hin hout f (d + 1) _ rfl (by omega) (by omega) fun j q hq hqk => ?_
          obtain ⟨e, e1, e2, e3⟩ := ahead j q hq hqk
          refine ⟨e, ?_, e2, e3⟩
          rcases Nat.lt_trichotomy e d with z | z | z
          · exact absurd (hash hq hqk) (none_ e j e1 z e3)
          · rw [z] at e3
            have l2 := slot_live R.tab.ris e3
            rw [live] at l2
            injection l2 with l2
            rw [← l2, hp] at hq
            exact absurd ((congrArg Prod.snd (Option.some.inj hq)).trans hqk) same
          · omega
      by_cases hl : t.led = true
      · refine wp_if_neg (by simp [hl]) ?_
        try refine wpAny_bind (wpAny_pure ?_)
        exact rest
      · refine wp_if_pos (by simp [hl]) ?_
        refine wpAny_bind (mt_unseen hx (fun y hy => ?_) ?_)
        · obtain ⟨e, he, rfl⟩ := List.mem_map.mp hy
          have he2 : e ∈ es.toList := by
            have : e ∈ es ∧ e.1 = mh P w k := by simpa using he
            simpa using this.1
          rw [R.ent] at he2
          obtain ⟨q, hq, rfl⟩ := List.mem_map.mp he2
          exact ⟨q.2, q.1, rfl, R.tup q hq⟩
        · refine wp_if_neg (by decide) ?_
          try refine wpAny_bind (wpAny_pure ?_)
          exact rest
    · rw [pr]
      dsimp only
      refine wpAny_pure (hout fun hm => ?_)
      obtain ⟨p, hp, hpk⟩ := List.mem_map.mp hm
      obtain ⟨i, hi⟩ := List.mem_iff_getElem?.mp hp
      obtain ⟨d, d1, d2, d3⟩ := ahead i p hi hpk
      exact none_ d i d1 d2 d3 (hash hi hpk)
theorem seek_all (R : SM P w s.heap a L es ep t) {x : Addr} {k : List Key} (hx : MT P w s.heap k x) (hu : A.units < cLine) {Q : SetFound → Shared → Prop} (hin : k ∈ L.map (·.2) → Q (.there none) s)
    (hout : ∀ K, k ∉ L.map (·.2) → way t.mask (mh P w k) K ∉ t.place.toList → (∀ d, d < K → way t.mask (mh P w k) d ∈ t.place.toList) → Q (.free (way t.mask (mh P w k) K) false) s) : wpAny (model P w) A (setSearch a (.ref x) (mh P w k) true) Q E s := by
  have hr := R.room
  obtain ⟨K, h1, h2, h3⟩ := R.tab.first (by rw [hs_len]; omega) (mh P w k)
  have hz : K < 100000 := by
    have : 10 * SetTable.turns t.mask ≤ 1420 := by
      unfold SetTable.turns
      rcases R.tab.mok with e | e | e <;> omega
    omega
  unfold setSearch
  refine seek R hx hu h1 h2 h3 hin (fun hn => hout K hn h2 h3) 100000 0 none rfl (Nat.zero_le _) (by omega) fun i p hp hk => ?_
  have hi := hs_at (P := P) (w := w) hp
  rw [hk] at hi
  have hil : i < t.place.toList.length := by
    have h4 : i < L.length := (List.getElem?_eq_some_iff.mp hp).1
    have h5 := R.tab.sz
    rw [hs_len] at h5
    rw [Array.length_toList]
    omega
  have hj := List.getElem?_eq_getElem hil
  obtain ⟨d, d1, d2⟩ := R.tab.before h2 hi hj
  exact ⟨d, Nat.zero_le _, d1, by rw [hj, d2]⟩
end
end K14
set_option maxHeartbeats 4000000
/-! sets of tuples of ints and texts: adding -/
namespace K14
open PySem PySem.Spec PyProof.Rows L2
theorem range_all {α : Type} (l : List α) : (List.range l.length).filterMap (fun i => l[i]?) = l := by
  have h : ∀ n, n ≤ l.length → (List.range n).filterMap (fun i => l[i]?) = l.take n := fun n => by
    induction n with
    | zero => exact fun _ => rfl
    | succ n ih =>
      intro hn
      have e := List.getElem?_eq_getElem (l := l) (i := n) hn
      rw [List.range_succ, List.filterMap_append, ih (Nat.le_of_lt hn), List.take_add_one, e, List.filterMap_cons_some e]
      rfl
  rw [h _ (Nat.le_refl _), List.take_length]
theorem insert_perm {α : Type} (l : List α) (p : Nat) (x : α) : (l.take p ++ x :: l.drop p).Perm (x :: l) := by
  have h : (l.take p ++ x :: l.drop p).Perm (x :: (l.take p ++ l.drop p)) := List.perm_middle
  rwa [List.take_append_drop] at h
section
variable {P : Program} {w : World} {A : Around} {E : Value → Shared → Prop} {s : Shared} {a : Addr} {L : List (Addr × List Key)} {es : Array (Int × Value)} {ep : Nat} {t : SetTable}
theorem ent_insert (p : Nat) (x : Addr) (k : List Key) (he : es.toList = entM P w L) : (SetTable.insertAt es p (mh P w k, Value.ref x)).toList = entM P w (L.take p ++ (x, k) :: L.drop p) := by
  rw [SetTable.toList_insertAt, he, entM, entM, List.map_append, List.map_cons, List.map_take, List.map_drop]
theorem hs_insert (p : Nat) (x : Addr) (k : List Key) : hsM P w (L.take p ++ (x, k) :: L.drop p) = (hsM P w L).take p ++ mh P w k :: (hsM P w L).drop p := by
  rw [hsM, hsM, List.map_append, List.map_cons, List.map_take, List.map_drop]
/-- the items in another order -/
theorem ent_order (he : es.toList = entM P w L) {order : Array Nat} (hp : order.toList.Perm (List.range L.length)) :
    ∃ M, (order.filterMap (es[·]?)).toList = entM P w M ∧ M.Perm L ∧ hsM P w M = order.toList.map fun i => (es.map (·.1)).getD i 0 := by
  have get : ∀ i : Nat, es[i]? = (L[i]?).map fun p => (mh P w p.2, Value.ref p.1) := fun i => by
    rw [← Array.getElem?_toList, he, entM, List.getElem?_map]
  refine ⟨order.toList.filterMap fun i => L[i]?, ?_, ?_, ?_⟩
  · rw [Array.toList_filterMap, entM, List.map_filterMap]
    exact congrArg (fun f => order.toList.filterMap f) (funext get)
  · have h := hp.filterMap fun i => L[i]?
    rwa [range_all] at h
  · have inb : ∀ i ∈ order.toList, i < L.length := fun i hi => List.mem_range.mp (hp.mem_iff.mp hi)
    revert inb
    generalize order.toList = l
    intro inb
    induction l with
    | nil => rfl
    | cons i l ih =>
      have hi := List.getElem?_eq_getElem (inb i (.head _))
      have e1 : (es.map (·.1)).getD i 0 = mh P w (L[i]'(inb i (.head _))).2 := by
        rw [Array.getD_eq_getD_getElem?, Array.getElem?_map, get, hi]
        rfl
      rw [List.filterMap_cons_some hi, List.map_cons, ← ih fun j hj => inb j (.tail _ hj), e1]
      rfl
theorem mt_apart {h h' : Heap} {k : List Key} {b : Addr} {o : Obj} (hb : MT P w h k b) (ho : h.get? a = some o) (hd : o.data = .set es ep t) (sb : Heap.SameBut a h h') : MT P w h' k b := by
  obtain ⟨o', its, n, ho', hc, hd', hi⟩ := hb
  have ne : b ≠ a := fun e => by
    rw [e, ho] at ho'
    cases ho'
    rw [hd] at hd'
    cases hd'
  exact ⟨o', its, n, (sb.2 b ne).trans ho', hc, hd', hi⟩
/-- what stands of a table while it is being changed -/
structure Half (P : Program) (w : World) (h : Heap) (L : List (Addr × List Key)) (es : Array (Int × Value)) (t : SetTable) : Prop where
  ent : es.toList = entM P w L
  tab : TabOk t (hsM P w L)
  nd : (L.map (·.2)).Nodup
  tup : ∀ p ∈ L, MT P w h p.2 p.1
  led : w.params.followText "set-order" = true ∨ t.led = true
  few : L.length < 64
  fit : L.length ≤ t.mask
theorem relay_half {o : Obj} (ho : s.heap.get? a = some o) (hex : o.ExactSet) (hd : o.data = .set es ep t) (R : Half P w s.heap L es t) {wanted M : Nat} (hw : SetTable.sizeAbove wanted = M + 1) (hM : MaskOk M) (hn : L.length * 5 < M * 3) {Q : Unit → Shared → Prop}
    (hQ : ∀ h' L' es' ep' t', Heap.SameBut a s.heap h' → SM P w h' a L' es' ep' t' → L'.Perm L → Q () { s with heap := h' }) : wpAny (model P w) A (setRelay a wanted) Q E s := by
  have hz := ent_size R.ent
  have few := R.few
  have hM2 : M ≤ 127 := by rcases hM with e | e | e <;> omega
  obtain ⟨t', order, r1, r2, r3, r4, r5, _, _⟩ := relaid_ok t (hs := es.map (·.1)) (wanted := wanted) (by rw [hw]; rfl) hM (by rw [Array.size_map, hz]; omega)
  rw [Array.size_map, hz] at r2
  obtain ⟨L2, e1, e2, e3⟩ := ent_order R.ent r2
  rw [← e3] at r3
  have hz2 := ent_size e1
  have e4 := e2.length_eq
  have sb : Heap.SameBut a s.heap (s.heap.update a (Obj.putSet (order.filterMap (es[·]?)) t')) := Heap.SameBut.update ..
  rw [setRelay_eq]
  refine wpAny_bind (wpAny_setState_of ho hd (tab_fits R.tab (by rw [hs_len, hz]) (by rw [hz]; exact R.fit)) ?_)
  dsimp only
  refine wp_if_neg (by rw [hw, sizeLine_eq]; omega) ?_
  try refine wpAny_bind (wpAny_pure ?_)
  rw [r1]
  dsimp only
  refine wpAny_bind ?_
  refine wp_if_neg (by rw [hz2, e4, hz]; simp) ?_
  try refine wpAny_bind (wpAny_pure ?_)
  refine wpAny_pure ?_
  dsimp only
  refine wpAny_storeSet_of ho hd ?_ (by rw [hz2, sizeLine_eq]; omega)
  exact hQ _ L2 (order.filterMap (es[·]?)) (ep + 1) t' sb ⟨⟨_, store_at ho hd, ⟨hex.1, hex.2.1, hex.2.2⟩, rfl⟩, e1, r3, (e2.map (·.2)).nodup_iff.mpr R.nd, fun p hp => mt_apart (R.tup p (e2.mem_iff.mp hp)) ho hd sb, by rw [r5]; exact R.led, by rw [e4, r4]; exact hn, by rw [e4]; exact few⟩ e2
/-- the tail of an addition: the item is laid, the table is perhaps made larger -/
theorem add_tail {o : Obj} (ho : s.heap.get? a = some o) (hex : o.ExactSet) (hd : o.data = .set es ep t) {es1 : Array (Int × Value)} {t1 : SetTable} {L1 : List (Addr × List Key)} (R : Half P w s.heap L1 es1 t1) (hm : t1.mask = t.mask) (hf : t1.fill = L1.length)
    {n : Nat} (hl : L1.length = n + 1) (room : n * 5 < t.mask * 3) {Q : Bool → Shared → Prop} (hQ : ∀ h' L' es' ep' t', Heap.SameBut a s.heap h' → SM P w h' a L' es' ep' t' → L'.Perm L1 → Q true { s with heap := h' }) :
    wpAny (model P w) A (do
      storeSet a es1 t1
      if t1.tooFull then setRelay a (SetTable.grown (n + 1))
      return true) Q E s := by
  have hz := ent_size R.ent
  have few := R.few
  have sb : Heap.SameBut a s.heap (s.heap.update a (Obj.putSet es1 t1)) := Heap.SameBut.update ..
  have ho1 := store_at (es' := es1) (t' := t1) ho hd
  refine wpAny_bind (wpAny_storeSet_of ho hd ?_ (by rw [hz, sizeLine_eq]; omega))
  generalize s.heap.update a (Obj.putSet es1 t1) = h1 at sb ho1 ⊢
  have R1 : Half P w h1 L1 es1 t1 := { R with tup := fun p hp => mt_apart (R.tup p hp) ho hd sb }
  have full : t1.tooFull = true ↔ t.mask * 3 ≤ L1.length * 5 := by
    unfold SetTable.tooFull
    rw [decide_eq_true_eq, hf, hm]
  by_cases c : t1.tooFull = true
  · have hc := full.mp c
    have go : ∀ M, SetTable.sizeAbove (SetTable.grown (n + 1)) = M + 1 → MaskOk M → (n + 1) * 5 < M * 3 → wpAny (model P w) A (do
        if t1.tooFull then setRelay a (SetTable.grown (n + 1))
        return true) Q E { s with heap := h1 } := fun M g1 g2 g3 => by
      rw [if_pos c]
      refine wpAny_bind (relay_half (s := { s with heap := h1 }) ho1 ⟨hex.1, hex.2.1, hex.2.2⟩ rfl R1 g1 g2 (by rw [hl]; exact g3) fun h2 L2 es2 ep2 t2 sb2 R2 pm => ?_)
      exact wpAny_pure (hQ h2 L2 es2 ep2 t2 (sb.trans sb2) R2 pm)
    rcases R.tab.mok with e | e | e
    · obtain rfl : n = 4 := by omega
      exact go 31 size_20 (.inr (.inl rfl)) (by decide)
    · obtain rfl : n = 18 := by omega
      exact go 127 size_76 (.inr (.inr rfl)) (by decide)
    · omega
  · have hc : ¬ t.mask * 3 ≤ L1.length * 5 := fun q => c (full.mpr q)
    rw [if_neg c]
    refine wpAny_bind (wpAny_pure ?_)
    exact wpAny_pure (hQ h1 L1 es1 (ep + 1) t1 sb ⟨⟨_, ho1, ⟨hex.1, hex.2.1, hex.2.2⟩, rfl⟩, R1.ent, R1.tab, R1.nd, R1.tup, R1.led, by omega, few⟩ (.refl _))
theorem add_mt (R : SM P w s.heap a L es ep t) {x : Addr} {k : List Key} (hx : MT P w s.heap k x) (hu : A.units < cLine) (few : L.length + 1 < 64) {Q : Bool → Shared → Prop}
    (hQ : ∀ b h' L' es' ep' t', Heap.SameBut a s.heap h' → SM P w h' a L' es' ep' t' → (k ∈ L.map (·.2) → L' = L) → (k ∉ L.map (·.2) → L'.Perm ((x, k) :: L)) → Q b { s with heap := h' }) : wpAny (model P w) A (setAddHashed a (.ref x) (mh P w k)) Q E s := by
  obtain ⟨o, ho, hex, hd⟩ := R.ob
  have fits := R.fits
  have hz := R.size
  unfold setAddHashed
  refine wpAny_holding ?_
  rw [show (100000 : Nat) = 99999 + 1 from rfl, setAddHashedIn_succ]
  refine wpAny_bind (wpAny_setState_of ho hd fits ?_)
  dsimp only
  refine wp_if_neg (by simp [byScan, Value.scannable]) ?_
  try refine wpAny_bind (wpAny_pure ?_)
  refine wpAny_bind (seek_all R hx hu (fun hm => ?_) fun K hm free taken => ?_)
  · dsimp only
    exact wpAny_pure (hQ false s.heap L es ep t (Heap.SameBut.refl a s.heap) R (fun _ => rfl) fun c => absurd hm c)
  · dsimp only
    refine wpAny_bind (wpAny_setState_of ho hd fits ?_)
    dsimp only
    obtain ⟨q1, _, q3, q4, q5, _, _, _, q9⟩ := R.tab.put free taken
    generalize t.put (way t.mask (mh P w k) K) = pt at q1 q3 q4 q5 q9 ⊢
    obtain ⟨t1, p⟩ := pt
    dsimp only at q1 q3 q4 q5 q9 ⊢
    rw [← q1] at q3
    rw [← hs_insert p x k] at q3
    have pm := insert_perm L p (x, k)
    have hl : (L.take p ++ (x, k) :: L.drop p).length = L.length + 1 := pm.length_eq
    have fin : ∀ t2 : SetTable, t2.place = t1.place → t2.dummies = t1.dummies → t2.mask = t1.mask → t2.led = t1.led → wpAny (model P w) A (do
        storeSet a (SetTable.insertAt es p (mh P w k, Value.ref x)) t2
        if t2.tooFull then setRelay a (SetTable.grown (L.length + 1))
        return true) Q E s := fun t2 z1 z2 z3 z4 => by
      refine add_tail ho hex hd ⟨ent_insert p x k R.ent, ?_, ?_, fun p' hp' => ?_, by rw [z4, q5]; exact R.led, by rw [hl]; exact few, ?_⟩ (z3.trans q4) ?_ hl R.room fun h' L' es' ep' t' sb R' pm' => hQ true h' L' es' ep' t' sb R' (fun c => absurd c hm) fun _ => pm'.trans pm
      · obtain ⟨g1, g2, g3, g4, g5, g6⟩ := q3
        exact ⟨by rw [z1]; exact g1, by rw [z2]; exact g2, by rw [z1]; exact g3, by rw [z3]; exact g4, by rw [z1, z3]; exact g5, by rw [z1, z3]; exact g6⟩
      · refine (pm.map (·.2)).nodup_iff.mpr ?_
        rw [List.map_cons]
        exact List.nodup_cons.mpr ⟨hm, R.nd⟩
      · cases pm.mem_iff.mp hp' with
        | head => exact hx
        | tail _ m => exact R.tup p' m
      · have := R.room
        rw [hl, z3, q4]
        omega
      · rw [hl, ← hs_len (P := P) (w := w), ← q9]
        unfold SetTable.fill
        rw [z1, z2]
    rw [hz]
    by_cases pl : t1.plain = true
    · first
        | refine wp_if_pos pl (wpAny_bind (mt_byValue hx fun c => ?_))
        | refine wpAny_bind (wp_if_pos pl (mt_byValue hx fun c => ?_))
      cases c with
      | true => exact fin t1 rfl rfl rfl rfl
      | false => exact fin { t1 with plain := false } rfl rfl rfl rfl
    · first
        | refine wp_if_neg pl (wpAny_bind (wpAny_pure ?_))
        | refine wpAny_bind (wp_if_neg pl (wpAny_pure ?_))
      exact fin t1 rfl rfl rfl rfl
end
end K14
set_option maxHeartbeats 4000000
/-! sets of tuples of ints and texts: set(list) -/
namespace K14
open PySem PySem.Spec PyProof.Rows L2
/-- what a set has of the first i items -/
structure Has (ks : List (Addr × List Key)) (i : Nat) (L : List (Addr × List Key)) : Prop where
  from_ : ∀ p ∈ L, p ∈ ks.take i
  all : ∀ p ∈ ks.take i, p.2 ∈ L.map (·.2)
  few : L.length ≤ i
theorem Has.none (ks : List (Addr × List Key)) : Has ks 0 [] := ⟨fun p h => (nomatch h), fun p h => (by simp at h), Nat.le_refl _⟩
theorem Has.next {ks L M : List (Addr × List Key)} {i : Nat} {x : Addr × List Key} (g : Has ks i L) (h : ks[i]? = some x) (old : x.2 ∈ L.map (·.2) → M = L) (new : x.2 ∉ L.map (·.2) → M.Perm ((x.1, x.2) :: L)) : Has ks (i + 1) M := by
  have e : ks.take (i + 1) = ks.take i ++ [x] := by
    rw [List.take_add_one, h]
    rfl
  by_cases c : x.2 ∈ L.map (·.2)
  · rw [old c]
    refine ⟨fun p hp => ?_, fun p hp => ?_, Nat.le_succ_of_le g.few⟩
    · rw [e]
      exact List.mem_append_left _ (g.from_ p hp)
    · rw [e] at hp
      rcases List.mem_append.mp hp with z | z
      · exact g.all p z
      · rw [List.mem_singleton.mp z]
        exact c
  · have pm := new c
    refine ⟨fun p hp => ?_, fun p hp => ?_, ?_⟩
    · rw [e]
      rcases List.mem_cons.mp (pm.mem_iff.mp hp) with z | z
      · rw [z]
        exact List.mem_append_right _ (List.mem_singleton.mpr rfl)
      · exact List.mem_append_left _ (g.from_ p z)
    · rw [(pm.map (·.2)).mem_iff, List.map_cons]
      rw [e] at hp
      rcases List.mem_append.mp hp with z | z
      · exact List.mem_cons_of_mem _ (g.all p z)
      · rw [List.mem_singleton.mp z]
        exact List.mem_cons_self
    · rw [pm.length_eq, List.length_cons]
      exact Nat.succ_le_succ g.few
section
variable {P : Program} {w : World} {A : Around} {E : Value → Shared → Prop} {s : Shared}
/-- all of h stands in h' -/
def Stays (h h' : Heap) : Prop := ∀ b o, h.get? b = some o → h'.get? b = some o
theorem mt_stays {h h' : Heap} {k : List Key} {b : Addr} (x : MT P w h k b) (hk : Stays h h') : MT P w h' k b := by
  obtain ⟨o, its, n, ho, r⟩ := x
  exact ⟨o, its, n, hk b o ho, r⟩
theorem SM.stays {h h' : Heap} {a : Addr} {L : List (Addr × List Key)} {es : Array (Int × Value)} {ep : Nat} {t : SetTable} (R : SM P w h a L es ep t) (ha : ∀ o, h.get? a = some o → h'.get? a = some o) (ht : ∀ p ∈ L, MT P w h' p.2 p.1) : SM P w h' a L es ep t := by
  obtain ⟨o, ho, r⟩ := R.ob
  exact { R with ob := ⟨o, ha o ho, r⟩, tup := ht }
/-- an empty set's object -/
abbrev bareSet (w : World) : Obj := { cls := .type "set", dict := none, data := .set #[] 0 (.fresh 0 0 (!w.params.followText "set-order")) }
theorem sm_bare {h : Heap} {a : Addr} (ho : h.get? a = some (bareSet w)) : SM P w h a [] #[] 0 (.fresh 0 0 (!w.params.followText "set-order")) where
  ob := ⟨_, ho, ⟨rfl, rfl, rfl⟩, rfl⟩
  ent := rfl
  tab := ⟨List.Pairwise.nil, rfl, rfl, .inl rfl, fun x hx => (by cases hx), fun i h j hi => (by simp [hsM] at hi)⟩
  nd := List.nodup_nil
  tup := fun p hp => nomatch hp
  led := (Bool.eq_false_or_eq_true (w.params.followText "set-order")).imp id fun h => by
    rw [h]
    rfl
  room := (by decide : 0 * 5 < 7 * 3)
  few := (by decide : 0 < 64)
/-- the items are put in, one by one -/
theorem fill_mt {I : Addr} {fp wr : List Addr} {G : Array GenState → Array GenState → Prop} {n : Nat} {Pv : Nat → Value → Prop} {St : Nat → Shared → Prop} {R : Result → Shared → Prop} (W : WalksS P w A.in1 I fp wr G n Pv St) (S : Addr) (hS : S ∉ fp)
    (ks : List (Addr × List Key)) (hn : n = ks.length) (few : ks.length < 64) (hval : ∀ i v, Pv i v → ∃ p, ks[i]? = some p ∧ v = .ref p.1) (h0 : Heap) (hk : ∀ p ∈ ks, MT P w h0 p.2 p.1) (h0S : h0.get? S = none) (h0w : ∀ b ∈ wr, h0.get? b = none) (hu : A.in1.units < cLine) :
    ∀ (k i : Nat) (s : Shared), i + k = n → St i s → Stays h0 s.heap → (∃ L es ep t, SM P w s.heap S L es ep t ∧ Has ks i L) →
      (∀ s' L es ep t, Moved (S :: wr) G s s' → SM P w s'.heap S L es ep t → Has ks n L → Stays h0 s'.heap → R (.ok (.ret .none)) s') → codeAny (model P w) A (.builtin "set.update.loop" ⟨[.ref S, .ref I], []⟩) R s := by
  have hSw : S ∉ wr := fun h => hS (W.sub _ h)
  have wide : ∀ b ∈ wr, b ∈ S :: wr := fun b hb => .tail _ hb
  have still : ∀ {s s' : Shared}, Moved wr G s s' → Stays h0 s.heap → Stays h0 s'.heap := fun mv st b o e => mv.heap b o (fun hb => by rw [h0w b hb] at e; cases e) (st b o e)
  have inks : ∀ {i L}, Has ks i L → ∀ p ∈ L, p ∈ ks := fun g p hp => List.mem_of_mem_take (g.from_ p hp)
  intro k
  induction k with
  | zero =>
    rintro i s rfl hst hkp ⟨L, es, ep, t, M, g⟩ hR
    refine codeAny_builtin F.entry_set_update_loop ?_
    rw [Around.under_plainId F.plain_set_update_loop _]
    show wpAny _ A.in1 (pyNext (.ref I) >>= _) _ _ s
    refine wpAny_bind (W.done s _ _ hst fun s' mv => ?_)
    show wpAny _ A.in1 (ret Value.none) _ _ s'
    have kp := still mv hkp
    exact wpAny_pure (hR s' L es ep t (mv.mono wide) (M.stays (fun o e => mv.heap S o hSw e) fun p hp => mt_stays (hk p (inks g p hp)) kp) g kp)
  | succ k ih =>
    rintro i s hik hst hkp ⟨L, es, ep, t, M, g⟩ hR
    refine codeAny_builtin F.entry_set_update_loop ?_
    rw [Around.under_plainId F.plain_set_update_loop _]
    show wpAny _ A.in1 (pyNext (.ref I) >>= _) _ _ s
    refine wpAny_bind (W.item i s _ _ (by omega) hst fun v s' hP hst' mv => ?_)
    obtain ⟨p, hp, rfl⟩ := hval i v hP
    have kp := still mv hkp
    have M1 : SM P w s'.heap S L es ep t := M.stays (fun o e => mv.heap S o hSw e) fun q hq => mt_stays (hk q (inks g q hq)) kp
    have hx : MT P w s'.heap p.2 p.1 := mt_stays (hk p (List.mem_of_getElem? hp)) kp
    have hi : i < ks.length := (List.getElem?_eq_some_iff.mp hp).1
    have hg := g.few
    show wpAny _ A.in1 (holding [Value.ref p.1] (setAdd S (.ref p.1)) >>= _) _ _ s'
    refine wpAny_bind (wpAny_holding ?_)
    unfold setAdd
    refine wpAny_holding (wpAny_bind (wpAny_pyHash_tuple hu hx ?_))
    refine add_mt (s := { s' with toks := s'.toks + (p.2.length + 1) }) M1 hx hu (by omega) fun b h' L' es' ep' t' sb M2 old new => ?_
    have st2 : Stays h0 h' := fun b o e => (sb.2 b (fun z => by rw [z, h0S] at e; cases e)).trans (kp b o e)
    refine wpAny_pure ⟨plainId_quiet F.plain_set_update_loop _, ih (i + 1) _ (by omega) (W.frame _ s' _ _ hst' (Nat.le_add_right _ _) fun b hb o e => ?_) st2 ⟨L', es', ep', t', M2, g.next hp old new⟩ fun s'' L3 es3 ep3 t3 mv3 M3 g3 st3 => ?_⟩
    · exact (sb.2 b fun z => hS (z ▸ hb)).trans e
    · refine hR s'' L3 es3 ep3 t3 (Moved.trans W.gtrans ((mv.mono wide).then_heap (Nat.le_add_right _ _) fun b o hb e => ?_) mv3) M3 g3 st3
      exact (sb.2 b fun z => hb (z ▸ List.mem_cons_self)).trans e
set_option maxHeartbeats 8000000 in
theorem set_mt {l : Addr} {items : Array Value} (ks : List (Addr × List Key)) {Q : Value → Shared → Prop} (hh : A.handled = none) (hl : s.heap.IsList l items) (hit : items.toList = ks.map fun p => Value.ref p.1) (hk : ∀ p ∈ ks, MT P w s.heap p.2 p.1) (few : ks.length < 64) (hu : A.units + 3 < cLine)
    (h : ∀ (h' : Heap) (tk : Nat) L es ep t, SM P w h' s.heap.objs.size L es ep t → Has ks ks.length L → Stays s.heap h' → Q (.ref s.heap.objs.size) { s with heap := h', toks := tk }) : wpAny (model P w) A (call (.type "set") [.ref l]) Q E s := by
  have hz : items.size = ks.length := by
    have q := congrArg List.length hit
    rwa [Array.length_toList, List.length_map] at q
  have called := F.called_set
  have told := F.typeCall_set_1 (.ref l)
  obtain ⟨⟨c, tl, mro⟩, made, under, apart, able⟩ : (∃ c tl, _) ∧ _ ∧ _ ∧ _ ∧ _ := ⟨called.mro, called.made, called.sub, called.notType, called.canCreate⟩
  refine wpAny_call (codeAny_of_tree (?_ : wpAny _ _ (callAny (.type "set") _) _ _ _))
  refine wpAny_pure ⟨Code.quiet_builtin _ (by decide +kernel), codeAny_builtin F.entry_type_call ?_⟩
  rw [Around.under_plain (weight_type_call_type "set" [.ref l] []) rfl]
  repeat (any_goals (first | assumption | wp_step))
  have hS : (s.heap.push (bareSet w)).get? s.heap.objs.size = some (bareSet w) := Heap.get?_push_size _ rfl
  refine codeAny_mono (code_set_led1 (.ref l) (E := E) (Q₁ := fun obj s₁ => obj = .ref s.heap.objs.size ∧ s₁ = { s with heap := s.heap.push (bareSet w) }) ⟨rfl, rfl⟩) fun r s₁ hr => ?_
  cases r with
  | error e => exact hr
  | ok fl =>
    cases fl with
    | ret obj =>
      obtain ⟨rfl, rfl⟩ := hr
      have isSet : Shared.TypeIs { s with heap := s.heap.push (bareSet w) } (.ref s.heap.objs.size) "set" := ⟨_, hS, rfl⟩
      have at_ := called.init.lookup
      have bound := called.init.bind (.ref s.heap.objs.size)
      repeat (any_goals (first | assumption | wp_step))
      refine codeAny_mono (codeAny_call_builtin (R := wants (fun r s₂ => r = .none ∧ ∃ h' tk L es ep t, s₂ = { s with heap := h', toks := tk } ∧ SM P w h' s.heap.objs.size L es ep t ∧ Has ks ks.length L ∧ Stays s.heap h') E) called.init.plain F.entry_set_init (check_set_init_1 isSet ?_)) fun r₂ s₂ hr₂ => ?_
      · obtain ⟨⟨ocls, odict, odata, oslots⟩, hol, hcl, nl, hdl⟩ := hl
        simp only at hcl hdl
        subst hcl
        subst hdl
        have hol' : (s.heap.push (bareSet w)).get? l = some { cls := .type "list", dict := odict, data := .seq items nl, slots := oslots } := Heap.get?_push_of_some _ hol
        have hl1 : (s.heap.push (bareSet w)).IsList l items := ⟨_, hol', rfl, nl, rfl⟩
        have calm3 : A.in1.in1.in1.handled = none := by simp [hh]
        have below := Heap.lt_size hol
        have noSet := F.sub_list_set
        have noFroz := F.sub_list_frozenset
        have noDict : (Value.type "list" == Value.type "dict") = false := by decide
        unfold Builtin.«set.__init__» noKeywords Builtin.Frozenset.updateFrom
        generalize it : pyIter = PI
        wp_walk
        subst it
        refine wpAny_pyIter_list hl1 (wpAny_bind (wpAny_runValue ?_))
        have hI : (s.heap.push (bareSet w)).objs.size = s.heap.objs.size + 1 := Heap.size_push ..
        have hneI : l ≠ (s.heap.push (bareSet w)).objs.size := by
          rw [hI]
          exact Nat.ne_of_lt (Nat.lt_succ_of_lt below)
        have hSf : s.heap.objs.size ∉ [(s.heap.push (bareSet w)).objs.size, l] := by
          rw [hI]
          simp only [List.mem_cons, List.mem_singleton, List.not_mem_nil, or_false, not_or]
          exact ⟨Nat.ne_of_lt (Nat.lt_succ_self _), Nat.ne_of_gt below⟩
        have hval : ∀ (i : Nat) (v : Value), items[i]? = some v → ∃ p : Addr × List Key, ks[i]? = some p ∧ v = .ref p.1 := fun i v hv => by
          rw [← Array.getElem?_toList, hit, List.getElem?_map, Option.map_eq_some_iff] at hv
          obtain ⟨p, h1, h2⟩ := hv
          exact ⟨p, h1, h2.symm⟩
        have empty : ∀ b, s.heap.objs.size ≤ b → s.heap.get? b = none := fun b hb => Heap.get?_none_of_le hb
        refine fill_mt ((Walks.list calm3 _ l hneI items).toS) s.heap.objs.size hSf ks hz few hval s.heap hk (empty _ (Nat.le_refl _)) (fun b hb => empty b (by
            rw [List.mem_singleton.mp hb, hI]
            exact Nat.le_succ _)) hu items.size 0 _ (Nat.zero_add _)
          ⟨⟨_, Heap.get?_push_size _ rfl, rfl, rfl⟩, (hl1.push _)⟩ (fun b o e => Heap.get?_push_of_some _ (Heap.get?_push_of_some _ e)) ?start ?done
        case start => exact ⟨[], #[], 0, _, sm_bare (Heap.get?_push_of_some _ hS), Has.none ks⟩
        case done =>
          intro s' L es ep t mv M g st
          obtain ⟨h', g2, d', tk', os'⟩ := s'
          obtain rfl : g2 = s.gens := mv.gens
          obtain rfl : d' = s.drawn := mv.drawn
          obtain rfl : os' = s.os := mv.os
          show wpAny _ _ _ _ _ _
          refine wpAny_pure ?_
          show wpAny _ _ (ret Value.none) _ _ _
          rw [hz] at g
          exact wpAny_pure ⟨rfl, h', tk', L, es, ep, t, rfl, M, g, st⟩
      · cases r₂ with
        | error e => exact hr₂
        | ok fl₂ =>
          cases fl₂ with
          | ret r =>
            obtain ⟨rfl, h', tk, L, es, ep, t, rfl, M, g, st⟩ := hr₂
            repeat (any_goals (first | assumption | wp_step))
            exact h _ _ _ _ _ _ M g st
          | _ => exact hr₂.elim
    | _ => exact hr.elim
end
end K14
set_option maxHeartbeats 4000000
/-! sorted(set(tuples of ints and texts)) -/
namespace K14
open PySem L2 Evl
/-- a tuple of keys as data -/
def kD : Key → PyData
  | .inl i => .int i
  | .inr s => .str s
def enc (k : List Key) : PyData := .tuple (k.map kD)
/-- sorted(set(xs)) -/
def tSortSet (K : PySem.W.Frag) (ta : TE) : TE := fun σ H Q => ta σ H fun x H1 => ∃ (l : Addr) (ks : List (Addr × List Key)), x = V.ref l ∧ SqL K H1 l (ks.map fun p => V.ref p.1) ∧ (∀ p ∈ ks, H1 p.1 = some (.tup (p.2.map kV))) ∧ PySem.W.AllAlike (ks.map fun p => enc p.2) ∧ (∀ p ∈ ks, p.2 ≠ []) ∧ ks.length < 64 ∧
  ∀ q (L : List (Addr × List Key)), H1 q = none → (∀ p ∈ L, p ∈ ks) → (∀ p ∈ ks, p.2 ∈ L.map (·.2)) → (L.map (·.2)).Nodup → L.Pairwise (fun p q => PySem.W.dataLe false (fun b : Addr × List Key => enc b.2) p q = true) → Q (.ref q) (upd H1 q (.lst (L.map fun p => V.ref p.1)))
theorem perm_map_inv {α β : Type} {f : α → β} {vs ws : List β} (h : vs.Perm ws) : ∀ L : List α, ws = L.map f → ∃ bs : List α, bs.Perm L ∧ vs = bs.map f := by
  induction h with
  | nil =>
    intro L e
    exact ⟨L, .refl _, e⟩
  | cons x _ ih =>
    intro L e
    cases L with
    | nil => cases e
    | cons y L =>
      rw [List.map_cons] at e
      obtain ⟨e1, e2⟩ := List.cons.inj e
      obtain ⟨bs, h1, h2⟩ := ih L e2
      exact ⟨y :: bs, h1.cons y, by rw [e1, h2]; rfl⟩
  | swap x y l =>
    intro L e
    cases L with
    | nil => cases e
    | cons a L =>
      cases L with
      | nil => cases e
      | cons b L =>
        rw [List.map_cons, List.map_cons] at e
        obtain ⟨e1, e2⟩ := List.cons.inj e
        obtain ⟨e2, e3⟩ := List.cons.inj e2
        exact ⟨b :: a :: L, .swap .., by rw [e1, e2, e3]; rfl⟩
  | trans _ _ ih1 ih2 =>
    intro L e
    obtain ⟨bs, h1, h2⟩ := ih2 L e
    obtain ⟨cs, h3, h4⟩ := ih1 bs h2
    exact ⟨cs, h3.trans h1, h4⟩
section
variable {P : Program} {w : World} {A : Around} {E : Value → Shared → Prop} {s : Shared}
theorem items_read {h : Heap} {k : List Key} {vs : List Value} (x : ItemsAre (mixKind P w) k vs) : ReadsAll h vs (k.map kD) [] := by
  induction x with
  | nil => exact .nil
  | cons h1 _ ih =>
    rcases keyIs_shape h1 with ⟨i, t, rfl, rfl⟩ | ⟨x, t, rfl, rfl⟩
    · exact .cons (.int i t) ih
    · exact .cons (.str x t) ih
theorem mt_read {h : Heap} {k : List Key} {b : Addr} (x : MT P w h k b) : Reads h (.ref b) (enc k) [] := by
  obtain ⟨o, its, n, ho, hc, hd, hi⟩ := x
  exact .tuple ho hc hd (items_read hi)
theorem enc_depth (k : List Key) : (enc k).depth = 1 := by
  have h : PyData.depthAll (k.map kD) = 0 := by
    induction k with
    | nil => simp [PyData.depthAll]
    | cons a k ih =>
      cases a <;> simp [kD, PyData.depthAll, PyData.depth, ih]
  simp [enc, PyData.depth, h]
theorem refs_are : ∀ bs : List (Addr × List Key), PySem.W.EachIs (fun v (p : Addr × List Key) => v = Value.ref p.1) (bs.map fun p => Value.ref p.1) bs
  | [] => .nil
  | _ :: bs => .cons rfl (refs_are bs)
theorem are_refs : ∀ {out : List Value} {bs : List (Addr × List Key)}, PySem.W.EachIs (fun v (p : Addr × List Key) => v = Value.ref p.1) out bs → out = bs.map fun p => Value.ref p.1
  | _, _, .nil => rfl
  | _, _, .cons h t => by rw [h, are_refs t]; rfl
theorem each_of {α : Type} {S : Value → α → Prop} : ∀ {bs : List α} {f : α → Value}, (∀ p ∈ bs, S (f p) p) → PySem.W.EachIs S (bs.map f) bs
  | [], _, _ => .nil
  | p :: bs, f, h => .cons (h p (.head _)) (each_of fun q hq => h q (.tail _ hq))
theorem sorted_mt {a : Addr} {L : List (Addr × List Key)} {es : Array (Int × Value)} {ep : Nat} {t : SetTable} {Q : Value → Shared → Prop} (R : SM P w s.heap a L es ep t) (hh : A.handled = none) (hu : A.units + 8 < cLine) (al : PySem.W.AllAlike (L.map fun p => enc p.2)) (ne : ∀ p ∈ L, p.2 ≠ [])
    (hQ : ∀ s' p (out : Array Value) (c : Nat) (M : List (Addr × List Key)), Stays s.heap s'.heap → s'.gens = s.gens → s'.os = s.os → s.heap.objs.size ≤ p → s'.heap.get? p = some (PyProof.Rows.seqObj "list" out c) → out.toList = M.map (fun q => Value.ref q.1) → M.Perm L →
      M.Pairwise (fun p q => PySem.W.dataLe false (fun b : Addr × List Key => enc b.2) p q = true) → Q (.ref p) s') : wpAny (model P w) A (call (.builtin "sorted") [.ref a]) Q E s := by
  obtain ⟨o, ho, hex, hd⟩ := R.ob
  have hz := R.size
  have few := R.few
  refine Calls.call_function_entry PyProof.Rows.kind_sorted PyProof.Rows.plain_sorted PyProof.Rows.entry_sorted (PyProof.Rows.args_sorted1 _) ?_
  unfold Builtin.«sorted»
  refine wpAny_bind (m := checkCount "sorted" 1 1 _) (wpAny_pure ?_)
  refine wpAny_bind (collect_set (A := A.in1) hh ⟨o, ho, hex.1, hd⟩ R.fits (by unfold scanBound; omega) R.tab.ris R.led fun s1 vs st hz1 g1 o1 pm => ?_)
  obtain ⟨bs, pb, rfl⟩ := perm_map_inv pm L (by rw [R.ent, entM, List.map_map] <;> rfl)
  have lb := pb.length_eq
  have alb : PySem.W.AllAlike (bs.map fun p => enc p.2) := fun d hd e he => al d ((pb.map _).mem_iff.mp hd) e ((pb.map _).mem_iff.mp he)
  have sb : PySem.W.Sortable (bs.map fun p => enc p.2) := .inl fun d hd => by
    obtain ⟨p, hp, rfl⟩ := List.mem_map.mp hd
    have := ne p (pb.mem_iff.mp hp)
    cases q : p.2 with
    | nil => exact absurd q this
    | cons x r => exact ⟨kD x, r.map kD, rfl⟩
  refine wpAny_bind (wpAny_newList ?_ (by rw [List.length_map, sizeLine_eq]; omega))
  have hl : (s1.heap.push (PyProof.Rows.seqObj "list" (bs.map fun p => Value.ref p.1).toArray 0)).get? s1.heap.objs.size = some (PyProof.Rows.seqObj "list" (bs.map fun p => Value.ref p.1).toArray 0) := Heap.get?_push_size _ rfl
  refine wpAny_bind (wpAny_holding (PySem.W.list_sort_data (enc := fun p : Addr × List Key => enc p.2) (s := { s1 with heap := s1.heap.push (PyProof.Rows.seqObj "list" (bs.map fun p => Value.ref p.1).toArray 0) }) hl (refs_are bs)
    (each_of fun p hp => ⟨[], mt_read (mt_stays (R.tup p (pb.mem_iff.mp hp)) fun b o e => Heap.get?_push_of_some _ (st b o e)), fun h => nomatch h⟩) alb sb (by rw [sizeLine_eq]; omega) (fun p _ => by rw [enc_depth]; show A.units + 1 + 1 + 1 < cLine; omega) fun out ho eo => ?_))
  obtain ⟨c, hc⟩ := PyProof.Rows.sortedHeap_at (vs := bs.map fun p => Value.ref p.1) (out := out.toArray) hl
  have tot := PySem.W.sortLe_total (PyProof.Rows.listOrd PyProof.Rows.itemOrd) false fun b : Addr × List Key => PySem.W.keyToks (enc b.2)
  have pw := List.pairwise_mergeSort (le := PySem.W.dataLe false fun b : Addr × List Key => enc b.2) (fun a b c => tot.trans a b c) (fun a b => by rw [Bool.or_eq_true]; exact tot.total a b) bs
  refine wpAny_pure ⟨_, rfl, hQ _ s1.heap.objs.size out.toArray c _ (fun b u e => ?_) g1 o1 hz1 hc (are_refs eo) ((List.mergeSort_perm bs _).trans pb) pw⟩
  have q := st b u e
  have lt := Heap.lt_size q
  show (PyProof.Rows.sortedHeap (s1.heap.push _) s1.heap.objs.size _ _).get? b = some u
  rw [PyProof.Rows.sortedHeap_old (Nat.ne_of_lt lt) (by rw [PyProof.Rows.size_push']; exact Nat.lt_succ_of_lt lt)]
  exact Heap.get?_push_of_some _ q
end
theorem vals_refs : ∀ L : List (Addr × List Key), Vals (L.map fun p => V.ref p.1) (L.map fun p => Value.ref p.1)
  | [] => .nil
  | _ :: L => .cons rfl (vals_refs L)
theorem refs_vals : ∀ {ks : List (Addr × List Key)} {us : List Value}, Vals (ks.map fun p => V.ref p.1) us → us = ks.map fun p => Value.ref p.1
  | [], _, .nil => rfl
  | p :: ks, _, .cons r t => by
    cases r
    rw [refs_vals t]
    rfl
theorem pe_sortSet {X : Cx} {a : Expr} {ta : TE} {p p2 q pos : Pos} (K : PySem.W.Frag) (hc : X.calm = true) (hu : X.A.units + 64 < cLine) (hg : Gl X "sorted") (hm : X.mg "sorted" = none) (hg2 : Gl X "set") (hm2 : X.mg "set" = none) (ha : PE X a ta)
    (na : starEach [a] X.env = (false, eval a X.env) :: starEach [] X.env := by rfl) (eK : X.K = K := by rfl) : PE X (.Call (.Name "sorted" p) [.Call (.Name "set" p2) [a] [] q] [] pos) (tSortSet K ta) where
  run pins s σ H Q I h := by
    subst eK
    refine PyProof.Rows.Call_ (ld_blt I hg hm PyProof.Rows.boot_sorted (PyProof.Rows.callWith_builtin1 (PyProof.Rows.args_cons ?_ rfl) rfl rfl))
    refine PyProof.Rows.Call_ (ld_blt I hg2 hm2 PyProof.Rows.boot_set ?_)
    refine PyProof.Rows.callWith_type1 (PyProof.Rows.args_cons (thn (ha.run pins s σ H _ I h) fun v s1 got => PyProof.Rows.args_nil ?_) na) na rfl
    obtain ⟨x, H1, I1, r1, l, ks, rfl, hl, hk, al, ne, few, q⟩ := got
    cases r1
    obtain ⟨its, rv, pl, hz⟩ := I1.list hl
    refine set_mt (P := X.prog) (w := X.w) ks (I1.ok.hd hc) pl.isList (by simpa using refs_vals rv) (fun p hp => key_of I1.hok (hk p hp)) few (by omega) fun h' tk L es ep t M g st => PyProof.Rows.args_nil ?_
    have sub : ∀ p ∈ L, p ∈ ks := fun p hp => List.mem_of_mem_take (g.from_ p hp)
    have alL : PySem.W.AllAlike (L.map fun p => enc p.2) := fun d hd e he => by
      obtain ⟨p, hp, rfl⟩ := List.mem_map.mp hd
      obtain ⟨r, hr, rfl⟩ := List.mem_map.mp he
      exact al _ (List.mem_map.mpr ⟨p, sub p hp, rfl⟩) _ (List.mem_map.mpr ⟨r, sub r hr, rfl⟩)
    obtain ⟨o, ho, _, _⟩ := M.ob
    have lt := Heap.lt_size ho
    refine sorted_mt (s := { s1 with heap := h', toks := tk }) M (I1.ok.hd hc) (by omega) alL (fun p hp => ne p (sub p hp)) fun s' p out c N st2 g2 o2 hp ho2 e pm pw => ?_
    have all : Stays s1.heap s'.heap := fun b o e => st2 b o (st b o e)
    have hp2 : s1.heap.objs.size ≤ p := Nat.le_trans (Nat.le_of_lt lt) hp
    have lN : N.length < 64 := by rw [pm.length_eq]; exact M.few
    have hn : H1 p = none := I1.hok.fresh hp2
    have hlen : (N.map fun q => V.ref q.1).length ≤ sizeLine := by rw [List.length_map, sizeLine_eq]; omega
    have hv : Vals (N.map fun q => V.ref q.1) out.toList := by rw [e]; exact vals_refs N
    have J : L2.Inv X pins σ (upd H1 p (.lst (N.map fun q => V.ref q.1))) { s1 with heap := s'.heap, gens := s'.gens, drawn := s'.drawn, toks := s'.toks } :=
      I1.call (ch := []) (Un.laid all hp2 hn) (I1.hok.laid all hp2 ⟨hlen, out.toList, c, hv, ho2⟩) (by rw [g2]; exact I1.bare) (fun _ z => nomatch z)
    have es' : s' = { s1 with heap := s'.heap, gens := s'.gens, drawn := s'.drawn, toks := s'.toks } := by
      cases s'
      cases s1
      cases o2
      rfl
    rw [es']
    refine ⟨.ref p, _, J, rfl, q p N hn (fun r hr => sub r (pm.mem_iff.mp hr)) (fun r hr => ?_) ((pm.map (·.2)).nodup_iff.mpr M.nd) pw⟩
    exact (pm.map (·.2)).mem_iff.mpr (g.all r (by rw [List.take_length]; exact hr))
end K14
set_option maxHeartbeats 4000000
namespace K14
open PySem L2 Evl
local macro_rules | `(tactic| walk_at "ev") => `(tactic| repeat' (first
  | exact ev_var rfl | exact ev_c | exact ea_nil | apply ea_cons | exact rv_I0 | apply ev_op | apply ev_cb | apply ev_un | exact ru_neg
  | exact rc_isiInt | exact rc_isiBool | exact rc_isiStr))
/-- a dict of the numbers us, each with its v -/
def nK (us : List Nat) (v : Nat → V) : List (Key × V) := nD (us.map fun s => (s, v s))
theorem nK_fst (us : List Nat) (v : Nat → V) : (us.map fun s => ((s, v s) : Nat × V)).map (·.1) = us := by
  rw [List.map_map]
  exact List.map_id us
theorem nK_val {us : List Nat} {v : Nat → V} {s : Nat} (hn : us.Nodup) : valV (nK us v) (ik s) = if s ∈ us then some (v s) else none := by
  by_cases c : s ∈ us
  · rw [if_pos c]
    exact nD_some (by rw [nK_fst]; exact hn) (List.mem_map.mpr ⟨s, c, rfl⟩)
  · rw [if_neg c]
    exact nD_none (by rw [nK_fst]; exact c)
theorem nK_fill {us : List Nat} {v : Nat → V} (hn : us.Nodup) : fillK (((List.range us.length).filter fun _ => true).map fun i => (ik (us.getD i 0), v (us.getD i 0))) = nK us v := by
  have e : (((List.range us.length).filter fun _ => true).map fun i => (ik (us.getD i 0), v (us.getD i 0))) = nK us v := by
    rw [List.filter_eq_self.mpr (fun _ _ => rfl)]
    refine List.ext_getElem (by simp [nK, nD]) fun i h1 h2 => ?_
    simp at h1
    simp [nK, nD, List.getD_eq_getElem?_getD, List.getElem?_eq_getElem h1]
  rw [e, fillK_nodup]
  exact nD_keys _ (by rw [nK_fst]; exact hn)
theorem nK_put {us : List Nat} {v : Nat → V} {s : Nat} (h : s ∉ us) : putK (nK us v) (ik s) (v s) = nK (us ++ [s]) v := by
  unfold nK
  rw [nD_put (by rw [nK_fst]; exact h), List.map_append, List.map_singleton]
theorem nK_congr {us : List Nat} {v u : Nat → V} (h : ∀ s ∈ us, v s = u s) : nK us v = nK us u := by
  unfold nK
  congr 1
  exact List.map_congr_left fun s hs => by rw [h s hs]
theorem nK_len {us : List Nat} {v : Nat → V} : (nK us v).length = us.length := by simp [nK, nD]
theorem nK_vals {us : List Nat} {v : Nat → V} : (nK us v).map (·.2) = us.map v := by simp [nK, nD, Function.comp_def]
section
variable {P : Program} {w : World} {K : PySem.W.Frag} {mg : Str → Option Value} {base : Heap}
variable {σ σ1 σ2 : L2.St} {H H' : Hp} {ta tb tc te tl tk td : TE} {x y z v : V} {D : Ends} {tz tu tw : TS} {g : TG} {tt : TT} {wi : TI} {tA : TA}
theorem ea_star {p : Addr} {xs ys : List V} (h : Ev te σ H (.ref p)) (hx : H p = some (.lst xs)) (hr : EvA tA σ H ys) : EvA (StX.tStar K te tA) σ H (xs ++ ys) := fun H1 e Q q =>
  h H1 e _ fun H2 e2 => ⟨p, xs, rfl, .inr (sq_of ((e.trans e2) _ _ hx)), hr H2 (e.trans e2) _ fun H3 e3 => q H3 (e2.trans e3)⟩
theorem s_dputU {a : Addr} {xs : List V} (hv : EvU tc σ H xs) (ho : Ev ta σ H (.ref a)) (hi : Ev tb σ H y) (k : ∀ p H1, H p = none → Ex H H1 → H1 p = some (.tup xs) → ∃ H2, DPut H1 a y (.ref p) H2 ∧ D.nx σ H2) : sDPut ta tb tc D σ H :=
  hv H (Ex.refl H) _ fun p H1 hp e1 h1 => ho H1 e1 _ fun H2 e2 => hi H2 (e1.trans e2) _ fun H3 e3 => by
    obtain ⟨H4, h, n⟩ := k p H3 hp ((e1.trans e2).trans e3) (e3 _ _ (e2 _ _ h1))
    exact ⟨a, H4, rfl, h, n⟩
/-- arrows[s], whatever arrows is -/
theorem ei_row {a : Addr} {rows : Rows} {s : Nat} (h1 : Ev ta σ H (.ref a)) (h2 : Ev tb σ H (.int s)) (hG : Grid H a rows) (hs : s < rows.length) :
    EvI (iOr (iList K (tOrE (tOp (rIxL K) ta tb) (tOp (rIxT K) ta tb))) (iTup K (tOrE (tOp (rIxL K) ta tb) (tOp (rIxT K) ta tb)))) σ H (rows.getD s []).length (fun i x _ => ∃ o, (rows.getD s [])[i]? = some o ∧ x = gV o) := by
  obtain ⟨ps, p, hA, hp, hrow⟩ := hG.get hs
  have val : Ev (tOrE (tOp (rIxL K) ta tb) (tOp (rIxT K) ta tb)) σ H (.ref p) := by
    rcases hA with hA | hA
    · exact Ev.right (ev_op h1 h2 (rv_ixT (i := (s : Int)) (st_of hA) (at_of rfl (map_get V.ref hp))))
    · exact Ev.left (ev_op h1 h2 (rv_ixL (i := (s : Int)) (sq_of hA) (at_of rfl (map_get V.ref hp))))
  have cv : ∀ {wi : TI}, EvI wi σ H ((rows.getD s []).map gV).length (fun i x _ => ((rows.getD s []).map gV)[i]? = some x) → EvI wi σ H (rows.getD s []).length (fun i x _ => ∃ o, (rows.getD s [])[i]? = some o ∧ x = gV o) := fun {wi} h H1 e R k =>
    h H1 e R fun J H2 G e2 w hG => by
      rw [List.length_map] at w
      exact k J H2 G e2 (w.mono (fun _ h => h) fun i H x H' _ _ q => ⟨q.1, get_map q.2.1, fun D hD => get_map q.2.1⟩) hG
  rcases hrow with hrow | hrow
  · exact EvI.right (cv (ei_T val (st_of hrow)))
  · exact EvI.left (cv (ei_L val (sq_of hrow)))
/-- {stand: .. for stand in stands} -/
theorem er_over {c : Addr} {us : List Nat} {i j : Nat} {vs : List Nat} (v : Nat → V) (hi : σ[i]? = some (some (.ref c))) (hc : H c = some (.lst (us.map fun (k : Nat) => V.int k))) (hn : us.Nodup) (hz : us.length ≤ 40000) (hw : ∀ x, wipe ((wipe σ vs).set j (some x)) vs = wipe σ vs) (hb : ∀ x, ((wipe σ vs).set j (some x))[j]? = some (some x))
    (hv : ∀ m ∈ us, ∀ H1, Ex H H1 → Ev te ((wipe σ vs).set j (some (.int (m : Nat)))) H1 (v m)) : EvR (tDcG (.dK []) (iList K (tVar i)) (gName j) tYes (fun D => tEmit D (tVar j) te) vs) σ H (fun H p => H p = some (.dK (nK us v))) := by
  have h := ed_comp (vs := vs) (g := gName j) (tt := tYes) (tk := tVar j) (te := te) (fun _ => true) (fun i => ik (us.getD i 0)) (fun i => v (us.getD i 0)) (ei_L (K := K) (ev_var hi) (sq_of hc)) (by rw [List.length_map]; exact hz) (fun i x H1 e hi hy => ⟨_, eg_name, hw x, et_yes, fun _ => ⟨?_, ?_⟩⟩)
  · rw [List.length_map, nK_fill (v := v) hn] at h
    exact h
  · obtain ⟨m, hm, rfl⟩ := get_map hy
    rw [kV_ik, getD_of hm]
    exact ev_var (hb _)
  · obtain ⟨m, hm, rfl⟩ := get_map hy
    rw [getD_of hm]
    exact hv m (List.mem_of_getElem? hm) H1 e
theorem ev_listVals {d : Addr} {kvs : List (Key × V)} (h : Ev td σ H (.ref d)) (hd : H d = some (.dK kvs)) : EvL (tListVals td) σ H (kvs.map (·.2)) := fun H1 e Q q =>
  h H1 e _ fun H2 e2 => ⟨d, kvs, rfl, (e.trans e2) _ _ hd, fun l hl => q l _ (fresh_back e2 hl) (e2.trans (Ex.new hl)) upd_same⟩
theorem q_par {i j : Nat} (h : EvA tA σ H [x, y]) (k : ∀ H1, Ex H H1 → tz D ((σ.set i (some x)).set j (some y)) H1) : tSeq (tPar i j tA) tz D σ H := h H (Ex.refl H) _ fun H1 e => ⟨x, y, rfl, k H1 e⟩
theorem s_par {i j : Nat} (h : EvA tA σ H [x, y]) (k : ∀ H1, Ex H H1 → D.nx ((σ.set i (some x)).set j (some y)) H1) : tPar i j tA D σ H := h H (Ex.refl H) _ fun H1 e => ⟨x, y, rfl, k H1 e⟩
theorem ev_lenSet {ns : List Int} (h : EvL te σ H (ns.map V.int)) (hl : ns.length ≤ 1000) : Ev (tLenSet K te) σ H (.int (diff ns).length) := fun H1 e Q q =>
  h H1 e _ fun p H2 _ e2 h2 => ⟨p, ns, rfl, sq_of h2, hl, q H2 e2⟩
/-- kinds.get(goal, -1) -/
theorem ev_kget {d : Addr} {us : List Nat} {f : Nat → Nat} {o : Option Nat} (h1 : Ev td σ H (.ref d)) (h2 : Ev tk σ H (gV o)) (h3 : Ev te σ H (.int (-1))) (hd : H d = some (.dK (nK us fun s => .int (f s : Nat)))) (hn : us.Nodup) : Ev (tDGetN2 td tk te) σ H (.int (kO us f o)) := fun H1 e Q q =>
  h1 H1 e _ fun H2 e2 => ⟨d, rfl, .inl ⟨_, .inl ((e.trans e2) _ _ hd)⟩, h2 H2 (e.trans e2) _ fun H3 e3 => h3 H3 ((e.trans e2).trans e3) _ fun H4 e4 => by
    have hd4 := (((e.trans e2).trans e3).trans e4) _ _ hd
    have e24 := (e2.trans e3).trans e4
    cases o with
    | none => exact ⟨none, .inr ⟨rfl, rfl, _, .inl hd4⟩, q H4 e24⟩
    | some t =>
      refine ⟨_, .inl (DGet.k (k := ik t) hd4), ?_⟩
      rw [nK_val hn]
      by_cases c : t ∈ us
      · rw [if_pos c]
        show Q (.int (f t : Nat)) H4
        have := q H4 e24
        simp only [kO, c, if_true] at this
        exact this
      · rw [if_neg c]
        show Q (.int (-1)) H4
        have := q H4 e24
        simp only [kO, c, if_false] at this
        exact this⟩
def mK (rows : Rows) (us : List Nat) (f : Nat → Nat) (s : Nat) : List Key := (mark rows us f s).map Sum.inl
theorem mK_V (rows : Rows) (us : List Nat) (f : Nat → Nat) (s : Nat) : (mK rows us f s).map kV = (mark rows us f s).map V.int := by
  rw [mK, List.map_map]
  rfl
theorem mK_inj {rows : Rows} {us : List Nat} {f : Nat → Nat} {s t : Nat} (h : mK rows us f s = mK rows us f t) : mark rows us f s = mark rows us f t := by
  have : ∀ {l m : List Int}, l.map (Sum.inl (β := Str)) = m.map Sum.inl → l = m := fun {l m} h => by
    have := congrArg (List.map fun k : Key => match k with | .inl i => i | .inr _ => 0) h
    simpa [Function.comp_def] using this
  exact this h
/-- the end of a turn -/
theorem kinds_turn {rows : Rows} {us : List Nat} {f : Nat → Nat} {mA : Nat → Addr} {L : List (Addr × List Key)} (h1 : ∀ p ∈ L, p ∈ us.map fun s => (mA s, mK rows us f s)) (h2 : ∀ p ∈ us.map (fun s => (mA s, mK rows us f s)), p.2 ∈ L.map (·.2)) (h3 : (L.map (·.2)).Nodup) :
    ∃ g : Nat → Nat, (∀ s ∈ us, g s < L.length ∧ (L.map (·.2))[g s]? = some (mK rows us f s)) ∧ Next rows us f g ∧ ValsOf (fun s => (g s : Int)) us ((List.range L.length).map fun (i : Nat) => (i : Int)) := by
  have ex : ∀ s, ∃ i, s ∈ us → (L.map (·.2))[i]? = some (mK rows us f s) := fun s => by
    by_cases c : s ∈ us
    · obtain ⟨i, hi⟩ := List.getElem?_of_mem (h2 _ (List.mem_map.mpr ⟨s, c, rfl⟩))
      exact ⟨i, fun _ => hi⟩
    · exact ⟨0, fun c' => absurd c' c⟩
  obtain ⟨g, hg⟩ := Classical.axiomOfChoice ex
  have lt : ∀ s ∈ us, g s < L.length := fun s hs => by
    have := (List.getElem?_eq_some_iff.mp (hg s hs)).1
    rwa [List.length_map] at this
  refine ⟨g, fun s hs => ⟨lt s hs, hg s hs⟩, fun s hs t ht => ⟨fun e => ?_, fun e => ?_⟩, ⟨?_, fun a => ⟨fun ha => ?_, ?_⟩⟩⟩
  · have := hg s hs
    rw [e, hg t ht] at this
    exact (mK_inj (Option.some.inj this)).symm
  · have a := hg s hs
    have b := hg t ht
    rw [mK, ← e, ← mK] at b
    obtain ⟨ha, ea⟩ := List.getElem?_eq_some_iff.mp a
    obtain ⟨hb, eb⟩ := List.getElem?_eq_some_iff.mp b
    exact nodup_inj h3 (ea.trans eb.symm)
  · exact nodup_map_inj (fun a _ b _ e => by omega) List.nodup_range
  · obtain ⟨i, hi, rfl⟩ := List.mem_map.mp ha
    have hi := List.mem_range.mp hi
    obtain ⟨s, hs, e⟩ := List.mem_map.mp (h1 _ (List.getElem_mem hi))
    refine ⟨s, hs, ?_⟩
    obtain ⟨ha, ea⟩ := List.getElem?_eq_some_iff.mp (hg s hs)
    have e2 : (L.map (·.2))[i]'(by rw [List.length_map]; exact hi) = mK rows us f s := by
      rw [List.getElem_map, ← e]
    have : g s = i := nodup_inj h3 (ea.trans e2.symm)
    rw [this]
  · rintro ⟨s, hs, rfl⟩
    exact List.mem_map.mpr ⟨g s, List.mem_range.mpr (lt s hs), rfl⟩
theorem er_dnewK : EvR tDNewK σ H (fun H p => H p = some (.dK [])) := fun H1 _ Q q p hp => q p _ hp (Ex.new hp) upd_same
def Sorted (ks L : List (Addr × List Key)) : Prop := (∀ p ∈ L, p ∈ ks) ∧ (∀ p ∈ ks, p.2 ∈ L.map (·.2)) ∧ (L.map (·.2)).Nodup ∧ L.Pairwise fun p q => PySem.W.dataLe false (fun b : Addr × List Key => enc b.2) p q = true
theorem er_sortSet {ks : List (Addr × List Key)} (h : EvL te σ H (ks.map fun p => V.ref p.1)) (hk : ∀ p ∈ ks, H p.1 = some (.tup (p.2.map kV))) (al : PySem.W.AllAlike (ks.map fun p => enc p.2)) (ne : ∀ p ∈ ks, p.2 ≠ []) (hl : ks.length < 64) :
    EvR (tSortSet K te) σ H (fun H' q => ∃ L : List (Addr × List Key), H' q = some (.lst (L.map fun p => V.ref p.1)) ∧ Sorted ks L) := fun H1 e Q q =>
  h H1 e _ fun l H2 _ e2 h2 => ⟨l, ks, rfl, sq_of h2, fun p hp => (e.trans e2) _ _ (hk p hp), al, ne, hl, fun a L ha l1 l2 l3 l4 => q a _ (fresh_back e2 ha) (e2.trans (Ex.new ha)) ⟨L, upd_same, l1, l2, l3, l4⟩⟩
theorem alike_mK (rows : Rows) (us : List Nat) (f : Nat → Nat) (s t : Nat) : PySem.W.alike (enc (mK rows us f s)) (enc (mK rows us f t)) = true := by
  have : ∀ s, enc (mK rows us f s) = .tuple ((mark rows us f s).map .int) := fun s => by
    rw [enc, mK, List.map_map]
    rfl
  rw [this, this, PySem.W.alike]
  exact PySem.W.alike_ints _ _
def sp_kinds_of : Sp := fun vs H Q _ => ∃ (a b c : Addr) (rows : Rows) (ends us : List Nat), vs = [.ref a, .ref b, .ref c] ∧ Grid H a rows ∧ (∀ r ∈ rows, r.length ≤ 100) ∧ H b = some (.dK (nS ends)) ∧ H c = some (.lst (us.map fun (k : Nat) => V.int k)) ∧ us.Nodup ∧ (∀ k ∈ us, k < rows.length) ∧ us.length < 60 ∧
  ∀ p H' f, H p = none → Ex H H' → H' p = some (.dK (nK us fun s => .int (f s : Nat))) → KindsOk rows ends us f → Q (.ref p) H'
theorem ok_kinds_of (T : Tx K mg) : FnOk P w K mg base CX0 1 T.d_kinds_of.f T.d_kinds_of.fd ["arrows", "ends", "stands"] sp_kinds_of := by
  refine T.d_kinds_of.F.ok sc_kinds_of (fun vs H Q E h => ?_) (fun cdv A outer s H vs Q E hr h => ?_)
  · obtain ⟨a, b, c, rows, ends, us, rfl, _⟩ := h
    rfl
  · obtain ⟨a, b, c, rows, ends, us, rfl, hG, hw, hE, hU, hn, hb, hl, k⟩ := h
    refine ⟨_, (pss_cons (ps_set (i := 3) sc_kinds_of.nd rfl (Or.inr rfl) (pe_dcg (own := [("stand", 4)]) (g := (gName 4)) (.dK []) (hu64 hr.units) rfl sc_kinds_of.nd (k_piL K (pv 2)) (blkOk_by (own := [("stand", 4)]) (N := ["arrows", "ends", "stands", "kinds", "stand", "many", "before", "marks", "goals", "goal", "order", "places", "place", "mark"]) (sc := defScope s_kinds_of) (by decide +kernel)) (fun _ _ _ _ _ => (pg_name (i := 4) sc_kinds_of.nd rfl (Or.inl rfl))) (fun _ _ _ _ _ => pts_nil) (fun _ _ _ _ _ => (pv 4)) (fun _ _ _ _ _ => (pe_callTy call_int1 (by rfl) T.z_int (by decide +kernel) (pa_cons (pe_cmp (pc_din (hu64 hr.units) (pv 4) (pv 1))) pa_nil))) (.inl rfl)))
      (pss_cons (ps_par (i := 5) (j := 6) (by rfl) sc_kinds_of.nd rfl rfl (by decide) rfl rfl (pa_cons (pe_lenSet K rfl (by rfl) T.z_len (by rfl) T.z_set (pe_listVals rfl (by rfl) T.z_list (pv 3))) (pa_cons pe_int pa_nil)) (by rfl))
      (pss_cons (ps_while PassesOwn.never (pt_cmpR op_ne (pv 5) (pv 6) (nomark _)) (pss_cons (ps_set (i := 7) sc_kinds_of.nd rfl (Or.inr rfl) pe_dnewK)
      (pss_cons (ps_for PassesOwn.never rfl (k_piL K (pv 2)) (pg_name (i := 4) sc_kinds_of.nd rfl (Or.inl rfl)) (pss_cons (ps_setLc (i := 8) (own := [("goal", 9)]) (g := (gName 9)) rfl sc_kinds_of.nd rfl rfl (sw_true rfl rfl rfl (by decide +kernel)) (pi_either (k_piL K (pe_either (pe_ix (k_ixL K) (pv 0) (pv 4) (fun _ _ => rfl)) (pe_ix (k_ixT K) (pv 0) (pv 4) (fun _ _ => rfl)))) (k_piT K (pe_either (pe_ix (k_ixL K) (pv 0) (pv 4) (fun _ _ => rfl)) (pe_ix (k_ixT K) (pv 0) (pv 4) (fun _ _ => rfl))))) (blkOk_by (own := [("goal", 9)]) (N := ["arrows", "ends", "stands", "kinds", "stand", "many", "before", "marks", "goals", "goal", "order", "places", "place", "mark"]) (sc := defScope s_kinds_of) (by decide +kernel)) (fun _ _ _ _ _ => (pg_name (i := 9) sc_kinds_of.nd rfl (Or.inl rfl))) (fun _ _ _ _ _ => pts_nil) (fun _ _ _ _ _ => (pe_dgetN2 (hu64 hr.units) (pv 3) (pv 9) (pe_un un_neg pe_int) ⟨rfl, rfl, rfl, rfl⟩)))
      (pss_one (ps_dput (hu64 hr.units) (pv 7) (pv 4) (pe_tup (pa_cons (pe_dget (hu64 hr.units) (pv 3) (pv 4) (fun _ _ => rfl)) (StX.pa_star (pv 8) pa_nil))) rfl))))
      (pss_cons (ps_set (i := 10) sc_kinds_of.nd rfl (Or.inl rfl) (pe_sortSet K rfl hr.units (by rfl) T.z_sorted (by rfl) T.z_set (pe_listVals rfl (by rfl) T.z_list (pv 7))))
      (pss_cons (ps_set (i := 11) sc_kinds_of.nd rfl (Or.inr rfl) (pe_dcg (own := [("place", 12), ("mark", 13)]) (g := _) (.dT []) (hu64 hr.units) rfl sc_kinds_of.nd (k_piEL K (by rfl) T.z_enumerate (pa_cons (pv 10) pa_nil)) (blkOk_by (own := [("place", 12), ("mark", 13)]) (N := ["arrows", "ends", "stands", "kinds", "stand", "many", "before", "marks", "goals", "goal", "order", "places", "place", "mark"]) (sc := defScope s_kinds_of) (by decide +kernel)) (fun _ _ _ _ _ => (k_tup (n := 2) K rfl (pgs_cons (pg_name (i := 12) sc_kinds_of.nd rfl (Or.inl rfl)) (pgs_cons (pg_name (i := 13) sc_kinds_of.nd rfl (Or.inl rfl)) pgs_nil)))) (fun _ _ _ _ _ => pts_nil) (fun _ _ _ _ _ => (pv 13)) (fun _ _ _ _ _ => (pv 12)) (.inr rfl)))
      (pss_cons (ps_set (i := 3) sc_kinds_of.nd rfl (Or.inr rfl) (pe_dcg (own := [("stand", 4)]) (g := (gName 4)) (.dK []) (hu64 hr.units) rfl sc_kinds_of.nd (k_piL K (pv 2)) (blkOk_by (own := [("stand", 4)]) (N := ["arrows", "ends", "stands", "kinds", "stand", "many", "before", "marks", "goals", "goal", "order", "places", "place", "mark"]) (sc := defScope s_kinds_of) (by decide +kernel)) (fun _ _ _ _ _ => (pg_name (i := 4) sc_kinds_of.nd rfl (Or.inl rfl))) (fun _ _ _ _ _ => pts_nil) (fun _ _ _ _ _ => (pv 4)) (fun _ _ _ _ _ => (pe_dget (hu64 hr.units) (pv 11) (pe_dget (hu64 hr.units) (pv 7) (pv 4) (fun _ _ => rfl)) (fun _ _ => rfl))) (.inl rfl)))
      (pss_one (ps_par (i := 5) (j := 6) (by rfl) sc_kinds_of.nd rfl rfl (by decide) rfl rfl (pa_cons (pe_callB (k_len K) (by rfl) T.z_len (by decide +kernel) (pa_cons (pv 10) pa_nil)) (pa_cons (pv 5) pa_nil)) (by rfl)))))))))
      (pss_one (ps_ret (pv 3)))))), ?_⟩
    have hml : (us.map fun (k : Nat) => V.int k).length = us.length := List.length_map _
    refine q_asgR (er_over (K := K) (us := us) (fun s => .int ((if s ∈ ends then 1 else 0 : Nat) : Nat)) rfl hU hn (by omega) (fun _ => rfl) (fun _ => rfl) fun m hm H1 e => ?_) fun kd H1 hkd e1 hk => ?_
    · refine ev_cb (ea_cons (ev_din (o := valV (nS ends) (ik m)) (ev_var rfl) (ev_var rfl) fun H3 e3 => DGet.k (k := ik m) ((e.trans e3) _ _ hE)) ea_nil) (fun H3 e3 Q q => .inr ⟨_, rfl, ?_⟩)
      have := q H3 (Ex.refl _)
      rw [nS_val]
      by_cases c : m ∈ ends
      · simpa [c] using this
      · simpa [c] using this
    have hval : (nK us fun s => V.int ((if s ∈ ends then 1 else 0 : Nat) : Nat)).map (·.2) = ((us.map fun s => ((if s ∈ ends then 1 else 0 : Nat) : Int)).map V.int) := by
      rw [nK_vals, List.map_map]
      rfl
    refine q_par (ea_cons (ev_lenSet (K := K) (ns := us.map fun s => ((if s ∈ ends then 1 else 0 : Nat) : Int)) (by rw [← hval]; exact ev_listVals (ev_var rfl) hk) (by rw [List.length_map]; omega)) (ea_cons ev_c ea_nil)) fun H2 e2 => ?_
    have e12 := e1.trans e2
    have hA0 : ValsOf (fun s => ((if s ∈ ends then 1 else 0 : Nat) : Int)) us (diff (us.map fun s => ((if s ∈ ends then 1 else 0 : Nat) : Int))) := ⟨diff_nodup _, fun a => by
      rw [mem_diff, List.mem_map]⟩
    have hcnt : ∀ {f : Nat → Nat} {A : List Int}, ValsOf (fun s => (f s : Int)) us A → A.length ≤ us.length := fun {f A} h => by
      have := sub_len h.nd (A := us.map fun s => (f s : Int)) fun a ha => by
        obtain ⟨s, hs, rfl⟩ := (h.mem a).mp ha
        exact List.mem_map.mpr ⟨s, hs, rfl⟩
      rwa [List.length_map] at this
    refine q_while (fun m σ' H' => ∃ (kd : Addr) (f : Nat → Nat) (A : List Int) (bf : Nat) (g4 g7 g8 g9 g10 g11 g12 g13 : Option V), σ' = [some (.ref a), some (.ref b), some (.ref c), some (.ref kd), g4, some (.int A.length), some (.int bf), g7, g8, g9, g10, g11, g12, g13] ∧ H kd = none ∧ Ex H H' ∧ H' kd = some (.dK (nK us fun s => .int (f s : Nat))) ∧ KInv rows ends us f ∧ ValsOf (fun s => (f s : Int)) us A ∧
        (bf = 0 ∨ ∃ (p : Nat → Nat) (B : List Int), Next rows us p f ∧ ValsOf (fun s => (p s : Int)) us B ∧ bf = B.length) ∧ bf ≤ A.length ∧ m = 2 * us.length - (A.length + bf)) _
      ⟨kd, fun s => if s ∈ ends then 1 else 0, _, 0, none, none, none, none, none, none, none, none, rfl, hkd, e12, e2 _ _ hk, KInv.init, hA0, .inl rfl, Nat.zero_le _, rfl⟩ fun m σ' H' hW => ?_
    obtain ⟨kd, f, A, bf, g4, g7, g8, g9, g10, g11, g12, g13, rfl, hkd, e, hk, KI, hA, hbf, hle, rfl⟩ := hW
    refine ⟨!decide ((A.length : Int) = (bf : Int)), fun H3 e3 Q q => ev_op (ev_var rfl) (ev_var rfl) (rv_ne rfl) H3 e3 _ fun H4 e4 => ⟨_, rfl, by have := q H4 e4; simpa using this⟩, fun ct H3 e3 => ?_, fun ct H3 e3 => ?_⟩
    · have e3' := e.trans e3
      have hk3 := e3 _ _ hk
      have hne : A.length ≠ bf := by
        intro z
        rw [z] at ct
        simp at ct
      refine ⟨_, fun σ2 H2 h => h, ?_⟩
      refine q_asgR er_dnewK fun md H4 hmd e4 hm0 => ?_
      have hkm : md ≠ kd := fun z => by rw [z, hk3] at hmd; cases hmd
      refine q_forLn (xs := us.map fun (k : Nat) => V.int k) (ev_var rfl) (sq_of ((e3'.trans e4) _ _ hU)) (fun i σ' H' => ∃ (mA : Nat → Addr) (g4 g8 g9 : Option V), σ' = [some (.ref a), some (.ref b), some (.ref c), some (.ref kd), g4, some (.int A.length), some (.int bf), some (.ref md), g8, g9, g10, g11, g12, g13] ∧ Ex H3 H' ∧ H' md = some (.dK (nK (us.take i) fun s => .ref (mA s))) ∧ ∀ s ∈ us.take i, H' (mA s) = some (.tup ((mark rows us f s).map V.int)))
        (fun H5 e5 => ⟨fun _ => 0, g4, g8, g9, rfl, e4.trans e5, e5 _ _ hm0, fun s hs => by cases hs⟩) (fun i σ' H' _ P => ?_) (fun i x σ' H5 hx P => ?_) (fun σ' H5 P => ?_)
      · obtain ⟨_, _, _, _, _, e5, _⟩ := P
        exact sq_of (e5 _ _ (e3' _ _ hU))
      · obtain ⟨mA, g4, g8, g9, rfl, e5, hm, hms⟩ := P
        obtain ⟨s, hs, rfl⟩ := get_map hx
        obtain ⟨hi, rfl⟩ := List.getElem?_eq_some_iff.mp hs
        have hsu : us[i] ∈ us := List.getElem_mem hi
        have hsb := hb _ hsu
        have hnot : us[i] ∉ us.take i := fun z => by
          obtain ⟨j, hj, ej⟩ := List.getElem_of_mem z
          rw [List.getElem_take] at ej
          have := nodup_inj hn ej
          rw [List.length_take] at hj
          omega
        have hG5 : Grid H5 a rows := hG.ex (e3'.trans e5)
        have hk5 := e5 _ _ hk3
        have hrl : (rows.getD us[i] []).length ≤ 100 := by
          rw [List.getD_eq_getElem?_getD, List.getElem?_eq_getElem hsb]
          exact hw _ (List.getElem_mem hsb)
        have hgl : given (rows.getD us[i] []).length (fun _ => true) (fun j => V.int (kO us f ((rows.getD us[i] []).getD j none))) = ((rows.getD us[i] []).map (kO us f)).map V.int := by
          unfold given
          rw [List.filter_eq_self.mpr (fun _ _ => rfl)]
          refine List.ext_getElem (by simp) fun j h1 h2 => ?_
          simp at h1
          simp [List.getD_eq_getElem?_getD, List.getElem?_eq_getElem h1]
        refine q_asgL (xs := ((rows.getD us[i] []).map (kO us f)).map V.int) ?_ fun gl H6 hgl6 e6 hg => ?_
        · have h := el_comp (vs := [9]) (g := gName 9) (tt := tYes) (te := tDGetN2 (tVar 3) (tVar 9) (tUn (rU fun i => .int (-i)) (tC (.int 1)))) (σ := [some (.ref a), some (.ref b), some (.ref c), some (.ref kd), some (.int (us[i] : Nat)), some (.int A.length), some (.int bf), some (.ref md), g8, g9, g10, g11, g12, g13]) (H := H5) (fun _ => true) (fun j => V.int (kO us f ((rows.getD us[i] []).getD j none)))
            (ei_row (K := K) (ta := tVar 0) (tb := tVar 4) (ev_var rfl) (ev_var rfl) hG5 hsb) (by omega) (fun j x H1 e1 hj hy => by
              obtain ⟨o, ho, rfl⟩ := hy
              refine ⟨_, eg_name, rfl, et_yes, fun _ => ?_⟩
              rw [getD_of ho]
              exact ev_kget (ev_var rfl) (ev_var rfl) (ev_un ev_c ru_neg) (e1 _ _ hk5) hn)
          rw [hgl] at h
          exact h
        · have hmark : V.int (f us[i] : Nat) :: (((rows.getD us[i] []).map (kO us f)).map V.int ++ []) = (mark rows us f us[i]).map V.int := by
            rw [List.append_nil]
            rfl
          refine s_dputU (xs := (mark rows us f us[i]).map V.int) ?_ (ev_var rfl) (ev_var rfl) fun q H7 hq e7 h7 => ?_
          · rw [← hmark]
            refine eu_tup (ea_cons (ev_dget (ev_var rfl) (ev_var rfl) fun H8 e8 => ?_) (ea_star (ev_var rfl) hg ea_nil)) (by rw [List.length_cons, List.length_append, List.length_map, List.length_map, List.length_nil]; omega)
            have := DGet.k (k := ik us[i]) ((e6.trans e8) _ _ hk5)
            rw [nK_val hn, if_pos hsu] at this
            exact this
          · refine ⟨_, DPut.k (k := ik us[i]) ((e6.trans e7) _ _ hm) (sz_lt (by rw [nK_len, List.length_take]; omega)), fun t => if t = us[i] then q else mA t, _, _, _, rfl, Ex.mut ((e5.trans e6).trans e7) hmd, ?_, fun s hs' => ?_⟩
            · rw [upd_same, List.take_succ_eq_append_getElem hi]
              have e1 : nK (us.take i) (fun s => V.ref (mA s)) = nK (us.take i) (fun s => V.ref (if s = us[i] then q else mA s)) := nK_congr fun s hs => by rw [if_neg fun z : s = us[i] => hnot (z ▸ hs)]
              have e2 := nK_put (v := fun s => V.ref (if s = us[i] then q else mA s)) hnot
              simp only [if_true] at e2
              rw [e1, e2]
            · rw [List.take_succ_eq_append_getElem hi] at hs'
              have hmdT : ∀ p (xs : List V), H7 p = some (.tup xs) → (upd H7 md (.dK (putK (nK (us.take i) fun s => V.ref (mA s)) (ik us[i]) (V.ref q)))) p = some (.tup xs) := fun p xs h => by
                rw [upd_ne fun z => by rw [z, (e6.trans e7) _ _ hm] at h; cases h]
                exact h
              rcases List.mem_append.mp hs' with h | h
              · simp only [if_neg fun z : s = us[i] => hnot (z ▸ h)]
                exact hmdT _ _ ((e6.trans e7) _ _ (hms s h))
              · simp only [List.mem_singleton.mp h, if_true]
                exact hmdT _ _ h7
      · obtain ⟨mA, g4, g8, g9, rfl, e5, hm, hms⟩ := P
        rw [List.length_map, List.take_length] at hm
        rw [List.length_map, List.take_length] at hms
        have hksl : (us.map fun s => ((mA s, mK rows us f s) : Addr × List Key)).map (fun p => V.ref p.1) = (nK us fun s => V.ref (mA s)).map (·.2) := by
          rw [nK_vals, List.map_map]
          rfl
        refine q_asgR (er_sortSet (K := K) (ks := us.map fun s => (mA s, mK rows us f s)) (by rw [hksl]; exact ev_listVals (ev_var rfl) hm) (fun p hp => ?_) ?_ (fun p hp => ?_) (by rw [List.length_map]; omega)) fun od H6 hod e6 ho => ?_
        · obtain ⟨s, hs, rfl⟩ := List.mem_map.mp hp
          rw [mK_V]
          exact hms s hs
        · rw [List.map_map]
          exact PySem.W.AllAlike.of (enc := fun s => enc (mK rows us f s)) fun s t => alike_mK ..
        · obtain ⟨s, hs, rfl⟩ := List.mem_map.mp hp
          exact fun z => nomatch z
        · obtain ⟨L, hL, l1, l2, l3, _⟩ := ho
          have hLl : L.length ≤ us.length := by
            have h1 := sub_len (A := (us.map fun s => mK rows us f s)) l3 fun k hk => by
              obtain ⟨p, hp, rfl⟩ := List.mem_map.mp hk
              obtain ⟨s, hs, e⟩ := List.mem_map.mp (l1 p hp)
              exact List.mem_map.mpr ⟨s, hs, by rw [← e]⟩
            rwa [List.length_map, List.length_map] at h1
          obtain ⟨g, hg, nx, hA'⟩ := kinds_turn l1 l2 l3
          have hLT : ∀ p ∈ L, H6 p.1 = some (.tup (p.2.map kV)) := fun p hp => by
            obtain ⟨s, hs, e⟩ := List.mem_map.mp (l1 p hp)
            rw [← e, mK_V]
            exact e6 _ _ (hms s hs)
          refine q_asgR (edt_comp (vs := [12, 13]) (fun _ => true) (fun i => (L.map (·.2)).getD i []) (fun i => V.int (i : Nat)) (ei_E (ea_cons (ev_var rfl) ea_nil) (sq_of hL)) (by rw [List.length_map]; omega) (fun i x H1 e1 hi hy => ?_)) fun pd H7 hpd e7 hp => ?_
          · obtain ⟨TT, z, rfl, hz, hT⟩ := hy
            obtain ⟨p, hp, rfl⟩ := get_map hz
            refine ⟨_, eg_tup hT rfl (egs_cons eg_name (egs_cons eg_name egs_nil)), rfl, et_yes, fun _ => ⟨⟨p.1, ?_, ev_var rfl⟩, ev_var rfl⟩⟩
            rw [getD_of (map_get (·.2) hp)]
            exact e1 _ _ (hLT p (List.mem_of_getElem? hp))
          · have hfill : ∀ s ∈ us, valV (fillK (((List.range (L.map fun p => V.ref p.1).length).filter fun _ => true).map fun i => ((L.map (·.2)).getD i [], V.int (i : Nat)))) (mK rows us f s) = some (.int (g s : Nat)) := fun s hs => by
              have ek : ((List.range (L.map fun p => V.ref p.1).length).filter fun _ => true).map (fun i => (((L.map (·.2)).getD i [], V.int (i : Nat)) : List Key × V)) = (List.range L.length).map fun i => ((L.map (·.2)).getD i [], V.int (i : Nat)) := by
                rw [List.filter_eq_self.mpr (fun _ _ => rfl), List.length_map]
              have en : (((List.range L.length).map fun i => (((L.map (·.2)).getD i [], V.int (i : Nat)) : List Key × V)).map (·.1)) = L.map (·.2) := by
                rw [List.map_map]
                refine List.ext_getElem (by simp) fun i h1 h2 => ?_
                simp at h1
                simp [List.getD_eq_getElem?_getD, List.getElem?_eq_getElem h1]
              rw [ek, fillK_nodup _ (by rw [en]; exact l3)]
              refine valV_mem (by rw [en]; exact l3) (List.mem_map.mpr ⟨g s, List.mem_range.mpr (hg s hs).1, ?_⟩)
              rw [getD_of (hg s hs).2]
            have e57 := e6.trans e7
            refine q_asgR (er_over (K := K) (us := us) (fun s => .int (g s : Nat)) rfl ((e3'.trans (e5.trans e57)) _ _ hU) hn (by omega) (fun _ => rfl) (fun _ => rfl) fun s hs H8 e8 => ?_) fun kd' H8 hkd' e8 hk' => ?_
            · refine ev_dget (ev_var rfl) (ev_dget (r := .ref (mA s)) (ev_var rfl) (ev_var rfl) fun H9 e9 => ?_) fun H9 e9 => ?_
              · have := DGet.k (k := ik s) ((e57.trans (e8.trans e9)) _ _ hm)
                rw [nK_val hn, if_pos hs] at this
                exact this
              · have := DGet.t (k := mK rows us f s) ((e8.trans e9) _ _ hp) (b := mA s) (by rw [mK_V]; exact (e57.trans (e8.trans e9)) _ _ (hms s hs))
                rw [hfill s hs] at this
                exact this
            · refine s_par (ea_cons (ev_cb (ea_cons (ev_var rfl) ea_nil) (rc_lenQ (.inl (sq_of ((e7.trans e8) _ _ hL))))) (ea_cons (ev_var rfl) ea_nil)) fun H9 e9 => ?_
              have hc1 := hcnt hA
              have hc2 := finer (f := fun s => (g s : Int)) (g := fun s => (f s : Int)) hA' hA fun s hs t ht c => by
                have : g s = g t := by omega
                have := mark_head ((nx s hs t ht).mp this)
                omega
              rw [List.length_map, List.length_range] at hc2
              refine ⟨2 * us.length - (L.length + A.length), by omega, kd', g, _, A.length, g4, some (.ref md), g8, g9, some (.ref od), some (.ref pd), g12, g13, ?_, fresh_back (((e3'.trans e5).trans e57)) hkd', ((((e3'.trans e5).trans e57).trans e8).trans e9), e9 _ _ hk', KI.next nx, hA', .inr ⟨f, A, nx, hA, rfl⟩, ?_, ?_⟩
              · rw [List.length_map, List.length_map, List.length_range]
                rfl
              · rw [List.length_map, List.length_range]
                exact hc2.1
              · rw [List.length_map, List.length_range]
    · have e0 : (A.length : Int) = bf := by simpa using ct
      have e0 : A.length = bf := by omega
      refine s_ret (ev_var rfl) fun H4 e4 => k kd H4 f hkd ((e.trans e3).trans e4) (e4 _ _ (e3 _ _ hk)) ?_
      rcases hbf with rfl | ⟨p, B, h1, h2, rfl⟩
      · have : us = [] := by
          cases us with
          | nil => rfl
          | cons x r =>
            have : (f x : Int) ∈ A := (hA.mem _).mpr ⟨x, List.mem_cons_self .., rfl⟩
            rw [List.eq_nil_of_length_eq_zero e0] at this
            cases this
        subst this
        exact ⟨KI, fun s hs => by cases hs⟩
      · exact kinds_done KI h1 hA h2 e0
end
end K14
set_option maxHeartbeats 4000000
/-! plain: kinds numbered as they are met -/
namespace K14
/-- the number of a goal's kind -/
def num (us : List Nat) (f : Nat → Nat) (line : List Nat) : Option Nat → Option Nat
  | none => none
  | some t => if t ∈ us then some ((line.map f).idxOf (f t)) else none
theorem num_out {us : List Nat} {f : Nat → Nat} {line : List Nat} {o : Option Nat} (h : ∀ t, o = some t → t ∉ us) : num us f line o = none := by
  cases o with
  | none => rfl
  | some t => simp [num, h t rfl]
theorem num_in {us : List Nat} {f : Nat → Nat} {line : List Nat} {t : Nat} (h : t ∈ us) : num us f line (some t) = some ((line.map f).idxOf (f t)) := by simp [num, h]
theorem idx_app {l m : List Nat} {x : Nat} (h : x ∈ l) : (l ++ m).idxOf x = l.idxOf x := by
  rw [List.idxOf_append, if_pos h]
theorem idx_new {l : List Nat} {x : Nat} (h : x ∉ l) : (l ++ [x]).idxOf x = l.length := by
  rw [List.idxOf_append, if_neg h]
  simp
/-- the first met -/
def Met (w n : Nat) (F : List (Option Nat)) : Prop := ∀ k, 1 ≤ k → k < n → ∃ q, q < k * w ∧ F[q]? = some (some k) ∧ ∀ q', q' < q → ∀ g, F[q']? = some (some g) → g < k
structure Lp (rows : Rows) (w : Nat) (us : List Nat) (f : Nat → Nat) (line : List Nat) (done : Rows) (i : Nat) (cur : List (Option Nat)) (c : Nat) : Prop where
  first : line[0]? = some 0
  sub : ∀ l ∈ line, l ∈ us
  nd : (line.map f).Nodup
  dl : done.length = i
  ile : i ≤ line.length
  row : ∀ (j s : Nat), j < i → line[j]? = some s → done[j]? = some ((rows.getD s []).map (num us f line))
  cu : ∀ s, line[i]? = some s → cur = ((rows.getD s []).take c).map (num us f line)
  has : ∀ (j s : Nat), j < i → line[j]? = some s → ∀ t, some t ∈ rows.getD s [] → t ∈ us → f t ∈ line.map f
  hasC : ∀ s, line[i]? = some s → ∀ t, some t ∈ (rows.getD s []).take c → t ∈ us → f t ∈ line.map f
  met : Met w line.length (done.flatten ++ cur)
  lt : ∀ g, some g ∈ done.flatten ++ cur → g < line.length
section
variable {rows : Rows} {w : Nat} {us : List Nat} {f : Nat → Nat} {line : List Nat} {done : Rows} {i : Nat} {cur : List (Option Nat)} {c : Nat}
theorem Lp.start (h0 : 0 ∈ us) : Lp rows w us f [0] [] 0 [] 0 where
  first := rfl
  sub l hl := by
    rw [List.mem_singleton.mp hl]
    exact h0
  nd := by simp
  dl := rfl
  ile := Nat.zero_le _
  row j s hj := absurd hj (Nat.not_lt_zero _)
  cu s h := by simp
  has j s hj := absurd hj (Nat.not_lt_zero _)
  hasC s h t ht := by simp at ht
  met k h1 h2 := by
    simp at h2
    omega
  lt g hg := by simp at hg
theorem Lp.line_le (h : Lp rows w us f line done i cur c) (hn : us.Nodup) : line.length ≤ us.length := by
  have nl : line.Nodup := List.Pairwise.of_map f (fun a b ne e => ne (by rw [e])) h.nd
  exact sub_len nl h.sub
theorem met_app {n : Nat} {F G : List (Option Nat)} (h : Met w n F) : Met w n (F ++ G) := fun k h1 h2 => by
  obtain ⟨q, a, b, d⟩ := h k h1 h2
  have hq : q < F.length := (List.getElem?_eq_some_iff.mp b).1
  refine ⟨q, a, by rw [List.getElem?_append_left hq]; exact b, fun q' hq' g hg => d q' hq' g ?_⟩
  rwa [List.getElem?_append_left (by omega)] at hg
theorem num_keep {t' : Nat} {r : List (Option Nat)} (h : ∀ t, some t ∈ r → t ∈ us → f t ∈ line.map f) : r.map (num us f (line ++ [t'])) = r.map (num us f line) := by
  refine List.map_congr_left fun o ho => ?_
  cases o with
  | none => rfl
  | some t =>
    by_cases m : t ∈ us
    · rw [num_in m, num_in m, List.map_append, idx_app (h t ho m)]
    · rw [num_out fun x e => by cases e; exact m, num_out fun x e => by cases e; exact m]
/-- a goal whose kind has its number, or none -/
theorem Lp.old {s : Nat} {o : Option Nat} (h : Lp rows w us f line done i cur c) (hs : line[i]? = some s) (ho : (rows.getD s [])[c]? = some o) (hm : ∀ t, o = some t → t ∈ us → f t ∈ line.map f) : Lp rows w us f line done i (cur ++ [num us f line o]) (c + 1) := by
  obtain ⟨hc, e⟩ := List.getElem?_eq_some_iff.mp ho
  have tk : (rows.getD s []).take (c + 1) = (rows.getD s []).take c ++ [o] := by rw [List.take_succ_eq_append_getElem hc, e]
  exact { h with
    cu := fun s' hs' => by
      rw [hs] at hs'
      cases hs'
      rw [tk, List.map_append, h.cu s hs]
      rfl
    hasC := fun s' hs' t ht hu => by
      rw [hs] at hs'
      cases hs'
      rw [tk] at ht
      rcases List.mem_append.mp ht with ht | ht
      · exact h.hasC s hs t ht hu
      · exact hm t (List.mem_singleton.mp ht).symm hu
    met := by
      rw [← List.append_assoc]
      exact met_app h.met
    lt := fun g hg => by
      rw [← List.append_assoc] at hg
      rcases List.mem_append.mp hg with hg | hg
      · exact h.lt g hg
      · have e := (List.mem_singleton.mp hg).symm
        cases o with
        | none => cases e
        | some t =>
          by_cases m : t ∈ us
          · rw [num_in m] at e
            cases e
            have := List.idxOf_lt_length_of_mem (hm t rfl m)
            rwa [List.length_map] at this
          · rw [num_out fun x e => by cases e; exact m] at e
            cases e }
/-- a goal of a new kind -/
theorem Lp.new {s t : Nat} (h : Lp rows w us f line done i cur c) (hw : ∀ s ∈ us, (rows.getD s []).length = w) (hs : line[i]? = some s) (ho : (rows.getD s [])[c]? = some (some t)) (ht : t ∈ us) (hf : f t ∉ line.map f) :
    Lp rows w us f (line ++ [t]) done i (cur ++ [some line.length]) (c + 1) := by
  obtain ⟨hc, e⟩ := List.getElem?_eq_some_iff.mp ho
  have hi : i < line.length := (List.getElem?_eq_some_iff.mp hs).1
  have tk : (rows.getD s []).take (c + 1) = (rows.getD s []).take c ++ [some t] := by rw [List.take_succ_eq_append_getElem hc, e]
  have old : ∀ {j s}, j ≤ i → (line ++ [t])[j]? = some s → line[j]? = some s := fun {j s} hj q => by
    rwa [List.getElem?_append_left (by omega)] at q
  have up : ∀ {x}, x ∈ line.map f → x ∈ (line ++ [t]).map f := fun {x} q => by
    rw [List.map_append]
    exact List.mem_append_left _ q
  have cl : cur.length = c := by
    rw [h.cu s hs, List.length_map, List.length_take]
    omega
  have rl : ∀ r ∈ done, r.length = w := fun r hr => by
    obtain ⟨j, hj, e⟩ := List.getElem_of_mem hr
    have hj' : j < i := by rw [← h.dl]; exact hj
    have q := h.row j _ hj' (List.getElem?_eq_getElem (by omega))
    rw [List.getElem?_eq_getElem hj, e] at q
    rw [Option.some.inj q, List.length_map]
    exact hw _ (h.sub _ (List.getElem_mem _))
  have fl : ∀ {d : Rows}, (∀ r ∈ d, r.length = w) → d.flatten.length = d.length * w := fun {d} hd => by
    induction d with
    | nil => simp
    | cons r d ih =>
      rw [List.flatten_cons, List.length_append, ih fun r hr => hd r (List.mem_cons_of_mem _ hr), hd r (List.mem_cons_self ..), List.length_cons, Nat.succ_mul]
      omega
  have Fl : (done.flatten ++ cur).length = i * w + c := by rw [List.length_append, fl rl, h.dl, cl]
  have hcw : c < w := by rw [← hw s (h.sub s (List.mem_of_getElem? hs))]; exact hc
  refine ⟨?_, ?_, ?_, h.dl, by rw [List.length_append]; omega, ?_, ?_, ?_, ?_, ?_, ?_⟩
  · rw [List.getElem?_append_left (by omega)]
    exact h.first
  · intro l hl
    rcases List.mem_append.mp hl with hl | hl
    · exact h.sub l hl
    · rw [List.mem_singleton.mp hl]
      exact ht
  · rw [List.map_append]
    exact List.nodup_append.mpr ⟨h.nd, by simp, fun a ha b hb e => hf (by rw [List.mem_singleton.mp hb] at e; exact e ▸ ha)⟩
  · intro j s' hj hs'
    have hs' := old (by omega) hs'
    rw [num_keep (h.has j s' hj hs')]
    exact h.row j s' hj hs'
  · intro s' hs'
    have hs' := old (Nat.le_refl _) hs'
    rw [hs] at hs'
    cases hs'
    rw [tk, List.map_append, num_keep (h.hasC s hs), ← h.cu s hs]
    simp only [List.map_cons, List.map_nil]
    rw [num_in ht, List.map_append, List.map_cons, List.map_nil, idx_new hf, List.length_map]
  · intro j s' hj hs' t' h1 h2
    exact up (h.has j s' hj (old (by omega) hs') t' h1 h2)
  · intro s' hs' t' h1 h2
    have hs' := old (Nat.le_refl _) hs'
    rw [hs] at hs'
    cases hs'
    rw [tk] at h1
    rcases List.mem_append.mp h1 with h1 | h1
    · exact up (h.hasC s hs t' h1 h2)
    · cases List.mem_singleton.mp h1
      rw [List.map_append]
      exact List.mem_append_right _ (by simp)
  · intro k k1 k2
    rw [List.length_append, List.length_singleton] at k2
    rw [← List.append_assoc]
    by_cases hk : k < line.length
    · exact met_app h.met k k1 hk
    · have : k = line.length := by omega
      subst this
      refine ⟨(done.flatten ++ cur).length, ?_, ?_, fun q' hq' g hg => ?_⟩
      · rw [Fl]
        have : (i + 1) * w ≤ line.length * w := Nat.mul_le_mul_right _ hi
        rw [Nat.succ_mul] at this
        omega
      · rw [List.getElem?_append_right (Nat.le_refl _), Nat.sub_self]
        rfl
      · rw [List.getElem?_append_left hq'] at hg
        exact h.lt g (List.mem_of_getElem? hg)
  · intro g hg
    rw [← List.append_assoc] at hg
    rw [List.length_append, List.length_singleton]
    rcases List.mem_append.mp hg with hg | hg
    · have := h.lt g hg
      omega
    · cases List.mem_singleton.mp hg
      omega
/-- a row ends -/
theorem Lp.turn {s : Nat} (h : Lp rows w us f line done i cur c) (hs : line[i]? = some s) (hc : c = (rows.getD s []).length) : Lp rows w us f line (done ++ [cur]) (i + 1) [] 0 := by
  have hi : i < line.length := (List.getElem?_eq_some_iff.mp hs).1
  have e := h.cu s hs
  rw [hc, List.take_of_length_le (Nat.le_refl _)] at e
  have hC := h.hasC s hs
  rw [hc, List.take_of_length_le (Nat.le_refl _)] at hC
  refine ⟨h.first, h.sub, h.nd, by simp [h.dl], hi, fun j s' hj hs' => ?_, fun s' hs' => by simp, fun j s' hj hs' t h1 h2 => ?_, fun s' hs' t ht => by simp at ht, ?_, ?_⟩
  · by_cases c : j < i
    · rw [List.getElem?_append_left (by rw [h.dl]; exact c)]
      exact h.row j s' c hs'
    · have : j = i := by omega
      subst this
      rw [hs] at hs'
      cases hs'
      rw [List.getElem?_append_right (by rw [h.dl]; exact Nat.le_refl _), h.dl, Nat.sub_self, e]
      rfl
  · by_cases c : j < i
    · exact h.has j s' c hs' t h1 h2
    · have : j = i := by omega
      subst this
      rw [hs] at hs'
      cases hs'
      exact hC t h1 h2
  · rw [List.flatten_append]
    simpa using h.met
  · rw [List.flatten_append]
    simpa using h.lt
end
/-- the reader that comes of it -/
structure Bfs (rows : Rows) (w : Nat) (us : List Nat) (f : Nat → Nat) (line : List Nat) (arr : Rows) : Prop where
  first : line[0]? = some 0
  sub : ∀ l ∈ line, l ∈ us
  nd : (line.map f).Nodup
  len : arr.length = line.length
  row : ∀ (j s : Nat), line[j]? = some s → arr[j]? = some ((rows.getD s []).map (num us f line))
  has : ∀ s ∈ line, ∀ t, some t ∈ rows.getD s [] → t ∈ us → f t ∈ line.map f
  met : Met w line.length arr.flatten
theorem Lp.end {rows : Rows} {w : Nat} {us : List Nat} {f : Nat → Nat} {line : List Nat} {done : Rows} {i : Nat} (h : Lp rows w us f line done i [] 0) (hi : line.length = i) : Bfs rows w us f line done where
  first := h.first
  sub := h.sub
  nd := h.nd
  len := by rw [h.dl, hi]
  row j s hs := h.row j s (by rw [← hi]; exact (List.getElem?_eq_some_iff.mp hs).1) hs
  has s hs := by
    obtain ⟨j, hj, e⟩ := List.getElem_of_mem hs
    exact h.has j s (by rw [← hi]; exact hj) (by rw [List.getElem?_eq_getElem hj, e])
  met := by simpa using h.met
/-- what least_of gives -/
def LeastR (rows : Rows) (w : Nat) (ends : List Nat) (arr : Rows) (shut : List Nat) : Prop :=
  (¬ Useful rows ends 0 ∧ arr = [List.replicate w none] ∧ shut = []) ∨
  ∃ us f line, UsefulAre rows ends us ∧ 0 ∈ us ∧ KindsOk rows ends us f ∧ Bfs rows w us f line arr ∧ shut = (List.range line.length).filter fun i => decide (line.getD i 0 ∈ ends)
end K14
set_option maxHeartbeats 4000000
/-! a tuple times one -/
namespace K14
open PySem L2 Evl
theorem mul_once (l : Addr) (items : Array Value) (n : Nat) (dd : Option Addr) (sl : Array (Option Value)) (u : Tok) :
    Meets (Builtin.«tuple.__mul__» ⟨[.ref l, .int 1 u], []⟩) (fun _ R s => s.heap.get? l = some { cls := .type "tuple", dict := dd, data := .seq items n, slots := sl } ∧ R (.ok (.ret (.ref l))) s) :=
  .of_wp fun prog w A R s h => by
    obtain ⟨hp, g, d, tk, os⟩ := s
    obtain ⟨hl, h⟩ := h
    have f1 := PySem.AutoSeq1.idx_int
    have c1 : (items.isEmpty || (1 : Int) == 1) = true := by simp
    wp_walk using PySem.AutoSeq1.wpAny_loadPart' hl
    repeat (first
      | (refine wpAny_ite_true (decide_eq_true c1) ?_; wp_walk using PySem.AutoSeq1.wpAny_loadPart' hl)
      | (refine wpAny_ite_false (by decide) ?_; wp_walk using PySem.AutoSeq1.wpAny_loadPart' hl))
    exact ⟨_, rfl, h⟩
def rOnce (K : PySem.W.Frag) : R2 := fun x y H Q => ∃ l xs, x = .ref l ∧ y = .int 1 ∧ SqT K H l xs ∧ Q (.ref l) H
def rRepA (K : PySem.W.Frag) : R2 := fun x y H Q => rRepT K x y H Q ∨ rOnce K x y H Q
theorem k_rep {X : Cx} (K : PySem.W.Frag) (eK : X.K = K := by rfl) : OpR X (binaryOp .Mult) (rRepA K) := by
  subst eK
  intro pins s σ H x y v u Q I rx ry h
  rcases h with h | h
  · exact op_repT pins s σ H x y v u Q I rx ry h
  · obtain ⟨l, xs, rfl, rfl, hT, q⟩ := h
    obtain rfl : v = Value.ref l := rx
    obtain ⟨t, rfl⟩ := ry
    obtain ⟨its, r, ⟨⟨cls, dd, data, sl⟩, ho, hc, n, hd⟩, hs⟩ := I.tuple hT
    simp only at hc hd
    subst hc hd
    exact wpAny_binaryOp_repeat_ref (T := "tuple") (U := "int") (by decide) ⟨_, ho, rfl⟩ (fun s' => typeIs_int s' 1 t) noFill_tuple_mul F.fills_int_mul F.slot_int_rmul repeat_tuple F.slot_int_index.lookup
      (call_meets F.slot_int_rmul (typeIs_int s 1 t) F.entry_int_rmul (F.args_int_rmul_2 _ _) (int_rmul_tuple 1 t l its.toArray n dd sl) ⟨ho, rfl, ⟨_, ho, rfl⟩,
        call_meets F.slot_tuple_mul ⟨_, ho, rfl⟩ F.entry_tuple_mul (F.args_tuple_mul_2 _ _) (mul_once l its.toArray n dd sl t) ⟨ho, ⟨.ref l, H, I, rfl, q⟩⟩⟩)
/-- (None,) * n -/
theorem er_nones {σ : L2.St} {H : Hp} {K : PySem.W.Frag} {ta tb : TE} {n : Nat} (h1 : EvU ta σ H [.non]) (h2 : ∀ H1, Ex H H1 → Ev tb σ H1 (.int n)) (hn : 1 ≤ n) (hz : n ≤ 1000) : EvR (tOp (rRepA K) ta tb) σ H (fun H p => H p = some (.tup (List.replicate n .non))) := fun H1 e Q q =>
  h1 H1 e _ fun p H2 hp e2 h => h2 H2 (e.trans e2) H2 (Ex.refl _) _ fun H3 e3 => by
    by_cases c : n = 1
    · subst c
      exact .inr ⟨p, [.non], rfl, rfl, st_of (e3 _ _ h), q p H3 hp (e2.trans e3) (e3 _ _ h)⟩
    · refine .inl ⟨p, n, [.non], rfl, rfl, st_of (e3 _ _ h), by simp, by omega, by omega, by decide, fun a ha => q a _ (fresh_back (e2.trans e3) ha) ((e2.trans e3).trans (Ex.new ha)) ?_⟩
      have fl : ∀ m : Nat, (List.replicate m [V.non]).flatten = List.replicate m .non := fun m => by
        induction m with
        | zero => rfl
        | succ m ih => rw [List.replicate_succ, List.replicate_succ, List.flatten_cons, ih, List.singleton_append]
      show upd H3 a _ a = _
      rw [upd_same, Int.toNat_natCast, fl]
end K14
set_option maxHeartbeats 4000000
namespace K14
open PySem L2 Evl
local macro_rules | `(tactic| walk_at "ev") => `(tactic| repeat' (first
  | exact ev_var rfl | exact ev_c | exact ea_nil | apply ea_cons | exact rv_I0 | apply ev_op | apply ev_cb | apply ev_un | exact ru_neg
  | exact rc_isiInt | exact rc_isiBool | exact rc_isiStr))
section
variable {P : Program} {w : World} {K : PySem.W.Frag} {mg : Str → Option Value} {base : Heap}
variable {σ σ1 σ2 : L2.St} {H H' : Hp} {ta tb tc te tl tk tv td : TE} {x y z v : V} {D : Ends} {tz tu tw : TS} {g : TG} {tt : TT} {wi : TI} {tA : TA}
/-- {stand: True for stand in stands}, a list or a tuple -/
theorem er_marks {d : Addr} {ns : List Nat} {j b : Nat} {vs : List Nat} (hi : σ[j]? = some (some (.ref d))) (hd : SeqAt H d (ns.map fun (k : Nat) => V.int k)) (hn : ns.Nodup) (hz : ns.length ≤ 40000) (hw : ∀ x, wipe ((wipe σ vs).set b (some x)) vs = wipe σ vs) (hb : ∀ x, ((wipe σ vs).set b (some x))[b]? = some (some x)) :
    EvR (tDcG (.dK []) (iOr (iList K (tVar j)) (iTup K (tVar j))) (gName b) tYes (fun D => tEmit D (tVar b) (tC (.bl true))) vs) σ H (fun H p => H p = some (.dK (nS ns))) := by
  have h := ed_comp (vs := vs) (tt := tYes) (g := gName b) (tk := tVar b) (te := tC (.bl true)) (fun _ => true) (fun i => ik (ns.getD i 0)) (fun _ => .bl true) (ei_sq (K := K) hi hd) (by rw [List.length_map]; exact hz) (fun i x H1 e hi hy => ⟨_, eg_name, hw x, et_yes, fun _ => ⟨?_, ev_c⟩⟩)
  · rw [List.length_map, ed_ofNums hn] at h
    exact h
  · obtain ⟨m, hm, rfl⟩ := get_map hy
    rw [kV_ik, getD_of hm]
    exact ev_var (hb _)
/-! ### arguments, new or not -/
def Mon (p : List V → Hp → Prop) : Prop := ∀ vs H H', Ex H H' → p vs H → p vs H'
theorem mon_nil : Mon (fun vs _ => vs = []) := fun _ _ _ _ h => h
theorem mon_v {p : List V → Hp → Prop} (m : Mon p) : Mon (fun vs H' => ∃ r, vs = v :: r ∧ p r H') := fun vs H H' e ⟨r, h1, h2⟩ => ⟨r, h1, m r _ _ e h2⟩
theorem mon_f {p : List V → Hp → Prop} {R : Hp → Addr → Prop} {B : Hp} (mR : ∀ H H' a, Ex H H' → R H a → R H' a) (m : Mon p) : Mon (fun vs H' => ∃ a r, vs = .ref a :: r ∧ B a = none ∧ R H' a ∧ p r H') := fun vs H H' e ⟨a, r, h1, h2, h3, h4⟩ => ⟨a, r, h1, h2, mR _ _ _ e h3, m r _ _ e h4⟩
theorem as_f {p : List V → Hp → Prop} {R : Hp → Addr → Prop} (h : EvR te σ H R) (m : ∀ H H' a, Ex H H' → R H a → R H' a) (hr : EvAs tA σ H p) : EvAs (tCons te tA) σ H (fun vs H' => ∃ a r, vs = .ref a :: r ∧ H a = none ∧ R H' a ∧ p r H') := fun H1 e Q q =>
  h H1 e _ fun a H2 ha e2 ra => hr H2 (e.trans e2) _ fun vs H3 e3 r => q _ H3 (e2.trans e3) ⟨a, vs, rfl, fresh_back e ha, m _ _ _ e3 ra, r⟩
theorem is_mono {u : HO} : ∀ (H H' : Hp) (a : Addr), Ex H H' → (fun (H : Hp) (p : Addr) => H p = some u) H a → (fun (H : Hp) (p : Addr) => H p = some u) H' a := fun _ _ _ e h => e _ _ h
theorem er_tupAs {p : List V → Hp → Prop} (h : EvAs tA σ H p) (m : Mon p) (hl : ∀ vs H, p vs H → vs.length ≤ 1000) : EvR (tTup tA) σ H (fun H' q => ∃ vs, H' q = some (.tup vs) ∧ p vs H') := fun H1 e Q q =>
  h H1 e _ fun vs H2 e2 r => ⟨sz_of (by have := hl vs H2 r; omega), fun a ha => q a _ (fresh_back e2 ha) (e2.trans (Ex.new ha)) ⟨vs, upd_same, m _ _ _ (Ex.new ha) r⟩⟩
theorem eu_tupleOf {p : Addr} {xs : List V} (h : Ev ta σ H (.ref p)) (hx : H p = some (.lst xs)) : EvU (tCB (rTupQ K) (tCons ta tNil)) σ H xs := fun H1 e Q q =>
  h H1 e _ fun H2 e2 => ⟨p, xs, rfl, .inl ⟨sq_of ((e.trans e2) _ _ hx), fun l hl => q l _ (fresh_back e2 hl) (e2.trans (Ex.new hl)) upd_same⟩⟩
theorem q_par3 {p : List V → Hp → Prop} {i j l : Nat} (h : EvAs tA σ H p) (hp : ∀ vs H, p vs H → ∃ x y z, vs = [x, y, z]) (k : ∀ x y z H1, Ex H H1 → p [x, y, z] H1 → tz D (((σ.set i (some x)).set j (some y)).set l (some z)) H1) : tSeq (tPar3 i j l tA) tz D σ H :=
  h H (Ex.refl H) _ fun vs H1 e r => by
    obtain ⟨x, y, z, rfl⟩ := hp vs H1 r
    exact ⟨x, y, z, rfl, k x y z H1 e r⟩
theorem er_disp1 {k : Key} (h1 : Ev tk σ H (kV k)) (h2 : Ev tv σ H v) : EvR (tDisp [(tk, tv)]) σ H (fun H p => H p = some (.dK [(k, v)])) := fun H1 e Q q p hp =>
  h1 _ (e.trans (Ex.new hp)) _ fun H2 e2 => h2 H2 ((e.trans (Ex.new hp)).trans e2) _ fun H3 e3 =>
    ⟨(e2.trans e3) _ _ upd_same, [(k, v)], rfl, (by show 1 ≤ 15; decide), q p _ hp (Ex.mut ((Ex.new hp).trans (e2.trans e3)) hp) upd_same⟩
theorem spr_useful_of {a b : Addr} {rows : Rows} {ends : List Nat} (hG : Grid H a rows) (h1 : 1 ≤ rows.length) (h5 : rows.length ≤ 500) (hw : ∀ r ∈ rows, r.length ≤ 100) (hb : ∀ r ∈ rows, ∀ t, some t ∈ r → t < rows.length) (hE : H b = some (.dK (nS ends))) (hn : ends.Nodup) (hEb : ∀ k ∈ ends, k < rows.length) :
    SpR sp_useful_of ([.ref a, .ref b] ++ []) H (fun H p => ∃ us, H p = some (.lst (us.map fun (k : Nat) => V.int k)) ∧ UsefulAre rows ends us) :=
  fun H1 e Q q E => ⟨a, b, rows, ends, rfl, hG.ex e, h1, h5, hw, hb, e _ _ hE, hn, hEb, fun p H' us hp e' h1 h2 => q p H' hp e' ⟨us, h1, h2⟩⟩
theorem spr_kinds_of {a b c : Addr} {rows : Rows} {ends us : List Nat} (hG : Grid H a rows) (hw : ∀ r ∈ rows, r.length ≤ 100) (hE : H b = some (.dK (nS ends))) (hU : H c = some (.lst (us.map fun (k : Nat) => V.int k))) (hn : us.Nodup) (hb : ∀ k ∈ us, k < rows.length) (hl : us.length < 60) :
    SpR sp_kinds_of ([.ref a, .ref b, .ref c] ++ []) H (fun H p => ∃ f : Nat → Nat, H p = some (.dK (nK us fun s => .int (f s : Nat))) ∧ KindsOk rows ends us f) :=
  fun H1 e Q q E => ⟨a, b, c, rows, ends, us, rfl, hG.ex e, hw, e _ _ hE, e _ _ hU, hn, hb, hl, fun p H' f hp e' h1 h2 => q p H' hp e' ⟨f, h1, h2⟩⟩
/-- kinds.get(goal) -/
theorem ev_kget1 {d : Addr} {us : List Nat} {f : Nat → Nat} {o : Option Nat} (h1 : Ev td σ H (.ref d)) (h2 : Ev tk σ H (gV o)) (hd : H d = some (.dK (nK us fun s => .int (f s : Nat)))) (hn : us.Nodup) : Ev (tDGetN1 td tk) σ H (gV (o.bind fun t => if t ∈ us then some (f t) else none)) := fun H1 e Q q =>
  h1 H1 e _ fun H2 e2 => ⟨d, rfl, .inl ⟨_, .inl ((e.trans e2) _ _ hd)⟩, h2 H2 (e.trans e2) _ fun H3 e3 => by
    have hd3 := ((e.trans e2).trans e3) _ _ hd
    cases o with
    | none => exact ⟨none, .inr ⟨rfl, rfl, _, .inl hd3⟩, q H3 (e2.trans e3)⟩
    | some t =>
      refine ⟨_, .inl (DGet.k (k := ik t) hd3), ?_⟩
      rw [nK_val hn]
      have := q H3 (e2.trans e3)
      by_cases c : t ∈ us
      · rw [if_pos c]
        simpa [c, gV] using this
      · rw [if_neg c]
        simpa [c, gV] using this⟩
/-- rows as a list of tuples -/
def RowsL (H : Hp) (a : Addr) (rows : Rows) : Prop := ∃ ps : List Addr, H a = some (.lst (ps.map V.ref)) ∧ ps.length = rows.length ∧ ∀ (i : Nat) p r, ps[i]? = some p → rows[i]? = some r → H p = some (.tup (r.map gV))
theorem RowsL.mut {a b : Addr} {rows : Rows} {o : HO} (h : RowsL H a rows) (e : Ex H H') (hb : ∃ u, H' b = some u ∧ ∀ xs, u ≠ .tup xs) (n : a ≠ b) : RowsL (upd H' b o) a rows := by
  obtain ⟨ps, h1, h2, h3⟩ := h
  obtain ⟨u, hu, hn⟩ := hb
  refine ⟨ps, by rw [upd_ne n]; exact e _ _ h1, h2, fun i p r q1 q2 => ?_⟩
  have := e _ _ (h3 i p r q1 q2)
  rw [upd_ne fun z => by rw [z, hu] at this; exact hn _ (Option.some.inj this)]
  exact this
theorem RowsL.ex {a : Addr} {rows : Rows} (h : RowsL H a rows) (e : Ex H H') : RowsL H' a rows := by
  obtain ⟨ps, h1, h2, h3⟩ := h
  exact ⟨ps, e _ _ h1, h2, fun i p r a b => e _ _ (h3 i p r a b)⟩
/-- the numbers of the kinds met -/
def nums (f : Nat → Nat) (line : List Nat) : List (Key × V) := nK (line.map f) fun k => .int (((line.map f).idxOf k : Nat) : Int)
theorem nums_val {f : Nat → Nat} {line : List Nat} {k : Nat} (hn : (line.map f).Nodup) : valV (nums f line) (ik k) = if k ∈ line.map f then some (.int (((line.map f).idxOf k : Nat) : Int)) else none := nK_val hn
theorem nums_put {f : Nat → Nat} {line : List Nat} {t : Nat} (h : f t ∉ line.map f) : putK (nums f line) (ik (f t)) (.int (line.length : Nat)) = nums f (line ++ [t]) := by
  have e1 : nums f line = nK (line.map f) fun k => .int ((((line ++ [t]).map f).idxOf k : Nat) : Int) := nK_congr fun s hs => by rw [List.map_append, idx_app hs]
  have e2 := nK_put (v := fun k => V.int ((((line ++ [t]).map f).idxOf k : Nat) : Int)) h
  have e3 : ((line ++ [t]).map f).idxOf (f t) = line.length := by rw [List.map_append, List.map_cons, List.map_nil, idx_new h, List.length_map]
  rw [e3] at e2
  rw [e1, e2]
  unfold nums
  rw [List.map_append, List.map_cons, List.map_nil]
/-- if c: .. , told by what holds behind it -/
theorem q_whenM {M : L2.St → Hp → Prop} {t : TT} {b : Bool} (h : EvT t σ H b) (h1 : b = true → ∀ H1, Ex H H1 → ∀ D' : Ends, (∀ σ' H', M σ' H' → D'.nx σ' H') → tu D' σ H1) (h2 : b = false → ∀ H1, Ex H H1 → M σ H1) (k : ∀ σ' H', M σ' H' → tz D σ' H') : tSeq (tIfS t tu tNext) tz D σ H :=
  s_if (D := { D with nx := tz D }) h (fun c H1 e => h1 c H1 e _ k) (fun c H1 e => k _ _ (h2 c H1 e))
theorem s_forRow {j i0 i1 : Nat} {a : Addr} {rows : Rows} {s : Nat} (ha : σ[i0]? = some (some (.ref a))) (hs' : σ[i1]? = some (some (.int s))) {H0 : Hp} (e0 : Ex H0 H) (hG : Grid H0 a rows) (hs : s < rows.length)
    (Pv : Nat → L2.St → Hp → Prop) (h0 : Pv 0 σ H) (hE : ∀ i σ' H', Pv i σ' H' → Ex H0 H')
    (hstep : ∀ i o σ' H', (rows.getD s [])[i]? = some o → Pv i σ' H' → tu { D with nx := Pv (i + 1), ct := Pv (i + 1), bk := D.nx } (σ'.set j (some (gV o))) H') (hd : ∀ σ' H', Pv (rows.getD s []).length σ' H' → D.nx σ' H') :
    tFor (iOr (iList K (tOrE (tOp (rIxL K) (tVar i0) (tVar i1)) (tOp (rIxT K) (tVar i0) (tVar i1)))) (iTup K (tOrE (tOp (rIxL K) (tVar i0) (tVar i1)) (tOp (rIxT K) (tVar i0) (tVar i1))))) (gName j) tu D σ H := by
  obtain ⟨ps, p, hA, hp, hrow⟩ := hG.get hs
  have val : ∀ Q : VK, Q (.ref p) H → (tOrE (tOp (rIxL K) (tVar i0) (tVar i1)) (tOp (rIxT K) (tVar i0) (tVar i1))) σ H Q := fun Q q => by
    rcases hA with hA | hA
    · exact .inr ⟨_, ha, _, hs', a, _, (s : Int), .ref p, rfl, rfl, st_of (e0 _ _ hA), at_of rfl (map_get V.ref hp), q⟩
    · exact .inl ⟨_, ha, _, hs', a, _, (s : Int), .ref p, rfl, rfl, sq_of (e0 _ _ hA), at_of rfl (map_get V.ref hp), q⟩
  rcases hrow with hrow | hrow
  · refine .inr (val _ ⟨p, rfl, ⟨_, st_of (e0 _ _ hrow)⟩, for_tup Pv h0 (fun i σ' H' _ P => st_of (hE i σ' H' P _ _ hrow)) (fun i x σ' H' hx P => ?_) (fun σ' H' P => hd σ' H' (by rw [List.length_map] at P; exact P))⟩)
    obtain ⟨o, ho, rfl⟩ := get_map hx
    exact hstep i o σ' H' ho P
  · refine .inl (val _ ⟨p, rfl, ⟨_, sq_of (e0 _ _ hrow)⟩, for_list Pv h0 (fun i σ' H' _ P => sq_of (hE i σ' H' P _ _ hrow)) (fun i x σ' H' hx P => ?_) (fun σ' H' P => hd σ' H' (by rw [List.length_map] at P; exact P))⟩)
    obtain ⟨o, ho, rfl⟩ := get_map hx
    exact hstep i o σ' H' ho P
theorem q_forRow {j i0 i1 : Nat} {a : Addr} {rows : Rows} {s : Nat} (ha : σ[i0]? = some (some (.ref a))) (hs' : σ[i1]? = some (some (.int s))) {H0 : Hp} (e0 : Ex H0 H) (hG : Grid H0 a rows) (hs : s < rows.length)
    (Pv : Nat → L2.St → Hp → Prop) (h0 : Pv 0 σ H) (hE : ∀ i σ' H', Pv i σ' H' → Ex H0 H')
    (hstep : ∀ i o σ' H', (rows.getD s [])[i]? = some o → Pv i σ' H' → tu { D with nx := Pv (i + 1), ct := Pv (i + 1), bk := tz D } (σ'.set j (some (gV o))) H') (hd : ∀ σ' H', Pv (rows.getD s []).length σ' H' → tz D σ' H') :
    tSeq (tFor (iOr (iList K (tOrE (tOp (rIxL K) (tVar i0) (tVar i1)) (tOp (rIxT K) (tVar i0) (tVar i1)))) (iTup K (tOrE (tOp (rIxL K) (tVar i0) (tVar i1)) (tOp (rIxT K) (tVar i0) (tVar i1))))) (gName j) tu) tz D σ H :=
  s_forRow (D := { D with nx := tz D }) ha hs' e0 hG hs Pv h0 hE hstep hd
def shL (ends line : List Nat) (i : Nat) : List Nat := (List.range i).filter fun j => decide (line.getD j 0 ∈ ends)
theorem shL_app {ends line : List Nat} {t i : Nat} (h : i ≤ line.length) : shL ends (line ++ [t]) i = shL ends line i := by
  refine List.filter_congr fun j hj => ?_
  have := List.mem_range.mp hj
  rw [List.getD_eq_getElem?_getD, List.getD_eq_getElem?_getD, List.getElem?_append_left (by omega)]
theorem shL_succ {ends line : List Nat} {s i : Nat} (h : line[i]? = some s) : shL ends line (i + 1) = if s ∈ ends then shL ends line i ++ [i] else shL ends line i := by
  unfold shL
  rw [range_filter, getD_of h]
  by_cases c : s ∈ ends <;> simp [c]
theorem shL_len {ends line : List Nat} {i : Nat} : (shL ends line i).length ≤ i := filter_len
/-- where least_of stands between two rows -/
structure LS (Hb H' : Hp) (nm ln rw fd sh : Addr) (rows : Rows) (ends us : List Nat) (w : Nat) (f : Nat → Nat) (line : List Nat) (done : Rows) : Prop where
  ex : Ex Hb H'
  num : H' nm = some (.dK (nums f line))
  lin : H' ln = some (.lst (line.map fun (k : Nat) => V.int k))
  fin : H' fd = some (.dK (nS ends))
  row : RowsL H' rw done
theorem LS.go {Hb H' H'' : Hp} {nm ln rw fd sh : Addr} {rows : Rows} {ends us : List Nat} {w : Nat} {f : Nat → Nat} {line : List Nat} {done : Rows} (h : LS Hb H' nm ln rw fd sh rows ends us w f line done) (e : Ex H' H'') : LS Hb H'' nm ln rw fd sh rows ends us w f line done :=
  ⟨h.ex.trans e, e _ _ h.num, e _ _ h.lin, e _ _ h.fin, h.row.ex e⟩
def sp_least_of : Sp := fun vs H Q _ => ∃ (a e : Addr) (rows : Rows) (ends : List Nat) (n : Nat), vs = [.int n, .ref a, .ref e] ∧ Grid H a rows ∧ 1 ≤ rows.length ∧ rows.length < 60 ∧ 1 ≤ n ∧ n ≤ 8 ∧ (∀ r ∈ rows, r.length = n) ∧ (∀ r ∈ rows, ∀ t, some t ∈ r → t < rows.length) ∧ SeqAt H e (ends.map fun (k : Nat) => V.int k) ∧ ends.Nodup ∧ (∀ k ∈ ends, k < rows.length) ∧
  ∀ p ra ea H' arr shut, H p = none → Ex H H' → H' p = some (.tup [.ref ra, .ref ea]) → ArrT H' ra arr → StT H' ea shut → LeastR rows n ends arr shut → Q (.ref p) H'
theorem ok_least_of (T : Tx K mg) : FnOk P w K mg base CX0 3 T.d_least_of.f T.d_least_of.fd ["signs", "arrows", "ends"] sp_least_of := by
  refine T.d_least_of.F.ok sc_least_of (fun vs H Q E h => ?_) (fun cdv A outer s H vs Q E hr h => ?_)
  · obtain ⟨a, e, rows, ends, n, rfl, _⟩ := h
    rfl
  · obtain ⟨a, ea, rows, ends, n, rfl, hG, h1, h60, n1, n8, hw, hb, hE, hEn, hEb, k⟩ := h
    refine ⟨_, (pss_cons (ps_set (i := 3) sc_least_of.nd rfl (Or.inl rfl) (pe_call (ok_useful_of T) (hr.mono (by decide)) rfl T.d_useful_of.g T.d_useful_of.F.kp T.d_useful_of.b .nil pass0 (pa_cons (pv 1) (pa_cons (pe_dcg (own := [("stand", 4)]) (g := (gName 4)) (.dK []) (hu64 hr.units) rfl sc_least_of.nd (pi_either (k_piL K (pv 2)) (k_piT K (pv 2))) (blkOk_by (own := [("stand", 4)]) (N := ["signs", "arrows", "ends", "stands", "stand", "kinds", "numbers", "line", "rows", "final", "shut", "row", "goal", "kind"]) (sc := defScope s_least_of) (by decide +kernel)) (fun _ _ _ _ _ => (pg_name (i := 4) sc_least_of.nd rfl (Or.inl rfl))) (fun _ _ _ _ _ => pts_nil) (fun _ _ _ _ _ => (pv 4)) (fun _ _ _ _ _ => pe_bl) (.inl rfl)) pa_nil))))
      (pss_cons (ps_if (pt_cmpR (k_niS K) pe_int (pv 3) rfl) (pss_one (ps_ret (pe_tup (pa_cons (pe_tup (pa_cons (pe_op (k_rep K) (pe_tup (pa_cons pe_non pa_nil)) (pv 0)) pa_nil)) (pa_cons (pe_tup pa_nil) pa_nil))))) pss_nil)
      (pss_cons (ps_set (i := 5) sc_least_of.nd rfl (Or.inl rfl) (pe_call (ok_kinds_of T) (hr.mono (by decide)) rfl T.d_kinds_of.g T.d_kinds_of.F.kp T.d_kinds_of.b .nil pass0 (pa_cons (pv 1) (pa_cons (pe_dcg (own := [("stand", 4)]) (g := (gName 4)) (.dK []) (hu64 hr.units) rfl sc_least_of.nd (pi_either (k_piL K (pv 2)) (k_piT K (pv 2))) (blkOk_by (own := [("stand", 4)]) (N := ["signs", "arrows", "ends", "stands", "stand", "kinds", "numbers", "line", "rows", "final", "shut", "row", "goal", "kind"]) (sc := defScope s_least_of) (by decide +kernel)) (fun _ _ _ _ _ => (pg_name (i := 4) sc_least_of.nd rfl (Or.inl rfl))) (fun _ _ _ _ _ => pts_nil) (fun _ _ _ _ _ => (pv 4)) (fun _ _ _ _ _ => pe_bl) (.inl rfl)) (pa_cons (pv 3) pa_nil)))))
      (pss_cons (ps_par3 (i := 6) (j := 7) (l := 8) (by rfl) sc_least_of.nd rfl rfl rfl (by decide) (by decide) (by decide) rfl rfl rfl (pa_cons (pe_disp (pps_cons (pe_dget (hu64 hr.units) (pv 5) pe_int (fun _ _ => rfl)) pe_int pps_nil) rfl rfl (by decide) (by decide)) (pa_cons (pe_lst (pa_cons pe_int pa_nil)) (pa_cons (pe_lst pa_nil) pa_nil))) (by rfl))
      (pss_cons (ps_setDcg (own := [("stand", 4)]) (g := (gName 4)) (.dK []) (i := 9) (hu64 hr.units) rfl sc_least_of.nd rfl rfl (swD_true rfl rfl rfl (by decide +kernel)) (pi_either (k_piL K (pv 2)) (k_piT K (pv 2))) (blkOk_by (own := [("stand", 4)]) (N := ["signs", "arrows", "ends", "stands", "stand", "kinds", "numbers", "line", "rows", "final", "shut", "row", "goal", "kind"]) (sc := defScope s_least_of) (by decide +kernel)) (fun _ _ _ _ _ => (pg_name (i := 4) sc_least_of.nd rfl (Or.inl rfl))) (fun _ _ _ _ _ => pts_nil) (fun _ _ _ _ _ => (pv 4)) (fun _ _ _ _ _ => pe_bl) (.inl rfl))
      (pss_cons (ps_set (i := 10) sc_least_of.nd rfl (Or.inl rfl) (pe_lst pa_nil))
      (pss_cons (ps_while PassesOwn.never (pt_cmpR op_gt (pe_callB (k_len K) (by rfl) T.z_len (by decide +kernel) (pa_cons (pv 7) pa_nil)) (pe_callB (k_len K) (by rfl) T.z_len (by decide +kernel) (pa_cons (pv 8) pa_nil)) (nomark _)) (pss_cons (ps_set (i := 4) sc_least_of.nd rfl (Or.inl rfl) (pe_ix (k_ixL K) (pv 7) (pe_callB (k_len K) (by rfl) T.z_len (by decide +kernel) (pa_cons (pv 8) pa_nil)) (fun _ _ => rfl)))
      (pss_cons (ps_if (pt_cmp (pc_din (hu64 hr.units) (pv 4) (pv 9))) (pss_one (ps_expr (pe_bm PySem.F.plainAttrs_list PySem.F.slot_list_append PySem.F.type_list_append mt_append (pv 10) (pa_cons (pe_callB (k_len K) (by rfl) T.z_len (by decide +kernel) (pa_cons (pv 8) pa_nil)) pa_nil)))) pss_nil)
      (pss_cons (ps_set (i := 11) sc_least_of.nd rfl (Or.inl rfl) (pe_lst pa_nil))
      (pss_cons (ps_for PassesOwn.never rfl (pi_either (k_piL K (pe_either (pe_ix (k_ixL K) (pv 1) (pv 4) (fun _ _ => rfl)) (pe_ix (k_ixT K) (pv 1) (pv 4) (fun _ _ => rfl)))) (k_piT K (pe_either (pe_ix (k_ixL K) (pv 1) (pv 4) (fun _ _ => rfl)) (pe_ix (k_ixT K) (pv 1) (pv 4) (fun _ _ => rfl))))) (pg_name (i := 12) sc_least_of.nd rfl (Or.inl rfl)) (pss_cons (ps_set (i := 13) sc_least_of.nd rfl (Or.inl rfl) (pe_dgetN1 (hu64 hr.units) (pv 5) (pv 12) ⟨rfl, rfl, rfl, rfl⟩))
      (pss_cons (ps_if (PW.pt (pw_and (pt_cmpR op_notN (pv 13) pe_non (nomark _)) (pw_and1 (pt_cmp (pc_dnotin (hu64 hr.units) (pv 13) (pv 6)))))) (pss_cons (ps_dput (hu64 hr.units) (pv 6) (pv 13) (pe_callB (k_len K) (by rfl) T.z_len (by decide +kernel) (pa_cons (pv 7) pa_nil)) rfl)
      (pss_one (ps_expr (pe_bm PySem.F.plainAttrs_list PySem.F.slot_list_append PySem.F.type_list_append mt_append (pv 7) (pa_cons (pv 12) pa_nil))))) pss_nil)
      (pss_one (ps_expr (pe_bm PySem.F.plainAttrs_list PySem.F.slot_list_append PySem.F.type_list_append mt_append (pv 11) (pa_cons (pe_ifExp (pt_cmpR op_isN (pv 13) pe_non (nomark _)) pe_non (pe_dget (hu64 hr.units) (pv 6) (pv 13) (fun _ _ => rfl))) pa_nil)))))))
      (pss_one (ps_expr (pe_bm PySem.F.plainAttrs_list PySem.F.slot_list_append PySem.F.type_list_append mt_append (pv 8) (pa_cons (pe_callTy (k_tuple K) (by rfl) T.z_tuple (by decide +kernel) (pa_cons (pv 11) pa_nil)) pa_nil)))))))))
      (pss_one (ps_ret (pe_tup (pa_cons (pe_callTy (k_tuple K) (by rfl) T.z_tuple (by decide +kernel) (pa_cons (pv 8) pa_nil)) (pa_cons (pe_callTy (k_tuple K) (by rfl) T.z_tuple (by decide +kernel) (pa_cons (pv 10) pa_nil)) pa_nil)))))))))))), ?_⟩
    have hEl : ends.length ≤ rows.length := by
      have := nat_nodup_len ends (List.range rows.length) hEn (fun x hx => List.mem_range.mpr (hEb x hx))
      simpa using this
    have hw100 : ∀ r ∈ rows, r.length ≤ 100 := fun r hr => by rw [hw r hr]; omega
    refine q_asgR (er_callAs (as_v (ev_var rfl) (as_r (R := fun H p => H p = some (.dK (nS ends))) (er_marks (K := K) rfl hE hEn (by omega) (fun _ => rfl) (fun _ => rfl)) is_mono as_nil)) (fun vs H1 e ⟨r, e1, d, r2, e2, hd, e3⟩ => by
      subst e1 e2 e3
      exact spr_useful_of (hG.ex e) h1 (by omega) hw100 hb hd hEn hEb)) fun sp H1 hsp e1 hu => ?_
    obtain ⟨us, hus, U⟩ := hu
    have hun : us.Nodup := U.asc.imp fun h => Nat.ne_of_lt h
    have hul : us.length ≤ rows.length := by
      have := nat_nodup_len us (List.range rows.length) hun (fun x hx => List.mem_range.mpr (U.bd x hx))
      simpa using this
    refine q_when (b := !decide (0 ∈ us)) (et_is (et_test (ev_op ev_c (ev_var rfl) (rv_niL (sq_of hus) rfl (flat_nats us)))) (by rw [← in_nats]; rfl)) (fun c H2 e2 => ?_) fun c H2 e2 => ?_
    · have c0 : ¬ Useful rows ends 0 := fun h => by
        have := (U.mem 0 (by omega)).mpr h
        simp [this] at c
      refine s_retR (er_tupAs (as_r (R := fun H p => ∃ q, H p = some (.tup [.ref q]) ∧ H q = some (.tup (List.replicate n .non))) (er_imp (er_tupAs (as_r (R := fun H p => H p = some (.tup (List.replicate n .non))) (er_nones (K := K) (n := n) (eu_tup (ea_cons ev_c ea_nil) (by decide)) (fun H1 e1 => ev_var rfl) n1 (by omega)) is_mono as_nil) (fun vs H H' e ⟨a, r, h1, h2, h3⟩ => ⟨a, r, h1, e _ _ h2, h3⟩) (fun vs H ⟨a, r, h1, h2, h3⟩ => by rw [h1, h3]; show 1 ≤ 1000; decide)) (fun H1 p _ ⟨vs, h1, a, r, h2, h3, h4⟩ => ⟨a, by rw [h1, h2, h4], h3⟩)) (fun H H' a e ⟨q, h1, h2⟩ => ⟨q, e _ _ h1, e _ _ h2⟩)
        (as_r (R := fun H p => H p = some (.tup [])) (er_U (eu_tup ea_nil (by decide))) is_mono as_nil)) (fun vs H H' e ⟨a, r, h1, ⟨q, h2, h3⟩, b, r2, h4, h5, h6⟩ => ⟨a, r, h1, ⟨q, e _ _ h2, e _ _ h3⟩, b, r2, h4, e _ _ h5, h6⟩) (fun vs H ⟨a, r, h1, h2, b, r2, h4, h5, h6⟩ => by rw [h1, h4, h6]; show 2 ≤ 1000; decide)) fun p H3 hp e3 hR => ?_
      obtain ⟨vs, h3, ra, r, rfl, ⟨q, g1, g2⟩, ea', r2, rfl, g3, rfl⟩ := hR
      refine k p ra ea' H3 [List.replicate n none] [] (fresh_back (e1.trans e2) hp) ((e1.trans e2).trans e3) h3 ⟨[q], g1, rfl, fun i p r q1 q2 => ?_⟩ g3 (.inl ⟨c0, rfl, rfl⟩)
      cases i with
      | zero =>
        cases q1
        cases q2
        rw [List.map_replicate]
        exact g2
      | succ i => cases q1
    · have c0 : 0 ∈ us := by simpa using c
      have e12 := e1.trans e2
      refine q_asgR (er_callAs (as_v (ev_var rfl) (as_r (R := fun H p => H p = some (.dK (nS ends))) (er_marks (K := K) rfl (hE.ex e12) hEn (by omega) (fun _ => rfl) (fun _ => rfl)) is_mono (as_v (ev_var rfl) as_nil))) (fun vs H3 e ⟨r, e1, d, r2, e2', hd, r3, e3, e4⟩ => by
        subst e1 e2' e3 e4
        exact spr_kinds_of (hG.ex (e12.trans e)) hw100 hd ((e2.trans e) _ _ hus) hun U.bd (by omega))) fun kd H3 hkd e3 hk => ?_
      obtain ⟨f, hk, KO⟩ := hk
      have e13 := e12.trans e3
      have hus3 := (e2.trans e3) _ _ hus
      refine q_par3 (as_f (R := fun H p => H p = some (.dK [(ik (f 0), .int 0)])) (er_disp1 (k := ik (f 0)) (v := .int 0) (ev_dget (ev_var rfl) ev_c fun H4 e4 => by
        have := DGet.k (k := ik 0) (e4 _ _ hk)
        rw [nK_val hun, if_pos c0] at this
        exact this) ev_c) is_mono (as_f (R := fun H p => H p = some (.lst [.int 0])) (er_L (el_lst (ea_cons ev_c ea_nil) (by decide))) is_mono (as_f (R := fun H p => H p = some (.lst [])) (er_L (el_lst ea_nil (by decide))) is_mono as_nil))) (fun vs H ⟨a, r, h1, _, _, b, r2, h2, _, _, c, r3, h3, _, _, h4⟩ => ⟨.ref a, .ref b, .ref c, by rw [h1, h2, h3, h4]⟩) fun x y z H4 e4 hR => ?_
      obtain ⟨nm, r, q1, hnm, hnum, ln, r2, rfl, hln, hlin, rw', r3, rfl, hrw', hrow, rfl⟩ := hR
      cases q1
      have hlr : ln ≠ rw' := fun z => by rw [z, hrow] at hlin; cases hlin
      have e14 := e13.trans e4
      refine q_asgR (er_marks (K := K) rfl (hE.ex e14) hEn (by omega) (fun _ => rfl) (fun _ => rfl)) fun fd H5 hfd e5 hfin => ?_
      refine q_asgL (el_lst ea_nil (by decide)) fun sh H6 hsh e6 hshl => ?_
      have fdn : fd ≠ nm := fun z => by rw [z, hnum] at hfd; cases hfd
      have e46 := e5.trans e6
      have nsh : ∀ {b u}, H5 b = some u → b ≠ sh := fun h z => by rw [z, hsh] at h; cases h
      have lns : ln ≠ sh := nsh (e5 _ _ hlin)
      have rws : rw' ≠ sh := nsh (e5 _ _ hrow)
      have sh0 : H3 sh = none := fresh_back (e4.trans e5) hsh
      have hnum0 : [(ik (f 0), V.int 0)] = nums f [0] := by
        simp [nums, nK, nD]
      refine q_while (fun m σ' H' => ∃ (line : List Nat) (done : Rows) (g4 g11 g12 g13 : Option V), m = us.length - done.length ∧ σ' = [some (.int n), some (.ref a), some (.ref ea), some (.ref sp), g4, some (.ref kd), some (.ref nm), some (.ref ln), some (.ref rw'), some (.ref fd), some (.ref sh), g11, g12, g13] ∧ LS H3 H' nm ln rw' fd sh rows ends us n f line done ∧
          H' sh = some (.lst ((shL ends line done.length).map fun (k : Nat) => V.int k)) ∧ Lp rows n us f line done done.length [] 0) _
        ⟨[0], [], none, none, none, none, rfl, rfl, ⟨e4.trans e46, by rw [← hnum0]; exact e46 _ _ hnum, e46 _ _ hlin, e6 _ _ hfin, ⟨[], e46 _ _ hrow, rfl, fun i p r h => by cases h⟩⟩, hshl, Lp.start c0⟩ fun m σ' H' hW => ?_
      obtain ⟨line, done, g4, g11, g12, g13, rfl, rfl, S, hs, L⟩ := hW
      obtain ⟨ps, hps, hpl, hpr⟩ := id S.row
      have hll := L.line_le hun
      have hlen1 : ∀ H1, Ex H' H1 → ∀ tv : TE, Ev tv [some (.int n), some (.ref a), some (.ref ea), some (.ref sp), g4, some (.ref kd), some (.ref nm), some (.ref ln), some (.ref rw'), some (.ref fd), some (.ref sh), g11, g12, g13] H1 (.ref rw') → Ev (tCB (rLenQ K) (tCons tv tNil)) [some (.int n), some (.ref a), some (.ref ea), some (.ref sp), g4, some (.ref kd), some (.ref nm), some (.ref ln), some (.ref rw'), some (.ref fd), some (.ref sh), g11, g12, g13] H1 (.int done.length) := fun H1 e1 tv h => by
        refine ev_is (ev_cb (ea_cons h ea_nil) (rc_lenQ (.inl (sq_of (e1 _ _ hps))))) ?_
        rw [List.length_map, hpl]
      refine ⟨decide ((done.length : Int) < (line.length : Int)), fun H7 e7 Q q => ev_op (ev_cb (ea_cons (ev_var rfl) ea_nil) (rc_lenQ (.inl (sq_of S.lin)))) (hlen1 H' (Ex.refl _) _ (ev_var rfl)) rv_I0 H7 e7 _ fun H8 e8 => ⟨_, rfl, by have := q H8 e8; rw [List.length_map]; exact this⟩, fun ct H7 e7 => ?_, fun ct H7 e7 => ?_⟩
      · have hi : done.length < line.length := by
          have := of_decide_eq_true ct
          omega
        have hsi : line[done.length]? = some line[done.length] := List.getElem?_eq_getElem hi
        generalize line[done.length] = s at hsi
        have hsu : s ∈ us := L.sub s (List.mem_of_getElem? hsi)
        have hsb : s < rows.length := U.bd s hsu
        have S7 := S.go e7
        refine ⟨_, fun σ2 H2 h => h, ?_⟩
        refine q_asg (v := .int (s : Nat)) (ev_op (ev_var rfl) (hlen1 H7 e7 _ (ev_var rfl)) (rv_ixL (i := (done.length : Int)) (sq_of S7.lin) (at_of rfl (map_get (fun (k : Nat) => V.int k) hsi)))) fun H8 e8 => ?_
        have S8 := S7.go e8
        have hs8 := (e7.trans e8) _ _ hs
        refine q_whenM (M := fun σ' H' => σ' = [some (.int n), some (.ref a), some (.ref ea), some (.ref sp), some (.int (s : Nat)), some (.ref kd), some (.ref nm), some (.ref ln), some (.ref rw'), some (.ref fd), some (.ref sh), g11, g12, g13] ∧ LS H3 H' nm ln rw' fd sh rows ends us n f line done ∧ H' sh = some (.lst ((shL ends line (done.length + 1)).map fun (k : Nat) => V.int k)))
          (et_is (et_B (ev_din (o := valV (nS ends) (ik s)) (ev_var rfl) (ev_var rfl) fun H9 e9 => DGet.k (k := ik s) (e9 _ _ S8.fin))) nS_val) (fun cs H9 e9 D' kD' => ?_) (fun cs H9 e9 => ?_) ?_
        · have cs : s ∈ ends := of_decide_eq_true cs
          refine s_app (e9 _ _ hs8) (ev_var rfl) (ev_is (ev_cb (ea_cons (ev_var rfl) ea_nil) (rc_lenQ (.inl (sq_of (((e7.trans e8).trans e9) _ _ hps))))) (by rw [List.length_map, hpl])) (by rw [List.length_map]; have := shL_len (ends := ends) (line := line) (i := done.length); omega) fun H10 e10 => kD' _ _ ⟨rfl, ?_, ?_⟩
          · have S10 := S8.go (e9.trans e10)
            have hs10 := (e9.trans e10) _ _ hs8
            have nb : ∀ {b u}, H10 b = some u → (∀ xs, u ≠ .lst xs) → b ≠ sh := fun h n z => by rw [z, hs10] at h; exact n _ (Option.some.inj h).symm
            exact ⟨Ex.mut S10.ex sh0, by rw [upd_ne (nb S10.num fun xs z => nomatch z)]; exact S10.num, by rw [upd_ne lns]; exact S10.lin, by rw [upd_ne (nb S10.fin fun xs z => nomatch z)]; exact S10.fin, S10.row.mut (Ex.refl _) ⟨_, hs10, fun xs z => nomatch z⟩ rws⟩
          · rw [upd_same, shL_succ hsi, if_pos cs, List.map_append]
            rfl
        · have cs : s ∉ ends := of_decide_eq_false cs
          refine ⟨rfl, S8.go e9, ?_⟩
          rw [shL_succ hsi, if_neg cs]
          exact e9 _ _ hs8
        · rintro σ9 H9 ⟨rfl, S9, hs9⟩
          refine q_asgL (el_lst ea_nil (by decide)) fun rl H10 hrl e10 hr0 => ?_
          have S10 := S9.go e10
          have hs10 := e10 _ _ hs9
          have nrl : ∀ {b u}, H9 b = some u → b ≠ rl := fun h z => by rw [z, hrl] at h; cases h
          have rl0 : H3 rl = none := fresh_back S9.ex hrl
          obtain ⟨ps9, hps9, _, _⟩ := id S9.row
          have lnr : ln ≠ rl := nrl S9.lin
          have rwr : rw' ≠ rl := nrl hps9
          have shr : sh ≠ rl := nrl hs9
          have hrow : rows.getD s [] ∈ rows := by
            rw [List.getD_eq_getElem?_getD, List.getElem?_eq_getElem hsb]
            exact List.getElem_mem hsb
          have hrw : ∀ s ∈ us, (rows.getD s []).length = n := fun s hs => by
            rw [List.getD_eq_getElem?_getD, List.getElem?_eq_getElem (U.bd s hs)]
            exact hw _ (List.getElem_mem _)
          refine q_forRow (i0 := 1) (i1 := 4) rfl rfl (e13.trans S10.ex) hG hsb (fun c σ' H' => ∃ (line : List Nat) (cur : List (Option Nat)) (g12 g13 : Option V), σ' = [some (.int n), some (.ref a), some (.ref ea), some (.ref sp), some (.int (s : Nat)), some (.ref kd), some (.ref nm), some (.ref ln), some (.ref rw'), some (.ref fd), some (.ref sh), some (.ref rl), g12, g13] ∧ LS H3 H' nm ln rw' fd sh rows ends us n f line done ∧ H' sh = some (.lst ((shL ends line (done.length + 1)).map fun (k : Nat) => V.int k)) ∧ H' rl = some (.lst (cur.map gV)) ∧ Lp rows n us f line done done.length cur c ∧ line[done.length]? = some s)
            ⟨line, [], g12, g13, rfl, S10, hs10, hr0, L, hsi⟩ (fun c σ' H' P => ?_) (fun c o σ' H11 ho P => ?_) (fun σ' H11 P => ?_)
          · obtain ⟨_, _, _, _, _, S11, _⟩ := P
            exact e13.trans S11.ex
          · obtain ⟨line, cur, g12, g13, rfl, S11, hs11, hr11, L11, hsi⟩ := P
            have hll := L11.line_le hun
            have hi : done.length < line.length := (List.getElem?_eq_some_iff.mp hsi).1
            refine q_asg (v := gV (o.bind fun t => if t ∈ us then some (f t) else none)) (ev_kget1 (ev_var rfl) (ev_var rfl) (S11.ex _ _ hk) hun) fun H12 e12' => ?_
            have S12 := S11.go e12'
            have hcl : cur.length ≤ 100 := by
              rw [L11.cu s hsi, List.length_map, List.length_take]
              have := hw100 _ hrow
              omega
            -- whether it is new
            have test : EvT (tAnd (tTest (tOp (fun x y H Q => y = .non ∧ Q (.bl (!decide (x = .non))) H) (tVar 13) (tC .non))) (tB (tDNotIn (tVar 13) (tVar 6)))) [some (.int n), some (.ref a), some (.ref ea), some (.ref sp), some (.int (s : Nat)), some (.ref kd), some (.ref nm), some (.ref ln), some (.ref rw'), some (.ref fd), some (.ref sh), some (.ref rl), some (gV o), some (gV (o.bind fun t => if t ∈ us then some (f t) else none))] H12 (decide (∃ t, o = some t ∧ t ∈ us ∧ f t ∉ line.map f)) := by
              refine et_is (et_and (b := decide (∃ t, o = some t ∧ t ∈ us ∧ f t ∉ line.map f)) (et_test (ev_op (ev_var rfl) ev_c rv_notN)) fun c => ?_) ?_
              · cases o with
                | none => cases c
                | some t =>
                  by_cases ht : t ∈ us
                  · refine et_is (et_B (ev_dni (o := valV (nums f line) (ik (f t))) (y := .int (f t : Nat)) (ev_is (ev_var rfl) (by simp [ht, gV])) (ev_var rfl) fun H13 e13 => DGet.k (k := ik (f t)) (e13 _ _ S12.num))) ?_
                    rw [nums_val L11.nd]
                    by_cases hf : f t ∈ line.map f
                    · rw [if_pos hf, decide_eq_false (by rintro ⟨t', h, _, h3⟩; cases h; exact h3 hf)]
                      rfl
                    · rw [if_neg hf, decide_eq_true ⟨t, rfl, ht, hf⟩]
                      rfl
                  · simp [ht] at c
              · by_cases hx : ∃ t, o = some t ∧ t ∈ us ∧ f t ∉ line.map f
                · obtain ⟨t, rfl, ht, hf⟩ := id hx
                  rw [decide_eq_true hx, Bool.and_true]
                  simp [ht]
                · rw [decide_eq_false hx, Bool.and_false]
            have rlm : ∀ {H' : Hp} {b u}, H' rl = some (.lst (cur.map gV)) → H' b = some u → (∀ xs, u ≠ .lst xs) → b ≠ rl := fun h0 h n z => by rw [z, h0] at h; exact n _ (Option.some.inj h).symm
            refine q_whenM (M := fun σ' H' => ∃ line', σ' = [some (.int n), some (.ref a), some (.ref ea), some (.ref sp), some (.int (s : Nat)), some (.ref kd), some (.ref nm), some (.ref ln), some (.ref rw'), some (.ref fd), some (.ref sh), some (.ref rl), some (gV o), some (gV (o.bind fun t => if t ∈ us then some (f t) else none))] ∧ LS H3 H' nm ln rw' fd sh rows ends us n f line' done ∧ H' sh = some (.lst ((shL ends line' (done.length + 1)).map fun (k : Nat) => V.int k)) ∧ H' rl = some (.lst (cur.map gV)) ∧
                Lp rows n us f line' done done.length (cur ++ [num us f line' o]) (c + 1) ∧ line'[done.length]? = some s ∧ ∀ t, o = some t → t ∈ us → f t ∈ line'.map f) test (fun cx H13 e13' D' kD' => ?_) (fun cx H13 e13' => ?_) ?_
            · obtain ⟨t, rfl, ht, hf⟩ := of_decide_eq_true cx
              have S13 := S12.go e13'
              refine q_dput (v := .int (line.length : Nat)) (ev_is (ev_cb (ea_cons (ev_var rfl) ea_nil) (rc_lenQ (.inl (sq_of S13.lin)))) (by rw [List.length_map])) (ev_var rfl) (y := .int (f t : Nat)) (ev_is (ev_var rfl) (by simp [ht, gV])) fun H14 e14' => ⟨_, DPut.k (k := ik (f t)) (e14' _ _ S13.num) (sz_lt (by rw [nums, nK_len, List.length_map]; omega)), ?_⟩
              have S14 := S13.go e14'
              have e1114 := e12'.trans (e13'.trans e14')
              have lnn : ln ≠ nm := fun z => by have := S14.lin; rw [z, S14.num] at this; cases this
              refine s_app (xs := line.map fun (k : Nat) => V.int k) (by rw [upd_ne lnn]; exact S14.lin) (ev_var rfl) (ev_var rfl) (by rw [List.length_map]; omega) fun H15 e15 => kD' _ _ ⟨line ++ [t], rfl, ?_, ?_, ?_, ?_, ?_, ?_⟩
              · have nl : ∀ {b u}, H15 b = some u → (∀ xs, u ≠ .lst xs) → b ≠ ln := fun h n z => by
                  have q := e15 _ _ (show (upd H14 nm _) ln = _ by rw [upd_ne lnn]; exact S14.lin)
                  rw [z, q] at h
                  exact n _ (Option.some.inj h).symm
                have hln15 := e15 _ _ (show (upd H14 nm (.dK (putK (nums f line) (ik (f t)) (.int (line.length : Nat))))) ln = _ by rw [upd_ne lnn]; exact S14.lin)
                have hnm15 := e15 _ _ (show (upd H14 nm (.dK (putK (nums f line) (ik (f t)) (.int (line.length : Nat))))) nm = _ from upd_same)
                have hfd15 := e15 _ _ (show (upd H14 nm (.dK (putK (nums f line) (ik (f t)) (.int (line.length : Nat))))) fd = _ by rw [upd_ne fdn]; exact S14.fin)
                have hrow15 : RowsL H15 rw' done := (S14.row.mut (Ex.refl _) ⟨_, S14.num, fun xs z => nomatch z⟩ (fun z => by
                  obtain ⟨q, hq, _⟩ := S14.row
                  rw [z, S14.num] at hq
                  cases hq)).ex e15
                refine ⟨Ex.mut ((Ex.mut S14.ex hnm).trans e15) hln, ?_, ?_, ?_, hrow15.mut (Ex.refl _) ⟨_, hln15, fun xs z => nomatch z⟩ hlr.symm⟩
                · rw [upd_ne (nl hnm15 fun xs z => nomatch z), hnm15, nums_put hf]
                · rw [upd_same, List.map_append]
                  rfl
                · rw [upd_ne (nl hfd15 fun xs z => nomatch z)]
                  exact hfd15
              · have q := e1114 _ _ hs11
                have shn : sh ≠ nm := fun z => by rw [z, S14.num] at q; cases q
                rw [upd_ne lns.symm, e15 _ _ (show (upd H14 nm _) sh = _ by rw [upd_ne shn]; exact q), shL_app hi]
              · have q := e1114 _ _ hr11
                have rln : rl ≠ nm := fun z => by rw [z, S14.num] at q; cases q
                rw [upd_ne lnr.symm, e15 _ _ (show (upd H14 nm _) rl = _ by rw [upd_ne rln]; exact q)]
              · have := L11.new hrw hsi ho ht hf
                rw [num_in ht, List.map_append, List.map_cons, List.map_nil, idx_new hf, List.length_map]
                exact this
              · rw [List.getElem?_append_left hi]
                exact hsi
              · intro t' h' _
                cases h'
                rw [List.map_append]
                exact List.mem_append_right _ (by simp)
            · have hm : ∀ t, o = some t → t ∈ us → f t ∈ line.map f := fun t h1 h2 => Classical.byContradiction fun h3 => by
                have := of_decide_eq_false cx
                exact this ⟨t, h1, h2, h3⟩
              exact ⟨line, rfl, S12.go e13', (e12'.trans e13') _ _ hs11, (e12'.trans e13') _ _ hr11, L11.old hsi ho hm, hsi, hm⟩
            · rintro σ13 H13 ⟨line', rfl, S13, hs13, hr13, L13, hsi', hm⟩
              refine s_app (v := gV (num us f line' o)) hr13 (ev_var rfl) ?_ (by rw [List.length_map]; omega) fun H14 e14' => ⟨line', cur ++ [num us f line' o], _, _, rfl, ?_, ?_, ?_, L13, hsi'⟩
              · refine ev_if (b := (o.bind fun t => if t ∈ us then some (f t) else none).isNone) (et_test (ev_op (ev_var rfl) ev_c rv_isN)) (fun cc => ?_) (fun cc => ?_)
                · have : num us f line' o = none := num_out fun t h1 h2 => by
                    subst h1
                    simp [h2] at cc
                  rw [this]
                  exact ev_c
                · cases o with
                  | none => cases cc
                  | some t =>
                    by_cases ht : t ∈ us
                    · rw [num_in ht]
                      refine ev_dget (y := .int (f t : Nat)) (ev_var rfl) (ev_is (ev_var rfl) (by simp [ht, gV])) fun H15 e15 => ?_
                      have := DGet.k (k := ik (f t)) (e15 _ _ S13.num)
                      rw [nums_val L13.nd, if_pos (hm t rfl ht)] at this
                      exact this
                    · simp [ht] at cc
              · have S14 := S13.go e14'
                have hr14 := e14' _ _ hr13
                exact ⟨Ex.mut S14.ex rl0, by rw [upd_ne (rlm hr14 S14.num fun xs z => nomatch z)]; exact S14.num, by rw [upd_ne lnr]; exact S14.lin, by rw [upd_ne (rlm hr14 S14.fin fun xs z => nomatch z)]; exact S14.fin, S14.row.mut (Ex.refl _) ⟨_, hr14, fun xs z => nomatch z⟩ rwr⟩
              · rw [upd_ne shr]
                exact e14' _ _ hs13
              · rw [upd_same, List.map_append]
                rfl
          · obtain ⟨line, cur, g12, g13, rfl, S11, hs11, hr11, L11, hsi⟩ := P
            obtain ⟨ps11, hps11, hpl11, hpr11⟩ := id S11.row
            have hll := L11.line_le hun
            have hi : done.length < line.length := (List.getElem?_eq_some_iff.mp hsi).1
            refine s_appU hps11 (ev_var rfl) (eu_tupleOf (ev_var rfl) hr11) (by rw [List.length_map, hpl11]; omega) fun q H12 hq e12' h12 => ?_
            have S12 := S11.go e12'
            have rwm : ∀ {b u}, H12 b = some u → (∀ xs, u ≠ .lst xs) → b ≠ rw' := fun h n z => by rw [z, e12' _ _ hps11] at h; exact n _ (Option.some.inj h).symm
            have L12 := L11.turn hsi rfl
            refine ⟨us.length - (done.length + 1), by omega, line, done ++ [cur], _, _, _, _, by rw [List.length_append]; rfl, rfl, ⟨Ex.mut S12.ex hrw', by rw [upd_ne (rwm S12.num fun xs z => nomatch z)]; exact S12.num, by rw [upd_ne hlr]; exact S12.lin, by rw [upd_ne (rwm S12.fin fun xs z => nomatch z)]; exact S12.fin, ps11 ++ [q], by rw [upd_same, List.map_append]; rfl, by rw [List.length_append, List.length_append, hpl11]; rfl, fun i p r q1 q2 => ?_⟩, ?_, ?_⟩
            · have : H12 p = some (.tup (r.map gV)) := by
                by_cases cj : i < done.length
                · rw [List.getElem?_append_left (by rw [hpl11]; exact cj)] at q1
                  rw [List.getElem?_append_left cj] at q2
                  exact e12' _ _ (hpr11 i p r q1 q2)
                · rw [List.getElem?_append_right (by rw [hpl11]; omega), hpl11] at q1
                  rw [List.getElem?_append_right (by omega)] at q2
                  cases ci : i - done.length with
                  | zero =>
                    rw [ci] at q1 q2
                    cases q1
                    cases q2
                    exact h12
                  | succ m =>
                    rw [ci] at q1
                    cases q1
              rw [upd_ne (rwm this fun xs z => nomatch z)]
              exact this
            · rw [upd_ne rws.symm, List.length_append]
              exact e12' _ _ hs11
            · rw [List.length_append]
              exact L12
      · have hi : line.length = done.length := by
          have h1 := of_decide_eq_false ct
          have h2 := L.ile
          omega
        have B := L.end hi
        refine s_retR (er_tupAs (as_r (R := fun H p => H p = some (.tup (ps.map V.ref))) (er_U (eu_tupleOf (K := K) (ev_var rfl) (e7 _ _ hps))) is_mono (as_r (R := fun H p => H p = some (.tup ((shL ends line done.length).map fun (k : Nat) => V.int k))) (er_U (eu_tupleOf (K := K) (ev_var rfl) (e7 _ _ hs))) is_mono as_nil)) (fun vs H H' e ⟨a, r, h1, h2, b, r2, h3, h4, h5⟩ => ⟨a, r, h1, e _ _ h2, b, r2, h3, e _ _ h4, h5⟩) (fun vs H ⟨a, r, h1, h2, b, r2, h3, h4, h5⟩ => by rw [h1, h3, h5]; show 2 ≤ 1000; decide)) fun p H8 hp e8 hR => ?_
        obtain ⟨vs, g0, ra, r, rfl, g1, ea', r2, rfl, g2, rfl⟩ := hR
        have e38 := (S.ex.trans e7).trans e8
        refine k p ra ea' H8 done (shL ends line done.length) (fresh_back (e13.trans (S.ex.trans e7)) hp) (e13.trans e38) g0 ⟨ps, g1, hpl, fun i p r q1 q2 => (e7.trans e8) _ _ (hpr i p r q1 q2)⟩ g2 (.inr ⟨us, f, line, U, c0, KO, B, ?_⟩)
        rw [← hi]
        rfl
end
end K14
set_option maxHeartbeats 4000000
namespace K14
open PySem L2 Evl
local macro_rules | `(tactic| walk_at "ev") => `(tactic| repeat' (first
  | exact ev_var rfl | exact ev_c | exact ea_nil | apply ea_cons | exact rv_I0 | apply ev_op | apply ev_cb | apply ev_un | exact ru_neg
  | exact rc_isiInt | exact rc_isiBool | exact rc_isiStr))
theorem LeastR.wf {rows : Rows} {n : Nat} {ends : List Nat} {arr : Rows} {shut : List Nat} (h : LeastR rows n ends arr shut) (hw : ∀ r ∈ rows, r.length = n) : Wf n arr ∧ arr.length ≤ rows.length + 1 ∧ Asc arr.length shut := by
  rcases h with ⟨_, rfl, rfl⟩ | ⟨us, f, line, U, h0, KO, B, rfl⟩
  · refine ⟨⟨Nat.le_refl _, fun r hr => ?_, fun r hr k hk => ?_⟩, Nat.le_add_left _ _, ⟨List.Pairwise.nil, fun k hk => by cases hk⟩⟩
    · rw [List.mem_singleton.mp hr, List.length_replicate]
    · rw [List.mem_singleton.mp hr] at hk
      have := (List.mem_replicate.mp hk).2
      cases this
  · have hun : us.Nodup := U.asc.imp fun h => Nat.ne_of_lt h
    have hul : us.length ≤ rows.length := by
      have := nat_nodup_len us (List.range rows.length) hun (fun x hx => List.mem_range.mpr (U.bd x hx))
      simpa using this
    have nl : line.Nodup := List.Pairwise.of_map f (fun a b ne e => ne (by rw [e])) B.nd
    have hll : line.length ≤ us.length := sub_len nl B.sub
    have hpos : 0 < line.length := (List.getElem?_eq_some_iff.mp B.first).1
    have row : ∀ r ∈ arr, ∃ s ∈ line, r = (rows.getD s []).map (num us f line) := fun r hr => by
      obtain ⟨j, hj, e⟩ := List.getElem_of_mem hr
      have hj' : j < line.length := by rw [← B.len]; exact hj
      have q := B.row j _ (List.getElem?_eq_getElem hj')
      rw [List.getElem?_eq_getElem hj, e] at q
      exact ⟨_, List.getElem_mem hj', Option.some.inj q⟩
    refine ⟨⟨by rw [B.len]; exact hpos, fun r hr => ?_, fun r hr k hk => ?_⟩, by rw [B.len]; omega, ?_⟩
    · obtain ⟨s, hs, rfl⟩ := row r hr
      have hsb := U.bd s (B.sub s hs)
      rw [List.length_map, List.getD_eq_getElem?_getD, List.getElem?_eq_getElem hsb]
      exact hw _ (List.getElem_mem hsb)
    · obtain ⟨s, hs, rfl⟩ := row r hr
      obtain ⟨o, ho, e⟩ := List.mem_map.mp hk
      rw [B.len]
      cases o with
      | none => cases e
      | some t =>
        by_cases m : t ∈ us
        · rw [num_in m] at e
          cases e
          have := List.idxOf_lt_length_of_mem (B.has s hs t ho m)
          rwa [List.length_map] at this
        · rw [num_out fun x e => by cases e; exact m] at e
          cases e
    · rw [B.len]
      exact ⟨List.Pairwise.filter _ List.pairwise_lt_range, fun k hk => List.mem_range.mp (List.mem_filter.mp hk).1⟩
section
variable {P : Program} {w : World} {K : PySem.W.Frag} {mg : Str → Option Value} {base : Heap}
variable {σ σ1 σ2 : L2.St} {H H' : Hp} {ta tb tc te tl tk tv td : TE} {x y z v : V} {D : Ends} {tz tu tw : TS} {g : TG} {tt : TT} {wi : TI} {tA : TA}
theorem q_unpack2 {i j : Nat} {R : Hp → Addr → Prop} (h : EvR te σ H R) (hR : ∀ H1 p, Ex H H1 → R H1 p → ∃ x y, H1 p = some (.tup [x, y]) ∧ tz D ((σ.set i (some x)).set j (some y)) H1) : tSeq (tAsg te (gTup K 2 (gCons (gName i) (gCons (gName j) gNil)))) tz D σ H :=
  h H (Ex.refl H) _ fun p H1 _ e r => by
    obtain ⟨x, y, h1, h2⟩ := hR H1 p e r
    exact ⟨p, _, rfl, st_of h1, rfl, _, _, rfl, _, _, rfl, rfl, h2⟩
/-- what made and least are given -/
structure Raw (H : Hp) (a e : Addr) (n : Nat) (rows : Rows) (ends : List Nat) : Prop where
  grid : Grid H a rows
  pos : 1 ≤ rows.length
  few : rows.length < 60
  n1 : 1 ≤ n
  n8 : n ≤ 8
  wid : ∀ r ∈ rows, r.length = n
  bd : ∀ r ∈ rows, ∀ t, some t ∈ r → t < rows.length
  at_ : SeqAt H e (ends.map fun (k : Nat) => V.int k)
  nd : ends.Nodup
  ebd : ∀ k ∈ ends, k < rows.length
theorem Raw.ex {a e : Addr} {n : Nat} {rows : Rows} {ends : List Nat} (h : Raw H a e n rows ends) (x : Ex H H') : Raw H' a e n rows ends := { h with grid := h.grid.ex x, at_ := h.at_.ex x }
theorem spr_least_of {a e : Addr} {n : Nat} {rows : Rows} {ends : List Nat} (R : Raw H a e n rows ends) : SpR sp_least_of ([.int n, .ref a, .ref e] ++ []) H (fun H p => ∃ ra ea arr shut, H p = some (.tup [.ref ra, .ref ea]) ∧ ArrT H ra arr ∧ StT H ea shut ∧ LeastR rows n ends arr shut) := fun H1 x Q q E => by
  obtain ⟨h1, h2, h3, h4, h5, h6, h7, h8, h9, h10⟩ := R.ex x
  exact ⟨a, e, rows, ends, n, rfl, h1, h2, h3, h4, h5, h6, h7, h8, h9, h10, fun p ra ea H' arr shut hp x' g1 g2 g3 g4 => q p H' hp x' ⟨ra, ea, arr, shut, g1, g2, g3, g4⟩⟩
def MadeAt (C : Addr) (n : Nat) (rows : Rows) (ends : List Nat) (H : Hp) (p : Addr) : Prop := ∃ arr shut, RdrAt C H p n arr shut ∧ LeastR rows n ends arr shut
def sp_made (C : Addr) : Sp := fun vs H Q _ => ∃ (a e : Addr) (rows : Rows) (ends : List Nat) (n : Nat), vs = [.int n, .ref a, .ref e] ∧ Raw H a e n rows ends ∧ ∀ p H', H p = none → Ex H H' → MadeAt C n rows ends H' p → Q (.ref p) H'
theorem ok_made (T : Tx K mg) : FnOk P w K mg base CX0 6 T.d_made.f T.d_made.fd ["signs", "arrows", "ends"] (sp_made T.CR) := by
  refine T.d_made.F.ok sc_made (fun vs H Q E h => ?_) (fun cdv A outer s H vs Q E hr h => ?_)
  · obtain ⟨a, e, rows, ends, n, rfl, _⟩ := h
    rfl
  · obtain ⟨a, e, rows, ends, n, rfl, R, k⟩ := h
    refine ⟨_, (pss_cons (ps_asg (pe_call (ok_least_of T) (hr.mono (by decide)) rfl T.d_least_of.g T.d_least_of.F.kp T.d_least_of.b .nil pass0 (pa_cons (pv 0) (pa_cons (pv 1) (pa_cons (pv 2) pa_nil)))) (k_tup (n := 2) K rfl (pgs_cons (pg_name (i := 3) sc_made.nd rfl (Or.inl rfl)) (pgs_cons (pg_name (i := 4) sc_made.nd rfl (Or.inl rfl)) pgs_nil))))
      (pss_cons (ps_if (pt_cmpR op_gt (pe_callB (k_len K) (by rfl) T.z_len (by decide +kernel) (pa_cons (pv 3) pa_nil)) (pe_glob (v := .int 200) rfl T.g_MOST_STANDS.choose_spec ⟨_, rfl⟩) (nomark _)) (pss_one ps_never) pss_nil)
      (pss_one (ps_ret (pe_make T.mkR (ok_Reader_init T) (hr.mono (by decide)) rfl T.gReader T.d_Reader_init.b .nil pass0 (pa_cons (pv 0) (pa_cons (pv 3) (pa_cons (pv 4) pa_nil)))))))), ?_⟩
    refine q_unpack2 (er_call (by walk_at "ev") (spr_least_of R)) fun H1 p e1 hR => ?_
    obtain ⟨ra, ea, arr, shut, g1, g2, g3, g4⟩ := hR
    obtain ⟨W, hl, As⟩ := g4.wf R.wid
    refine ⟨_, _, g1, ?_⟩
    refine q_when (b := false) (et_is (et_test (ev_op (ev_lenArr (ev_var rfl) g2) ev_c rv_I0)) (by rw [decide_eq_false]; have := R.few; omega)) (fun h => nomatch h) fun _ H2 e2 => ?_
    exact s_retR (er_Reader (by walk_at "ev") (g2.ex e2) (g3.ex e2) W (by have := R.few; omega) R.n1 R.n8 As) fun q H3 hq e3 r => k q H3 (fresh_back (e1.trans e2) hq) ((e1.trans e2).trans e3) ⟨arr, shut, r, g4⟩
theorem spr_made {C a e : Addr} {n : Nat} {rows : Rows} {ends : List Nat} (R : Raw H a e n rows ends) : SpR (sp_made C) ([.int n, .ref a, .ref e] ++ []) H (MadeAt C n rows ends) := fun H1 x Q q E => ⟨a, e, rows, ends, n, rfl, R.ex x, q⟩
/-- what is asked of a reader given -/
structure RdrIn (C : Addr) (H : Hp) (p : Addr) (n : Nat) (arr : Rows) (ends : List Nat) : Prop where
  at_ : RdrAt C H p n arr ends
  wf : Wf n arr
  few : arr.length < 60
  n1 : 1 ≤ n
  n8 : n ≤ 8
  asc : Asc arr.length ends
theorem RdrIn.ex {C p : Addr} {n : Nat} {arr : Rows} {ends : List Nat} (h : RdrIn C H p n arr ends) (x : Ex H H') : RdrIn C H' p n arr ends := { h with at_ := h.at_.ex x }
def sp_least (C : Addr) : Sp := fun vs H Q _ => ∃ (p : Addr) (arr : Rows) (ends : List Nat) (n : Nat), vs = [.ref p] ∧ RdrIn C H p n arr ends ∧ ∀ q H', H q = none → Ex H H' → MadeAt C n arr ends H' q → Q (.ref q) H'
theorem raw_of {C p aa ae : Addr} {n : Nat} {arr : Rows} {ends : List Nat} (h : RdrIn C H p n arr ends) (ha : ArrT H aa arr) (he : StT H ae ends) : Raw H aa ae n arr ends :=
  ⟨ha.grid, h.wf.ne, h.few, h.n1, h.n8, h.wf.wid, fun r hr t ht => h.wf.bnd r hr t ht, .inl he, h.asc.asc.imp fun h => Nat.ne_of_lt h, h.asc.bd⟩
theorem ok_least_by (T : Tx K mg) : FnOk P w K mg base CX0 7 T.d_least_by.f T.d_least_by.fd ["reader"] (sp_least T.CR) := by
  refine T.d_least_by.F.ok sc_least_by (fun vs H Q E h => ?_) (fun cdv A outer s H vs Q E hr h => ?_)
  · obtain ⟨p, arr, ends, n, rfl, _⟩ := h
    rfl
  · obtain ⟨p, arr, ends, n, rfl, R, k⟩ := h
    refine ⟨_, (pss_one (ps_ret (pe_call (ok_made T) (hr.mono (by decide)) rfl T.d_made.g T.d_made.F.kp T.d_made.b .nil pass0 (pa_cons (pe_prop (pv 0) T.clR T.p_Reader_signs (ok_Reader_signs T) (hr.mono (by decide)) T.d_Reader_signs.b .nil pass0 rfl) (pa_cons (pe_prop (pv 0) T.clR T.p_Reader_arrows (ok_Reader_arrows T) (hr.mono (by decide)) T.d_Reader_arrows.b .nil pass0 rfl) (pa_cons (pe_prop (pv 0) T.clR T.p_Reader_ends (ok_Reader_ends T) (hr.mono (by decide)) T.d_Reader_ends.b .nil pass0 rfl) pa_nil)))))), ?_⟩
    obtain ⟨aa, ae, hp, ha, he⟩ := id R.at_
    exact s_retR (er_call (ea_cons (ev_get (ev_var rfl) hp rfl) (ea_cons (ev_get (ev_var rfl) hp rfl) (ea_cons (ev_get (ev_var rfl) hp rfl) ea_nil))) (spr_made (raw_of R ha he))) k
theorem spr_least {C p : Addr} {n : Nat} {arr : Rows} {ends : List Nat} (R : RdrIn C H p n arr ends) : SpR (sp_least C) ([.ref p] ++ []) H (MadeAt C n arr ends) := fun H1 x Q q E => ⟨p, arr, ends, n, rfl, R.ex x, q⟩
theorem ok_least (T : Tx K mg) : FnOk P w K mg base CX0 8 T.d_least.f T.d_least.fd ["reader"] (sp_least T.CR) := by
  refine T.d_least.F.ok sc_least (fun vs H Q E h => ?_) (fun cdv A outer s H vs Q E hr h => ?_)
  · obtain ⟨p, arr, ends, n, rfl, _⟩ := h
    rfl
  · obtain ⟨p, arr, ends, n, rfl, R, k⟩ := h
    refine ⟨_, (pss_cons (ps_expr (pe_call (ok_check_reader T) (hr.mono (by decide)) rfl T.d_check_reader.g T.d_check_reader.F.kp T.d_check_reader.b .nil pass0 (pa_cons (pv 0) pa_nil)))
      (pss_one (ps_ret (pe_call (ok_least_by T) (hr.mono (by decide)) rfl T.d_least_by.g T.d_least_by.F.kp T.d_least_by.b .nil pass0 (pa_cons (pv 0) pa_nil))))), ?_⟩
    obtain ⟨aa, ae, hp, ha, he⟩ := id R.at_
    refine q_drop (ev_call (by walk_at "ev") (spv_check_reader hp)) fun H1 e1 => ?_
    exact s_retR (er_call (by walk_at "ev") (spr_least (R.ex e1))) fun q H2 hq e2 r => k q H2 (fresh_back e1 hq) (e1.trans e2) r
end
end K14
set_option maxHeartbeats 4000000
namespace K14
open PySem L2 Evl
local macro_rules | `(tactic| walk_at "ev") => `(tactic| repeat' (first
  | exact ev_var rfl | exact ev_c | exact ea_nil | apply ea_cons | exact rv_I0 | apply ev_op | apply ev_cb | apply ev_un | exact ru_neg
  | exact rc_isiInt | exact rc_isiBool | exact rc_isiStr))
/-- where a sign leads from a stand, in the steps' order -/
def gb (ss : List Stp) (b : Nat) (sg : Option Nat) : List Nat := (ss.filter fun s => decide (s.1 = b ∧ s.2.1 = sg)).map fun s => s.2.2
theorem gb_snoc (ss : List Stp) (s : Stp) (b : Nat) (sg : Option Nat) : gb (ss ++ [s]) b sg = if s.1 = b ∧ s.2.1 = sg then gb ss b sg ++ [s.2.2] else gb ss b sg := by
  unfold gb
  rw [List.filter_append]
  by_cases c : s.1 = b ∧ s.2.1 = sg
  · simp [c]
  · simp [c]
theorem gb_len (ss : List Stp) (b : Nat) (sg : Option Nat) : (gb ss b sg).length ≤ ss.length := by
  rw [gb, List.length_map]
  exact List.length_filter_le ..
theorem sgS_inj {a b : Option Nat} (h : sgS a = sgS b) : a = b := by
  have h := congrArg (fun s : Str => s.cps.toList) h
  cases a with
  | none =>
    cases b with
    | none => rfl
    | some b => simp [sgS] at h
  | some a =>
    cases b with
    | none => simp [sgS] at h
    | some b =>
      simp [sgS] at h
      rw [h]
def sk (sg : Option Nat) : Key := .inr (sgS sg)
theorem sk_inj {a b : Option Nat} (h : sk a = sk b) : a = b := sgS_inj (Sum.inr.inj h)
/-- the tables of the steps -/
structure TabW (H' : Hp) (fa : Addr) (ds : List Addr) (lA : Nat → Option Nat → Option Addr) (ss : List Stp) : Prop where
  at_ : H' fa = some (.lst (ds.map V.ref))
  dict : ∀ (b : Nat) d, ds[b]? = some d → ∃ kvs, H' d = some (.dK kvs) ∧ kvs.length ≤ ss.length ∧ ∀ sg, valV kvs (sk sg) = (lA b sg).map V.ref
  lst : ∀ b sg l, lA b sg = some l → H' l = some (.lst ((gb ss b sg).map fun (k : Nat) => V.int k))
  no : ∀ b sg, lA b sg = none → gb ss b sg = []
def TabT (H : Hp) (fa : Addr) (m : Nat) (ss : List Stp) : Prop := ∃ ds lA, TabW H fa ds lA ss ∧ ds.length = m
theorem TabT.ex {H H' : Hp} {fa : Addr} {m : Nat} {ss : List Stp} (h : TabT H fa m ss) (e : Ex H H') : TabT H' fa m ss := by
  obtain ⟨ds, lA, ⟨h1, h2, h3, h4⟩, h5⟩ := h
  exact ⟨ds, lA, ⟨e _ _ h1, fun b d q => let ⟨kvs, a, b⟩ := h2 b d q; ⟨kvs, e _ _ a, b⟩, fun b sg l q => e _ _ (h3 b sg l q), h4⟩, h5⟩
section
variable {P : Program} {w : World} {K : PySem.W.Frag} {mg : Str → Option Value} {base : Heap}
variable {σ σ1 σ2 : L2.St} {H H' : Hp} {ta tb tc te tl tk tv td : TE} {x y z v : V} {D : Ends} {tz tu tw : TS} {g : TG} {tt : TT} {wi : TI} {tA : TA}
def sp_goals_by : Sp := fun vs H Q _ => ∃ (as : Addr) (m : Nat) (ss : List Stp), vs = [.int m, .ref as] ∧ StpT H as ss ∧ m ≤ 12 ∧ ss.length ≤ 1000 ∧ (∀ s ∈ ss, s.1 < m) ∧ ∀ p H', H p = none → Ex H H' → TabT H' p m ss → Q (.ref p) H'
theorem ok_goals_by (T : Tx K mg) : FnOk P w K mg base CX0 1 T.d_goals_by.f T.d_goals_by.fd ["size", "steps"] sp_goals_by := by
  refine T.d_goals_by.F.ok sc_goals_by (fun vs H Q E h => ?_) (fun cdv A outer s H vs Q E hr h => ?_)
  · obtain ⟨as, m, ss, rfl, _⟩ := h
    rfl
  · obtain ⟨as, m, ss, rfl, ⟨ps, hA, hpl, hps⟩, hm, hsl, hb, k⟩ := h
    refine ⟨_, (pss_cons (ps_setLc (i := 2) (own := [("stand", 3)]) (g := (gName 3)) rfl sc_goals_by.nd rfl rfl (sw_true rfl rfl rfl (by decide +kernel)) (pi_range1 (by rfl) T.z_range (pa_cons (pv 0) pa_nil)) (blkOk_by (own := [("stand", 3)]) (N := ["size", "steps", "found", "stand", "begin", "sign", "goal"]) (sc := defScope s_goals_by) (by decide +kernel)) (fun _ _ _ _ _ => (pg_name (i := 3) sc_goals_by.nd rfl (Or.inl rfl))) (fun _ _ _ _ _ => pts_nil) (fun _ _ _ _ _ => pe_dnewK))
      (pss_cons (ps_for PassesOwn.never rfl (k_piT K (pv 1)) (k_tup (n := 3) K rfl (pgs_cons (pg_name (i := 4) sc_goals_by.nd rfl (Or.inl rfl)) (pgs_cons (pg_name (i := 5) sc_goals_by.nd rfl (Or.inl rfl)) (pgs_cons (pg_name (i := 6) sc_goals_by.nd rfl (Or.inl rfl)) pgs_nil)))) (pss_one (ps_expr (pe_bm PySem.F.plainAttrs_list PySem.F.slot_list_append PySem.F.type_list_append mt_append (pe_dsetd (pe_ix (k_ixL K) (pv 2) (pv 4) (fun _ _ => rfl)) (pv 5) (pe_lst pa_nil) ⟨rfl, rfl, rfl, rfl⟩) (pa_cons (pv 6) pa_nil)))))
      (pss_one (ps_ret (pv 2))))), ?_⟩
    refine q_asgR (er_news (u := .dK []) (ei_R1 (n := m) (ea_cons (ev_var rfl) ea_nil) (by omega)) (by omega) fun i x H1 e hi hy => ⟨_, eg_name, rfl, er_dnewK⟩) fun fa H1 hfa e1 hf => ?_
    obtain ⟨ds, hf, hdl, hdn, hdf, hd⟩ := hf
    have hA1 := e1 _ _ hA
    refine q_forT (xs := ps.map V.ref) (ev_var rfl) (st_of hA1) (fun i σ' H' => ∃ (g3 g4 g5 g6 : Option V) (lA : Nat → Option Nat → Option Addr), σ' = [some (.int m), some (.ref as), some (.ref fa), g3, g4, g5, g6] ∧ Ex H H' ∧ TabW H' fa ds lA (ss.take i) ∧ (∀ b sg l, lA b sg = some l → H1 l = none) ∧ (∀ a, H' a = none → H1 a = none) ∧ ∀ b sg b' sg' l, lA b sg = some l → lA b' sg' = some l → b = b' ∧ sg = sg')
      (fun H2 e2 => ⟨none, none, none, none, fun _ _ => none, rfl, e1.trans e2, ⟨e2 _ _ hf, fun b d q => ⟨[], e2 _ _ (hd d (List.mem_of_getElem? q)).2, Nat.zero_le _, fun sg => rfl⟩, (fun b sg l q => by cases q), (fun b sg _ => by simp [gb])⟩, (fun b sg l q => by cases q), (fun a q => fresh_back e2 q), (fun b sg b' sg' l q => by cases q)⟩) (fun i σ' H' _ P => ?_) (fun i x σ' H2 hx P => ?_) (fun σ' H2 P => ?_)
    · obtain ⟨_, _, _, _, _, _, e, _⟩ := P
      exact st_of (e _ _ hA)
    · obtain ⟨g3, g4, g5, g6, lA, rfl, e, T2, fr, dm, inj⟩ := P
      obtain ⟨p, hp, rfl⟩ := get_map hx
      have hi : i < ss.length := by rw [← hpl]; exact (List.getElem?_eq_some_iff.mp hp).1
      have hsi : ss[i]? = some ss[i] := List.getElem?_eq_getElem hi
      have hpt := e _ _ (hps i p _ hp hsi)
      have hbm := hb _ (List.getElem_mem hi)
      have htk : ss.take (i + 1) = ss.take i ++ [ss[i]] := List.take_succ_eq_append_getElem hi
      generalize ss[i] = st at hsi hpt hbm htk
      obtain ⟨b, sg, gl⟩ := st
      refine ⟨p, _, rfl, st_of hpt, rfl, _, _, rfl, _, _, rfl, _, _, rfl, rfl, ?_⟩
      have hbd : b < ds.length := by rw [hdl]; exact hbm
      have hdb : ds[b]? = some ds[b] := List.getElem?_eq_getElem hbd
      have hdbm : ds[b] ∈ ds := List.getElem_mem hbd
      obtain ⟨kvs, hk, hkl, hkv⟩ := T2.dict b _ hdb
      have til : (ss.take i).length ≤ 1000 := by rw [List.length_take]; omega
      -- found[begin]
      refine ⟨_, rfl, _, rfl, fa, _, (b : Int), .ref ds[b], rfl, rfl, sq_of T2.at_, at_of rfl (map_get V.ref hdb), ds[b], rfl, .inl ⟨kvs, .inl hk⟩, _, rfl, ?_⟩
      refine ⟨by decide, fun z hz => ⟨kvs, sk sg, ?_, rfl, sz_lt (by omega), fun v hv => ?_, fun hv => ?_⟩⟩
      · rw [upd_ne fun c => by rw [c, hz] at hk; cases hk]
        exact hk
      · -- there
        rw [hkv] at hv
        obtain ⟨l, hl, rfl⟩ := Option.map_eq_some_iff.mp hv
        have hll := T2.lst b sg l hl
        have e2z : Ex H2 (upd H2 z (.lst [])) := Ex.new hz
        have l1 := fr b sg l hl
        have nl : ∀ {q u}, H1 q = some u → q ≠ l := fun h c => by rw [c, l1] at h; cases h
        refine ⟨.inl ⟨rfl, _, sq_of (e2z _ _ hll)⟩, _, rfl, l, _, _, rfl, rfl, e2z _ _ hll, sz_lt (by rw [List.length_map]; have := gb_len (ss.take i) b sg; omega), g3, _, _, _, lA, rfl, Ex.mut (e.trans e2z) (fresh_back e1 l1), ⟨?_, fun b' d' q => ?_, fun b' sg' l' q => ?_, fun b' sg' q => ?_⟩, fr, fun a q => ?_, inj⟩
        · rw [upd_ne (nl hf)]
          exact e2z _ _ T2.at_
        · obtain ⟨kvs', k1, k2, k3⟩ := T2.dict b' d' q
          refine ⟨kvs', ?_, by rw [htk, List.length_append]; omega, k3⟩
          rw [upd_ne (nl (hd d' (List.mem_of_getElem? q)).2)]
          exact e2z _ _ k1
        · rw [htk, gb_snoc]
          by_cases c : l' = l
          · subst c
            obtain ⟨rfl, rfl⟩ := inj _ _ _ _ _ hl q
            rw [upd_same, if_pos ⟨rfl, rfl⟩, List.map_append]
            rfl
          · have : ¬ (b = b' ∧ sg = sg') := fun z => c (by obtain ⟨rfl, rfl⟩ := z; rw [hl] at q; exact (Option.some.inj q).symm)
            rw [upd_ne c, if_neg this]
            exact e2z _ _ (T2.lst b' sg' l' q)
        · have : ¬ (b = b' ∧ sg = sg') := fun z => by obtain ⟨rfl, rfl⟩ := z; rw [hl] at q; cases q
          rw [htk, gb_snoc, if_neg this]
          exact T2.no b' sg' q
        · by_cases c : a = l
          · rw [c]
            exact l1
          · rw [upd_ne c] at q
            exact dm a (fresh_back e2z q)
      · -- new
        rw [hkv] at hv
        have hno : lA b sg = none := Option.map_eq_none_iff.mp hv
        have hg0 := T2.no b sg hno
        have e2z : Ex H2 (upd H2 z (.lst [])) := Ex.new hz
        have z1 : H1 z = none := dm z hz
        have dz : ds[b] ≠ z := fun c => by rw [c, hz] at hk; cases hk
        have nz : ∀ {q u}, H2 q = some u → q ≠ z := fun h c => by rw [c, hz] at h; cases h
        have keep : ∀ {q u o1 o2}, H2 q = some u → q ≠ ds[b] → (upd (upd (upd H2 z (.lst [])) ds[b] o1) z o2) q = some u := fun {q u o1 o2} h c => by
          rw [upd_ne (nz h), upd_ne c, upd_ne (nz h)]
          exact h
        refine ⟨.inl ⟨rfl, [], sq_of (by rw [upd_ne dz.symm]; exact upd_same)⟩, _, rfl, z, [], _, rfl, rfl, by rw [upd_ne dz.symm]; exact upd_same, by decide, g3, _, _, _, fun b' sg' => if b' = b ∧ sg' = sg then some z else lA b' sg', rfl, ?_, ⟨?_, fun b' d' q => ?_, fun b' sg' l' q => ?_, fun b' sg' q => ?_⟩, fun b' sg' l' q => ?_, fun a q => ?_, fun b1 s1 b2 s2 l' q1 q2 => ?_⟩
        · exact Ex.mut (Ex.mut (e.trans e2z) (hd _ hdbm).1) (fresh_back e1 z1)
        · exact keep T2.at_ fun c => hdf (by rw [c]; exact hdbm)
        · by_cases c : b' = b
          · subst c
            rw [hdb] at q
            cases q
            refine ⟨_, by rw [upd_ne dz]; exact upd_same, ?_, fun sg' => ?_⟩
            · rw [htk, List.length_append, List.length_singleton]
              have := length_putK kvs (sk sg) (.ref z)
              omega
            · rw [valV_put, hkv]
              by_cases cs : sg' = sg
              · simp [cs]
              · rw [if_neg fun z => cs (sk_inj z), if_neg fun z => cs z.2]
          · obtain ⟨kvs', k1, k2, k3⟩ := T2.dict b' d' q
            refine ⟨kvs', keep k1 fun z => c ?_, by rw [htk, List.length_append]; omega, fun sg' => ?_⟩
            · obtain ⟨h1, h2⟩ := List.getElem?_eq_some_iff.mp q
              exact nodup_inj hdn (h2.trans z)
            · rw [k3, if_neg fun z => c z.1]
        · rw [htk, gb_snoc]
          by_cases c : b' = b ∧ sg' = sg
          · obtain ⟨rfl, rfl⟩ := c
            simp only [and_self, if_true] at q
            cases q
            rw [upd_same, if_pos ⟨rfl, rfl⟩, hg0]
            rfl
          · simp only [c, if_false] at q
            rw [if_neg fun z => c ⟨z.1.symm, z.2.symm⟩]
            have hl' := T2.lst b' sg' l' q
            exact keep hl' fun z => by rw [z, hk] at hl'; cases hl'
        · by_cases c : b' = b ∧ sg' = sg
          · simp only [c, and_self, if_true] at q
            cases q
          · simp only [c, if_false] at q
            rw [htk, gb_snoc, if_neg fun z => c ⟨z.1.symm, z.2.symm⟩]
            exact T2.no b' sg' q
        · by_cases c : b' = b ∧ sg' = sg
          · simp only [c, and_self, if_true] at q
            cases q
            exact z1
          · simp only [c, if_false] at q
            exact fr b' sg' l' q
        · by_cases c : a = z
          · rw [c]
            exact z1
          · rw [upd_ne c] at q
            by_cases c2 : a = ds[b]
            · rw [c2, upd_same] at q
              cases q
            · rw [upd_ne c2, upd_ne c] at q
              exact dm a q
        · have zl : ∀ {b sg}, lA b sg = some z → False := fun h => by
            have := T2.lst _ _ _ h
            rw [hz] at this
            cases this
          by_cases c1 : b1 = b ∧ s1 = sg
          · by_cases c2 : b2 = b ∧ s2 = sg
            · exact ⟨c1.1.trans c2.1.symm, c1.2.trans c2.2.symm⟩
            · simp only [c1, and_self, if_true] at q1
              cases q1
              simp only [c2, if_false] at q2
              exact (zl q2).elim
          · simp only [c1, if_false] at q1
            by_cases c2 : b2 = b ∧ s2 = sg
            · simp only [c2, and_self, if_true] at q2
              cases q2
              exact (zl q1).elim
            · simp only [c2, if_false] at q2
              exact inj _ _ _ _ _ q1 q2
    · obtain ⟨g3, g4, g5, g6, lA, rfl, e, T2, fr, dm, inj⟩ := P
      rw [List.length_map, hpl, List.take_length] at T2
      exact s_ret (ev_var rfl) fun H3 e3 => k fa H3 hfa (e.trans e3) (TabT.ex ⟨ds, lA, T2, hdl⟩ e3)
end
end K14
set_option maxHeartbeats 4000000
namespace K14
open PySem L2 Evl
local macro_rules | `(tactic| walk_at "ev") => `(tactic| repeat' (first
  | exact ev_var rfl | exact ev_c | exact ea_nil | apply ea_cons | exact rv_I0 | apply ev_op | apply ev_cb | apply ev_un | exact ru_neg
  | exact rc_isiInt | exact rc_isiBool | exact rc_isiStr))
/-! ### plain: closing under steps without a sign -/
theorem asc_eq : ∀ {l m : List Nat}, l.Pairwise (· < ·) → m.Pairwise (· < ·) → (∀ k, k ∈ l ↔ k ∈ m) → l = m
  | [], [], _, _, _ => rfl
  | [], y :: m, _, _, h => by
    have := (h y).mpr (List.mem_cons_self ..)
    cases this
  | x :: l, [], _, _, h => by
    have := (h x).mp (List.mem_cons_self ..)
    cases this
  | x :: l, y :: m, hl, hm, h => by
    rw [List.pairwise_cons] at hl hm
    have xy : x = y := by
      rcases List.mem_cons.mp ((h x).mp (List.mem_cons_self ..)) with e | e
      · exact e
      · rcases List.mem_cons.mp ((h y).mpr (List.mem_cons_self ..)) with e' | e'
        · exact e'.symm
        · have := hl.1 y e'
          have := hm.1 x e
          omega
    subst xy
    congr 1
    refine asc_eq hl.2 hm.2 fun k => ⟨fun hk => ?_, fun hk => ?_⟩
    · rcases List.mem_cons.mp ((h k).mp (List.mem_cons_of_mem _ hk)) with e | e
      · have := hl.1 k hk
        omega
      · exact e
    · rcases List.mem_cons.mp ((h k).mpr (List.mem_cons_of_mem _ hk)) with e | e
      · have := hm.1 k hk
        omega
      · exact e
/-- the goals of the steps of a sign, stand by stand -/
def gR (m : Nat) (ss : List Stp) (sg : Option Nat) : Rows := (List.range m).map fun b => (gb ss b sg).map some
theorem gR_len (m : Nat) (ss : List Stp) (sg : Option Nat) : (gR m ss sg).length = m := by simp [gR]
theorem gR_get {m : Nat} {ss : List Stp} {sg : Option Nat} {b : Nat} (h : b < m) : (gR m ss sg).getD b [] = (gb ss b sg).map some := by
  unfold gR
  rw [List.getD_eq_getElem?_getD, List.getElem?_map, List.getElem?_range h]
  rfl
theorem mem_gb {ss : List Stp} {b : Nat} {sg : Option Nat} {k : Nat} : k ∈ gb ss b sg ↔ (b, sg, k) ∈ ss := by
  unfold gb
  rw [List.mem_map]
  constructor
  · rintro ⟨⟨a, c, d⟩, h, rfl⟩
    rw [List.mem_filter, decide_eq_true_eq] at h
    obtain ⟨h1, rfl, rfl⟩ := h
    exact h1
  · exact fun h => ⟨(b, sg, k), List.mem_filter.mpr ⟨h, by simp⟩, rfl⟩
open Classical in
/-- all that steps without a sign lead to from S, ascending -/
noncomputable def clo (m : Nat) (ss : List Stp) (S : List Nat) : List Nat := (List.range m).filter fun k => decide (Rch (gR m ss none) S k)
theorem clo_asc (m : Nat) (ss : List Stp) (S : List Nat) : Asc m (clo m ss S) := ⟨List.Pairwise.filter _ List.pairwise_lt_range, fun k hk => List.mem_range.mp (List.mem_filter.mp hk).1⟩
theorem rch_lt {m : Nat} {ss : List Stp} {S : List Nat} (hS : ∀ k ∈ S, k < m) (hb : ∀ s ∈ ss, s.2.2 < m) {k : Nat} (h : Rch (gR m ss none) S k) : k < m := by
  induction h with
  | base h => exact hS _ h
  | @step j k _ h ih =>
    rw [gR_get ih] at h
    obtain ⟨x, hx, e⟩ := List.mem_map.mp h
    cases e
    exact hb _ (mem_gb.mp hx)
open Classical in
theorem mem_clo {m : Nat} {ss : List Stp} {S : List Nat} (hS : ∀ k ∈ S, k < m) (hb : ∀ s ∈ ss, s.2.2 < m) (k : Nat) : k ∈ clo m ss S ↔ Rch (gR m ss none) S k := by
  unfold clo
  rw [List.mem_filter, List.mem_range, decide_eq_true_eq]
  exact ⟨fun h => h.2, fun h => ⟨rch_lt hS hb h, h⟩⟩
section
variable {P : Program} {w : World} {K : PySem.W.Frag} {mg : Str → Option Value} {base : Heap}
variable {σ σ1 σ2 : L2.St} {H H' : Hp} {ta tb tc te tl tk tv td : TE} {x y z v : V} {D : Ends} {tz tu tw : TS} {g : TG} {tt : TT} {wi : TI} {tA : TA}
theorem TabT.get {fa : Addr} {m : Nat} {ss : List Stp} {b : Nat} (h : TabT H fa m ss) (hb : b < m) : ∃ (ds : List Addr) (d : Addr) (kvs : List (Key × V)), H fa = some (.lst (ds.map V.ref)) ∧ ds[b]? = some d ∧ H d = some (.dK kvs) ∧
    ∀ sg, (∃ l, valV kvs (sk sg) = some (.ref l) ∧ H l = some (.lst ((gb ss b sg).map fun (k : Nat) => V.int k))) ∨ (valV kvs (sk sg) = none ∧ gb ss b sg = []) := by
  obtain ⟨ds, lA, ⟨h1, h2, h3, h4⟩, h5⟩ := h
  have hd : ds[b]? = some ds[b] := List.getElem?_eq_getElem (by omega)
  obtain ⟨kvs, k1, _, k3⟩ := h2 b _ hd
  refine ⟨ds, ds[b], kvs, h1, hd, k1, fun sg => ?_⟩
  rw [k3]
  cases q : lA b sg with
  | none => exact .inr ⟨rfl, h4 b sg q⟩
  | some l => exact .inl ⟨l, rfl, h3 b sg l q⟩
/-- e gives a list of xs, new or not -/
def EvQ (te : TE) (σ : L2.St) (H : Hp) (xs : List V) : Prop := ∀ H1, Ex H H1 → ∀ Q : VK, (∀ p H2, Ex H1 H2 → H2 p = some (.lst xs) → Q (.ref p) H2) → te σ H1 Q
/-- tables[s].get(sign, []) -/
theorem eq_goals {a : Addr} {m : Nat} {ss : List Stp} {b : Nat} {sg : Option Nat} (h1 : Ev ta σ H (.ref a)) (h2 : Ev tb σ H (.int b)) (h3 : Ev tc σ H (.str (sgS sg))) (hT : TabT H a m ss) (hb : b < m) : EvQ (tDGet2 (tOp (rIxL K) ta tb) tc (tLst tNil)) σ H ((gb ss b sg).map fun (k : Nat) => V.int k) := fun H1 e Q q => by
  obtain ⟨ds, d, kvs, q1, q2, q3, q4⟩ := hT.get hb
  refine ev_op h1 h2 (rv_ixL (i := (b : Int)) (sq_of q1) (at_of rfl (map_get V.ref q2))) H1 e _ fun H2 e2 => ⟨d, rfl, .inl ⟨kvs, .inl ((e.trans e2) _ _ q3)⟩, h3 H2 (e.trans e2) _ fun H3 e3 => ⟨by decide, fun z hz => ?_⟩⟩
  have e03 := (e.trans e2).trans e3
  have e0z := e03.trans (Ex.new (o := .lst []) hz)
  refine ⟨_, DGet.k (k := sk sg) (e0z _ _ q3), ?_⟩
  rcases q4 sg with ⟨l, v1, v2⟩ | ⟨v1, v2⟩
  · rw [v1]
    exact q l _ ((e2.trans e3).trans (Ex.new hz)) (e0z _ _ v2)
  · rw [v1]
    exact q z _ ((e2.trans e3).trans (Ex.new hz)) (by rw [upd_same, v2]; rfl)
def rSortD : List V → Hp → VK → Prop := fun xs H Q => ∃ (a : Addr) (kvs : List (Key × V)) (ks : List Int), xs = [.ref a] ∧ Rd H a (.dK kvs) ∧ kvs.map (·.1) = ks.map Sum.inl ∧ ks.length < 64 ∧
    ∀ (ys : List Int) (p : Addr), ys.Perm ks → ys.Pairwise (· ≤ ·) → H p = none → Q (.ref p) (upd H p (.lst (ys.map V.int)))
theorem el_sortD {d : Addr} {ns ms : List Nat} (h : Ev ta σ H (.ref d)) (hd : H d = some (.dK (nS ns))) (hn : ns.Nodup) (hl : ns.length < 64) (hm : ms.Pairwise (· < ·)) (he : ∀ k, k ∈ ns ↔ k ∈ ms) : EvL (tCB rSortD (tCons ta tNil)) σ H (ms.map fun (k : Nat) => V.int k) := fun H1 e Q q =>
  h H1 e _ fun H2 e2 => ⟨d, nS ns, ns.map fun (k : Nat) => (k : Int), rfl, .inl ((e.trans e2) _ _ hd), by simp [nS, nD, ik, Function.comp_def], by rw [List.length_map]; exact hl, fun ys p hp hs hf => by
    have hmem : ∀ y ∈ ys, ∃ k ∈ ns, (k : Int) = y := fun y hy => List.mem_map.mp (hp.mem_iff.mp hy)
    have e1 : ys = (ys.map Int.toNat).map fun (k : Nat) => (k : Int) := by
      rw [List.map_map]
      refine (List.map_id ys).symm.trans (List.map_congr_left fun y hy => ?_)
      obtain ⟨k, _, rfl⟩ := hmem y hy
      rfl
    have nd : ys.Nodup := hp.nodup_iff.mpr (nodup_map_inj (fun a _ b _ e => by omega) hn)
    have asc : (ys.map Int.toNat).Pairwise (· < ·) := by
      rw [List.pairwise_map]
      refine List.Pairwise.imp_of_mem (fun {a b} ha hb h => ?_) (List.pairwise_and_iff.mpr ⟨hs, nd⟩)
      obtain ⟨k, _, rfl⟩ := hmem a ha
      obtain ⟨k', _, rfl⟩ := hmem b hb
      have h1 := h.1
      have h2 : (k : Int) ≠ k' := h.2
      simp only [Int.toNat_natCast]
      omega
    have e2' : ys.map Int.toNat = ms := asc_eq asc hm fun k => by
      rw [← he]
      constructor
      · intro hk
        obtain ⟨y, hy, rfl⟩ := List.mem_map.mp hk
        obtain ⟨k, h1, rfl⟩ := hmem y hy
        exact h1
      · intro hk
        exact List.mem_map.mpr ⟨(k : Int), hp.mem_iff.mpr (List.mem_map.mpr ⟨k, hk, rfl⟩), rfl⟩
    rw [e1, e2', List.map_map]
    exact q p _ (fresh_back e2 hf) (e2.trans (Ex.new hf)) upd_same⟩
theorem eu_tupleOfL {xs : List V} (h : EvL ta σ H xs) : EvU (tCB (rTupQ K) (tCons ta tNil)) σ H xs := fun H1 e Q q =>
  h H1 e _ fun p H2 _ e2 h2 => ⟨p, xs, rfl, .inl ⟨sq_of h2, fun l hl => q l _ (fresh_back e2 hl) (e2.trans (Ex.new hl)) upd_same⟩⟩
theorem el_listSq {p : Addr} {xs : List V} (h : Ev ta σ H (.ref p)) (hx : SeqAt H p xs) : EvL (tCB (rListQ K) (tCons ta tNil)) σ H xs := fun H1 e Q q =>
  h H1 e _ fun H2 e2 => ⟨p, xs, rfl, hx.symm.imp (fun h => sq_of ((e.trans e2) _ _ h)) (fun h => st_of ((e.trans e2) _ _ h)), fun l hl => q l _ (fresh_back e2 hl) (e2.trans (Ex.new hl)) upd_same⟩
def sp_spread_out : Sp := fun vs H Q _ => ∃ (a b : Addr) (m : Nat) (ss : List Stp) (S : List Nat), vs = [.ref a, .ref b] ∧ TabT H a m ss ∧ m ≤ 12 ∧ (∀ s ∈ ss, s.2.2 < m) ∧ SeqAt H b (S.map fun (k : Nat) => V.int k) ∧ S.Nodup ∧ (∀ k ∈ S, k < m) ∧
  ∀ p H', H p = none → Ex H H' → H' p = some (.tup ((clo m ss S).map fun (k : Nat) => V.int k)) → Q (.ref p) H'
theorem ok_spread_out (T : Tx K mg) : FnOk P w K mg base CX0 1 T.d_spread_out.f T.d_spread_out.fd ["tables", "stands"] sp_spread_out := by
  refine T.d_spread_out.F.ok sc_spread_out (fun vs H Q E h => ?_) (fun cdv A outer s H vs Q E hr h => ?_)
  · obtain ⟨a, b, m, ss, S, rfl, _⟩ := h
    rfl
  · obtain ⟨a, b, m, ss, S, rfl, hT, hm, hb, hS, hSn, hSb, k⟩ := h
    refine ⟨_, (pss_cons (ps_setDcg (own := [("stand", 3)]) (g := (gName 3)) (.dK []) (i := 2) (hu64 hr.units) rfl sc_spread_out.nd rfl rfl (swD_true rfl rfl rfl (by decide +kernel)) (pi_either (k_piL K (pv 1)) (k_piT K (pv 1))) (blkOk_by (own := [("stand", 3)]) (N := ["tables", "stands", "seen", "stand", "line", "goal"]) (sc := defScope s_spread_out) (by decide +kernel)) (fun _ _ _ _ _ => (pg_name (i := 3) sc_spread_out.nd rfl (Or.inl rfl))) (fun _ _ _ _ _ => pts_nil) (fun _ _ _ _ _ => (pv 3)) (fun _ _ _ _ _ => pe_bl) (.inl rfl))
      (pss_cons (ps_set (i := 4) sc_spread_out.nd rfl (Or.inl rfl) (pe_callTy (k_list K) (by rfl) T.z_list (by decide +kernel) (pa_cons (pv 1) pa_nil)))
      (pss_cons (ps_while PassesOwn.never (pt_cmpR op_gt (pe_callB (k_len K) (by rfl) T.z_len (by decide +kernel) (pa_cons (pv 4) pa_nil)) pe_int (nomark _)) (pss_one (ps_for PassesOwn.never rfl (k_piL K (pe_dget2 (hu64 hr.units) (pe_ix (k_ixL K) (pv 0) (pe_bm0 PySem.F.plainAttrs_list PySem.F.slot_list_pop PySem.F.type_list_pop mt_pop (pv 4)) (fun _ _ => rfl)) pe_str (pe_lst pa_nil) ⟨rfl, rfl, rfl, rfl⟩)) (pg_name (i := 5) sc_spread_out.nd rfl (Or.inl rfl)) (pss_one (ps_if (pt_cmp (pc_dnotin (hu64 hr.units) (pv 5) (pv 2))) (pss_cons (ps_dput (hu64 hr.units) (pv 2) (pv 5) pe_bl rfl)
      (pss_one (ps_expr (pe_bm PySem.F.plainAttrs_list PySem.F.slot_list_append PySem.F.type_list_append mt_append (pv 4) (pa_cons (pv 5) pa_nil))))) pss_nil)))))
      (pss_one (ps_ret (pe_callTy (k_tuple K) (by rfl) T.z_tuple (by decide +kernel) (pa_cons (pe_callB (call_sortedDI rfl) (by rfl) T.z_sorted (by decide +kernel) (pa_cons (pv 2) pa_nil)) pa_nil))))))), ?_⟩
    have hSl : S.length ≤ m := by
      have := nat_nodup_len S (List.range m) hSn (fun x hx => List.mem_range.mpr (hSb x hx))
      simpa using this
    refine q_asgR (er_marks (K := K) rfl hS hSn (by omega) (fun _ => rfl) (fun _ => rfl)) fun fa H1 hfa e1 hf => ?_
    refine q_asgL (el_listSq (K := K) (ev_var rfl) (hS.ex e1)) fun la H2 hla e2 hl => ?_
    have e12 := e1.trans e2
    have hla0 := fresh_back e1 hla
    have hG : (gR m ss none).length = m := gR_len ..
    have hEnd : ∀ ks, RI (gR m ss none) S ks [] → (∀ k ∈ ks, k ∈ ([] : List Nat) ∨ Done (gR m ss none) ks k) → ∀ k, k ∈ ks ↔ k ∈ clo m ss S := fun ks R d k => by
      rw [mem_clo hSb hb]
      exact R.end d k
    refine q_while (fun n σ' H' => ∃ (ks ls : List Nat) (g1 g2 : Option V), n = left (gR m ss none) ks ls ∧ left (gR m ss none) ks ls ≤ 2 * m ∧ σ' = [some (.ref a), some (.ref b), some (.ref fa), g1, some (.ref la), g2] ∧ Ex H H' ∧ H' fa = some (.dK (nS ks)) ∧ H' la = some (.lst (ls.map fun (k : Nat) => V.int k)) ∧ RI (gR m ss none) S ks ls ∧ ∀ k ∈ ks, k ∈ ls ∨ Done (gR m ss none) ks k) _
      ⟨S, S, none, none, rfl, by unfold left; omega, rfl, e12, e2 _ _ hf, hl, ⟨hSn, by rw [hG]; exact hSb, fun k h => h, fun k h => h, fun k h => .base h⟩, fun k h => .inl h⟩ fun n σ' H' hW => ?_
    obtain ⟨ks, ls, g1, g2, rfl, hm0, rfl, e, hf', hl', R, hd⟩ := hW
    have hkl := R.len
    rw [hG] at hkl
    refine ⟨decide (0 < (ls.length : Int)), ?_, fun c H3 e3 => ?_, fun c H3 e3 => ?_⟩
    · refine fun H3 e3 Q q => ev_op (ev_cb (ea_cons (ev_var rfl) ea_nil) (rc_lenQ (.inl (sq_of hl')))) ev_c rv_I0 H3 e3 _ fun H4 e4 => ⟨_, rfl, ?_⟩
      rw [List.length_map]
      exact q H4 e4
    · have hne : ls ≠ [] := fun z => by rw [z] at c; cases c
      obtain ⟨ls0, s, rfl⟩ : ∃ ls0 s, ls = ls0 ++ [s] := ⟨ls.dropLast, ls.getLast hne, (List.dropLast_concat_getLast hne).symm⟩
      have hs : s ∈ ks := R.sub s (by simp)
      have hsl : s < m := by have := R.bd s hs; rwa [hG] at this
      have e' := e.trans e3
      have hne2 : fa ≠ la := fun z => by rw [z, hl'] at hf'; cases hf'
      refine ⟨_, fun σ2 H2 h => h, ?_⟩
      obtain ⟨ds, d, kvs, q1, q2, q3, q4⟩ := hT.get hsl
      have eU : Ex H (upd H3 la (.lst (ls0.map fun (k : Nat) => V.int k))) := Ex.mut e' hla0
      -- the row that is walked
      refine ⟨_, rfl, _, rfl, Or.inl ⟨rfl, _, sq_of (e3 _ _ hl')⟩, la, _, .int s, rfl, rfl, e3 _ _ hl', by simp, ?_⟩
      rw [List.map_append, List.map_singleton, List.dropLast_concat]
      refine ⟨a, _, (s : Int), .ref d, rfl, rfl, sq_of (eU _ _ q1), at_of rfl (map_get V.ref q2), d, rfl, .inl ⟨kvs, .inl (eU _ _ q3)⟩, by decide, fun z hz => ?_⟩
      have eZ : Ex H (upd (upd H3 la (.lst (ls0.map fun (k : Nat) => V.int k))) z (.lst [])) := eU.trans (Ex.new hz)
      have laz : la ≠ z := fun c => by rw [← c, upd_same] at hz; cases hz
      have faz : fa ≠ z := fun c => by rw [← c, upd_ne hne2, e3 _ _ hf'] at hz; cases hz
      obtain ⟨rl, hrl, hrow⟩ : ∃ rl, (valV kvs (sk none)).getD (.ref z) = V.ref rl ∧ (H rl = some (.lst ((gb ss s none).map fun (k : Nat) => V.int k)) ∨ rl = z ∧ gb ss s none = []) := by
        rcases q4 none with ⟨l, v1, v2⟩ | ⟨v1, v2⟩
        · exact ⟨l, by rw [v1]; rfl, .inl v2⟩
        · exact ⟨z, by rw [v1]; rfl, .inr ⟨rfl, v2⟩⟩
      refine ⟨_, DGet.k (k := sk none) (eZ _ _ q3), ?_⟩
      show ∃ a, (valV kvs (sk none)).getD (.ref z) = .ref a ∧ _
      rw [hrl]
      have hz0 : H z = none := by
        cases q : H z with
        | none => rfl
        | some u =>
          rw [eU _ _ q] at hz
          cases hz
      have hrow' : ∀ {H'}, Ex H H' → (rl = z → H' z = some (.lst [])) → H' rl = some (.lst ((gb ss s none).map fun (k : Nat) => V.int k)) := fun {H'} e h => by
        rcases hrow with q | ⟨q1, q2⟩
        · exact e _ _ q
        · rw [q2]
          exact q1 ▸ h q1
      refine ⟨rl, rfl, ⟨_, sq_of (hrow' eZ fun _ => upd_same)⟩, for_list (xs := (gb ss s none).map fun (k : Nat) => V.int k)
        (fun i σ' H' => ∃ (ks' ls' : List Nat) (g1 g2 : Option V), left (gR m ss none) ks' ls' + 1 ≤ left (gR m ss none) ks (ls0 ++ [s]) ∧ σ' = [some (.ref a), some (.ref b), some (.ref fa), g1, some (.ref la), g2] ∧ Ex H H' ∧ H' z = some (.lst []) ∧ H' fa = some (.dK (nS ks')) ∧ H' la = some (.lst (ls'.map fun (k : Nat) => V.int k)) ∧ RI (gR m ss none) S ks' ls' ∧ s ∈ ks' ∧ ∀ k ∈ ks', k ∈ ls' ∨ (k = s ∧ ∀ t ∈ (gb ss s none).take i, t ∈ ks') ∨ Done (gR m ss none) ks' k) ?_ ?_ ?_ ?_⟩
      · refine ⟨ks, ls0, g1, g2, ?_, rfl, eZ, upd_same, ?_, ?_, ⟨R.nd, R.bd, fun k h => R.sub k (List.mem_append_left _ h), R.src, R.rch⟩, hs, fun k hk => ?_⟩
        · unfold left
          simp
          omega
        · rw [upd_ne faz, upd_ne hne2]
          exact e3 _ _ hf'
        · rw [upd_ne laz, upd_same]
        · rcases hd k hk with h | h
          · rcases List.mem_append.mp h with h | h
            · exact .inl h
            · exact .inr (.inl ⟨List.mem_singleton.mp h, fun t h => by cases h⟩)
          · exact .inr (.inr h)
      · rintro i σ' H' _ ⟨_, _, _, _, _, _, h, hz', _⟩
        exact sq_of (hrow' h fun _ => hz')
      · rintro i x σ' H' hx ⟨ks', ls', g1, g2, hm, rfl, e5, hz5, hf5, hl5, R5, hs5, hd5⟩
        obtain ⟨t, ht, rfl⟩ := get_map hx
        have hkl5 := R5.len
        rw [hG] at hkl5
        have hls5 : ls'.length ≤ left (gR m ss none) ks' ls' := Nat.le_add_left _ _
        have hmem : t ∈ gb ss s none := List.mem_of_getElem? ht
        have hmem2 : some t ∈ (gR m ss none).getD s [] := by
          rw [gR_get hsl]
          exact List.mem_map.mpr ⟨t, hmem, rfl⟩
        have htb : t < (gR m ss none).length := by
          rw [hG]
          exact hb _ (mem_gb.mp hmem)
        have htk : ∀ t', t' ∈ (gb ss s none).take (i + 1) → t' ∈ (gb ss s none).take i ∨ t' = t := fun t' h => by
          obtain ⟨hi, rfl⟩ := List.getElem?_eq_some_iff.mp ht
          rw [List.take_succ_eq_append_getElem hi] at h
          exact (List.mem_append.mp h).imp_right List.mem_singleton.mp
        refine s_when (b := !decide (t ∈ ks')) (et_is (et_B (ev_dni (o := valV (nS ks') (ik t)) (ev_var rfl) (ev_var rfl) fun H1 e1 => DGet.k (k := ik t) (e1 _ _ hf5))) (by rw [nS_val])) (fun c H6 e6 => ?_) fun c H6 e6 => ?_
        · have ht' : t ∉ ks' := by simpa using c
          obtain ⟨R6, hlt⟩ := R5.add ht' hs5 hmem2 htb
          refine q_dput ev_c (ev_var rfl) (ev_var rfl) fun H7 e7 => ⟨_, DPut.k (k := ik t) ((e6.trans e7) _ _ hf5) (sz_lt (by rw [nS_len]; omega)), ?_⟩
          refine s_app (xs := ls'.map fun (k : Nat) => V.int k) ?_ (ev_var rfl) (ev_var rfl) (by rw [List.length_map]; omega) fun H8 e8 => ?_
          · rw [upd_ne hne2.symm]
            exact (e6.trans e7) _ _ hl5
          · refine ⟨ks' ++ [t], ls' ++ [t], _, _, by omega, rfl, Ex.mut ((Ex.mut ((e5.trans e6).trans e7) hfa).trans e8) hla0, ?_, ?_, by rw [upd_same, List.map_append]; rfl, R6, List.mem_append_left _ hs5, fun k hk => ?_⟩
            · rw [upd_ne laz.symm, e8 _ _ (show (upd H7 fa _) z = _ by rw [upd_ne faz.symm]; exact (e6.trans e7) _ _ hz5)]
            · rw [upd_ne hne2, e8 _ _ upd_same, nS_put ht']
            · rcases List.mem_append.mp hk with hk | hk
              · rcases hd5 k hk with h | h | h
                · exact .inl (List.mem_append_left _ h)
                · refine .inr (.inl ⟨h.1, fun t' h' => ?_⟩)
                  rcases htk t' h' with h' | h'
                  · exact List.mem_append_left _ (h.2 t' h')
                  · rw [h']
                    simp
                · exact .inr (.inr fun t' h' => List.mem_append_left _ (h t' h'))
              · exact .inl (List.mem_append_right _ hk)
        · have c : t ∈ ks' := by simpa using c
          refine ⟨ks', ls', _, _, hm, rfl, e5.trans e6, e6 _ _ hz5, e6 _ _ hf5, e6 _ _ hl5, R5, hs5, fun k hk => ?_⟩
          rcases hd5 k hk with h | h | h
          · exact .inl h
          · refine .inr (.inl ⟨h.1, fun t' h' => ?_⟩)
            rcases htk t' h' with h' | rfl
            · exact h.2 t' h'
            · exact c
          · exact .inr (.inr h)
      · rintro σ' H' ⟨ks', ls', g1, g2, hm, rfl, e5, hz5, hf5, hl5, R5, hs5, hd5⟩
        refine ⟨_, by omega, ks', ls', g1, g2, rfl, by omega, rfl, e5, hf5, hl5, R5, fun k hk => ?_⟩
        rcases hd5 k hk with h | h | h
        · exact .inl h
        · rw [List.length_map, List.take_length] at h
          refine .inr fun t ht => ?_
          rw [h.1, gR_get hsl] at ht
          obtain ⟨t', h', e⟩ := List.mem_map.mp ht
          cases e
          exact h.2 t h'
        · exact .inr h
    · have hne : ls = [] := by
        cases ls with
        | nil => rfl
        | cons x xs =>
          rw [decide_eq_false_iff_not] at c
          exact absurd (by simp) c
      subst hne
      refine s_retU (eu_tupleOfL (el_sortD (ev_var rfl) (e3 _ _ hf') R.nd (by omega) (clo_asc m ss S).asc (hEnd ks R hd))) fun p H4 hp e4 h4 => k p H4 (fresh_back (e.trans e3) hp) ((e.trans e3).trans e4) h4
end
end K14
set_option maxHeartbeats 4000000
/-! {k: v}, the key a tuple or not -/
namespace K14
open PySem L2
/-- {k: v}; the new dict stands empty, o0, while k and v are made -/
def tDisp1 (o0 : HO) (tk tv : TE) : TE := fun σ H Q => ∀ p, H p = none → tk σ (upd H p o0) fun y H1 => tv σ H1 fun z H2 => ∃ H3, DPut H2 p y z H3 ∧ Q (.ref p) H3
theorem pe_disp1 {X : Cx} {k v : Expr} {pos : Pos} {tk tv : TE} (o0 : HO) (hu : X.A.units + 1 < cLine) (hk : PE X k tk) (hv : PE X v tv) (z : o0 = .dK [] ∨ o0 = .dT []) : PE X (.Dict [some k] [v] pos) (tDisp1 o0 tk tv) where
  run pins s σ H Q I h := by
    have n1 := pairTrees_length [some k] [v] X.env pos rfl rfl
    have ne : pairTrees [some k] [v] X.env pos ≠ [] := fun c => by rw [c] at n1; cases n1
    rw [arm_eval_Dict, zip_pairTrees [some k] [v] X.env pos rfl rfl, dictDisplay_pairs _ ne (by rw [n1]; show 1 < 17; decide)]
    refine wpAny_bind (wpAny_standAt (wpAny_bind ?_))
    unfold subDict
    refine wpAny_bind (wpAny_alloc (wpAny_bind (wpAny_holding ?_)))
    rw [if_pos (show (pairTrees [some k] [v] X.env pos).length ≤ 15 by rw [n1]; show 1 ≤ 15; decide)]
    refine wpAny_bind (pairTrees_cons_walk (thn (hk.run pins _ σ _ _ (inv_dict I z) (h _ (I.hok.fresh (Nat.le_refl _)))) fun kv s1 a => ?_))
    obtain ⟨y, H1, I1, ry, a⟩ := a
    refine thn (hv.run pins s1 σ H1 _ I1 a) fun vv s2 b => pairTrees_nil_walk ?_
    obtain ⟨x, H2, I2, rx, H3, put, q⟩ := b
    refine wpAny_holding ?_
    rw [List.forIn_cons]
    refine wpAny_bind (wpAny_bind ?_)
    show wpAny _ _ (dictSet s.heap.objs.size kv vv >>= _) _ _ s2
    refine wpAny_bind (dput_set hu I2 put ry rx fun s3 I3 => wpAny_pure ?_)
    show wpAny _ _ (forIn [] _ _) _ _ s3
    rw [List.forIn_nil]
    exact wpAny_pure (wpAny_pure (wpAny_pure (wpAny_pure ⟨.ref _, H3, I3, rfl, q⟩)))
/-- two clauses, stored to a local on the same line -/
theorem ps_setDcg2 {X : Cx} {kx vx tg iter : Expr} {ifs : List Expr} {scope : Scope} {own : List (Str × Nat)} {pos : Pos} {wi : TI} {g : TG} {tt : TT} {tk tv : TE} {tg1 iter1 : Expr} {ifs1 : List Expr} {wi1 : TI} {g1 : TG} {tt1 : TT} {vs1 : List Nat} (o0 : HO) {i : Nat} {y : Str} {py spos : Pos} (hu : X.A.units + 1 < cLine) (hc : X.calm = true) (hN : X.N.Nodup) (hy : X.N[i]? = some y) (hyl : X.env.scope.names.lookup y = some .local)
    (hsw : swapsWith (.DictComp kx vx [⟨tg, iter, ifs, 0⟩, ⟨tg1, iter1, ifs1, 0⟩] scope pos) (some (.Name y py)) spos.line X.env = pure true) (hi : PI X tg iter wi) (ok : BlkOk X.N X.env.scope scope own) (hv : ∀ i ∈ vs1, i ∈ own.map (·.2)) (hg : InBlk X scope fun B => PG B tg g) (ht : InBlk X scope fun B => PTs B ifs tt)
    (hi1 : InBlk X scope fun B => PI B tg1 iter1 wi1) (hg1 : InBlk X scope fun B => PG B tg1 g1) (ht1 : InBlk X scope fun B => PTs B ifs1 tt1)
    (hk : InBlk X scope fun B => PE B kx tk) (he : InBlk X scope fun B => PE B vx tv) (ho0 : o0 = .dK [] ∨ o0 = .dT []) (hs : ∀ x, foldedSetIterable iter X.env x = pure x := by intro _; rfl) (hs1 : ∀ env x, foldedSetIterable iter1 env x = pure x := by intro _ _; rfl) :
    PS X (.Assign [.Name y py] (.DictComp kx vx [⟨tg, iter, ifs, 0⟩, ⟨tg1, iter1, ifs1, 0⟩] scope pos) spos) (tAsg (tDcG o0 wi g tt (fun D => tInner D wi1 g1 tt1 tk tv vs1) (own.map (·.2))) (gName i)) where
  run pins s σ H D I h := by
    rw [exec_Assign_Name_used _ _ _ _ hsw]
    have h : tDcG o0 wi g tt (fun D => tInner D wi1 g1 tt1 tk tv vs1) (own.map (·.2)) σ H (fun x H1 => gName i x σ H1 D.nx) := h
    have core : wpAny (model X.prog X.w) X.A (comprehension (.DictComp kx vx [⟨tg, iter, ifs, 0⟩, ⟨tg1, iter1, ifs1, 0⟩] scope pos) scope X.env (firstIterPos [⟨tg, iter, ifs, 0⟩, ⟨tg1, iter1, ifs1, 0⟩] pos) newDict false (eval iter X.env) (some (assign (.Name y py) X.env))) (fun _ t => SP X pins D .next t) X.xe s :=
      dcg_core hc hN I hi ok ho0 hg ht (after := fun it D env => innerOf (.DictComp kx vx [⟨tg, iter, ifs, 0⟩, ⟨tg1, iter1, ifs1, 0⟩] scope pos) iter1 it (.ref D) env) (fun it D env => turn_out kx vx tg iter tg1 iter1 ifs ifs1 scope pos it (.ref D) env)
        (fun it D z h c l k => body_inner hc hu (fun _ _ q => q) hv (hi1 z h c l k) (hg1 z h c l k) (ht1 z h c l k) (hk z h c l k) (he z h c l k) (hs1 _)) hs h fun _ _ _ q => dc_local hN hy hyl q
    exact wpAny_bind (wpAny_standAt (wpAny_bind (wpAny_bind (thn core fun _ _ q => wpAny_pure (wpAny_pure q)))))
end K14
set_option maxHeartbeats 4000000
/-! plain: lots of stands numbered as they are met -/
namespace K14
def subs : Nat → List (List Nat)
  | 0 => [[]]
  | m + 1 => subs m ++ (subs m).map (· ++ [m])
theorem subs_len : ∀ m, (subs m).length = 2 ^ m
  | 0 => rfl
  | m + 1 => by
    rw [subs, List.length_append, List.length_map, subs_len m, Nat.pow_succ]
    omega
theorem asc_subs : ∀ {m : Nat} {l : List Nat}, Asc m l → l ∈ subs m
  | 0, l, h => by
    cases l with
    | nil => simp [subs]
    | cons x l =>
      have := h.bd x (List.mem_cons_self ..)
      omega
  | m + 1, l, h => by
    have hf : Asc m (l.filter (· < m)) := ⟨h.asc.filter _, fun k hk => by simpa using (List.mem_filter.mp hk).2⟩
    have ih := asc_subs hf
    rw [subs]
    by_cases c : m ∈ l
    · refine List.mem_append_right _ (List.mem_map.mpr ⟨_, ih, ?_⟩)
      refine asc_eq (List.pairwise_append.mpr ⟨hf.asc, by simp, fun a ha b hb => ?_⟩) h.asc fun k => ?_
      · rw [List.mem_singleton.mp hb]
        exact hf.bd a ha
      · rw [List.mem_append, List.mem_filter, List.mem_singleton, decide_eq_true_eq]
        constructor
        · rintro (⟨h1, _⟩ | rfl)
          · exact h1
          · exact c
        · intro hk
          have := h.bd k hk
          by_cases e : k = m
          · exact .inr e
          · exact .inl ⟨hk, by omega⟩
    · refine List.mem_append_left _ ?_
      have : l.filter (· < m) = l := List.filter_eq_self.mpr fun k hk => by
        have := h.bd k hk
        have : k ≠ m := fun e => c (e ▸ hk)
        simp
        omega
      rw [this] at ih
      exact ih
theorem lots_le {m : Nat} {line : List (List Nat)} (hn : line.Nodup) (h : ∀ l ∈ line, Asc m l) : line.length ≤ 2 ^ m := by
  rw [← subs_len m]
  exact sub_len hn fun l hl => asc_subs (h l hl)
theorem rch_congr {rows : Rows} {S S' : List Nat} (h : ∀ k, k ∈ S → k ∈ S') {k : Nat} (r : Rch rows S k) : Rch rows S' k := by
  induction r with
  | base m => exact .base (h _ m)
  | step _ m ih => exact .step ih m
open Classical in
theorem clo_congr {m : Nat} {ss : List Stp} {S S' : List Nat} (h : ∀ k, k ∈ S ↔ k ∈ S') : clo m ss S = clo m ss S' := by
  unfold clo
  refine List.filter_congr fun k _ => ?_
  exact decide_eq_decide.mpr ⟨rch_congr fun k => (h k).mp, rch_congr fun k => (h k).mpr⟩
/-- where a sign leads from a lot, before it is closed -/
def nearL (ss : List Stp) (lot : List Nat) (a : Nat) : List Nat := lot.flatMap fun s => gb ss s (some a)
/-- .. and closed -/
noncomputable def stepL (m : Nat) (ss : List Stp) (lot : List Nat) (a : Nat) : List Nat := clo m ss (nearL ss lot a)
def numL (line : List (List Nat)) (lot : List Nat) : Option Nat := if lot = [] then none else some (line.idxOf lot)
structure Sb (w m : Nat) (ss : List Stp) (start : List Nat) (line : List (List Nat)) (done : Rows) (i : Nat) (cur : List (Option Nat)) (c : Nat) : Prop where
  first : line[0]? = some start
  nd : line.Nodup
  asc : ∀ l ∈ line, Asc m l
  dl : done.length = i
  ile : i ≤ line.length
  row : ∀ (j : Nat) lot, j < i → line[j]? = some lot → done[j]? = some ((List.range w).map fun a => numL line (stepL m ss lot a))
  has : ∀ (j : Nat) lot, j < i → line[j]? = some lot → ∀ a, a < w → stepL m ss lot a ≠ [] → stepL m ss lot a ∈ line
  cu : ∀ lot, line[i]? = some lot → cur = (List.range c).map fun a => numL line (stepL m ss lot a)
  hasC : ∀ lot, line[i]? = some lot → ∀ a, a < c → stepL m ss lot a ≠ [] → stepL m ss lot a ∈ line
section
variable {w m : Nat} {ss : List Stp} {start : List Nat} {line : List (List Nat)} {done : Rows} {i : Nat} {cur : List (Option Nat)} {c : Nat}
theorem Sb.begin (h : Asc m start) : Sb w m ss start [start] [] 0 [] 0 where
  first := rfl
  nd := by simp
  asc l hl := by
    rw [List.mem_singleton.mp hl]
    exact h
  dl := rfl
  ile := Nat.zero_le _
  row j lot hj := absurd hj (Nat.not_lt_zero _)
  has j lot hj := absurd hj (Nat.not_lt_zero _)
  cu lot h := by simp
  hasC lot h a ha := absurd ha (Nat.not_lt_zero _)
theorem idxL {l m : List (List Nat)} {x : List Nat} (h : x ∈ l) : (l ++ m).idxOf x = l.idxOf x := by
  rw [List.idxOf_append, if_pos h]
theorem idxL_new {l : List (List Nat)} {x : List Nat} (h : x ∉ l) : (l ++ [x]).idxOf x = l.length := by
  rw [List.idxOf_append, if_neg h]
  simp
theorem numL_keep {lot x : List Nat} (h : lot ≠ [] → lot ∈ line) : numL (line ++ [x]) lot = numL line lot := by
  unfold numL
  by_cases e : lot = []
  · rw [if_pos e, if_pos e]
  · rw [if_neg e, if_neg e, idxL (h e)]
theorem Sb.old {lot : List Nat} (h : Sb w m ss start line done i cur c) (hl : line[i]? = some lot) (hm : stepL m ss lot c ≠ [] → stepL m ss lot c ∈ line) : Sb w m ss start line done i (cur ++ [numL line (stepL m ss lot c)]) (c + 1) :=
  { h with
    cu := fun lot' hl' => by
      rw [hl] at hl'
      cases hl'
      rw [List.range_succ, List.map_append, h.cu lot hl]
      rfl
    hasC := fun lot' hl' a ha hn => by
      rw [hl] at hl'
      cases hl'
      by_cases e : a = c
      · rw [e] at hn ⊢
        exact hm hn
      · exact h.hasC lot hl a (by omega) hn }
theorem Sb.new {lot : List Nat} (h : Sb w m ss start line done i cur c) (hl : line[i]? = some lot) (hn : stepL m ss lot c ≠ []) (hm : stepL m ss lot c ∉ line) : Sb w m ss start (line ++ [stepL m ss lot c]) done i (cur ++ [some line.length]) (c + 1) := by
  have hi : i < line.length := (List.getElem?_eq_some_iff.mp hl).1
  have old : ∀ {j lot x}, j ≤ i → (line ++ [x])[j]? = some lot → line[j]? = some lot := fun {j lot x} hj q => by
    rwa [List.getElem?_append_left (by omega)] at q
  refine ⟨?_, ?_, ?_, h.dl, by rw [List.length_append]; omega, ?_, ?_, ?_, ?_⟩
  · rw [List.getElem?_append_left (by omega)]
    exact h.first
  · exact List.nodup_append.mpr ⟨h.nd, by simp, fun a ha b hb e => hm (by rw [List.mem_singleton.mp hb] at e; exact e ▸ ha)⟩
  · intro l hl'
    rcases List.mem_append.mp hl' with q | q
    · exact h.asc l q
    · rw [List.mem_singleton.mp q]
      exact clo_asc ..
  · intro j lot' hj hl'
    have hl' := old (by omega) hl'
    rw [h.row j lot' hj hl']
    refine congrArg some (List.map_congr_left fun a ha => ?_)
    rw [numL_keep (h.has j lot' hj hl' a (List.mem_range.mp ha))]
  · intro j lot' hj hl' a ha hx
    exact List.mem_append_left _ (h.has j lot' hj (old (by omega) hl') a ha hx)
  · intro lot' hl'
    have hl' := old (Nat.le_refl _) hl'
    rw [hl] at hl'
    cases hl'
    rw [List.range_succ, List.map_append, h.cu lot hl]
    congr 1
    · refine List.map_congr_left fun a ha => ?_
      rw [numL_keep (h.hasC lot hl a (List.mem_range.mp ha))]
    · simp only [List.map_cons, List.map_nil, numL]
      rw [if_neg hn, idxL_new hm]
  · intro lot' hl' a ha hx
    have hl' := old (Nat.le_refl _) hl'
    rw [hl] at hl'
    cases hl'
    by_cases e : a = c
    · rw [e]
      exact List.mem_append_right _ (by simp)
    · exact List.mem_append_left _ (h.hasC lot hl a (by omega) hx)
theorem Sb.turn {lot : List Nat} (h : Sb w m ss start line done i cur w) (hl : line[i]? = some lot) : Sb w m ss start line (done ++ [cur]) (i + 1) [] 0 := by
  have hi : i < line.length := (List.getElem?_eq_some_iff.mp hl).1
  refine ⟨h.first, h.nd, h.asc, by simp [h.dl], hi, fun j lot' hj hl' => ?_, fun j lot' hj hl' => ?_, fun lot' _ => by simp, fun lot' _ a ha => absurd ha (Nat.not_lt_zero _)⟩
  · by_cases c : j < i
    · rw [List.getElem?_append_left (by rw [h.dl]; exact c)]
      exact h.row j lot' c hl'
    · have : j = i := by omega
      subst this
      rw [hl] at hl'
      cases hl'
      rw [List.getElem?_append_right (by rw [h.dl]; exact Nat.le_refl _), h.dl, Nat.sub_self, h.cu lot hl]
      rfl
  · by_cases c : j < i
    · exact h.has j lot' c hl'
    · have : j = i := by omega
      subst this
      rw [hl] at hl'
      cases hl'
      exact h.hasC lot hl
end
/-- the reader of lots -/
structure SubR (w m : Nat) (bs : List Nat) (ss : List Stp) (gs : List Nat) (arr : Rows) (ends : List Nat) : Prop where
  ex : ∃ line : List (List Nat), line[0]? = some (clo m ss bs) ∧ line.Nodup ∧ (∀ l ∈ line, Asc m l) ∧ arr.length = line.length ∧
    (∀ (j : Nat) lot, line[j]? = some lot → arr[j]? = some ((List.range w).map fun a => numL line (stepL m ss lot a))) ∧
    (∀ lot ∈ line, ∀ a, a < w → stepL m ss lot a ≠ [] → stepL m ss lot a ∈ line) ∧
    ends = (List.range line.length).filter fun i => decide (∃ s ∈ line.getD i [], s ∈ gs)
end K14
set_option maxHeartbeats 4000000
namespace K14
open PySem L2 Evl
local macro_rules | `(tactic| walk_at "ev") => `(tactic| repeat' (first
  | exact ev_var rfl | exact ev_c | exact ea_nil | apply ea_cons | exact rv_I0 | apply ev_op | apply ev_cb | apply ev_un | exact ru_neg
  | exact rc_isiInt | exact rc_isiBool | exact rc_isiStr))
/-! ### dicts with lots as keys -/
def lk (lot : List Nat) : List Key := lot.map ik
theorem lk_V (lot : List Nat) : (lk lot).map kV = lot.map fun (k : Nat) => V.int k := by
  rw [lk, List.map_map]
  rfl
theorem lk_inj : ∀ {a b : List Nat}, lk a = lk b → a = b
  | [], [], _ => rfl
  | [], _ :: _, h => by cases h
  | _ :: _, [], h => by cases h
  | x :: a, y :: b, h => by
    have h := List.cons.inj h
    rw [ik_inj h.1, lk_inj h.2]
def nT (line : List (List Nat)) : List (List Key × V) := line.map fun l => (lk l, .int ((line.idxOf l : Nat) : Int))
theorem nT_keys {line : List (List Nat)} (hn : line.Nodup) : ((nT line).map (·.1)).Nodup := by
  have : (nT line).map (·.1) = line.map lk := by simp [nT, Function.comp_def]
  rw [this]
  exact nodup_map_inj (fun a _ b _ e => lk_inj e) hn
theorem nT_val {line : List (List Nat)} {l : List Nat} (hn : line.Nodup) : valV (nT line) (lk l) = if l ∈ line then some (.int ((line.idxOf l : Nat) : Int)) else none := by
  by_cases c : l ∈ line
  · rw [if_pos c]
    exact valV_mem (nT_keys hn) (List.mem_map.mpr ⟨l, c, rfl⟩)
  · rw [if_neg c]
    refine valV_none fun p hp e => c ?_
    obtain ⟨q, hq, rfl⟩ := List.mem_map.mp hp
    rw [← lk_inj e]
    exact hq
theorem nT_put {line : List (List Nat)} {l : List Nat} (hn : line.Nodup) (h : l ∉ line) : putK (nT line) (lk l) (.int (line.length : Nat)) = nT (line ++ [l]) := by
  have e : valV (nT line) (lk l) = none := by rw [nT_val hn, if_neg h]
  rw [putK_new _ e]
  unfold nT
  rw [List.map_append, List.map_cons, List.map_nil, idxL_new h]
  congr 1
  exact List.map_congr_left fun x hx => by rw [idxL hx]
theorem nT_len {line : List (List Nat)} : (nT line).length = line.length := by simp [nT]
theorem nS_put_old {ns : List Nat} {k : Nat} (h : k ∈ ns) : putK (nS ns) (ik k) (.bl true) = nS ns := by
  have a : ((nS ns).any fun kv => decide (kv.1 = ik k)) = true := by rw [valV_any, nS_val, decide_eq_true h]
  unfold putK
  rw [a]
  simp only [if_true]
  refine (List.map_congr_left fun p hp => ?_).trans (List.map_id _)
  obtain ⟨q, hq, rfl⟩ := List.mem_map.mp hp
  obtain ⟨n, hn, rfl⟩ := List.mem_map.mp hq
  by_cases c : ik n = ik k
  · simp [c]
  · simp [c]
def shE (gs : List Nat) (line : List (List Nat)) (i : Nat) : List Nat := (List.range i).filter fun j => decide (∃ s ∈ line.getD j [], s ∈ gs)
theorem shE_app {gs : List Nat} {line : List (List Nat)} {t : List Nat} {i : Nat} (h : i ≤ line.length) : shE gs (line ++ [t]) i = shE gs line i := by
  refine List.filter_congr fun j hj => ?_
  have := List.mem_range.mp hj
  rw [List.getD_eq_getElem?_getD, List.getD_eq_getElem?_getD, List.getElem?_append_left (by omega)]
theorem shE_succ {gs : List Nat} {line : List (List Nat)} {l : List Nat} {i : Nat} (h : line[i]? = some l) : shE gs line (i + 1) = if (∃ s ∈ l, s ∈ gs) then shE gs line i ++ [i] else shE gs line i := by
  unfold shE
  rw [range_filter, getD_of h]
  by_cases c : ∃ s ∈ l, s ∈ gs <;> simp [c]
theorem shE_len {gs : List Nat} {line : List (List Nat)} {i : Nat} : (shE gs line i).length ≤ i := filter_len
section
variable {P : Program} {w : World} {K : PySem.W.Frag} {mg : Str → Option Value} {base : Heap}
variable {σ σ1 σ2 : L2.St} {H H' : Hp} {ta tb tc te tl tk tv td : TE} {x y z v : V} {D : Ends} {tz tu tw : TS} {g : TG} {tt : TT} {wi : TI} {tA : TA}
theorem er_marksT {d : Addr} {ns : List Nat} {j b : Nat} {vs : List Nat} (hi : σ[j]? = some (some (.ref d))) (hd : StT H d ns) (hn : ns.Nodup) (hz : ns.length ≤ 40000) (hw : ∀ x, wipe ((wipe σ vs).set b (some x)) vs = wipe σ vs) (hb : ∀ x, ((wipe σ vs).set b (some x))[b]? = some (some x)) :
    EvR (tDcG (.dK []) (iTup K (tVar j)) (gName b) tYes (fun D => tEmit D (tVar b) (tC (.bl true))) vs) σ H (fun H p => H p = some (.dK (nS ns))) := by
  have h := ed_comp (vs := vs) (tt := tYes) (g := gName b) (tk := tVar b) (te := tC (.bl true)) (fun _ => true) (fun i => ik (ns.getD i 0)) (fun _ => .bl true) (ei_T (K := K) (ev_var hi) (st_of hd)) (by rw [List.length_map]; exact hz) (fun i x H1 e hi hy => ⟨_, eg_name, hw x, et_yes, fun _ => ⟨?_, ev_c⟩⟩)
  · rw [List.length_map, ed_ofNums hn] at h
    exact h
  · obtain ⟨m, hm, rfl⟩ := get_map hy
    rw [kV_ik, getD_of hm]
    exact ev_var (hb _)
theorem er_disp1T {b : Addr} {k : List Key} (h1 : Ev tk σ H (.ref b)) (hb : H b = some (.tup (k.map kV))) (h2 : Ev tv σ H v) : EvR (tDisp1 (.dT []) tk tv) σ H (fun H p => H p = some (.dT [(k, v)])) := fun H1 e Q q p hp =>
  h1 _ (e.trans (Ex.new hp)) _ fun H2 e2 => h2 H2 ((e.trans (Ex.new hp)).trans e2) _ fun H3 e3 =>
    ⟨_, DPut.t ((e2.trans e3) _ _ upd_same) (((e.trans (Ex.new hp)).trans (e2.trans e3)) _ _ hb) (by decide), q p _ hp (Ex.mut ((Ex.new hp).trans (e2.trans e3)) hp) upd_same⟩
theorem q_asgTup4 {p : List V → Hp → Prop} {i j l n : Nat} (h : EvAs tA σ H p) (hp : ∀ vs H, p vs H → ∃ a b c d, vs = [a, b, c, d]) (k : ∀ a b c d H1 T, Ex H H1 → p [a, b, c, d] H1 → H1 T = none → tz D ((((σ.set i (some a)).set j (some b)).set l (some c)).set n (some d)) (upd H1 T (.tup [a, b, c, d]))) :
    tSeq (tAsg (tTup tA) (gTup K 4 (gCons (gName i) (gCons (gName j) (gCons (gName l) (gCons (gName n) gNil)))))) tz D σ H := h H (Ex.refl H) _ fun vs H1 e r => by
  obtain ⟨a, b, c, d, rfl⟩ := hp vs H1 r
  exact ⟨by show 4 ≤ sizeLine; decide, fun T hT => ⟨T, _, rfl, st_of upd_same, rfl, _, _, rfl, _, _, rfl, _, _, rfl, _, _, rfl, rfl, k a b c d H1 T e r hT⟩⟩
theorem ev_anyN {bs : List Bool} (h : EvL te σ H (bs.map V.bl)) : Ev (tCB (rAny K) (tCons te tNil)) σ H (.bl (bs.any id)) := fun H1 e Q q =>
  h H1 e _ fun p H2 _ e2 h2 => ⟨p, bs, rfl, sq_of h2, q H2 e2⟩
theorem el_listDK {d : Addr} {ns : List Nat} (h : Ev ta σ H (.ref d)) (hd : H d = some (.dK (nS ns))) : EvL (tCB rListDK (tCons ta tNil)) σ H (ns.map fun (k : Nat) => V.int k) := fun H1 e Q q =>
  h H1 e _ fun H2 e2 => ⟨d, _, rfl, (e.trans e2) _ _ hd, fun l hl => q l _ (fresh_back e2 hl) (e2.trans (Ex.new hl)) (by rw [upd_same]; simp [nS, nD, kV_ik, Function.comp_def])⟩
theorem spr_goals_by {as : Addr} {m : Nat} {ss : List Stp} (h1 : StpT H as ss) (h2 : m ≤ 12) (h3 : ss.length ≤ 1000) (h4 : ∀ s ∈ ss, s.1 < m) : SpR sp_goals_by ([.int m, .ref as] ++ []) H (fun H p => TabT H p m ss) := fun H1 x Q q E => ⟨as, m, ss, rfl, h1.ex x, h2, h3, h4, q⟩
theorem spr_spread_out {a b : Addr} {m : Nat} {ss : List Stp} {S : List Nat} (h1 : TabT H a m ss) (h2 : m ≤ 12) (h3 : ∀ s ∈ ss, s.2.2 < m) (h4 : SeqAt H b (S.map fun (k : Nat) => V.int k)) (h5 : S.Nodup) (h6 : ∀ k ∈ S, k < m) : SpR sp_spread_out ([.ref a, .ref b] ++ []) H (fun H p => H p = some (.tup ((clo m ss S).map fun (k : Nat) => V.int k))) :=
  fun H1 x Q q E => ⟨a, b, m, ss, S, rfl, h1.ex x, h2, h3, h4.ex x, h5, h6, q⟩
/-- near = {goal: True for stand in lot for goal in tables[stand].get(sign, [])} -/
theorem er_near {tb' : Addr} {lt : Addr} {m : Nat} {ss : List Stp} {lot : List Nat} {a j0 j1 j2 j3 j4 : Nat} (h4 : σ[j4]? = some (some (.ref lt))) (hw : ∀ x, wipe ((wipe σ [j1, j3]).set j1 (some x)) [j1, j3] = wipe σ [j1, j3]) (hw3 : ∀ x y, wipe ((wipe ((wipe σ [j1, j3]).set j1 (some x)) [j3]).set j3 (some y)) [j3] = wipe ((wipe σ [j1, j3]).set j1 (some x)) [j3])
    (v0 : ∀ x, ((wipe σ [j1, j3]).set j1 (some x))[j0]? = some (some (.ref tb'))) (v1 : ∀ x, ((wipe σ [j1, j3]).set j1 (some x))[j1]? = some (some x)) (v2 : ∀ x, ((wipe σ [j1, j3]).set j1 (some x))[j2]? = some (some (.str ⟨#[97 + a]⟩))) (v3 : ∀ x y, ((wipe ((wipe σ [j1, j3]).set j1 (some x)) [j3]).set j3 (some y))[j3]? = some (some y))
    (hT : TabT H tb' m ss) (hl : StT H lt lot) (hm : ∀ s ∈ lot, s < m) (hl100 : lot.length ≤ 100) (hs100 : ss.length ≤ 100) :
    EvR (tDcG (.dK []) (iTup K (tVar j4)) (gName j1) tYes (fun D => tInner D (iList K (tDGet2 (tOp (rIxL K) (tVar j0) (tVar j1)) (tVar j2) (tLst tNil))) (gName j3) tYes (tVar j3) (tC (.bl true)) [j3]) [j1, j3]) σ H (fun H p => ∃ ks, H p = some (.dK (nS ks)) ∧ ks.Nodup ∧ ∀ k, k ∈ ks ↔ k ∈ nearL ss lot a) := fun H0 e Q q => by
  refine ⟨_, h4, lt, rfl, ⟨_, st_of (e _ _ hl)⟩, fun D hD => ?_⟩
  have hT0 := hT.ex e
  have hl0 := e _ _ hl
  refine ⟨fun i n H' => n = lot.length - i ∧ i ≤ lot.length ∧ Ex H0 H' ∧ ∃ ks, H' D = some (.dK (nS ks)) ∧ ks.Nodup ∧ (∀ k, k ∈ ks ↔ k ∈ nearL ss (lot.take i) a), ⟨lot.length, by simp, Nat.zero_le _, Ex.new hD, [], by rw [upd_same]; rfl, List.nodup_nil, fun k => by simp [nearL]⟩, ?_⟩
  rintro i n H2 ⟨rfl, hi, e2, ks, hk, hn, hmem⟩
  have ks_le : ∀ {ks : List Nat} {l : List Nat}, ks.Nodup → (∀ k, k ∈ ks → k ∈ nearL ss lot a) → ks.length ≤ 10000 := fun {ks l} hn hs => by
    refine Nat.le_trans (sub_len (A := nearL ss lot a) hn hs) ?_
    have : ∀ lot : List Nat, (nearL ss lot a).length ≤ lot.length * ss.length := fun lot => by
      induction lot with
      | nil => simp [nearL]
      | cons x l ih =>
        have := gb_len ss x (some a)
        simp only [nearL, List.flatMap_cons, List.length_append, List.length_cons, Nat.succ_mul] at ih ⊢
        omega
    exact Nat.le_trans (this lot) (Nat.mul_le_mul hl100 hs100)
  by_cases hlt : i < lot.length
  · refine .inr ⟨⟨_, _, st_of (e2 _ _ hl0), by rw [List.getElem?_map, List.getElem?_eq_getElem hlt]; rfl⟩, _, fun H3 h3 => ⟨_, (by omega : lot.length - (i + 1) < _), rfl, hlt, h3⟩, fun x H3 y3 => ?_⟩
    obtain ⟨rfl, y3⟩ := y3
    have hx := y3 _ (st_of (e2 _ _ hl0))
    rw [List.getElem?_map, List.getElem?_eq_getElem hlt] at hx
    obtain rfl : V.int (lot[i] : Nat) = x := Option.some.inj hx
    have hsl : lot[i] ∈ lot := List.getElem_mem hlt
    have tki : lot.take (i + 1) = lot.take i ++ [lot[i]] := List.take_succ_eq_append_getElem hlt
    have subT : ∀ {j k}, k ∈ nearL ss (lot.take j) a → k ∈ nearL ss lot a := fun {j k} h => by
      obtain ⟨s, h1, h2⟩ := List.mem_flatMap.mp h
      exact List.mem_flatMap.mpr ⟨s, List.mem_of_mem_take h1, h2⟩
    have subS : ∀ {k}, k ∈ gb ss lot[i] (some a) → k ∈ nearL ss lot a := fun {k} h => List.mem_flatMap.mpr ⟨_, hsl, h⟩
    generalize lot[i] = s at hsl tki subS
    refine ⟨hw _, yesT ?_⟩
    unfold tInner iList
    refine eq_goals (K := K) (sg := some a) (σ := (wipe σ [j1, j3]).set j1 (some (.int (s : Nat)))) (ev_var (v0 _)) (ev_var (v1 _)) (ev_var (v2 _)) hT0 (hm s hsl) H3 e2 _ fun rl H4 e4 hrl => ⟨rl, rfl, ⟨_, sq_of hrl⟩, ?_⟩
    have hD4 := e4 _ _ hk
    refine ⟨fun k n H' => n = (gb ss s (some a)).length - k ∧ k ≤ (gb ss s (some a)).length ∧ Ex H0 H' ∧ H' rl = some (.lst ((gb ss s (some a)).map fun (k : Nat) => V.int k)) ∧ ∃ ks, H' D = some (.dK (nS ks)) ∧ ks.Nodup ∧ (∀ t, t ∈ ks ↔ t ∈ nearL ss (lot.take i) a ∨ t ∈ (gb ss s (some a)).take k), ⟨_, rfl, Nat.zero_le _, e2.trans e4, hrl, ks, hD4, hn, fun t => by rw [hmem]; simp⟩, ?_⟩
    rintro k n H5 ⟨rfl, hk', e5, hrl5, ks5, hk5, hn5, hmem5⟩
    by_cases hkt : k < (gb ss s (some a)).length
    · refine .inr ⟨⟨_, _, sq_of hrl5, by rw [List.getElem?_map, List.getElem?_eq_getElem hkt]; rfl⟩, _, fun H6 h6 => ⟨_, (by omega : (gb ss s (some a)).length - (k + 1) < _), rfl, hkt, h6⟩, fun x H6 y6 => ?_⟩
      obtain ⟨rfl, y6⟩ := y6
      have hx := y6 _ (sq_of hrl5)
      rw [List.getElem?_map, List.getElem?_eq_getElem hkt] at hx
      obtain rfl : V.int ((gb ss s (some a))[k] : Nat) = x := Option.some.inj hx
      have hgm : (gb ss s (some a))[k] ∈ gb ss s (some a) := List.getElem_mem hkt
      have tkk : (gb ss s (some a)).take (k + 1) = (gb ss s (some a)).take k ++ [(gb ss s (some a))[k]] := List.take_succ_eq_append_getElem hkt
      generalize (gb ss s (some a))[k] = t at hgm tkk
      have kl : ks5.length ≤ 10000 := ks_le (l := []) hn5 fun t ht => by
        rcases (hmem5 t).mp ht with h | h
        · exact subT h
        · exact subS (List.mem_of_mem_take h)
      have rD : rl ≠ D := fun c => by rw [c, hk5] at hrl5; cases hrl5
      refine ⟨hw3 _ _, yesT ⟨_, v3 _ _, ⟨_, DPut.k (k := ik t) hk5 (sz_lt (by rw [nS_len]; omega)), Ex.mut e5 hD, by rw [upd_ne rD]; exact hrl5, ?_⟩⟩⟩
      by_cases c : t ∈ ks5
      · refine ⟨ks5, by rw [upd_same, nS_put_old c], hn5, fun t' => ?_⟩
        rw [hmem5, tkk, List.mem_append, List.mem_singleton]
        constructor
        · rintro (h | h)
          · exact .inl h
          · exact .inr (.inl h)
        · rintro (h | h | rfl)
          · exact .inl h
          · exact .inr h
          · exact (hmem5 _).mp c
      · refine ⟨ks5 ++ [t], by rw [upd_same, nS_put c], List.nodup_append.mpr ⟨hn5, by simp, fun a ha b hb e => c (by rw [List.mem_singleton.mp hb] at e; exact e ▸ ha)⟩, fun t' => ?_⟩
        rw [List.mem_append, hmem5, tkk, List.mem_append, List.mem_singleton, or_assoc]
    · refine .inl ⟨⟨_, sq_of hrl5, by rw [List.length_map]; omega⟩, e5, ks5, hk5, hn5, fun t => ?_⟩
      have tl : (gb ss s (some a)).take k = gb ss s (some a) := List.take_of_length_le (by omega)
      rw [hmem5, tl, tki]
      unfold nearL
      rw [List.flatMap_append, List.mem_append]
      simp
  · have hie : i = lot.length := by omega
    subst hie
    rw [List.take_length] at hmem
    exact .inl ⟨⟨_, st_of (e2 _ _ hl0), by rw [List.length_map]; omega⟩, q D H2 hD e2 ⟨ks, hk, hn, hmem⟩⟩
/-- lots as a list of tuples -/
def LotsL (H : Hp) (a : Addr) (line : List (List Nat)) : Prop := ∃ ps : List Addr, H a = some (.lst (ps.map V.ref)) ∧ ps.length = line.length ∧ ∀ (i : Nat) p l, ps[i]? = some p → line[i]? = some l → StT H p l
theorem LotsL.ex {a : Addr} {line : List (List Nat)} (h : LotsL H a line) (e : Ex H H') : LotsL H' a line := by
  obtain ⟨ps, h1, h2, h3⟩ := h
  exact ⟨ps, e _ _ h1, h2, fun i p r a b => (h3 i p r a b).ex e⟩
theorem LotsL.mut {a b : Addr} {line : List (List Nat)} {o : HO} (h : LotsL H a line) (hb : ∃ u, H b = some u ∧ ∀ xs, u ≠ .tup xs) (n : a ≠ b) : LotsL (upd H b o) a line := by
  obtain ⟨ps, h1, h2, h3⟩ := h
  obtain ⟨u, hu, hn⟩ := hb
  refine ⟨ps, by rw [upd_ne n]; exact h1, h2, fun i p r q1 q2 => ?_⟩
  have := h3 i p r q1 q2
  show upd H b o p = _
  rw [upd_ne fun z => by rw [StT, z, hu] at this; exact hn _ (Option.some.inj this)]
  exact this
theorem LotsL.push {a q : Addr} {line : List (List Nat)} {l : List Nat} {ps : List Addr} (h : H a = some (.lst (ps.map V.ref))) (hl : ps.length = line.length) (hp : ∀ (i : Nat) p l, ps[i]? = some p → line[i]? = some l → StT H p l) (hq : StT H q l) : LotsL (upd H a (.lst (ps.map V.ref ++ [.ref q]))) a (line ++ [l]) := by
  refine ⟨ps ++ [q], by rw [upd_same, List.map_append]; rfl, by rw [List.length_append, List.length_append, hl]; rfl, fun i p r q1 q2 => ?_⟩
  have : StT H p r := by
    by_cases cj : i < line.length
    · rw [List.getElem?_append_left (by rw [hl]; exact cj)] at q1
      rw [List.getElem?_append_left cj] at q2
      exact hp i p r q1 q2
    · rw [List.getElem?_append_right (by rw [hl]; omega), hl] at q1
      rw [List.getElem?_append_right (by omega)] at q2
      cases ci : i - line.length with
      | zero =>
        rw [ci] at q1 q2
        cases q1
        cases q2
        exact hq
      | succ m =>
        rw [ci] at q1
        cases q1
  show upd H a _ p = _
  rw [upd_ne fun z => by rw [StT, z, h] at this; cases this]
  exact this
structure LT (Hb H' : Hp) (nm ln aw fd : Addr) (gs : List Nat) (line : List (List Nat)) (done : Rows) : Prop where
  ex : Ex Hb H'
  num : H' nm = some (.dT (nT line))
  lin : LotsL H' ln line
  fin : H' fd = some (.dK (nS gs))
  row : RowsL H' aw done
theorem LT.go {Hb H' H'' : Hp} {nm ln aw fd : Addr} {gs : List Nat} {line : List (List Nat)} {done : Rows} (h : LT Hb H' nm ln aw fd gs line done) (e : Ex H' H'') : LT Hb H'' nm ln aw fd gs line done :=
  ⟨h.ex.trans e, e _ _ h.num, h.lin.ex e, e _ _ h.fin, h.row.ex e⟩
theorem as_two_nil : EvAs (tCons (tLst tNil) (tCons (tLst tNil) tNil)) σ H (fun vs H' => ∃ c d, vs = [.ref c, .ref d] ∧ H c = none ∧ H d = none ∧ c ≠ d ∧ H' c = some (.lst []) ∧ H' d = some (.lst [])) := fun H1 e Q q =>
  el_lst ea_nil (by decide) H1 e _ fun c H2 hc e2 h2 => el_lst (σ := σ) ea_nil (by decide) H2 (e.trans e2) _ fun d H3 hd e3 h3 => q _ H3 (e2.trans e3) ⟨c, d, rfl, fresh_back e hc, fresh_back (e.trans e2) hd, (fun z => by rw [← z, h2] at hd; cases hd), e3 _ _ h2, h3⟩
/-- what reader_of_steps is given -/
structure StIn (H : Hp) (ab as ag : Addr) (n m : Nat) (bs : List Nat) (ss : List Stp) (gs : List Nat) : Prop where
  b : StT H ab bs
  s : StpT H as ss
  g : StT H ag gs
  n1 : 1 ≤ n
  n8 : n ≤ 8
  m5 : m ≤ 5
  few : ss.length ≤ 100
  sb : ∀ s ∈ ss, s.1 < m ∧ s.2.2 < m
  ba : Asc m bs
  ga : Asc m gs
theorem StIn.ex {ab as ag : Addr} {n m : Nat} {bs : List Nat} {ss : List Stp} {gs : List Nat} (h : StIn H ab as ag n m bs ss gs) (e : Ex H H') : StIn H' ab as ag n m bs ss gs := { h with b := h.b.ex e, s := h.s.ex e, g := h.g.ex e }
def SubAt (C : Addr) (n m : Nat) (bs : List Nat) (ss : List Stp) (gs : List Nat) (H : Hp) (p : Addr) : Prop := ∃ arr ends, SubR n m bs ss gs arr ends ∧ MadeAt C n arr ends H p
def sp_reader_of_steps (C : Addr) : Sp := fun vs H Q _ => ∃ (ab as ag : Addr) (n m : Nat) (bs : List Nat) (ss : List Stp) (gs : List Nat), vs = [.int n, .int m, .ref ab, .ref as, .ref ag] ∧ StIn H ab as ag n m bs ss gs ∧ ∀ p H', H p = none → Ex H H' → SubAt C n m bs ss gs H' p → Q (.ref p) H'
theorem Asc.nd {m : Nat} {l : List Nat} (h : Asc m l) : l.Nodup := h.asc.imp fun h => Nat.ne_of_lt h
theorem ok_reader_of_steps (T : Tx K mg) : FnOk P w K mg base CX0 7 T.d_reader_of_steps.f T.d_reader_of_steps.fd ["signs", "size", "begins", "steps", "goals"] (sp_reader_of_steps T.CR) := by
  refine T.d_reader_of_steps.F.ok sc_reader_of_steps (fun vs H Q E h => ?_) (fun cdv A outer s H vs Q E hr h => ?_)
  · obtain ⟨ab, as, ag, n, m, bs, ss, gs, rfl, _⟩ := h
    rfl
  · obtain ⟨ab, as, ag, n, m, bs, ss, gs, rfl, I, k⟩ := h
    refine ⟨_, (pss_cons (ps_set (i := 5) sc_reader_of_steps.nd rfl (Or.inr rfl) (pe_call (ok_goals_by T) (hr.mono (by decide)) rfl T.d_goals_by.g T.d_goals_by.F.kp T.d_goals_by.b .nil pass0 (pa_cons (pv 1) (pa_cons (pv 3) pa_nil))))
      (pss_cons (ps_set (i := 6) sc_reader_of_steps.nd rfl (Or.inl rfl) (pe_call (ok_spread_out T) (hr.mono (by decide)) rfl T.d_spread_out.g T.d_spread_out.F.kp T.d_spread_out.b .nil pass0 (pa_cons (pv 5) (pa_cons (pv 2) pa_nil))))
      (pss_cons (ps_asg (pe_tup (pa_cons (pe_disp1 (.dT []) (hu64 hr.units) (pv 6) pe_int (.inr rfl)) (pa_cons (pe_lst (pa_cons (pv 6) pa_nil)) (pa_cons (pe_lst pa_nil) (pa_cons (pe_lst pa_nil) pa_nil))))) (k_tup (n := 4) K rfl (pgs_cons (pg_name (i := 7) sc_reader_of_steps.nd rfl (Or.inl rfl)) (pgs_cons (pg_name (i := 8) sc_reader_of_steps.nd rfl (Or.inl rfl)) (pgs_cons (pg_name (i := 9) sc_reader_of_steps.nd rfl (Or.inl rfl)) (pgs_cons (pg_name (i := 10) sc_reader_of_steps.nd rfl (Or.inl rfl)) pgs_nil))))))
      (pss_cons (ps_set (i := 11) sc_reader_of_steps.nd rfl (Or.inr rfl) (pe_dcg (own := [("stand", 12)]) (g := (gName 12)) (.dK []) (hu64 hr.units) rfl sc_reader_of_steps.nd (k_piT K (pv 4)) (blkOk_by (own := [("stand", 12)]) (N := ["signs", "size", "begins", "steps", "goals", "tables", "start", "numbers", "line", "arrows", "ends", "final", "stand", "lot", "row", "sign", "near", "goal", "later"]) (sc := defScope s_reader_of_steps) (by decide +kernel)) (fun _ _ _ _ _ => (pg_name (i := 12) sc_reader_of_steps.nd rfl (Or.inl rfl))) (fun _ _ _ _ _ => pts_nil) (fun _ _ _ _ _ => (pv 12)) (fun _ _ _ _ _ => pe_bl) (.inl rfl)))
      (pss_cons (ps_while PassesOwn.never (pt_cmpR op_lt (pe_callB (k_len K) (by rfl) T.z_len (by decide +kernel) (pa_cons (pv 9) pa_nil)) (pe_callB (k_len K) (by rfl) T.z_len (by decide +kernel) (pa_cons (pv 8) pa_nil)) (nomark _)) (pss_cons (ps_set (i := 13) sc_reader_of_steps.nd rfl (Or.inl rfl) (pe_ix (k_ixL K) (pv 8) (pe_callB (k_len K) (by rfl) T.z_len (by decide +kernel) (pa_cons (pv 9) pa_nil)) (fun _ _ => rfl)))
      (pss_cons (ps_if (pt_val (pe_callB (k_any K rfl) (by rfl) T.z_any (by decide +kernel) (pa_cons (pe_lc (own := [("stand", 12)]) (g := (gName 12)) rfl sc_reader_of_steps.nd (k_piT K (pv 13)) (blkOk_by (own := [("stand", 12)]) (N := ["signs", "size", "begins", "steps", "goals", "tables", "start", "numbers", "line", "arrows", "ends", "final", "stand", "lot", "row", "sign", "near", "goal", "later"]) (sc := defScope s_reader_of_steps) (by decide +kernel)) (fun _ _ _ _ _ => (pg_name (i := 12) sc_reader_of_steps.nd rfl (Or.inl rfl))) (fun _ _ _ _ _ => pts_nil) (fun _ _ _ _ _ => (pe_cmp (pc_din (hu64 hr.units) (pv 12) (pv 11))))) pa_nil))) (pss_one (ps_expr (pe_bm PySem.F.plainAttrs_list PySem.F.slot_list_append PySem.F.type_list_append mt_append (pv 10) (pa_cons (pe_callB (k_len K) (by rfl) T.z_len (by decide +kernel) (pa_cons (pv 9) pa_nil)) pa_nil)))) pss_nil)
      (pss_cons (ps_set (i := 14) sc_reader_of_steps.nd rfl (Or.inl rfl) (pe_lst pa_nil))
      (pss_cons (ps_for PassesOwn.never rfl (pi_str (pe_slice sl_str (pe_glob (v := .str "abcdefgh") rfl T.g_ALPHABET.choose_spec ⟨_, rfl⟩) po_none (po_some (pv 0)))) (pg_name (i := 15) sc_reader_of_steps.nd rfl (Or.inr rfl)) (pss_cons (ps_setDcg2 (own := [("stand", 12), ("goal", 17)]) (vs1 := [17]) (g := (gName 12)) (g1 := (gName 17)) (.dK []) (i := 16) (hu64 hr.units) rfl sc_reader_of_steps.nd rfl rfl (swD_true rfl rfl rfl (by decide +kernel)) (k_piT K (pv 13)) (blkOk_by (own := [("stand", 12), ("goal", 17)]) (N := ["signs", "size", "begins", "steps", "goals", "tables", "start", "numbers", "line", "arrows", "ends", "final", "stand", "lot", "row", "sign", "near", "goal", "later"]) (sc := defScope s_reader_of_steps) (by decide +kernel)) (by decide) (fun _ _ _ _ _ => (pg_name (i := 12) sc_reader_of_steps.nd rfl (Or.inl rfl))) (fun _ _ _ _ _ => pts_nil) (fun _ _ _ _ _ => (k_piL K (pe_dget2 (hu64 hr.units) (pe_ix (k_ixL K) (pv 5) (pv 12) (fun _ _ => rfl)) (pv 15) (pe_lst pa_nil) ⟨rfl, rfl, rfl, rfl⟩))) (fun _ _ _ _ _ => (pg_name (i := 17) sc_reader_of_steps.nd rfl (Or.inl rfl))) (fun _ _ _ _ _ => pts_nil) (fun _ _ _ _ _ => (pv 17)) (fun _ _ _ _ _ => pe_bl) (.inl rfl))
      (pss_cons (ps_set (i := 18) sc_reader_of_steps.nd rfl (Or.inl rfl) (pe_call (ok_spread_out T) (hr.mono (by decide)) rfl T.d_spread_out.g T.d_spread_out.F.kp T.d_spread_out.b .nil pass0 (pa_cons (pv 5) (pa_cons (pe_callTy (call_list_dK rfl) (by rfl) T.z_list (by decide +kernel) (pa_cons (pv 16) pa_nil)) pa_nil))))
      (pss_cons (ps_if (PW.pt (pw_and (pt_cmpR op_gt (pe_callB (k_len K) (by rfl) T.z_len (by decide +kernel) (pa_cons (pv 18) pa_nil)) pe_int (nomark _)) (pw_and1 (pt_cmp (pc_dnotin (hu64 hr.units) (pv 18) (pv 7)))))) (pss_cons (ps_dput (hu64 hr.units) (pv 7) (pv 18) (pe_callB (k_len K) (by rfl) T.z_len (by decide +kernel) (pa_cons (pv 8) pa_nil)) rfl)
      (pss_one (ps_expr (pe_bm PySem.F.plainAttrs_list PySem.F.slot_list_append PySem.F.type_list_append mt_append (pv 8) (pa_cons (pv 18) pa_nil))))) pss_nil)
      (pss_one (ps_expr (pe_bm PySem.F.plainAttrs_list PySem.F.slot_list_append PySem.F.type_list_append mt_append (pv 14) (pa_cons (pe_ifExp (pt_cmpR op_gt (pe_callB (k_len K) (by rfl) T.z_len (by decide +kernel) (pa_cons (pv 18) pa_nil)) pe_int (nomark _)) (pe_dget1 (hu64 hr.units) (pv 7) (pv 18) ⟨rfl, rfl, rfl, rfl⟩) pe_non) pa_nil))))))))
      (pss_one (ps_expr (pe_bm PySem.F.plainAttrs_list PySem.F.slot_list_append PySem.F.type_list_append mt_append (pv 9) (pa_cons (pe_callTy (k_tuple K) (by rfl) T.z_tuple (by decide +kernel) (pa_cons (pv 14) pa_nil)) pa_nil)))))))))
      (pss_one (ps_ret (pe_call (ok_made T) (hr.mono (by decide)) rfl T.d_made.g T.d_made.F.kp T.d_made.b .nil pass0 (pa_cons (pv 0) (pa_cons (pv 9) (pa_cons (pv 10) pa_nil))))))))))), ?_⟩
    have m5 := I.m5
    have sg : ∀ s ∈ ss, s.2.2 < m := fun s hs => (I.sb s hs).2
    have pw : 2 ^ m ≤ 32 := Nat.pow_le_pow_right (by decide) m5
    refine q_asgR (er_call (by walk_at "ev") (spr_goals_by I.s (by omega) (by have := I.few; omega) fun s hs => (I.sb s hs).1)) fun tb H1 htb e1 hT => ?_
    refine q_asgR (er_call (by walk_at "ev") (spr_spread_out hT (by omega) sg (.inl (I.b.ex e1)) I.ba.nd I.ba.bd)) fun st H2 hst e2 hS => ?_
    have e12 := e1.trans e2
    have hT2 := hT.ex e2
    refine q_asgTup4 (as_f (R := fun H p => H p = some (.dT [(lk (clo m ss bs), .int 0)])) (er_disp1T (k := lk (clo m ss bs)) (ev_var rfl) (by rw [lk_V]; exact hS) ev_c) is_mono (as_f (R := fun H p => H p = some (.lst [.ref st])) (er_L (el_lst (ea_cons (ev_var rfl) ea_nil) (by show 1 ≤ 100000; decide))) is_mono as_two_nil))
      (fun vs H ⟨a, r, h1, _, _, b, r2, h2, _, _, c, d, h3, _⟩ => ⟨.ref a, .ref b, .ref c, .ref d, by rw [h1, h2, h3]⟩) fun x1 x2 x3 x4 H3 TT e3 hR hTT => ?_
    obtain ⟨nm, r, q1, hnm, hnum, ln, r2, rfl, hln, hlin, aw, ed, rfl, haw, hed, hae, haw0, hed0⟩ := hR
    cases q1
    have eT : Ex H3 (upd H3 TT (.tup [.ref nm, .ref ln, .ref aw, .ref ed])) := Ex.new hTT
    have e23 := e3.trans eT
    have e13 := e12.trans e23
    have lna : ln ≠ aw := fun z => by rw [z, haw0] at hlin; cases hlin
    have lne : ln ≠ ed := fun z => by rw [z, hed0] at hlin; cases hlin
    refine q_asgR (er_marksT (K := K) rfl (I.g.ex e13) I.ga.nd (by have := asc_len I.ga; omega) (fun _ => rfl) (fun _ => rfl)) fun fd H4 hfd e4 hfin => ?_
    have fdn : fd ≠ nm := fun z => by rw [z, eT _ _ hnum] at hfd; cases hfd
    have e34 := eT.trans e4
    have hnum0 : [(lk (clo m ss bs), V.int 0)] = nT [clo m ss bs] := by
      simp [nT]
    refine q_while (fun μ σ' H' => ∃ (line : List (List Nat)) (done : Rows) (g12 g13 g14 g15 g16 g17 g18 : Option V), μ = 2 ^ m - done.length ∧ σ' = [some (.int n), some (.int m), some (.ref ab), some (.ref as), some (.ref ag), some (.ref tb), some (.ref st), some (.ref nm), some (.ref ln), some (.ref aw), some (.ref ed), some (.ref fd), g12, g13, g14, g15, g16, g17, g18] ∧ LT H2 H' nm ln aw fd gs line done ∧
        H' ed = some (.lst ((shE gs line done.length).map fun (k : Nat) => V.int k)) ∧ Sb n m ss (clo m ss bs) line done done.length [] 0) _
      ⟨[clo m ss bs], [], none, none, none, none, none, none, none, rfl, rfl, ⟨e3.trans e34, by rw [← hnum0]; exact e34 _ _ hnum, ⟨[st], e34 _ _ hlin, rfl, fun i p l q1 q2 => by
        cases i with
        | zero =>
          cases q1
          cases q2
          exact (e3.trans e34) _ _ hS
        | succ i => cases q1⟩, hfin, ⟨[], e34 _ _ haw0, rfl, fun i p r h => by cases h⟩⟩, e34 _ _ hed0, Sb.begin (clo_asc m ss bs)⟩ fun μ σ' H' hW => ?_
    obtain ⟨line, done, g12, g13, g14, g15, g16, g17, g18, rfl, rfl, S, hs, L⟩ := hW
    obtain ⟨ps, hps, hpl, hpr⟩ := id S.row
    obtain ⟨qs, hqs, hql, hqr⟩ := id S.lin
    have hll := lots_le L.nd L.asc
    refine ⟨decide ((done.length : Int) < (line.length : Int)), fun H7 e7 Q q => ev_op (ev_cb (ea_cons (ev_var rfl) ea_nil) (rc_lenQ (.inl (sq_of hps)))) (ev_cb (ea_cons (ev_var rfl) ea_nil) (rc_lenQ (.inl (sq_of hqs)))) rv_I0 H7 e7 _ fun H8 e8 => ⟨_, rfl, by have := q H8 e8; rw [List.length_map, List.length_map, hpl, hql]; exact this⟩, fun ct H7 e7 => ?_, fun ct H7 e7 => ?_⟩
    · have hi : done.length < line.length := by
        have := of_decide_eq_true ct
        omega
      have hsi : line[done.length]? = some line[done.length] := List.getElem?_eq_getElem hi
      have hqi : qs[done.length]? = some qs[done.length] := List.getElem?_eq_getElem (by omega)
      have hlt := hqr _ _ _ hqi hsi
      generalize line[done.length] = lot at hsi hlt
      generalize qs[done.length] = lp at hqi hlt
      have hla : Asc m lot := L.asc lot (List.mem_of_getElem? hsi)
      have hlal := asc_len hla
      have S7 := S.go e7
      refine ⟨_, fun σ2 H2 h => h, ?_⟩
      refine q_asg (v := .ref lp) (ev_op (ev_var rfl) (ev_is (ev_cb (ea_cons (ev_var rfl) ea_nil) (rc_lenQ (.inl (sq_of (e7 _ _ hps))))) (by rw [List.length_map, hpl])) (rv_ixL (i := (done.length : Int)) (sq_of (e7 _ _ hqs)) (at_of rfl (map_get V.ref hqi)))) fun H8 e8 => ?_
      have S8 := S7.go e8
      have e78 := e7.trans e8
      have hs8 := e78 _ _ hs
      have hlt8 := hlt.ex e78
      have hgiv : given lot.length (fun _ => true) (fun i => V.bl (decide (lot.getD i 0 ∈ gs))) = (lot.map fun s => decide (s ∈ gs)).map V.bl := by
        unfold given
        rw [List.filter_eq_self.mpr (fun _ _ => rfl)]
        refine List.ext_getElem (by simp) fun j h1 h2 => ?_
        simp at h1
        simp [List.getD_eq_getElem?_getD, List.getElem?_eq_getElem h1]
      have tany : EvT (tB (tCB (rAny K) (tCons (tLc (iTup K (tVar 13)) (gName 12) tYes (tDIn (tVar 12) (tVar 11)) [12]) tNil))) [some (.int n), some (.int m), some (.ref ab), some (.ref as), some (.ref ag), some (.ref tb), some (.ref st), some (.ref nm), some (.ref ln), some (.ref aw), some (.ref ed), some (.ref fd), g12, some (.ref lp), g14, g15, g16, g17, g18] H8 (decide (∃ s ∈ lot, s ∈ gs)) := by
        have h := el_comp (vs := [12]) (g := gName 12) (tt := tYes) (te := tDIn (tVar 12) (tVar 11)) (σ := [some (.int n), some (.int m), some (.ref ab), some (.ref as), some (.ref ag), some (.ref tb), some (.ref st), some (.ref nm), some (.ref ln), some (.ref aw), some (.ref ed), some (.ref fd), g12, some (.ref lp), g14, g15, g16, g17, g18]) (H := H8) (fun _ => true) (fun i => V.bl (decide (lot.getD i 0 ∈ gs)))
          (ei_T (K := K) (tl := tVar 13) (ev_var rfl) (st_of hlt8)) (by rw [List.length_map]; omega) (fun i x H1 e1 hi hy => by
            obtain ⟨s, hs, rfl⟩ := get_map hy
            refine ⟨_, eg_name, rfl, et_yes, fun _ => ?_⟩
            rw [getD_of hs, ← nS_val]
            exact ev_din (ev_var rfl) (ev_var rfl) fun H2 e2 => DGet.k (k := ik s) ((e1.trans e2) _ _ S8.fin))
        rw [List.length_map, hgiv] at h
        refine et_B (ev_is (ev_anyN h) ?_)
        rw [List.any_map]
        refine congrArg V.bl ?_
        by_cases c : ∃ s ∈ lot, s ∈ gs
        · rw [decide_eq_true c]
          obtain ⟨s, h1, h2⟩ := c
          exact List.any_eq_true.mpr ⟨s, h1, by simp [h2]⟩
        · rw [decide_eq_false c]
          exact List.any_eq_false.mpr fun s hs => by simp; exact fun h => c ⟨s, hs, h⟩
      refine q_whenM (M := fun σ' H' => σ' = [some (.int n), some (.int m), some (.ref ab), some (.ref as), some (.ref ag), some (.ref tb), some (.ref st), some (.ref nm), some (.ref ln), some (.ref aw), some (.ref ed), some (.ref fd), g12, some (.ref lp), g14, g15, g16, g17, g18] ∧ LT H2 H' nm ln aw fd gs line done ∧ H' ed = some (.lst ((shE gs line (done.length + 1)).map fun (k : Nat) => V.int k)) ∧ StT H' lp lot) tany (fun cs H9 e9 D' kD' => ?_) (fun cs H9 e9 => ?_) ?_
      · have cs := of_decide_eq_true cs
        refine s_app (e9 _ _ hs8) (ev_var rfl) (ev_is (ev_cb (ea_cons (ev_var rfl) ea_nil) (rc_lenQ (.inl (sq_of ((e78.trans e9) _ _ hps))))) (by rw [List.length_map, hpl])) (by rw [List.length_map]; have := shE_len (gs := gs) (line := line) (i := done.length); omega) fun H10 e10 => kD' _ _ ⟨rfl, ?_, ?_, ?_⟩
        · have S10 := S8.go (e9.trans e10)
          have hs10 := (e9.trans e10) _ _ hs8
          have nb : ∀ {b u}, H10 b = some u → (∀ xs, u ≠ .lst xs) → b ≠ ed := fun h n z => by rw [z, hs10] at h; exact n _ (Option.some.inj h).symm
          exact ⟨Ex.mut S10.ex hed, by rw [upd_ne (nb S10.num fun xs z => nomatch z)]; exact S10.num, S10.lin.mut ⟨_, hs10, fun xs z => nomatch z⟩ lne, by rw [upd_ne (nb S10.fin fun xs z => nomatch z)]; exact S10.fin, S10.row.mut (Ex.refl _) ⟨_, hs10, fun xs z => nomatch z⟩ hae⟩
        · rw [upd_same, shE_succ hsi, if_pos cs, List.map_append]
          rfl
        · have := hlt8.ex (e9.trans e10)
          show upd H10 ed _ lp = _
          rw [upd_ne fun z => by rw [StT, z, (e9.trans e10) _ _ hs8] at this; cases this]
          exact this
      · have cs := of_decide_eq_false cs
        refine ⟨rfl, S8.go e9, ?_, hlt8.ex e9⟩
        rw [shE_succ hsi, if_neg cs]
        exact e9 _ _ hs8
      · rintro σ9 H9 ⟨rfl, S9, hs9, hlt9⟩
        refine q_asgL (el_lst ea_nil (by decide)) fun rl H10 hrl e10 hr0 => ?_
        have S10 := S9.go e10
        have hs10 := e10 _ _ hs9
        have nrl : ∀ {b u}, H9 b = some u → b ≠ rl := fun h z => by rw [z, hrl] at h; cases h
        have rl0 : H2 rl = none := fresh_back S9.ex hrl
        obtain ⟨ps9, hps9, _, _⟩ := id S9.row
        obtain ⟨qs9, hqs9, _, _⟩ := id S9.lin
        have lnr : ln ≠ rl := nrl hqs9
        have awr : aw ≠ rl := nrl hps9
        have edr : ed ≠ rl := nrl hs9
        have zs : (⟨(lets n).toArray⟩ : Str).cps.size = n := by simp [lets]
        refine q_forS (z := ⟨(lets n).toArray⟩) (by rw [← alpha_cut n I.n8]; exact ev_slS ev_c eo_none (eo_some (ev_var rfl)) (by decide)) (fun c σ' H' => ∃ (line : List (List Nat)) (cur : List (Option Nat)) (g12 g15 g16 g17 g18 : Option V), σ' = [some (.int n), some (.int m), some (.ref ab), some (.ref as), some (.ref ag), some (.ref tb), some (.ref st), some (.ref nm), some (.ref ln), some (.ref aw), some (.ref ed), some (.ref fd), g12, some (.ref lp), some (.ref rl), g15, g16, g17, g18] ∧ LT H2 H' nm ln aw fd gs line done ∧ H' ed = some (.lst ((shE gs line (done.length + 1)).map fun (k : Nat) => V.int k)) ∧ H' rl = some (.lst (cur.map gV)) ∧ Sb n m ss (clo m ss bs) line done done.length cur c ∧ line[done.length]? = some lot ∧ StT H' lp lot)
          (fun H11 e11 => ⟨line, [], g12, g15, g16, g17, g18, rfl, S10.go e11, e11 _ _ hs10, e11 _ _ hr0, L, hsi, hlt9.ex (e10.trans e11)⟩) (fun c ch σ' H11 hch P => ?_) (fun σ' H11 P => ?_)
        · obtain ⟨line, cur, g12, g15, g16, g17, g18, rfl, S11, hs11, hr11, L11, hsi, hlt11⟩ := P
          have hcn : c < n ∧ ch = 97 + c := by
            have : (lets n)[c]? = some ch := by simpa using hch
            obtain ⟨j, h1, h2⟩ := get_map this
            obtain ⟨h3, h4⟩ := List.getElem?_eq_some_iff.mp h1
            rw [List.getElem_range] at h4
            rw [List.length_range] at h3
            exact ⟨h3, by rw [h2, ← h4]⟩
          obtain ⟨hcn, rfl⟩ := hcn
          have hi : done.length < line.length := (List.getElem?_eq_some_iff.mp hsi).1
          have hll := lots_le L11.nd L11.asc
          refine q_asgR (er_near (K := K) (tb' := tb) (lt := lp) (m := m) (ss := ss) (lot := lot) (a := c) (σ := [some (.int n), some (.int m), some (.ref ab), some (.ref as), some (.ref ag), some (.ref tb), some (.ref st), some (.ref nm), some (.ref ln), some (.ref aw), some (.ref ed), some (.ref fd), g12, some (.ref lp), some (.ref rl), some (.str ⟨#[97 + c]⟩), g16, g17, g18]) rfl (fun _ => rfl) (fun _ _ => rfl) (fun _ => rfl) (fun _ => rfl) (fun _ => rfl) (fun _ _ => rfl) (hT2.ex S11.ex) hlt11 hla.bd (by omega) I.few) fun nd H12 hnd e12' hks => ?_
          obtain ⟨ks, hks, kn, km⟩ := hks
          have kb : ∀ k ∈ ks, k < m := fun k hk => by
            obtain ⟨s, h1, h2⟩ := List.mem_flatMap.mp ((km k).mp hk)
            exact sg _ (mem_gb.mp h2)
          have hst : clo m ss ks = stepL m ss lot c := clo_congr km
          refine q_asgR (er_callAs (as_v (ev_var rfl) (as_r (R := fun H p => H p = some (.lst (ks.map fun (k : Nat) => V.int k))) (er_L (el_listDK (ev_var rfl) hks)) is_mono as_nil)) (fun vs H13 e ⟨r, e1, d, r2, e2, hd, e3⟩ => by
            subst e1 e2 e3
            exact spr_spread_out (S := ks) ((hT2.ex S11.ex).ex (e12'.trans e)) (by omega) sg (.inr hd) kn kb)) fun lt H13 hlt0 e13' hlat => ?_
          rw [hst] at hlat
          have S13 := S11.go (e12'.trans e13')
          have e1113 := e12'.trans e13'
          generalize hX : stepL m ss lot c = X at hlat hst
          have hcl : cur.length ≤ 8 := by
            rw [L11.cu lot hsi, List.length_map, List.length_range]
            have := I.n8
            omega
          have lenX : ∀ {H' : Hp} {tv : TE} {σ : L2.St}, Ex H13 H' → Ev tv σ H' (.ref lt) → Ev (tOp (rI0 fun i j => .bl (decide (i > j))) (tCB (rLenQ K) (tCons tv tNil)) (tC (.int 0))) σ H' (.bl (decide (X ≠ []))) := fun {H' tv σ} e h => by
            refine ev_is (ev_op (ev_cb (ea_cons h ea_nil) (rc_lenQ (.inr (st_of (e _ _ hlat))))) ev_c rv_I0) ?_
            rw [List.length_map]
            cases X <;> simp
          have get : ∀ {H'}, LT H2 H' nm ln aw fd gs line done → Ex H13 H' → DGet H' nm (.ref lt) (if X ∈ line then some (.int ((line.idxOf X : Nat) : Int)) else none) := fun {H'} S e => by
            have := DGet.t (k := lk X) S.num (b := lt) (by rw [lk_V]; exact e _ _ hlat)
            rw [nT_val L11.nd] at this
            exact this
          refine q_whenM (M := fun σ' H' => ∃ line', σ' = [some (.int n), some (.int m), some (.ref ab), some (.ref as), some (.ref ag), some (.ref tb), some (.ref st), some (.ref nm), some (.ref ln), some (.ref aw), some (.ref ed), some (.ref fd), g12, some (.ref lp), some (.ref rl), some (.str ⟨#[97 + c]⟩), some (.ref nd), g17, some (.ref lt)] ∧ LT H2 H' nm ln aw fd gs line' done ∧ H' ed = some (.lst ((shE gs line' (done.length + 1)).map fun (k : Nat) => V.int k)) ∧ H' rl = some (.lst (cur.map gV)) ∧
              Sb n m ss (clo m ss bs) line' done done.length (cur ++ [numL line' X]) (c + 1) ∧ line'[done.length]? = some lot ∧ StT H' lp lot ∧ StT H' lt X ∧ (X ≠ [] → X ∈ line'))
            (et_is (et_and (et_test (lenX (Ex.refl _) (ev_var rfl))) fun cc => et_B (ev_dni (ev_var rfl) (ev_var rfl) fun H14 e14 => get (S13.go e14) e14)) (b := decide (X ≠ [] ∧ X ∉ line)) (by
              by_cases c1 : X = []
              · simp [c1]
              · by_cases c2 : X ∈ line
                · simp [c1, c2]
                · simp [c1, c2])) (fun cx H14 e14 D' kD' => ?_) (fun cx H14 e14 => ?_) ?_
          · obtain ⟨cx1, cx2⟩ := of_decide_eq_true cx
            have S14 := S13.go e14
            obtain ⟨qs14, hqs14, hql14, hqr14⟩ := id S14.lin
            refine q_dput (v := .int (line.length : Nat)) (ev_is (ev_cb (ea_cons (ev_var rfl) ea_nil) (rc_lenQ (.inl (sq_of hqs14)))) (by rw [List.length_map, hql14])) (ev_var rfl) (y := .ref lt) (ev_var rfl) fun H15 e15 => ⟨_, DPut.t (k := lk X) (e15 _ _ S14.num) (by rw [lk_V]; exact (e14.trans e15) _ _ hlat) (sz_lt (by rw [nT_len]; omega)), ?_⟩
            have S15 := S14.go e15
            have e1115 := e1113.trans (e14.trans e15)
            have nmT : ∀ {H' : Hp} {b u}, H' nm = some (.dT (nT line)) → H' b = some u → (∀ xs, u ≠ .dT xs) → b ≠ nm := fun h0 h n z => by rw [z, h0] at h; exact n _ (Option.some.inj h).symm
            have hqs15 := e15 _ _ hqs14
            have lnn : ln ≠ nm := nmT S15.num hqs15 fun xs z => nomatch z
            have L16 : LotsL (upd H15 nm (.dT (putK (nT line) (lk X) (.int (line.length : Nat))))) ln line := S15.lin.mut ⟨_, S15.num, fun xs z => nomatch z⟩ lnn
            obtain ⟨qs16, hqs16, hql16, hqr16⟩ := id L16
            refine s_app (xs := qs16.map V.ref) hqs16 (ev_var rfl) (ev_var rfl) (by rw [List.length_map, hql16]; omega) fun H16 e16 => kD' _ _ ⟨line ++ [X], rfl, ⟨?_, ?_, ?_, ?_, ?_⟩, ?_, ?_, ?_, ?_, ?_, ?_, fun _ => List.mem_append_right _ (by simp)⟩
            · exact Ex.mut ((Ex.mut S15.ex hnm).trans e16) hln
            · rw [upd_ne lnn.symm, e16 _ _ upd_same, nT_put L11.nd cx2]
            · exact LotsL.push (e16 _ _ hqs16) hql16 (fun i p l q1 q2 => (hqr16 i p l q1 q2).ex e16) (by
                have : (upd H15 nm (.dT (putK (nT line) (lk X) (.int (line.length : Nat))))) lt = some (.tup (X.map fun (k : Nat) => V.int k)) := by
                  rw [upd_ne (nmT S15.num ((e14.trans e15) _ _ hlat) fun xs z => nomatch z)]
                  exact (e14.trans e15) _ _ hlat
                exact e16 _ _ this)
            · have fln : fd ≠ ln := fun z => by have := S15.fin; rw [z, hqs15] at this; cases this
              rw [upd_ne fln]
              exact e16 _ _ (show (upd H15 nm _) fd = _ by rw [upd_ne fdn]; exact S15.fin)
            · have r16 : RowsL H16 aw done := (S15.row.mut (Ex.refl _) ⟨_, S15.num, fun xs z => nomatch z⟩ (fun z => by
                obtain ⟨q, hq, _⟩ := S15.row
                rw [z, S15.num] at hq
                cases hq)).ex e16
              exact r16.mut (Ex.refl _) ⟨_, e16 _ _ hqs16, fun xs z => nomatch z⟩ lna.symm
            · have q := e1115 _ _ hs11
              rw [upd_ne lne.symm, e16 _ _ (show (upd H15 nm _) ed = _ by rw [upd_ne (nmT S15.num q fun xs z => nomatch z)]; exact q), shE_app hi]
            · have q := e1115 _ _ hr11
              rw [upd_ne lnr.symm, e16 _ _ (show (upd H15 nm _) rl = _ by rw [upd_ne (nmT S15.num q fun xs z => nomatch z)]; exact q)]
            · have := L11.new hsi (by rw [hX]; exact cx1) (by rw [hX]; exact cx2)
              rw [hX] at this
              have e : numL (line ++ [X]) X = some line.length := by rw [numL, if_neg cx1, idxL_new cx2]
              rw [e]
              exact this
            · rw [List.getElem?_append_left hi]
              exact hsi
            · have q : StT H15 lp lot := hlt11.ex e1115
              have q2 : (upd H15 nm (.dT (putK (nT line) (lk X) (.int (line.length : Nat))))) lp = some (.tup (lot.map fun (k : Nat) => V.int k)) := by
                rw [upd_ne (nmT S15.num q fun xs z => nomatch z)]
                exact q
              show upd H16 ln _ lp = _
              rw [upd_ne fun z => by have := e16 _ _ q2; rw [z, e16 _ _ hqs16] at this; cases this]
              exact e16 _ _ q2
            · have q := (e14.trans e15) _ _ hlat
              have q2 : (upd H15 nm (.dT (putK (nT line) (lk X) (.int (line.length : Nat))))) lt = some (.tup (X.map fun (k : Nat) => V.int k)) := by
                rw [upd_ne (nmT S15.num q fun xs z => nomatch z)]
                exact q
              show upd H16 ln _ lt = _
              rw [upd_ne fun z => by have := e16 _ _ q2; rw [z, e16 _ _ hqs16] at this; cases this]
              exact e16 _ _ q2
          · have hm : X ≠ [] → X ∈ line := fun h => Classical.byContradiction fun h3 => of_decide_eq_false cx ⟨h, h3⟩
            have := L11.old hsi (by rw [hX]; exact hm)
            rw [hX] at this
            exact ⟨line, rfl, S13.go e14, (e1113.trans e14) _ _ hs11, (e1113.trans e14) _ _ hr11, this, hsi, hlt11.ex (e1113.trans e14), e14 _ _ hlat, hm⟩
          · rintro σ14 H14 ⟨line', rfl, S14, hs14, hr14, L14, hsi', hlp14, hlt14, hm⟩
            have rlm : ∀ {H' : Hp} {b u}, H' rl = some (.lst (cur.map gV)) → H' b = some u → (∀ xs, u ≠ .lst xs) → b ≠ rl := fun h0 h n z => by rw [z, h0] at h; exact n _ (Option.some.inj h).symm
            refine s_app (v := gV (numL line' X)) hr14 (ev_var rfl) ?_ (by rw [List.length_map]; omega) fun H15 e15 => ⟨line', cur ++ [numL line' X], _, _, _, _, _, rfl, ?_, ?_, ?_, L14, hsi', ?_⟩
            · refine ev_if (b := decide (X ≠ [])) (et_test (ev_is (ev_op (ev_cb (ea_cons (ev_var rfl) ea_nil) (rc_lenQ (.inr (st_of hlt14)))) ev_c rv_I0) (by rw [List.length_map]; cases X <;> simp))) (fun cc => ?_) (fun cc => ?_)
              · have cc := of_decide_eq_true cc
                have e : gV (numL line' X) = (some (V.int ((line'.idxOf X : Nat) : Int))).getD .non := by rw [numL, if_neg cc]; rfl
                rw [e]
                refine ev_dget1 (ev_var rfl) (ev_var rfl) (fun H16 e16 => .inr ⟨_, .inl (e16 _ _ S14.num)⟩) fun H16 e16 => ?_
                have := DGet.t (k := lk X) (e16 _ _ S14.num) (b := lt) (by rw [lk_V]; exact e16 _ _ hlt14)
                rw [nT_val L14.nd, if_pos (hm cc)] at this
                exact this
              · have cc : X = [] := Classical.byContradiction (of_decide_eq_false cc)
                have e : gV (numL line' X) = .non := by rw [numL, if_pos cc]; rfl
                rw [e]
                exact ev_c
            · have S15 := S14.go e15
              have hr15 := e15 _ _ hr14
              exact ⟨Ex.mut S15.ex rl0, by rw [upd_ne (rlm hr15 S15.num fun xs z => nomatch z)]; exact S15.num, S15.lin.mut ⟨_, hr15, fun xs z => nomatch z⟩ lnr, by rw [upd_ne (rlm hr15 S15.fin fun xs z => nomatch z)]; exact S15.fin, S15.row.mut (Ex.refl _) ⟨_, hr15, fun xs z => nomatch z⟩ awr⟩
            · rw [upd_ne edr]
              exact e15 _ _ hs14
            · rw [upd_same, List.map_append]
              rfl
            · have q := hlp14.ex e15
              show upd H15 rl _ lp = _
              rw [upd_ne (rlm (e15 _ _ hr14) q fun xs z => nomatch z)]
              exact q
        · obtain ⟨line, cur, g12, g15, g16, g17, g18, rfl, S11, hs11, hr11, L11, hsi, hlt11⟩ := P
          rw [zs] at L11
          obtain ⟨ps11, hps11, hpl11, hpr11⟩ := id S11.row
          have hi : done.length < line.length := (List.getElem?_eq_some_iff.mp hsi).1
          have hll := lots_le L11.nd L11.asc
          refine s_appU hps11 (ev_var rfl) (eu_tupleOf (ev_var rfl) hr11) (by rw [List.length_map, hpl11]; omega) fun q H12 hq e12' h12 => ?_
          have S12 := S11.go e12'
          have rwm : ∀ {b u}, H12 b = some u → (∀ xs, u ≠ .lst xs) → b ≠ aw := fun h n z => by rw [z, e12' _ _ hps11] at h; exact n _ (Option.some.inj h).symm
          have L12 := L11.turn hsi
          refine ⟨2 ^ m - (done.length + 1), by omega, line, done ++ [cur], _, _, _, _, _, _, _, by rw [List.length_append]; rfl, rfl, ⟨Ex.mut S12.ex haw, by rw [upd_ne (rwm S12.num fun xs z => nomatch z)]; exact S12.num, S12.lin.mut ⟨_, e12' _ _ hps11, fun xs z => nomatch z⟩ lna, by rw [upd_ne (rwm S12.fin fun xs z => nomatch z)]; exact S12.fin, ps11 ++ [q], by rw [upd_same, List.map_append]; rfl, by rw [List.length_append, List.length_append, hpl11]; rfl, fun i p r q1 q2 => ?_⟩, ?_, ?_⟩
          · have : H12 p = some (.tup (r.map gV)) := by
              by_cases cj : i < done.length
              · rw [List.getElem?_append_left (by rw [hpl11]; exact cj)] at q1
                rw [List.getElem?_append_left cj] at q2
                exact e12' _ _ (hpr11 i p r q1 q2)
              · rw [List.getElem?_append_right (by rw [hpl11]; omega), hpl11] at q1
                rw [List.getElem?_append_right (by omega)] at q2
                cases ci : i - done.length with
                | zero =>
                  rw [ci] at q1 q2
                  cases q1
                  cases q2
                  exact h12
                | succ m =>
                  rw [ci] at q1
                  cases q1
            rw [upd_ne (rwm this fun xs z => nomatch z)]
            exact this
          · rw [upd_ne hae.symm, List.length_append]
            exact e12' _ _ hs11
          · rw [List.length_append]
            exact L12
    · have hi : line.length = done.length := by
        have h1 := of_decide_eq_false ct
        have h2 := L.ile
        omega
      have S7 := S.go e7
      have W : ∀ r ∈ done, r.length = n ∧ ∀ t, some t ∈ r → t < done.length := fun r hr => by
        obtain ⟨j, hj, e⟩ := List.getElem_of_mem hr
        have hj' : j < line.length := by omega
        have q := L.row j _ hj (List.getElem?_eq_getElem hj')
        rw [List.getElem?_eq_getElem hj, e] at q
        have e := Option.some.inj q
        refine ⟨by rw [e, List.length_map, List.length_range], fun t ht => ?_⟩
        rw [e] at ht
        obtain ⟨a, ha, e2⟩ := List.mem_map.mp ht
        have ha := List.mem_range.mp ha
        unfold numL at e2
        by_cases c : stepL m ss line[j] a = []
        · rw [if_pos c] at e2
          cases e2
        · rw [if_neg c] at e2
          cases e2
          rw [← hi]
          exact List.idxOf_lt_length_of_mem (L.has j _ hj (List.getElem?_eq_getElem hj') a ha c)
      have pos : 0 < line.length := (List.getElem?_eq_some_iff.mp L.first).1
      have shA : Asc done.length (shE gs line done.length) := ⟨List.Pairwise.filter _ List.pairwise_lt_range, fun k hk => List.mem_range.mp (List.mem_filter.mp hk).1⟩
      have R : Raw H7 aw ed n done (shE gs line done.length) := ⟨⟨ps, .inr (e7 _ _ hps), hpl, fun i p r q1 q2 => .inl (e7 _ _ (hpr i p r q1 q2))⟩, by omega, by omega, I.n1, I.n8, fun r hr => (W r hr).1, fun r hr => (W r hr).2, .inr (e7 _ _ hs), shA.nd, shA.bd⟩
      refine s_retR (er_call (by walk_at "ev") (spr_made R)) fun p H8 hp e8 M => k p H8 (fresh_back (e12.trans S7.ex) hp) ((e12.trans S7.ex).trans e8) ⟨done, _, ⟨line, L.first, L.nd, L.asc, by omega, fun j lot hj => ?_, fun lot hl => ?_, ?_⟩, M⟩
      · exact L.row j lot (by rw [← hi]; exact (List.getElem?_eq_some_iff.mp hj).1) hj
      · obtain ⟨j, hj, e⟩ := List.getElem_of_mem hl
        exact L.has j lot (by rw [← hi]; exact hj) (by rw [List.getElem?_eq_getElem hj, e])
      · rw [hi]
        rfl
end
end K14
set_option maxHeartbeats 4000000
namespace K14
open PySem L2 Evl
local macro_rules | `(tactic| walk_at "ev") => `(tactic| repeat' (first
  | exact ev_var rfl | exact ev_c | exact ea_nil | apply ea_cons | exact rv_I0 | apply ev_op | apply ev_cb | apply ev_un | exact ru_neg
  | exact rc_isiInt | exact rc_isiBool | exact rc_isiStr))
/-! ### the steps of a reader, and turned -/
def rowSteps (s : Nat) (r : List (Option Nat)) : List Stp := ((List.range r.length).filter fun a => (r.getD a none).isSome).map fun a => (s, some a, (r.getD a none).getD 0)
def stepsTill (arr : Rows) (i : Nat) : List Stp := (List.range i).flatMap fun s => rowSteps s (arr.getD s [])
theorem mem_rowSteps {s : Nat} {r : List (Option Nat)} {x : Stp} : x ∈ rowSteps s r ↔ ∃ a t, r[a]? = some (some t) ∧ x = (s, some a, t) := by
  unfold rowSteps
  rw [List.mem_map]
  constructor
  · rintro ⟨a, h, rfl⟩
    rw [List.mem_filter, List.mem_range] at h
    obtain ⟨h1, h2⟩ := h
    rw [List.getD_eq_getElem?_getD, List.getElem?_eq_getElem h1] at h2 ⊢
    obtain ⟨t, ht⟩ := Option.isSome_iff_exists.mp h2
    have ht : r[a] = some t := ht
    exact ⟨a, t, by rw [List.getElem?_eq_getElem h1, ht], by rw [Option.getD_some, ht]; rfl⟩
  · rintro ⟨a, t, h, rfl⟩
    refine ⟨a, List.mem_filter.mpr ⟨List.mem_range.mpr (List.getElem?_eq_some_iff.mp h).1, ?_⟩, ?_⟩
    · rw [getD_of h]
      rfl
    · rw [getD_of h]
      rfl
theorem mem_steps {arr : Rows} {x : Stp} : x ∈ stepsTill arr arr.length ↔ ∃ s a t, s < arr.length ∧ (arr.getD s [])[a]? = some (some t) ∧ x = (s, some a, t) := by
  unfold stepsTill
  rw [List.mem_flatMap]
  constructor
  · rintro ⟨s, h1, h2⟩
    obtain ⟨a, t, h3, h4⟩ := mem_rowSteps.mp h2
    exact ⟨s, a, t, List.mem_range.mp h1, h3, h4⟩
  · rintro ⟨s, a, t, h1, h2, h3⟩
    exact ⟨s, List.mem_range.mpr h1, mem_rowSteps.mpr ⟨a, t, h2, h3⟩⟩
theorem steps_ok {n : Nat} {arr : Rows} (W : Wf n arr) (hn : n ≤ 8) (hl : arr.length ≤ 12) : SsOk n arr.length (stepsTill arr arr.length) := by
  have wid : ∀ {s}, s < arr.length → (arr.getD s []).length = n := fun h => (W.row h).2
  refine ⟨fun x hx => ?_, ?_⟩
  · obtain ⟨s, a, t, h1, h2, rfl⟩ := mem_steps.mp hx
    have h3 := (List.getElem?_eq_some_iff.mp h2).1
    rw [wid h1] at h3
    exact ⟨h1, W.bnd _ (List.mem_of_getElem? (W.row h1).1) t (List.mem_of_getElem? h2), fun c hc => by cases hc; exact h3⟩
  · unfold stepsTill
    have bd : ∀ {s x}, s < arr.length → x ∈ rowSteps s (arr.getD s []) → ∃ a t, x = (s, some a, t) ∧ a < 8 ∧ t < 12 := fun {s x} h1 hx => by
      obtain ⟨a, t, h2, rfl⟩ := mem_rowSteps.mp hx
      have h3 := (List.getElem?_eq_some_iff.mp h2).1
      rw [wid h1] at h3
      have h4 := W.bnd _ (List.mem_of_getElem? (W.row h1).1) t (List.mem_of_getElem? h2)
      exact ⟨a, t, rfl, by omega, by omega⟩
    refine List.pairwise_flatMap.mpr ⟨fun s hs => ?_, ?_⟩
    · have hs := List.mem_range.mp hs
      unfold rowSteps
      rw [List.pairwise_map]
      refine List.Pairwise.imp_of_mem (fun {a b} ha hb h => ?_) ((List.pairwise_lt_range).filter _)
      have hin : ∀ {a}, a ∈ (List.range (arr.getD s []).length).filter (fun a => ((arr.getD s []).getD a none).isSome) → ((arr.getD s []).getD a none).getD 0 < 12 := fun {a} ha => by
        obtain ⟨c, t, e, _, h⟩ := bd hs (List.mem_map.mpr ⟨a, ha, rfl⟩)
        have := congrArg (fun x : Stp => x.2.2) e
        simp only at this
        omega
      have h1 := hin ha
      have h2 := hin hb
      unfold cd sgN
      simp only
      omega
    · refine List.Pairwise.imp_of_mem (fun {a b} ha hb h => fun x hx y hy => ?_) List.pairwise_lt_range
      obtain ⟨c, t, rfl, h1, h2⟩ := bd (List.mem_range.mp ha) hx
      obtain ⟨c', t', rfl, h3, h4⟩ := bd (List.mem_range.mp hb) hy
      unfold cd sgN
      simp only
      omega
theorem rowSteps_len (s : Nat) (r : List (Option Nat)) : (rowSteps s r).length ≤ r.length := by
  rw [rowSteps, List.length_map]
  exact filter_len
theorem stepsTill_len {n : Nat} {arr : Rows} (h : ∀ r ∈ arr, r.length ≤ n) (i : Nat) : (stepsTill arr i).length ≤ i * n := by
  induction i with
  | zero => simp [stepsTill]
  | succ i ih =>
    unfold stepsTill at ih ⊢
    rw [List.range_succ, List.flatMap_append, List.length_append, List.flatMap_cons, List.flatMap_nil, List.append_nil, Nat.succ_mul]
    have h1 := rowSteps_len i (arr.getD i [])
    have h2 : (arr.getD i []).length ≤ n := by
      rw [List.getD_eq_getElem?_getD]
      cases c : arr[i]? with
      | none => exact Nat.zero_le _
      | some r => exact h r (List.mem_of_getElem? c)
    omega
def turnS (s : Stp) : Stp := (s.2.2, s.2.1, s.1)
/-- the steps ts are the steps ss turned, in their order -/
structure TurnOf (n m : Nat) (ss ts : List Stp) : Prop where
  ok : SsOk n m ts
  mem : ∀ s, s ∈ ts ↔ turnS s ∈ ss
theorem ss_eq {n m : Nat} {ss ts : List Stp} (hn : n ≤ 8) (hm : m ≤ 12) (h1 : SsOk n m ss) (h2 : SsOk n m ts) (h : ∀ s, s ∈ ss ↔ s ∈ ts) : ss = ts := by
  have e : ss.map cd = ts.map cd := asc_eq (List.pairwise_map.mpr h1.asc) (List.pairwise_map.mpr h2.asc) fun k => by
    rw [List.mem_map, List.mem_map]
    exact ⟨fun ⟨s, a, b⟩ => ⟨s, (h s).mp a, b⟩, fun ⟨s, a, b⟩ => ⟨s, (h s).mpr a, b⟩⟩
  have hl : ss.length = ts.length := by
    have := congrArg List.length e
    simpa using this
  refine List.ext_getElem hl fun i a b => ?_
  have q : (ss.map cd)[i]? = (ts.map cd)[i]? := by rw [e]
  rw [List.getElem?_map, List.getElem?_map, List.getElem?_eq_getElem a, List.getElem?_eq_getElem b] at q
  exact cd_inj ((h1.ok _ (List.getElem_mem a)).bd hn hm) ((h2.ok _ (List.getElem_mem b)).bd hn hm) (Option.some.inj q)
theorem le_enc {s t : Stp} (hs : SBd s) (ht : SBd t) : PySem.W.dataLe false encS s t = decide (cd s ≤ cd t) := by
  show (!PySem.W.dataLt (encS t) (encS s)) = _
  rw [lt_enc ht hs]
  by_cases c : cd t < cd s
  · rw [decide_eq_true c, decide_eq_false (by omega)]
    rfl
  · rw [decide_eq_false c, decide_eq_true (by omega)]
    rfl
/-- steps, sorted, by the addresses they stand at -/
theorem sort_steps {n m : Nat} {bs : List (Addr × Stp)} (hn : n ≤ 8) (hm : m ≤ 12) (ok : ∀ b ∈ bs, SOk n m b.2) (nd : (bs.map (·.2)).Nodup) : SsOk n m ((bs.mergeSort (PySem.W.dataLe false fun b => encS b.2)).map (·.2)) ∧ ∀ s, s ∈ (bs.mergeSort (PySem.W.dataLe false fun b => encS b.2)).map (·.2) ↔ s ∈ bs.map (·.2) := by
  have pm := List.mergeSort_perm bs (PySem.W.dataLe false fun b : Addr × Stp => encS b.2)
  have tot := PySem.W.sortLe_total (PyProof.Rows.listOrd PyProof.Rows.itemOrd) false fun b : Addr × Stp => PySem.W.keyToks (encS b.2)
  have pw := List.pairwise_mergeSort (le := PySem.W.dataLe false fun b : Addr × Stp => encS b.2) (fun a b c => tot.trans a b c) (fun a b => by rw [Bool.or_eq_true]; exact tot.total a b) bs
  have hb : ∀ b ∈ bs.mergeSort (PySem.W.dataLe false fun b => encS b.2), SOk n m b.2 := fun b hb => ok b (pm.mem_iff.mp hb)
  have nd' : ((bs.mergeSort (PySem.W.dataLe false fun b => encS b.2)).map (·.2)).Nodup := (pm.map _).nodup_iff.mpr nd
  refine ⟨⟨fun s hs => ?_, ?_⟩, fun s => (pm.map _).mem_iff⟩
  · obtain ⟨b, h1, rfl⟩ := List.mem_map.mp hs
    exact hb b h1
  · have h1 : ((bs.mergeSort (PySem.W.dataLe false fun b => encS b.2)).map (·.2)).Pairwise (fun s t => cd s ≤ cd t) := List.pairwise_map.mpr (List.Pairwise.imp_of_mem (fun {a b} ha hb' h => by
      have : PySem.W.dataLe false (fun b : Addr × Stp => encS b.2) a b = decide (cd a.2 ≤ cd b.2) := le_enc ((hb a ha).bd hn hm) ((hb b hb').bd hn hm)
      rw [this] at h
      exact of_decide_eq_true h) pw)
    refine List.Pairwise.imp_of_mem (fun {a b} ha hb' h => ?_) (List.pairwise_and_iff.mpr ⟨h1, nd'⟩)
    obtain ⟨x, hx, rfl⟩ := List.mem_map.mp ha
    obtain ⟨y, hy, rfl⟩ := List.mem_map.mp hb'
    have : cd x.2 ≠ cd y.2 := fun e => h.2 (cd_inj ((hb x hx).bd hn hm) ((hb y hy).bd hn hm) e)
    have := h.1
    omega
section
variable {P : Program} {w : World} {K : PySem.W.Frag} {mg : Str → Option Value} {base : Heap}
variable {σ σ1 σ2 : L2.St} {H H' : Hp} {ta tb tc te tl tk tv td : TE} {x y z v : V} {D : Ends} {tz tu tw : TS} {g : TG} {tt : TT} {wi : TI} {tA : TA}
/-- what is asked of a guesser given -/
structure GsrIn (C : Addr) (H : Hp) (p : Addr) (n m : Nat) (bs : List Nat) (ss : List Stp) (gs : List Nat) : Prop where
  at_ : GsrAt C H p n m bs ss gs
  n1 : 1 ≤ n
  n8 : n ≤ 8
  m1 : 1 ≤ m
  m5 : m ≤ 5
  ba : Asc m bs
  ga : Asc m gs
  ok : SsOk n m ss
  few : ss.length ≤ 100
theorem GsrIn.ex {C p : Addr} {n m : Nat} {bs : List Nat} {ss : List Stp} {gs : List Nat} (h : GsrIn C H p n m bs ss gs) (e : Ex H H') : GsrIn C H' p n m bs ss gs := { h with at_ := h.at_.ex e }
theorem spr_reader_of_steps {C ab as ag : Addr} {n m : Nat} {bs : List Nat} {ss : List Stp} {gs : List Nat} (I : StIn H ab as ag n m bs ss gs) : SpR (sp_reader_of_steps C) ([.int n, .int m, .ref ab, .ref as, .ref ag] ++ []) H (SubAt C n m bs ss gs) := fun H1 e Q q E => ⟨ab, as, ag, n, m, bs, ss, gs, rfl, I.ex e, q⟩
def sp_reader_from (CR CG : Addr) : Sp := fun vs H Q _ => ∃ (p : Addr) (n m : Nat) (bs : List Nat) (ss : List Stp) (gs : List Nat), vs = [.ref p] ∧ GsrIn CG H p n m bs ss gs ∧ ∀ q H', H q = none → Ex H H' → SubAt CR n m bs ss gs H' q → Q (.ref q) H'
theorem ok_reader_from (T : Tx K mg) : FnOk P w K mg base CX0 8 T.d_reader_from.f T.d_reader_from.fd ["guesser"] (sp_reader_from T.CR T.CG) := by
  refine T.d_reader_from.F.ok sc_reader_from (fun vs H Q E h => ?_) (fun cdv A outer s H vs Q E hr h => ?_)
  · obtain ⟨p, n, m, bs, ss, gs, rfl, _⟩ := h
    rfl
  · obtain ⟨p, n, m, bs, ss, gs, rfl, G, k⟩ := h
    refine ⟨_, (pss_cons (ps_expr (pe_call (ok_check_guesser T) (hr.mono (by decide)) rfl T.d_check_guesser.g T.d_check_guesser.F.kp T.d_check_guesser.b .nil pass0 (pa_cons (pv 0) pa_nil)))
      (pss_one (ps_ret (pe_call (ok_reader_of_steps T) (hr.mono (by decide)) rfl T.d_reader_of_steps.g T.d_reader_of_steps.F.kp T.d_reader_of_steps.b .nil pass0 (pa_cons (pe_prop (pv 0) T.clG T.p_Guesser_signs (ok_Guesser_signs T) (hr.mono (by decide)) T.d_Guesser_signs.b .nil pass0 rfl) (pa_cons (pe_prop (pv 0) T.clG T.p_Guesser_size (ok_Guesser_size T) (hr.mono (by decide)) T.d_Guesser_size.b .nil pass0 rfl) (pa_cons (pe_prop (pv 0) T.clG T.p_Guesser_begins (ok_Guesser_begins T) (hr.mono (by decide)) T.d_Guesser_begins.b .nil pass0 rfl) (pa_cons (pe_prop (pv 0) T.clG T.p_Guesser_steps (ok_Guesser_steps T) (hr.mono (by decide)) T.d_Guesser_steps.b .nil pass0 rfl) (pa_cons (pe_prop (pv 0) T.clG T.p_Guesser_goals (ok_Guesser_goals T) (hr.mono (by decide)) T.d_Guesser_goals.b .nil pass0 rfl) pa_nil))))))))), ?_⟩
    obtain ⟨ab, as, ag, hp, hb, hs, hg⟩ := id G.at_
    refine q_drop (ev_call (by walk_at "ev") (spv_check_guesser hp)) fun H1 e1 => ?_
    have hp1 := hp.ex e1
    refine s_retR (er_call (ea_cons (ev_get (ev_var rfl) hp1 rfl) (ea_cons (ev_get (ev_var rfl) hp1 rfl) (ea_cons (ev_get (ev_var rfl) hp1 rfl) (ea_cons (ev_get (ev_var rfl) hp1 rfl) (ea_cons (ev_get (ev_var rfl) hp1 rfl) ea_nil)))))
      (spr_reader_of_steps ⟨hb.ex e1, hs.ex e1, hg.ex e1, G.n1, G.n8, G.m5, G.few, fun s hs => ⟨(G.ok.ok s hs).b, (G.ok.ok s hs).g⟩, G.ba, G.ga⟩)) fun q H2 hq e2 r => k q H2 (fresh_back e1 hq) (e1.trans e2) r
theorem spr_reader_from {CR CG p : Addr} {n m : Nat} {bs : List Nat} {ss : List Stp} {gs : List Nat} (G : GsrIn CG H p n m bs ss gs) : SpR (sp_reader_from CR CG) ([.ref p] ++ []) H (SubAt CR n m bs ss gs) := fun H1 e Q q E => ⟨p, n, m, bs, ss, gs, rfl, G.ex e, q⟩
/-- steps as a list of triples -/
def StpL (H : Hp) (a : Addr) (ss : List Stp) : Prop := ∃ ps : List Addr, H a = some (.lst (ps.map V.ref)) ∧ ps.length = ss.length ∧ ∀ (i : Nat) p s, ps[i]? = some p → ss[i]? = some s → H p = some (.tup (stpV s))
theorem StpL.ex {a : Addr} {ss : List Stp} (h : StpL H a ss) (e : Ex H H') : StpL H' a ss := by
  obtain ⟨ps, h1, h2, h3⟩ := h
  exact ⟨ps, e _ _ h1, h2, fun i p r a b => e _ _ (h3 i p r a b)⟩
theorem rv_cat {a b : Addr} {xs ys : List V} (ha : H a = some (.lst xs)) (hb : H b = some (.lst ys)) (hl : xs.length + ys.length ≤ 100000) (Q : VK) (q : ∀ p, H p = none → Q (.ref p) (upd H p (.lst (xs ++ ys)))) : rCat (.ref a) (.ref b) H Q := ⟨a, b, xs, ys, rfl, rfl, ha, hb, sz_of hl, q⟩
/-- xs + [..] -/
theorem er_cat {a : Addr} {xs : List V} {R : Hp → Addr → Prop} {R' : Hp → Addr → Prop} (h1 : Ev ta σ H (.ref a)) (hx : H a = some (.lst xs)) (h2 : EvR tb σ H R) (hR : ∀ H1 p, Ex H H1 → R H1 p → ∃ ys, H1 p = some (.lst ys) ∧ xs.length + ys.length ≤ 100000 ∧ ∀ q, H1 q = none → R' (upd H1 q (.lst (xs ++ ys))) q) : EvR (tOp rCat ta tb) σ H R' := fun H1 e Q q =>
  h1 H1 e _ fun H2 e2 => h2 H2 (e.trans e2) _ fun p H3 _ e3 r => by
    obtain ⟨ys, h3, h4, h5⟩ := hR H3 p ((e.trans e2).trans e3) r
    exact rv_cat (((e.trans e2).trans e3) _ _ hx) h3 h4 _ fun l hl => q l _ (fresh_back (e2.trans e3) hl) ((e2.trans e3).trans (Ex.new hl)) (h5 l hl)
theorem q_forET {j1 j2 : Nat} {a : Addr} {xs : List V} (h : EvA tA σ H [.ref a]) (hx : H a = some (.tup xs)) (Pv : Nat → L2.St → Hp → Prop) (h0 : ∀ H1, Ex H H1 → Pv 0 σ H1) (hk : ∀ i σ' H', Pv i σ' H' → H' a = some (.tup xs))
    (hs : ∀ i x σ' H' T, xs[i]? = some x → Pv i σ' H' → H' T = none → tu { D with nx := Pv (i + 1), ct := Pv (i + 1), bk := tz D } ((σ'.set j1 (some (.int (i : Nat)))).set j2 (some x)) (upd H' T (.tup [.int (i : Nat), x]))) (hd : ∀ σ' H', Pv xs.length σ' H' → tz D σ' H') :
    tSeq (tFor (iEnumT K tA) (gTup K 2 (gCons (gName j1) (gCons (gName j2) gNil))) tu) tz D σ H :=
  h H (Ex.refl H) _ fun H1 e => ⟨a, xs, rfl, st_of (e _ _ hx), for_it (D := { D with nx := tz D }) walk_enumT Pv (h0 H1 e) (fun i σ' H' _ P => st_of (hk i σ' H' P)) (fun i x σ' H' H'' hi P yy => by
    obtain ⟨T, p, z, rfl, hT, rfl, h1, h2⟩ := yy
    cases h1
    exact ⟨T, _, rfl, st_of upd_same, rfl, _, _, rfl, _, _, rfl, rfl, hs i z σ' H' T h2 P hT⟩) hd⟩
def sp_steps_of (C : Addr) : Sp := fun vs H Q _ => ∃ (p : Addr) (arr : Rows) (ends : List Nat) (n : Nat), vs = [.ref p] ∧ RdrIn C H p n arr ends ∧ arr.length ≤ 5 ∧ ∀ q H', H q = none → Ex H H' → StpL H' q (stepsTill arr arr.length) → Q (.ref q) H'
theorem ok_steps_of (T : Tx K mg) : FnOk P w K mg base CX0 3 T.d_steps_of.f T.d_steps_of.fd ["reader"] (sp_steps_of T.CR) := by
  refine T.d_steps_of.F.ok sc_steps_of (fun vs H Q E h => ?_) (fun cdv A outer s H vs Q E hr h => ?_)
  · obtain ⟨p, arr, ends, n, rfl, _⟩ := h
    rfl
  · obtain ⟨p, arr, ends, n, rfl, R, h5, k⟩ := h
    refine ⟨_, (pss_cons (ps_set (i := 1) sc_steps_of.nd rfl (Or.inl rfl) (pe_lst pa_nil))
      (pss_cons (ps_for PassesOwn.never rfl (k_piET K (by rfl) T.z_enumerate (pa_cons (pe_prop (pv 0) T.clR T.p_Reader_arrows (ok_Reader_arrows T) (hr.mono (by decide)) T.d_Reader_arrows.b .nil pass0 rfl) pa_nil)) (k_tup (n := 2) K rfl (pgs_cons (pg_name (i := 2) sc_steps_of.nd rfl (Or.inr rfl)) (pgs_cons (pg_name (i := 3) sc_steps_of.nd rfl (Or.inl rfl)) pgs_nil))) (pss_one (ps_set (i := 1) sc_steps_of.nd rfl (Or.inl rfl) (pe_op op_cat (pv 1) (pe_lc (own := [("place", 4), ("goal", 5)]) (g := _) rfl sc_steps_of.nd (k_piET K (by rfl) T.z_enumerate (pa_cons (pv 3) pa_nil)) (blkOk_by (own := [("place", 4), ("goal", 5)]) (N := ["reader", "found", "stand", "row", "place", "goal"]) (sc := defScope s_steps_of) (by decide +kernel)) (fun _ _ _ _ _ => (k_tup (n := 2) K rfl (pgs_cons (pg_name (i := 4) sc_steps_of.nd rfl (Or.inl rfl)) (pgs_cons (pg_name (i := 5) sc_steps_of.nd rfl (Or.inl rfl)) pgs_nil)))) (fun _ _ _ _ _ => (pts_one (pt_cmpR op_notN (pv 5) pe_non (nomark _)))) (fun _ _ _ _ _ => (pe_tup (pa_cons (pv 2) (pa_cons (pe_ix ix_str (pe_glob (v := .str "abcdefgh") rfl T.g_ALPHABET.choose_spec ⟨_, rfl⟩) (pv 4) (fun _ _ => rfl)) (pa_cons (pv 5) pa_nil))))))))))
      (pss_one (ps_ret (pv 1))))), ?_⟩
    obtain ⟨aa, ae, hp, ha, he⟩ := id R.at_
    obtain ⟨ps, hA, hpl, hps⟩ := id ha
    have n8 := R.n8
    have hwd : ∀ r ∈ arr, r.length ≤ 8 := fun r hr => by rw [R.wf.wid r hr]; exact n8
    refine q_asgL (el_lst ea_nil (by decide)) fun f0 H1 hf0 e1 hf => ?_
    refine q_forET (ea_cons (ev_get (ev_var rfl) (hp.ex e1) rfl) ea_nil) (e1 _ _ hA) (fun i σ' H' => ∃ (fa : Addr) (g2 g3 g4 g5 : Option V), σ' = [some (.ref p), some (.ref fa), g2, g3, g4, g5] ∧ H fa = none ∧ Ex H H' ∧ StpL H' fa (stepsTill arr i))
      (fun H2 e2 => ⟨f0, none, none, none, none, rfl, hf0, e1.trans e2, [], e2 _ _ hf, rfl, fun i p s q => by cases q⟩) (fun i σ' H' P => ?_) (fun i x σ' H' TT hx P hTT => ?_) (fun σ' H' P => ?_)
    · obtain ⟨_, _, _, _, _, _, _, e, _⟩ := P
      exact e _ _ hA
    · obtain ⟨fa, g2, g3, g4, g5, rfl, hfa, e, qs, hq1, hq2, hq3⟩ := P
      obtain ⟨rp, hrp, rfl⟩ := get_map hx
      have hi : i < arr.length := by rw [← hpl]; exact (List.getElem?_eq_some_iff.mp hrp).1
      have hrow := (R.wf.row hi).1
      have hrl := (R.wf.row hi).2
      have eT : Ex H' (upd H' TT (.tup [.int (i : Nat), .ref rp])) := Ex.new hTT
      have hR := (e.trans eT) _ _ (hps i rp _ hrp hrow)
      have tl := stepsTill_len hwd i
      generalize hr : arr.getD i [] = r at hR hrl hrow
      refine (er_cat (R' := fun H q => StpL H q (stepsTill arr (i + 1))) (ev_var rfl) (eT _ _ hq1) (er_comp (vs := [4, 5]) (tt := tTest (tOp (fun x y H Q => y = .non ∧ Q (.bl (!decide (x = .non))) H) (tVar 5) (tC .non))) (fun a => (r.getD a none).isSome) (fun a v H => ∃ q, v = .ref q ∧ H q = some (.tup (stpV (i, some a, (r.getD a none).getD 0)))) (fun a v H H' e h => let ⟨q, h1, h2⟩ := h; ⟨q, h1, e _ _ h2⟩)
        (ei_ET (K := K) (ea_cons (ev_var rfl) ea_nil) (st_of hR)) (by rw [List.length_map]; omega) (fun a x H1 e1 ha hy => ?_)) (fun H1 fp e1 hg => ?_)) (upd H' TT (.tup [.int (i : Nat), .ref rp])) (Ex.refl _) _ fun q H2 hq e2 hS => ⟨q, _, _, _, _, rfl, fresh_back (e.trans eT) hq, (e.trans eT).trans e2, hS⟩
      · obtain ⟨T2, z, rfl, hz, hT2⟩ := hy
        obtain ⟨o, ho, rfl⟩ := get_map hz
        rw [List.length_map] at ha
        refine ⟨_, eg_tup hT2 rfl (egs_cons eg_name (egs_cons eg_name egs_nil)), rfl, ?_, fun c => ?_⟩
        · rw [getD_of ho]
          exact et_test (ev_op (ev_var rfl) ev_c rv_notN)
        · rw [getD_of ho] at c ⊢
          obtain ⟨t, rfl⟩ := Option.isSome_iff_exists.mp c
          refine ep_new (u := .tup (stpV (i, some a, t))) (er_U (eu_tup (ea_cons (ev_var rfl) (ea_cons (ev_op ev_c (ev_var rfl) (rv_ixS (i := (a : Int)) (c := 97 + a) (by decide) ?_)) (ea_cons (ev_var rfl) ea_nil))) (by show 3 ≤ 100000; decide))) (fun q _ => ⟨q, rfl, upd_same⟩)
          have : ∀ a : Fin 8, atI (("abcdefgh" : Str).cps.toList) ((a : Nat) : Int) = some (97 + (a : Nat)) := by decide +kernel
          exact this ⟨a, by omega⟩
      · obtain ⟨ys, hy, gl, gp⟩ := hg
        rw [List.length_map] at gl gp
        have yl : ys.length ≤ 8 := by
          rw [gl]
          have := filter_len (n := r.length) (f := fun a => (r.getD a none).isSome)
          omega
        refine ⟨ys, hy, by rw [List.length_map, hq2]; omega, fun q hq => ?_⟩
        -- the new ones, by their addresses
        have ex : ∃ zs : List Addr, ys = zs.map V.ref := by
          have : ∀ v ∈ ys, ∃ q : Addr, v = .ref q := fun v hv => by
            obtain ⟨k, hk⟩ := List.getElem?_of_mem hv
            have hkl := (List.getElem?_eq_some_iff.mp hk).1
            obtain ⟨q, h1, _⟩ := gp k _ v (List.getElem?_eq_getElem (by omega)) hk
            exact ⟨q, h1⟩
          clear gl gp yl hy
          induction ys with
          | nil => exact ⟨[], rfl⟩
          | cons v l ih =>
            obtain ⟨q, rfl⟩ := this v (List.mem_cons_self ..)
            obtain ⟨zs, rfl⟩ := ih fun v hv => this v (List.mem_cons_of_mem _ hv)
            exact ⟨q :: zs, rfl⟩
        obtain ⟨zs, rfl⟩ := ex
        have eq' : Ex H1 (upd H1 q (.lst (qs.map V.ref ++ zs.map V.ref))) := Ex.new hq
        have st : stepsTill arr (i + 1) = stepsTill arr i ++ rowSteps i r := by
          unfold stepsTill
          rw [List.range_succ, List.flatMap_append, List.flatMap_cons, List.flatMap_nil, List.append_nil, hr]
        refine ⟨qs ++ zs, by rw [upd_same, List.map_append], ?_, fun k p' s' h1 h2 => ?_⟩
        · rw [st, List.length_append, List.length_append, hq2, rowSteps, List.length_map, ← gl, List.length_map]
        · rw [st] at h2
          by_cases c : k < qs.length
          · rw [List.getElem?_append_left c] at h1
            rw [List.getElem?_append_left (by omega)] at h2
            exact (eT.trans (e1.trans eq')) _ _ (hq3 k p' s' h1 h2)
          · rw [List.getElem?_append_right (by omega)] at h1
            rw [List.getElem?_append_right (by omega)] at h2
            rw [← hq2] at h2
            unfold rowSteps at h2
            obtain ⟨a, ha, rfl⟩ := get_map h2
            obtain ⟨q', e1', h3⟩ := gp _ a (.ref p') ha (map_get V.ref h1)
            cases e1'
            exact eq' _ _ h3
    · obtain ⟨fa, g2, g3, g4, g5, rfl, hfa, e, S⟩ := P
      rw [List.length_map, hpl] at S
      exact s_ret (ev_var rfl) fun H2 e2 => k fa H2 hfa (e.trans e2) (S.ex e2)
end
end K14
set_option maxHeartbeats 4000000
namespace K14
open PySem L2 Evl
local macro_rules | `(tactic| walk_at "ev") => `(tactic| repeat' (first
  | exact ev_var rfl | exact ev_c | exact ea_nil | apply ea_cons | exact rv_I0 | apply ev_op | apply ev_cb | apply ev_un | exact ru_neg
  | exact rc_isiInt | exact rc_isiBool | exact rc_isiStr))
section
variable {P : Program} {w : World} {K : PySem.W.Frag} {mg : Str → Option Value} {base : Heap}
variable {σ σ1 σ2 : L2.St} {H H' : Hp} {ta tb tc te tl tk tv td : TE} {x y z v : V} {D : Ends} {tz tu tw : TS} {g : TG} {tt : TT} {wi : TI} {tA : TA}
theorem er_GuesserAs {t : TA} {C : Addr} {n m : Nat} {bs : List Nat} {ss : List Stp} {gs : List Nat} {E : XK} {p : List V → Hp → Prop} (h : EvAs t σ H p) (hp : ∀ vs H', p vs H' → ∃ ab as ag, vs = [.int n, .int m, .ref ab, .ref as, .ref ag] ∧ StT H' ab bs ∧ StpT H' as ss ∧ StT H' ag gs)
    (n1 : 1 ≤ n) (n8 : n ≤ 8) (m1 : 1 ≤ m) (m12 : m ≤ 12) (Ab : Asc m bs) (S : SsOk n m ss) (hl : ss.length ≤ 1000) (Ag : Asc m gs) : EvR (tMake C (sp_Guesser_init C) [] E t) σ H (fun H p => GsrAt C H p n m bs ss gs) := fun H1 e Q q =>
  h H1 e _ fun vs H2 e2 r x dx hx hd hn => by
    obtain ⟨ab, as, ag, rfl, hb, hs, hg⟩ := hp vs H2 r
    have e3 : Ex H2 (upd (upd H2 dx (.own x)) x (.ins C dx [])) := fun b o hb => by rw [upd_ne (ne_of_none hb hx), upd_ne (ne_of_none hb hd)]; exact hb
    refine ⟨x, dx, ab, as, ag, n, m, bs, ss, gs, rfl, upd_same, hb.ex e3, hs.ex e3, hg.ex e3, n1, n8, m1, m12, Ab, S, hl, Ag, fun H' I => ⟨rfl, ?_⟩⟩
    obtain ⟨i1, i2⟩ := inited_new hx hd I
    exact q x H' (fresh_back e2 hx) (e2.trans i2) ⟨ab, as, ag, i1, hb.ex i2, hs.ex i2, hg.ex i2⟩
theorem er_tupleOfR {R R' : Hp → Addr → Prop} (h : EvR te σ H R) (hR : ∀ H1 p, Ex H H1 → R H1 p → ∃ xs, H1 p = some (.lst xs) ∧ ∀ q, H1 q = none → R' (upd H1 q (.tup xs)) q) : EvR (tCB (rTupQ K) (tCons te tNil)) σ H R' := fun H1 e Q q =>
  h H1 e _ fun p H2 _ e2 r => by
    obtain ⟨xs, h1, h2⟩ := hR H2 p (e.trans e2) r
    exact ⟨p, xs, rfl, .inl ⟨sq_of h1, fun l hl => q l _ (fresh_back e2 hl) (e2.trans (Ex.new hl)) (h2 l hl)⟩⟩
theorem StpL.tup {a q : Addr} {ss : List Stp} (h : StpL H a ss) (hq : H q = none) : ∃ xs, H a = some (.lst xs) ∧ StpT (upd H q (.tup xs)) q ss := by
  obtain ⟨ps, h1, h2, h3⟩ := h
  exact ⟨_, h1, ps, upd_same, h2, fun i p s a b => (Ex.new hq) _ _ (h3 i p s a b)⟩
theorem er_tupSteps {ss : List Stp} (h : EvR te σ H (fun H p => StpL H p ss)) : EvR (tCB (rTupQ K) (tCons te tNil)) σ H (fun H p => StpT H p ss) :=
  er_tupleOfR h fun H1 p _ r => by
    obtain ⟨ps, h1, h2, h3⟩ := r
    exact ⟨_, h1, fun q hq => ⟨ps, upd_same, h2, fun i p s a b => (Ex.new hq) _ _ (h3 i p s a b)⟩⟩
theorem er_tupStepsV {a : Addr} {ss : List Stp} (h : Ev te σ H (.ref a)) (hL : StpL H a ss) : EvR (tCB (rTupQ K) (tCons te tNil)) σ H (fun H p => StpT H p ss) := fun H1 e Q q =>
  h H1 e _ fun H2 e2 => by
    obtain ⟨ps, h1, h2, h3⟩ := hL.ex (e.trans e2)
    exact ⟨a, _, rfl, .inl ⟨sq_of h1, fun l hl => q l _ (fresh_back e2 hl) (e2.trans (Ex.new hl)) ⟨ps, upd_same, h2, fun i p s a b => (Ex.new hl) _ _ (h3 i p s a b)⟩⟩⟩
theorem spr_steps_of {C p : Addr} {n : Nat} {arr : Rows} {ends : List Nat} (R : RdrIn C H p n arr ends) (h5 : arr.length ≤ 5) : SpR (sp_steps_of C) ([.ref p] ++ []) H (fun H q => StpL H q (stepsTill arr arr.length)) := fun H1 e Q q E => ⟨p, arr, ends, n, rfl, R.ex e, h5, q⟩
def sp_guesser_of (CR CG : Addr) : Sp := fun vs H Q _ => ∃ (p : Addr) (arr : Rows) (ends : List Nat) (n : Nat), vs = [.ref p] ∧ RdrIn CR H p n arr ends ∧ arr.length ≤ 5 ∧ ∀ q H', H q = none → Ex H H' → GsrIn CG H' q n arr.length [0] (stepsTill arr arr.length) ends → Q (.ref q) H'
theorem ok_guesser_of (T : Tx K mg) : FnOk P w K mg base CX0 6 T.d_guesser_of.f T.d_guesser_of.fd ["reader"] (sp_guesser_of T.CR T.CG) := by
  refine T.d_guesser_of.F.ok sc_guesser_of (fun vs H Q E h => ?_) (fun cdv A outer s H vs Q E hr h => ?_)
  · obtain ⟨p, arr, ends, n, rfl, _⟩ := h
    rfl
  · obtain ⟨p, arr, ends, n, rfl, R, h5, k⟩ := h
    refine ⟨_, (pss_cons (ps_expr (pe_call (ok_check_reader T) (hr.mono (by decide)) rfl T.d_check_reader.g T.d_check_reader.F.kp T.d_check_reader.b .nil pass0 (pa_cons (pv 0) pa_nil)))
      (pss_cons (ps_if (pt_cmpR op_gt (pe_callB (k_len K) (by rfl) T.z_len (by decide +kernel) (pa_cons (pe_prop (pv 0) T.clR T.p_Reader_arrows (ok_Reader_arrows T) (hr.mono (by decide)) T.d_Reader_arrows.b .nil pass0 rfl) pa_nil)) (pe_glob (v := .int 12) rfl T.g_MOST_GUESSED.choose_spec ⟨_, rfl⟩) (nomark _)) (pss_one ps_never) pss_nil)
      (pss_one (ps_ret (pe_make T.mkG (ok_Guesser_init T) (hr.mono (by decide)) rfl T.gGuesser T.d_Guesser_init.b .nil pass0 (pa_cons (pe_prop (pv 0) T.clR T.p_Reader_signs (ok_Reader_signs T) (hr.mono (by decide)) T.d_Reader_signs.b .nil pass0 rfl) (pa_cons (pe_callB (k_len K) (by rfl) T.z_len (by decide +kernel) (pa_cons (pe_prop (pv 0) T.clR T.p_Reader_arrows (ok_Reader_arrows T) (hr.mono (by decide)) T.d_Reader_arrows.b .nil pass0 rfl) pa_nil)) (pa_cons (pe_tup (pa_cons pe_int pa_nil)) (pa_cons (pe_callTy (k_tuple K) (by rfl) T.z_tuple (by decide +kernel) (pa_cons (pe_call (ok_steps_of T) (hr.mono (by decide)) rfl T.d_steps_of.g T.d_steps_of.F.kp T.d_steps_of.b .nil pass0 (pa_cons (pv 0) pa_nil)) pa_nil)) (pa_cons (pe_prop (pv 0) T.clR T.p_Reader_ends (ok_Reader_ends T) (hr.mono (by decide)) T.d_Reader_ends.b .nil pass0 rfl) pa_nil)))))))))), ?_⟩
    obtain ⟨aa, ae, hp, ha, he⟩ := id R.at_
    have pos := R.wf.ne
    have hsl : (stepsTill arr arr.length).length ≤ 40 := by
      have := stepsTill_len (n := 8) (arr := arr) (fun r hr => by rw [R.wf.wid r hr]; exact R.n8) arr.length
      omega
    have S := steps_ok R.wf R.n8 (by omega)
    have A0 : Asc arr.length [0] := ⟨by simp, fun k hk => by rw [List.mem_singleton.mp hk]; omega⟩
    refine q_drop (ev_call (by walk_at "ev") (spv_check_reader hp)) fun H1 e1 => ?_
    refine q_when (b := false) (et_is (et_test (ev_op (ev_lenArr (ev_get (ev_var rfl) (hp.ex e1) rfl) (ha.ex e1)) ev_c rv_I0)) (by rw [decide_eq_false]; omega)) (fun h => nomatch h) fun _ H2 e2 => ?_
    have e12 := e1.trans e2
    have hp2 := hp.ex e12
    refine s_retR (er_GuesserAs (bs := [0]) (ss := stepsTill arr arr.length) (gs := ends) (as_v (ev_get (ev_var rfl) hp2 rfl) (as_v (ev_lenArr (ev_get (ev_var rfl) hp2 rfl) (ha.ex e12)) (as_r (R := fun H q => H q = some (.tup [.int 0])) (er_U (eu_tup (ea_cons ev_c ea_nil) (by show 1 ≤ 100000; decide))) is_mono (as_r (R := fun H q => StpT H q (stepsTill arr arr.length) ∧ StT H ae ends) (er_imp (er_tupSteps (K := K) (er_call (by walk_at "ev") (spr_steps_of (R.ex e12) h5))) (fun H3 q e3 r => ⟨r, he.ex (e12.trans e3)⟩)) (fun H H' a e h => ⟨h.1.ex e, h.2.ex e⟩) (as_v (ev_get (ev_var rfl) hp2 rfl) as_nil)))))
      (fun vs H' ⟨r1, a1, r2, a2, a, r3, a3, h1, b, r4, a4, h2, r5, a5, a6⟩ => ⟨a, b, ae, by rw [a1, a2, a3, a4, a5, a6], h1, h2.1, h2.2⟩) R.n1 R.n8 pos (by omega) A0 S (by omega) R.asc) fun q H3 hq e3 r => k q H3 (fresh_back e12 hq) (e12.trans e3) ⟨r, R.n1, R.n8, pos, h5, A0, R.asc, S, by omega⟩
theorem spr_guesser_of {CR CG p : Addr} {n : Nat} {arr : Rows} {ends : List Nat} (R : RdrIn CR H p n arr ends) (h5 : arr.length ≤ 5) : SpR (sp_guesser_of CR CG) ([.ref p] ++ []) H (fun H q => GsrIn CG H q n arr.length [0] (stepsTill arr arr.length) ends) := fun H1 e Q q E => ⟨p, arr, ends, n, rfl, R.ex e, h5, q⟩
/-- new tuples, by their addresses -/
theorem got_refs {f : Nat → List V} {ns : List Nat} {xs : List V} (h : Got (fun i v H => ∃ q, v = .ref q ∧ H q = some (.tup (f i))) ns xs H) : ∃ zs : List Addr, xs = zs.map V.ref ∧ zs.length = ns.length ∧ ∀ (k : Nat) q i, zs[k]? = some q → ns[k]? = some i → H q = some (.tup (f i)) := by
  obtain ⟨gl, gp⟩ := h
  have ex : ∃ zs : List Addr, xs = zs.map V.ref := by
    have : ∀ v ∈ xs, ∃ q : Addr, v = .ref q := fun v hv => by
      obtain ⟨k, hk⟩ := List.getElem?_of_mem hv
      have hkl := (List.getElem?_eq_some_iff.mp hk).1
      obtain ⟨q, h1, _⟩ := gp k _ v (List.getElem?_eq_getElem (by omega)) hk
      exact ⟨q, h1⟩
    clear gl gp
    induction xs with
    | nil => exact ⟨[], rfl⟩
    | cons v l ih =>
      obtain ⟨q, rfl⟩ := this v (List.mem_cons_self ..)
      obtain ⟨zs, rfl⟩ := ih fun v hv => this v (List.mem_cons_of_mem _ hv)
      exact ⟨q :: zs, rfl⟩
  obtain ⟨zs, rfl⟩ := ex
  refine ⟨zs, rfl, by rw [← gl, List.length_map], fun k q i h1 h2 => ?_⟩
  obtain ⟨q', e, h3⟩ := gp k i _ h2 (map_get V.ref h1)
  cases e
  exact h3
theorem er_sortS {bs : Hp → Addr → List (Addr × Stp) → Prop} {R R' : Hp → Addr → Prop} (h : EvR te σ H R) (hR : ∀ H1 p, Ex H H1 → R H1 p → ∃ bs : List (Addr × Stp), H1 p = some (.lst (bs.map fun b => V.ref b.1)) ∧ (∀ b ∈ bs, H1 b.1 = some (.tup (stpV b.2))) ∧ bs.length ≤ 1000 ∧
    ∀ q, H1 q = none → R' (upd H1 q (.lst ((bs.mergeSort (PySem.W.dataLe false fun b => encS b.2)).map fun b => V.ref b.1))) q) : EvR (tCB (rSortS K) (tCons te tNil)) σ H R' := fun H1 e Q q =>
  h H1 e _ fun p H2 _ e2 r => by
    obtain ⟨bs, h1, h2, h3, h4⟩ := hR H2 p (e.trans e2) r
    exact ⟨p, bs, rfl, sq_of h1, h2, h3, fun l hl => q l _ (fresh_back e2 hl) (e2.trans (Ex.new hl)) (h4 l hl)⟩
theorem turnS_turnS (s : Stp) : turnS (turnS s) = s := rfl
theorem turnS_ok {n m : Nat} {s : Stp} (h : SOk n m s) : SOk n m (turnS s) := ⟨h.g, h.b, h.a⟩
def sp_turned (CG : Addr) : Sp := fun vs H Q _ => ∃ (p : Addr) (n m : Nat) (bs : List Nat) (ss : List Stp) (gs : List Nat), vs = [.ref p] ∧ GsrIn CG H p n m bs ss gs ∧ ∀ q H' ts, H q = none → Ex H H' → TurnOf n m ss ts → GsrIn CG H' q n m gs ts bs → Q (.ref q) H'
theorem ok_turned (T : Tx K mg) : FnOk P w K mg base CX0 6 T.d_turned.f T.d_turned.fd ["guesser"] (sp_turned T.CG) := by
  refine T.d_turned.F.ok sc_turned (fun vs H Q E h => ?_) (fun cdv A outer s H vs Q E hr h => ?_)
  · obtain ⟨p, n, m, bs, ss, gs, rfl, _⟩ := h
    rfl
  · obtain ⟨p, n, m, bs, ss, gs, rfl, G, k⟩ := h
    refine ⟨_, (pss_cons (ps_expr (pe_call (ok_check_guesser T) (hr.mono (by decide)) rfl T.d_check_guesser.g T.d_check_guesser.F.kp T.d_check_guesser.b .nil pass0 (pa_cons (pv 0) pa_nil)))
      (pss_cons (ps_set (i := 1) sc_turned.nd rfl (Or.inl rfl) (pe_callB (k_sortS K hr.units) (by rfl) T.z_sorted (by decide +kernel) (pa_cons (pe_lc (own := [("begin", 2), ("sign", 3), ("goal", 4)]) (g := _) rfl sc_turned.nd (k_piT K (pe_prop (pv 0) T.clG T.p_Guesser_steps (ok_Guesser_steps T) (hr.mono (by decide)) T.d_Guesser_steps.b .nil pass0 rfl)) (blkOk_by (own := [("begin", 2), ("sign", 3), ("goal", 4)]) (N := ["guesser", "steps", "begin", "sign", "goal"]) (sc := defScope s_turned) (by decide +kernel)) (fun _ _ _ _ _ => (k_tup (n := 3) K rfl (pgs_cons (pg_name (i := 2) sc_turned.nd rfl (Or.inl rfl)) (pgs_cons (pg_name (i := 3) sc_turned.nd rfl (Or.inl rfl)) (pgs_cons (pg_name (i := 4) sc_turned.nd rfl (Or.inl rfl)) pgs_nil))))) (fun _ _ _ _ _ => pts_nil) (fun _ _ _ _ _ => (pe_tup (pa_cons (pv 4) (pa_cons (pv 3) (pa_cons (pv 2) pa_nil)))))) pa_nil)))
      (pss_one (ps_ret (pe_make T.mkG (ok_Guesser_init T) (hr.mono (by decide)) rfl T.gGuesser T.d_Guesser_init.b .nil pass0 (pa_cons (pe_prop (pv 0) T.clG T.p_Guesser_signs (ok_Guesser_signs T) (hr.mono (by decide)) T.d_Guesser_signs.b .nil pass0 rfl) (pa_cons (pe_prop (pv 0) T.clG T.p_Guesser_size (ok_Guesser_size T) (hr.mono (by decide)) T.d_Guesser_size.b .nil pass0 rfl) (pa_cons (pe_prop (pv 0) T.clG T.p_Guesser_goals (ok_Guesser_goals T) (hr.mono (by decide)) T.d_Guesser_goals.b .nil pass0 rfl) (pa_cons (pe_callTy (k_tuple K) (by rfl) T.z_tuple (by decide +kernel) (pa_cons (pv 1) pa_nil)) (pa_cons (pe_prop (pv 0) T.clG T.p_Guesser_begins (ok_Guesser_begins T) (hr.mono (by decide)) T.d_Guesser_begins.b .nil pass0 rfl) pa_nil)))))))))), ?_⟩
    obtain ⟨ab, as, ag, hp, hb, hs, hg⟩ := id G.at_
    have m5 := G.m5
    have fw := G.few
    refine q_drop (ev_call (by walk_at "ev") (spv_check_guesser hp)) fun H1 e1 => ?_
    obtain ⟨ps, hA, hpl, hps⟩ := hs.ex e1
    have hp1 := hp.ex e1
    refine q_asgR (er_sortS (K := K) (bs := fun _ _ _ => True) (R' := fun H q => ∃ ts, TurnOf n m ss ts ∧ ts.length ≤ 100 ∧ StpL H q ts) (er_comp (vs := [2, 3, 4]) (tt := tYes) (fun _ => true) (fun i v H => ∃ q, v = .ref q ∧ H q = some (.tup (stpV (turnS (ss.getD i (0, none, 0)))))) (fun a v H H' e h => let ⟨q, h1, h2⟩ := h; ⟨q, h1, e _ _ h2⟩)
      (ei_T (K := K) (ev_get (ev_var rfl) hp1 rfl) (st_of hA)) (by rw [List.length_map]; omega) (fun i x H2 e2 hi hy => ?_)) (fun H2 fp e2 hgot => ?_)) fun sp H2 hsp e2 hts => ?_
    · obtain ⟨q, hq, rfl⟩ := get_map hy
      have hi' : i < ss.length := by rw [← hpl]; exact (List.getElem?_eq_some_iff.mp hq).1
      have hsi : ss[i]? = some ss[i] := List.getElem?_eq_getElem hi'
      have ht := e2 _ _ (hps i q _ hq hsi)
      rw [getD_of hsi]
      generalize ss[i] = st at ht
      obtain ⟨b, sg, gl⟩ := st
      exact ⟨_, eg_tup ht rfl (egs_cons eg_name (egs_cons eg_name (egs_cons eg_name egs_nil))), rfl, et_yes, fun _ => ep_new (u := .tup (stpV (gl, sg, b))) (er_U (eu_tup (ea_cons (ev_var rfl) (ea_cons (ev_var rfl) (ea_cons (ev_var rfl) ea_nil))) (by show 3 ≤ 100000; decide))) (fun q _ => ⟨q, rfl, upd_same⟩)⟩
    · obtain ⟨xs, hxs, gt⟩ := hgot
      obtain ⟨zs, rfl, zl, zp⟩ := got_refs gt
      rw [List.filter_eq_self.mpr (fun _ _ => rfl), List.length_range, List.length_map, hpl] at zl
      have zp' : ∀ (k : Nat) q s, zs[k]? = some q → ss[k]? = some s → H2 q = some (.tup (stpV (turnS s))) := fun k q s h1 h2 => by
        have hk := (List.getElem?_eq_some_iff.mp h2).1
        have := zp k q k h1 (by rw [List.filter_eq_self.mpr (fun _ _ => rfl), List.length_map, hpl]; exact List.getElem?_range hk)
        rw [getD_of h2] at this
        exact this
      have z1 : (zs.zip (ss.map turnS)).map (·.1) = zs := List.map_fst_zip (by rw [List.length_map]; omega)
      have z2 : (zs.zip (ss.map turnS)).map (·.2) = ss.map turnS := List.map_snd_zip (by rw [List.length_map]; omega)
      have hbs : ∀ b ∈ zs.zip (ss.map turnS), H2 b.1 = some (.tup (stpV b.2)) := fun b hb => by
        obtain ⟨k, hk, e⟩ := List.getElem_of_mem hb
        rw [List.length_zip, List.length_map] at hk
        have h1 : zs[k]? = some b.1 := by
          rw [← e, List.getElem_zip, List.getElem?_eq_getElem (by omega)]
        have h2 : ss[k]? = some ss[k] := List.getElem?_eq_getElem (by omega)
        have h3 : b.2 = turnS ss[k] := by rw [← e, List.getElem_zip, List.getElem_map]
        rw [h3]
        exact zp' k _ _ h1 h2
      have nd : ((zs.zip (ss.map turnS)).map (·.2)).Nodup := by
        rw [z2]
        refine nodup_map_inj (fun a _ b _ e => ?_) (G.ok.asc.imp fun {a b} h e => by rw [e] at h; omega)
        have := congrArg turnS e
        exact this
      have ok : ∀ b ∈ zs.zip (ss.map turnS), SOk n m b.2 := fun b hb => by
        have : b.2 ∈ ss.map turnS := by rw [← z2]; exact List.mem_map.mpr ⟨b, hb, rfl⟩
        obtain ⟨s, hs, e⟩ := List.mem_map.mp this
        rw [← e]
        exact turnS_ok (G.ok.ok s hs)
      obtain ⟨so, sm⟩ := sort_steps G.n8 (by omega) ok nd
      have pm := List.mergeSort_perm (zs.zip (ss.map turnS)) (PySem.W.dataLe false fun b : Addr × Stp => encS b.2)
      refine ⟨zs.zip (ss.map turnS), ?_, hbs, by rw [List.length_zip, List.length_map]; omega, fun q hq => ⟨_, ⟨so, fun s => ?_⟩, ?_, ((zs.zip (ss.map turnS)).mergeSort (PySem.W.dataLe false fun b => encS b.2)).map (·.1), ?_, ?_, fun i p s h1 h2 => ?_⟩⟩
      · rw [hxs]
        congr 2
        conv => lhs; rw [← z1]
        rw [List.map_map]
        rfl
      · rw [sm, z2, List.mem_map]
        constructor
        · rintro ⟨t, ht, rfl⟩
          exact ht
        · exact fun h => ⟨_, h, rfl⟩
      · rw [List.length_map, pm.length_eq, List.length_zip, List.length_map]
        omega
      · rw [upd_same, List.map_map]
        rfl
      · rw [List.length_map, List.length_map]
      · obtain ⟨b, hb, rfl⟩ := get_map h1
        obtain ⟨b', hb', rfl⟩ := get_map h2
        rw [hb] at hb'
        cases hb'
        have := hbs b (pm.mem_iff.mp (List.mem_of_getElem? hb))
        exact (Ex.new hq) _ _ this
    · obtain ⟨ts, TO, tl, hL⟩ := hts
      have e12 := e1.trans e2
      have hp2 := hp.ex e12
      refine s_retR (er_GuesserAs (bs := gs) (ss := ts) (gs := bs) (as_v (ev_get (ev_var rfl) hp2 rfl) (as_v (ev_get (ev_var rfl) hp2 rfl) (as_v (ev_get (ev_var rfl) hp2 rfl) (as_r (R := fun H q => StpT H q ts ∧ StT H ag gs ∧ StT H ab bs) (er_imp (er_tupStepsV (K := K) (ev_var rfl) hL) (fun H3 q e3 r => ⟨r, hg.ex (e12.trans e3), hb.ex (e12.trans e3)⟩)) (fun H H' a e h => ⟨h.1.ex e, h.2.1.ex e, h.2.2.ex e⟩) (as_v (ev_get (ev_var rfl) hp2 rfl) as_nil)))))
        (fun vs H' ⟨r1, a1, r2, a2, r3, a3, b, r4, a4, h2, r5, a5, a6⟩ => ⟨ag, b, ab, by rw [a1, a2, a3, a4, a5, a6], h2.2.1, h2.1, h2.2.2⟩) G.n1 G.n8 G.m1 (by omega) G.ga TO.ok (by omega) G.ba) fun q H3 hq e3 r => k q H3 ts (fresh_back e12 hq) (e12.trans e3) TO ⟨r, G.n1, G.n8, G.m1, G.m5, G.ga, G.ba, TO.ok, tl⟩
theorem spr_turned {CG p : Addr} {n m : Nat} {bs : List Nat} {ss : List Stp} {gs : List Nat} (G : GsrIn CG H p n m bs ss gs) : SpR (sp_turned CG) ([.ref p] ++ []) H (fun H q => ∃ ts, TurnOf n m ss ts ∧ GsrIn CG H q n m gs ts bs) := fun H1 e Q q E => ⟨p, n, m, bs, ss, gs, rfl, G.ex e, fun a H' ts ha e' h1 h2 => q a H' ha e' ⟨ts, h1, h2⟩⟩
end
end K14
set_option maxHeartbeats 4000000
namespace K14
open PySem L2 Evl
local macro_rules | `(tactic| walk_at "ev") => `(tactic| repeat' (first
  | exact ev_var rfl | exact ev_c | exact ea_nil | apply ea_cons | exact rv_I0 | apply ev_op | apply ev_cb | apply ev_un | exact ru_neg
  | exact rc_isiInt | exact rc_isiBool | exact rc_isiStr))
section
variable {P : Program} {w : World} {K : PySem.W.Frag} {mg : Str → Option Value} {base : Heap}
variable {σ : L2.St} {H H' : Hp} {ta tb te to ti : TE} {tA : TA} {tz : TS} {v : V} {D : Ends} {a : Addr}
theorem exb_mut {H1 H4 : Hp} {d : Addr} {o : HO} (h : ExB a H1 H4) (hd : H1 d = none) : ExB a H1 (upd H4 d o) := fun b o n e => by
  rw [upd_ne (ne_of_none e hd)]
  exact h b o n e
theorem Bar.ne {d : Addr} (h : Bar H a) (hd : H d = none) : a ≠ d := fun q => by
  obtain ⟨u, v, t, h⟩ := h
  rw [q, hd] at h
  cases h
theorem Bar.upd {d : Addr} {o : HO} (h : Bar H a) (n : a ≠ d) : Bar (upd H d o) a := by
  obtain ⟨u, v, t, h⟩ := h
  exact ⟨u, v, t, by rw [upd_ne n]; exact h⟩
theorem exb_fresh {H1 H2 : Hp} {d : Addr} (h : ExB a H1 H2) (b : Bar H1 a) (hd : H2 d = none) (b2 : Bar H2 a) : H1 d = none := by
  cases q : H1 d with
  | none => rfl
  | some o =>
    have := h d o (b2.ne hd).symm q
    rw [hd] at this
    cases this
/-- te may draw from the barrel at a -/
def EvB (te : TE) (σ : L2.St) (H : Hp) (a : Addr) (p : V → Hp → Prop) : Prop := ∀ H1, ExB a H H1 → Bar H1 a → ∀ Q : VK, (∀ v H2, ExB a H1 H2 → Bar H2 a → p v H2 → Q v H2) → te σ H1 Q
def EvBs (tA : TA) (σ : L2.St) (H : Hp) (a : Addr) (p : List V → Hp → Prop) : Prop := ∀ H1, ExB a H H1 → Bar H1 a → ∀ Q : List V → Hp → Prop, (∀ vs H2, ExB a H1 H2 → Bar H2 a → p vs H2 → Q vs H2) → tA σ H1 Q
theorem eb_v (h : ∀ H1, ExB a H H1 → Ev te σ H1 v) : EvB te σ H a (fun u _ => u = v) := fun H1 e b Q q => h H1 e H1 (Ex.refl H1) _ fun H2 e2 => q v H2 (Ex.exb e2) (b.ex e2) rfl
theorem eb_mono {p q : V → Hp → Prop} (h : EvB te σ H a p) (m : ∀ v H, p v H → q v H) : EvB te σ H a q := fun H1 e b Q k => h H1 e b Q fun v H2 e2 b2 r => k v H2 e2 b2 (m v H2 r)
theorem EvB.exb {p : V → Hp → Prop} {H1 : Hp} (h : EvB te σ H a p) (e : ExB a H H1) : EvB te σ H1 a p := fun H2 e2 b => h H2 (e.trans e2) b
theorem ebs_nil : EvBs tNil σ H a (fun vs _ => vs = []) := fun H1 e b Q q => q [] H1 ExB.refl b rfl
/-- the first is no matter of the heap -/
theorem ebs_cons {p : V → Prop} {r : List V → Hp → Prop} (h : EvB te σ H a (fun v _ => p v)) (hr : EvBs tA σ H a r) : EvBs (tCons te tA) σ H a (fun vs H' => ∃ v us, vs = v :: us ∧ p v ∧ r us H') := fun H1 e b Q q =>
  h H1 e b _ fun v H2 e2 b2 pv => hr H2 (e.trans e2) b2 _ fun us H3 e3 b3 ru => q _ H3 (e2.trans e3) b3 ⟨v, us, rfl, pv, ru⟩
theorem eb_call {p : List V → Hp → Prop} {q : V → Hp → Prop} {sp : Sp} {E : XK} (h : EvBs tA σ H a p) (hs : ∀ vs H1, ExB a H H1 → Bar H1 a → p vs H1 → ∀ Q : VK, (∀ v H2, ExB a H1 H2 → Bar H2 a → q v H2 → Q v H2) → sp (vs ++ []) H1 Q E) : EvB (tCall sp [] E tA) σ H a q := fun H1 e b Q k =>
  h H1 e b _ fun vs H2 e2 b2 r => hs vs H2 (e.trans e2) b2 r Q fun v H3 e3 b3 rv => k v H3 (e2.trans e3) b3 rv
/-- a number below n -/
def Blw (n : Nat) (v : V) : Prop := ∃ d : Nat, v = .int d ∧ d < n
theorem eb_dip {n i : Nat} {E : XK} (s0 : σ[i]? = some (some (.ref a))) (h : EvB te σ H a (fun v _ => v = .int n)) (h0 : 0 < n) (h1 : n < 1073741824) : EvB (tCall sp_dip [] E (tCons (tVar i) (tCons te tNil))) σ H a (fun v _ => Blw n v) :=
  eb_call (ebs_cons (p := fun v => v = .ref a) (eb_v fun H1 _ => ev_var s0) (ebs_cons (p := fun v => v = .int n) h ebs_nil)) fun vs H1 e b ⟨x, us, q1, q2, y, zs, q3, q4, q5⟩ Q k => by
    subst q1 q2 q3 q4 q5
    exact ⟨a, n, rfl, h0, h1, b, fun H' d hd hb he => k _ H' he hb ⟨d, rfl, hd⟩⟩
theorem q_asgB {i : Nat} {p : V → Hp → Prop} (h : EvB te σ H a p) (b : Bar H a) (k : ∀ v H1, ExB a H H1 → Bar H1 a → p v H1 → tz D (σ.set i (some v)) H1) : tSeq (tAsg te (gName i)) tz D σ H := h H ExB.refl b _ fun v H1 e b1 r => k v H1 e b1 r
theorem s_retB {p : V → Hp → Prop} (h : EvB te σ H a p) (b : Bar H a) (k : ∀ v H1, ExB a H H1 → Bar H1 a → p v H1 → D.rt v H1) : tRet te D σ H := h H ExB.refl b _ fun v H1 e b1 r => k v H1 e b1 r
/-- a new list of drawn things -/
def EvBL (te : TE) (σ : L2.St) (H : Hp) (a : Addr) (p : List V → Prop) : Prop := ∀ H1, ExB a H H1 → Bar H1 a → ∀ Q : VK, (∀ l H2 xs, H1 l = none → ExB a H1 H2 → Bar H2 a → H2 l = some (.lst xs) → p xs → Q (.ref l) H2) → te σ H1 Q
theorem ebl_lst {p : List V → Prop} (h : EvBs tA σ H a (fun vs _ => p vs)) (hp : ∀ vs, p vs → vs.length ≤ 1000) : EvBL (tLst tA) σ H a p := fun H1 e b Q k =>
  h H1 e b _ fun vs H2 e2 b2 pv => ⟨sz_of (by have := hp vs pv; omega), fun l hl => k l _ vs (exb_fresh e2 b hl b2) (exb_mut e2 (exb_fresh e2 b hl b2)) (b2.upd (b2.ne hl)) upd_same pv⟩
theorem ebl_lcR {j n : Nat} {vs : List Nat} {p : V → Prop} (h : ∀ H1, ExB a H H1 → EvA tA σ H1 [.int n]) (hn : n ≤ 1000) (hw : ∀ x, wipe ((wipe σ vs).set j (some x)) vs = wipe σ vs)
    (he : ∀ i, i < n → EvB te ((wipe σ vs).set j (some (.int (i : Nat)))) H a (fun v _ => p v)) : EvBL (tLc (iRng1 tA) (gName j) tYes te vs) σ H a (fun xs => xs.length = n ∧ ∀ x ∈ xs, p x) := fun H0 e b Q q =>
  h H0 e H0 (Ex.refl H0) _ fun H1 e1 => ⟨n, rfl, by omega, by omega, fun D hD =>
    lc_range (lo := 0) (n := n) (fun i H' => ExB a H1 H' ∧ Bar H' a ∧ ∃ xs, H' D = some (.lst xs) ∧ xs.length = i ∧ ∀ x ∈ xs, p x)
      ⟨exb_mut ExB.refl hD, (b.ex e1).upd ((b.ex e1).ne hD), [], upd_same, rfl, fun _ h => nomatch h⟩
      (fun i H2 hi ⟨x2, b2, xs, h2, hl, hx⟩ => by
        rw [Int.zero_add]
        refine ⟨hw _, he i hi H2 ((e.trans (Ex.exb e1)).trans x2) b2 _ fun v H3 e3 b3 pv => ?_⟩
        have hne : D ≠ a := fun q => by
          rw [q] at hD
          obtain ⟨_, _, _, h⟩ := b.ex e1
          rw [hD] at h
          cases h
        refine ⟨xs, e3 _ _ hne h2, sz_lt (by omega), exb_mut (x2.trans e3) hD, b3.upd hne.symm, _, upd_same, by rw [List.length_append, hl]; rfl, fun x hx' => ?_⟩
        rcases List.mem_append.mp hx' with z | z
        · exact hx x z
        · rw [List.mem_singleton.mp z]
          exact pv) (fun H2 ⟨x2, b2, xs, h2, hl, hx⟩ => q D H2 xs (fresh_back e1 hD) ((Ex.exb e1).trans x2) b2 h2 ⟨hl, hx⟩)⟩
theorem q_asgBL {i : Nat} {p : List V → Prop} (h : EvBL te σ H a p) (b : Bar H a) (k : ∀ l H1 xs, H l = none → ExB a H H1 → Bar H1 a → H1 l = some (.lst xs) → p xs → tz D (σ.set i (some (.ref l))) H1) : tSeq (tAsg te (gName i)) tz D σ H := h H ExB.refl b _ fun l H1 xs h1 e b1 h2 r => k l H1 xs h1 e b1 h2 r
theorem eb_op {p q r : V → Prop} {rel : R2} (h1 : EvB ta σ H a (fun v _ => p v)) (h2 : EvB tb σ H a (fun v _ => q v)) (hr : ∀ x y H1, ExB a H H1 → p x → q y → ∃ z, RV rel x y H1 z ∧ r z) : EvB (tOp rel ta tb) σ H a (fun v _ => r v) := fun H1 e b Q k =>
  h1 H1 e b _ fun x H2 e2 b2 px => h2 H2 (e.trans e2) b2 _ fun y H3 e3 b3 qy => by
    obtain ⟨z, hz, rz⟩ := hr x y H3 (e.trans (e2.trans e3)) px qy
    exact hz H3 (Ex.refl H3) Q fun H4 e4 => k z H4 (e2.trans (e3.trans (Ex.exb e4))) (b3.ex e4) rz
/-! ### one of a menu -/
def sp_one_of : Sp := fun vs H Q _ => ∃ (a l : Addr) (ms : List Nat), vs = [.ref a, .ref l] ∧ l ≠ a ∧ H l = some (.lst (ms.map nV)) ∧ 0 < ms.length ∧ ms.length ≤ 100 ∧ Bar H a ∧ ∀ H' (d : Nat), d ∈ ms → Bar H' a → ExB a H H' → Q (.int d) H'
theorem ok_one_of (T : Tx K mg) : FnOk P w K mg base CX0 2 T.d__law_one_of.f T.d__law_one_of.fd ["_law_barrel_here", "_law_menu"] sp_one_of := by
  refine T.d__law_one_of.F.ok sc__law_one_of (fun vs H Q E h => ?_) (fun cdv A outer s H vs Q E hr h => ?_)
  · obtain ⟨p, q, _, rfl, _⟩ := h
    rfl
  · obtain ⟨a, l, ms, rfl, hla, hl, h0, h1, hb, k⟩ := h
    refine ⟨_, (pss_one (ps_ret (pe_ix (k_ixL K) (pv 1) (pe_call (ok_dip T) (hr.mono (by decide)) rfl T.d__law_dip.g T.d__law_dip.F.kp T.d__law_dip.b .nil pass0 (pa_cons (pv 0) (pa_cons (pe_callB (k_len K) (by rfl) T.z_len (by decide +kernel) (pa_cons (pv 1) pa_nil)) pa_nil))) (fun _ _ => rfl)))), ?_⟩
    refine s_retB (p := fun v _ => ∃ d, d ∈ ms ∧ v = .int (d : Nat)) (eb_op (p := fun v => v = .ref l) (q := Blw ms.length) (eb_v fun H1 _ => ev_var rfl) (eb_dip rfl (eb_v fun H1 e => ?_) h0 (by omega)) ?_) hb fun v H1 e b ⟨d, hd, q⟩ => ?_
    · refine ev_is (ev_cb (ea_cons (ev_var rfl) ea_nil) (rc_lenQ (.inl (sq_of (e _ _ hla hl))))) (by rw [List.length_map])
    · rintro x y H1 e rfl ⟨d, rfl, hd⟩
      refine ⟨.int (ms[d] : Nat), rv_ixL (sq_of (e _ _ hla hl)) (at_of rfl (by rw [List.getElem?_map, List.getElem?_eq_getElem hd]; rfl)), _, List.getElem_mem hd, rfl⟩
    · rw [q]
      exact k H1 d hd b e
theorem eb_one_of {ms : List Nat} {i : Nat} {E : XK} {tA : TA} (s0 : σ[i]? = some (some (.ref a))) (hm : ∀ H1, ExB a H H1 → EvA tA σ H1 (ms.map nV)) (h0 : 0 < ms.length) (h1 : ms.length ≤ 100) : EvB (tCall sp_one_of [] E (tCons (tVar i) (tCons (tLst tA) tNil))) σ H a (fun v _ => ∃ d, d ∈ ms ∧ v = .int (d : Nat)) := fun H1 e b Q k =>
  as_v (ev_var s0) (as_f (R := fun H p => H p = some (.lst (ms.map nV))) (er_L (el_lst (hm H1 e) (by rw [List.length_map]; omega))) is_mono as_nil) H1 (Ex.refl H1) _ fun vs H3 e3 ⟨r, q1, l, s, q2, hl, h3, q3⟩ => by
    subst q1 q2 q3
    exact ⟨a, l, ms, rfl, (b.ne hl).symm, h3, h0, h1, b.ex e3, fun H' d hd hb he => k _ H' ((Ex.exb e3).trans he) hb ⟨d, hd, rfl⟩⟩
end
end K14
set_option maxHeartbeats 4000000
namespace K14
open PySem L2 Evl
local macro_rules | `(tactic| walk_at "ev") => `(tactic| repeat' (first
  | exact ev_var rfl | exact ev_c | exact ea_nil | apply ea_cons | exact rv_I0 | apply ev_op | apply ev_cb | apply ev_un | exact ru_neg
  | exact rc_isiInt | exact rc_isiBool | exact rc_isiStr))
mutual
theorem dp_ex {K : PySem.W.Frag} {H H' : Hp} (e : Ex H H') : ∀ (d : PyData) (v : V), Dp K H v d → Dp K H' v d
  | .none, _, .non => .non
  | .bool _, _, .bl _ => .bl _
  | .int _, _, .int _ => .int _
  | .str _, _, .str _ => .str _
  | .list ds, _, .lst h r => .lst (ex_l e h) (dpAll_ex e ds _ r)
  | .tuple ds, _, .tup h r => .tup (ex_t e h) (dpAll_ex e ds _ r)
theorem dpAll_ex {K : PySem.W.Frag} {H H' : Hp} (e : Ex H H') : ∀ (ds : List PyData) (vs : List V), DpAll K H vs ds → DpAll K H' vs ds
  | [], _, .nil => .nil
  | d :: ds, _, .cons h r => .cons (dp_ex e d _ h) (dpAll_ex e ds _ r)
end
section
variable {prog : Program} {w : World} {A : Around} {E : Value → Shared → Prop} {s : Shared} {K : PySem.W.Frag} {x y C f : Addr} {ox oy : Obj} {od oe : Option Obj}
/-- object's own __ne__ asks the class's __eq__ -/
theorem objNe_asks {Q : Fin → Shared → Prop} (hu : A.units < cLine) (X : K.In s.heap) (I : PySem.W.InstAt s.heap x ox C od) (he : PySem.W.findIn K (.ref C) "__eq__" = some (some (.ref f))) (hf : PySem.W.isFn K (.ref f) = true)
    (h : wpAny (model prog w) A (call (.ref f) [.ref x, .ref y]) (fun v s' => ∃ b, v = .bool b ∧ Q (.done (.ret (.bool (!b)))) s') E s) : wpAny (model prog w) A (Builtin.«object.__ne__» ⟨[.ref x, .ref y], []⟩) Q E s := by
  unfold Builtin.«object.__ne__»
  refine wpAny_bind (wpAny_of_eq (a := (Value.ref x, [Value.ref y])) rfl ?_)
  refine wpAny_bind (wpAny_cRoomFor hu ?_)
  refine wpAny_bind (m := callSpecialIfBound? (.ref x) (Str.ofString "__eq__") [.ref y]) (PySem.W.ifBound_K X I he hf (wpAny_mono h (fun v s' hv => ?_) fun _ _ e => e))
  obtain ⟨b, rfl, hq⟩ := hv
  exact wpAny_bind (wpAny_truthy_bool (wpAny_pure hq))
theorem bound_objNe {Q : Option Value → Shared → Prop} (hu : A.units + 1 < cLine) (X : K.In s.heap) (I : PySem.W.InstAt s.heap x ox C od) (hn : PySem.W.findIn K (.ref C) "__ne__" = some (some (.builtin "object.__ne__")))
    (hm : PySem.W.mroIn K C (.type "object") = some true) (he : PySem.W.findIn K (.ref C) "__eq__" = some (some (.ref f))) (hf : PySem.W.isFn K (.ref f) = true)
    (h : wpAny (model prog w) A.in1 (call (.ref f) [.ref x, .ref y]) (fun v s' => ∃ b, v = .bool b ∧ Q (some (.bool (!b))) s') E s) : wpAny (model prog w) A (callSpecialIfBound? (.ref x) "__ne__" [.ref y]) Q E s := by
  have one : wpAny (model prog w) A (call (.builtin "object.__ne__") [.ref x, .ref y]) (fun v => Q (some v)) E s :=
    wpAny_call (codeAny_call_builtin F.cmp_object.ne.plain F.cmpEntry_ne (PySem.W.check_slot F.cmpKind_ne F.cmpSplit_ne (I.type.andThen (PySem.W.looks_mroIn X hm)) (F.cmpArgs_ne _ _) (objNe_asks (A := A.in1) hu X I he hf h)))
  have fin : wpAny (model prog w) A (call (.builtin "object.__ne__") ([.ref x] ++ [.ref y]) >>= fun v => pure (some v)) Q E s := wpAny_bind (wpAny_mono one (fun v s' h' => wpAny_pure h') fun _ _ h' => h')
  simp only [callSpecialIfBound?, bindSpecialIfBound?]
  refine wpAny_holding (wpAny_bind (wpAny_bind (wpAny_bind (I.type.here ((PySem.W.looks_findIn X hn).here ?_)))))
  refine wpAny_bind (wpAny_askSetting (wpAny_ite ?_))
  split
  · exact wpAny_bind (wpAny_of_eq (F.cmp_object.ne.bind _) (wpAny_pure (by exact fin)))
  · exact wpAny_tryCatch (wpAny_bind (wpAny_of_eq (F.cmp_object.ne.bind _) (wpAny_pure (by exact fin))))
theorem ne_asks {Q : Value → Shared → Prop} (hu : A.units + 1 < cLine) (X : K.In s.heap) (I : PySem.W.InstAt s.heap x ox C od) (J : PySem.W.InstAt s.heap y oy C oe) (hn : PySem.W.findIn K (.ref C) "__ne__" = some (some (.builtin "object.__ne__")))
    (hm : PySem.W.mroIn K C (.type "object") = some true) (he : PySem.W.findIn K (.ref C) "__eq__" = some (some (.ref f))) (hf : PySem.W.isFn K (.ref f) = true)
    (h : wpAny (model prog w) A.in1 (call (.ref f) [.ref x, .ref y]) (fun v s' => ∃ b, v = .bool b ∧ Q (.bool (!b)) s') E s) : wpAny (model prog w) A (compareOp .NotEq (.ref x) (.ref y)) Q E s := by
  show wpAny (model prog w) A (richCompare .NotEq (.ref x) (.ref y)) Q E s
  unfold richCompare
  simp only [oneThing_ref, cmpInfo_NotEq]
  refine wpAny_holding (wpAny_bind (wpAny_cRoomFor (Nat.lt_of_succ_lt hu) ?_))
  refine wpAny_bind (I.type.here (wpAny_bind (J.type.here ?_)))
  rw [show (Value.ref C != Value.ref C) = false from by simp]
  simp only [Bool.false_eq_true, if_false]
  refine wpAny_bind (wpAny_pure ?_)
  simp only [Bool.false_eq_true, if_false]
  have t : wpAny (model prog w) A (tryCompare (.ref x) "__ne__" (.ref y)) (fun r s' => ∃ b, r = some (.bool b) ∧ Q (.bool b) s') E s := by
    unfold tryCompare
    refine wpAny_bind (bound_objNe hu X I hn hm he hf (wpAny_mono h (fun v s' hv => ?_) fun _ _ e => e))
    obtain ⟨b, rfl, hq⟩ := hv
    exact ⟨b, rfl, wpAny_pure ⟨_, rfl, hq⟩⟩
  refine wpAny_bind (wpAny_mono t (fun r s' z => ?_) fun _ _ e => e)
  obtain ⟨b, rfl, hq⟩ := z
  exact wpAny_pure hq
end
/-- x != y, both instances of the class at C, whose __eq__ is a def of promise sp and which has no __ne__ of its own -/
def rNe (C : Addr) (sp : Sp) (E : XK) : R2 := fun x y H Q => ∃ p q dx dy fs gs, x = .ref p ∧ y = .ref q ∧ H p = some (.ins C dx fs) ∧ H q = some (.ins C dy gs) ∧ sp [x, y] H (fun z H' => ∃ b, z = .bl b ∧ Q (.bl (!b)) H') E
theorem op_neOwn {X : Cx} {CX : CXT} {k : Nat} {C f : Addr} {fd : FuncData} {sp : Sp} {E : XK} {u v : Str} (hn : PySem.W.findIn X.K (.ref C) "__ne__" = some (some (.builtin "object.__ne__"))) (hm : PySem.W.mroIn X.K C (.type "object") = some true)
    (he : PySem.W.findIn X.K (.ref C) "__eq__" = some (some (.ref f))) (hf : PySem.W.isFn X.K (.ref f) = true) (F : FnOk X.prog X.w X.K X.mg X.base CX k f fd [u, v] sp) (hb : Binds X.K fd [u, v] []) (hr : Room (k + 1) X.A) (hx : Passes CX X.nox E) :
    OpR X (compareOp .NotEq) (rNe C sp E) := by
  intro pins s σ H x y xv yv Q I rx ry h
  obtain ⟨p, q, dx, dy, fs, gs, rfl, rfl, hp, hq, h⟩ := h
  cases (show xv = Value.ref p from rx)
  cases (show yv = Value.ref q from ry)
  obtain ⟨mA, O, _, _, _, _⟩ := ins_get I.hok hp
  obtain ⟨od, J, _⟩ := O.look
  obtain ⟨mB, O', _, _, _, _⟩ := ins_get I.hok hq
  obtain ⟨oe, J', _⟩ := O'.look
  refine ne_asks (by have := hr.un; omega) I.kIn J J' hn hm he hf (wpAny_call (codeAny_mono (F.run X.A.in1 X.stack s H ⟨[.ref p, .ref q], []⟩ [.ref p, .ref q] [.ref p, .ref q] _ E hr.in1 I.env0.in1 (hb _ [.ref p, .ref q] I.kIn rfl) (show Vals [V.ref p, V.ref q] [Value.ref p, Value.ref q] from .cons rfl (.cons rfl .nil)) h) fun r s' hq => ?_))
  cases r with
  | error er => exact False.elim (hx pins σ H s er s' (I.wish _) hq)
  | ok fl =>
    cases fl with
    | ret u =>
      obtain ⟨z, H', I3, rv, b, rfl, q3⟩ := I.after hq
      cases (show u = Value.bool b from rv)
      exact ⟨b, rfl, .bl (!b), H', I3, rfl, q3⟩
    | next => exact False.elim hq
    | brk => exact False.elim hq
    | cont => exact False.elim hq
section
variable {P : Program} {w : World} {K : PySem.W.Frag} {mg : Str → Option Value} {base : Heap}
theorem rv_eqD {x y : V} {d : PyData} {H : Hp} (h1 : Dp K H x d) (h2 : Dp K H y d) (hs : SeqAt.shaped d = true) : RV (rEqD K) x y H (.bl true) := fun H1 e Q q =>
  ⟨d, d, dp_ex e d x h1, dp_ex e d y h2, hs, hs, by
    have z : d.canLay0 = true := by
      have := hs
      unfold SeqAt.shaped at this
      exact (Bool.and_eq_true _ _ ▸ this).1
    rw [SeqAt.eqv_refl d z]
    exact q H1 (Ex.refl H1)⟩
/-- two things of one class with the same parts as data -/
def SameAt (K : PySem.W.Frag) (C : Addr) (H : Hp) (p q : Addr) : Prop := ∃ (xs ys : List V) (ds : List PyData), PartsAt C H p xs ∧ PartsAt C H q ys ∧ DpAll K H xs ds ∧ DpAll K H ys ds ∧ SeqAt.shaped (.tuple ds) = true
def sp_eq (K : PySem.W.Frag) (C : Addr) : Sp := fun vs H Q _ => ∃ (p q : Addr), vs = [.ref p, .ref q] ∧ SameAt K C H p q ∧ ∀ H', Ex H H' → Q (.bl true) H'
theorem ok_Reader_eq (T : Tx K mg) : FnOk P w K mg base CX0 1 T.d_Reader_eq.f T.d_Reader_eq.fd ["self", "other"] (sp_eq K T.CR) := by
  refine T.d_Reader_eq.F.ok sc_Reader_eq (fun vs H Q E h => ?_) (fun cdv A outer s H vs Q E hr h => ?_)
  · obtain ⟨p, q, rfl, _⟩ := h
    rfl
  · obtain ⟨p, q, rfl, ⟨xs, ys, ds, ⟨dx, t, h1, h2⟩, ⟨dy, t', h3, h4⟩, d1, d2, hs⟩, k⟩ := h
    refine ⟨_, (pss_one (ps_ret (pe_and (pe_callB (k_isi K) (by rfl) T.z_isinstance (by decide +kernel) (pa_cons (pv 1) (pa_cons (pe_glob (v := .ref T.CR) rfl T.gReader rfl) pa_nil))) (pe_one (pe_cmpR (k_eqD K hr.units) (pe_fld (pv 0) rfl) (pe_fld (pv 1) rfl) (nomark _)))))), ?_⟩
    refine s_ret (v := .bl true) (ev_is (ev_andV (ev_cb (by walk_at "ev") (rc_isiReader T h3)) fun _ => ev_op (ev_fld (ev_var rfl) h1 T.clR T.npR look_parts) (ev_fld (ev_var rfl) h3 T.clR T.npR look_parts) (rv_eqD (.tup (st_of h2) d1) (.tup (st_of h4) d2) hs)) rfl) k
theorem ok_Guesser_eq (T : Tx K mg) : FnOk P w K mg base CX0 1 T.d_Guesser_eq.f T.d_Guesser_eq.fd ["self", "other"] (sp_eq K T.CG) := by
  refine T.d_Guesser_eq.F.ok sc_Guesser_eq (fun vs H Q E h => ?_) (fun cdv A outer s H vs Q E hr h => ?_)
  · obtain ⟨p, q, rfl, _⟩ := h
    rfl
  · obtain ⟨p, q, rfl, ⟨xs, ys, ds, ⟨dx, t, h1, h2⟩, ⟨dy, t', h3, h4⟩, d1, d2, hs⟩, k⟩ := h
    refine ⟨_, (pss_one (ps_ret (pe_and (pe_callB (k_isi K) (by rfl) T.z_isinstance (by decide +kernel) (pa_cons (pv 1) (pa_cons (pe_glob (v := .ref T.CG) rfl T.gGuesser rfl) pa_nil))) (pe_one (pe_cmpR (k_eqD K hr.units) (pe_fld (pv 0) rfl) (pe_fld (pv 1) rfl) (nomark _)))))), ?_⟩
    refine s_ret (v := .bl true) (ev_is (ev_andV (ev_cb (by walk_at "ev") (rc_isiGuesser T h3)) fun _ => ev_op (ev_fld (ev_var rfl) h1 T.clG T.npG look_parts) (ev_fld (ev_var rfl) h3 T.clG T.npG look_parts) (rv_eqD (.tup (st_of h2) d1) (.tup (st_of h4) d2) hs)) rfl) k
end
end K14
set_option maxHeartbeats 4000000
namespace K14
open PySem L2 Evl
/-- data of a depth -/
structure Sh (n : Nat) (d : PyData) : Prop where
  lay : d.canLay0 = true
  dep : d.depth ≤ n
theorem Sh.ok {n : Nat} {d : PyData} (h : Sh n d) (hn : n ≤ 64) : SeqAt.shaped d = true := by
  unfold SeqAt.shaped
  rw [h.lay, decide_eq_true (Nat.le_trans h.dep hn)]
  rfl
theorem sh_all {n : Nat} : ∀ {ds : List PyData}, (∀ d ∈ ds, Sh n d) → PyData.canLayAll0 ds = true ∧ PyData.depthAll ds ≤ n
  | [], _ => ⟨rfl, Nat.zero_le _⟩
  | d :: ds, h => by
    obtain ⟨h1, h2⟩ := sh_all (ds := ds) fun x hx => h x (.tail _ hx)
    have q := h d (.head _)
    have := q.dep
    simp only [PyData.canLayAll0, PyData.depthAll, q.lay, h1, Bool.and_self, true_and]
    omega
theorem sh_lst {n : Nat} {ds : List PyData} (h : ∀ d ∈ ds, Sh n d) : Sh (n + 1) (.list ds) := by
  obtain ⟨h1, h2⟩ := sh_all h
  exact ⟨by simp only [PyData.canLay0]; exact h1, by simp only [PyData.depth]; omega⟩
theorem sh_tup {n : Nat} {ds : List PyData} (h : ∀ d ∈ ds, Sh n d) : Sh (n + 1) (.tuple ds) := by
  obtain ⟨h1, h2⟩ := sh_all h
  exact ⟨by simp only [PyData.canLay0]; exact h1, by simp only [PyData.depth]; omega⟩
theorem sh_int {i : Int} {n : Nat} : Sh n (.int i) := ⟨rfl, Nat.zero_le _⟩
theorem sh_str {x : Str} {n : Nat} (h : (PyData.str x).canLay0 = true) : Sh n (.str x) := ⟨h, Nat.zero_le _⟩
theorem lay_sgS (o : Option Nat) (h : ∀ c, o = some c → c < 8) : (PyData.str (sgS o)).canLay0 = true := by
  cases o with
  | none => decide +kernel
  | some c =>
    have q : ∀ c : Fin 8, (PyData.str (sgS (some (c : Nat)))).canLay0 = true := by decide +kernel
    exact q ⟨c, h c rfl⟩
theorem sh_non {n : Nat} : Sh n .none := ⟨rfl, Nat.zero_le _⟩
section
variable {K : PySem.W.Frag} {H : Hp}
theorem dp_map {α : Type} {f : α → V} {g : α → PyData} : ∀ {xs : List α}, (∀ x ∈ xs, Dp K H (f x) (g x)) → DpAll K H (xs.map f) (xs.map g)
  | [], _ => .nil
  | x :: xs, h => .cons (h x (.head _)) (dp_map fun y hy => h y (.tail _ hy))
/-- a list, all of one kind, told by another -/
theorem dp_zip {β : Type} {g : β → PyData} : ∀ {vs : List V} {ys : List β}, vs.length = ys.length → (∀ (i : Nat) v y, vs[i]? = some v → ys[i]? = some y → Dp K H v (g y)) → DpAll K H vs (ys.map g)
  | [], [], _, _ => .nil
  | v :: vs, y :: ys, hl, h => .cons (h 0 v y rfl rfl) (dp_zip (Nat.succ.inj hl) fun i v y a b => h (i + 1) v y a b)
  | [], _ :: _, hl, _ => nomatch hl
  | _ :: _, [], hl, _ => nomatch hl
def intD (k : Nat) : PyData := .int (k : Int)
def stD (ns : List Nat) : PyData := .tuple (ns.map intD)
def goD : Option Nat → PyData
  | none => .none
  | some k => .int (k : Int)
def rowD (r : List (Option Nat)) : PyData := .tuple (r.map goD)
def arrD (arr : List (List (Option Nat))) : PyData := .tuple (arr.map rowD)
theorem dp_st {a : Addr} {ns : List Nat} (h : StT H a ns) : Dp K H (.ref a) (stD ns) := .tup (st_of h) (dp_map fun k _ => .int _)
theorem dp_arr {a : Addr} {arr : List (List (Option Nat))} (h : ArrT H a arr) : Dp K H (.ref a) (arrD arr) := by
  obtain ⟨ps, h1, h2, h3⟩ := h
  refine .tup (st_of h1) (dp_zip (by rw [List.length_map, h2]) fun i v y hv hy => ?_)
  obtain ⟨p, hp, rfl⟩ := get_map hv
  exact .tup (st_of (h3 i p y hp hy)) (dp_map fun o _ => by
    cases o with
    | none => exact .non
    | some k => exact .int _)
theorem sh_st (ns : List Nat) : Sh 1 (stD ns) := sh_tup (n := 0) fun d hd => by
  obtain ⟨k, _, rfl⟩ := List.mem_map.mp hd
  exact sh_int
theorem sh_arr (arr : List (List (Option Nat))) : Sh 2 (arrD arr) := sh_tup (n := 1) fun d hd => by
  obtain ⟨r, _, rfl⟩ := List.mem_map.mp hd
  refine sh_tup (n := 0) fun d hd => ?_
  obtain ⟨o, _, rfl⟩ := List.mem_map.mp hd
  cases o with
  | none => exact sh_non
  | some k => exact sh_int
/-- two readers alike -/
theorem same_rdr {C p q : Addr} {n : Nat} {arr : List (List (Option Nat))} {ends : List Nat} (h1 : RdrAt C H p n arr ends) (h2 : RdrAt C H q n arr ends) : SameAt K C H p q := by
  obtain ⟨aa, ae, p1, a1, e1⟩ := h1.at_
  obtain ⟨ab, af, p2, a2, e2⟩ := h2.at_
  refine ⟨_, _, [intD n, arrD arr, stD ends], p1, p2, .cons (.int _) (.cons (dp_arr a1) (.cons (dp_st e1) .nil)), .cons (.int _) (.cons (dp_arr a2) (.cons (dp_st e2) .nil)), ?_⟩
  refine (sh_tup (n := 2) fun d hd => ?_).ok (by decide)
  simp only [List.mem_cons, List.not_mem_nil, or_false] at hd
  rcases hd with rfl | rfl | rfl
  · exact sh_int
  · exact sh_arr arr
  · exact ⟨(sh_st ends).lay, Nat.le_succ_of_le (sh_st ends).dep⟩
def stpD (s : Stp) : PyData := .tuple [intD s.1, .str (sgS s.2.1), intD s.2.2]
def stpsD (ss : List Stp) : PyData := .tuple (ss.map stpD)
theorem dp_stps {a : Addr} {ss : List Stp} (h : StpT H a ss) : Dp K H (.ref a) (stpsD ss) := by
  obtain ⟨ps, h1, h2, h3⟩ := h
  refine .tup (st_of h1) (dp_zip (by rw [List.length_map, h2]) fun i v y hv hy => ?_)
  obtain ⟨p, hp, rfl⟩ := get_map hv
  exact .tup (st_of (h3 i p y hp hy)) (.cons (.int _) (.cons (.str _) (.cons (.int _) .nil)))
theorem sh_stps {n m : Nat} {ss : List Stp} (h : ∀ s ∈ ss, SOk n m s) (hn : n ≤ 8) : Sh 2 (stpsD ss) := sh_tup (n := 1) fun d hd => by
  obtain ⟨s, hs, rfl⟩ := List.mem_map.mp hd
  refine sh_tup (n := 0) fun d hd => ?_
  simp only [List.mem_cons, List.not_mem_nil, or_false] at hd
  rcases hd with rfl | rfl | rfl
  · exact sh_int
  · exact sh_str (lay_sgS _ fun c hc => by have := (h s hs).a c hc; omega)
  · exact sh_int
/-- two guessers alike -/
theorem same_gsr {C p q : Addr} {n m : Nat} {bs : List Nat} {ss : List Stp} {gs : List Nat} (h1 : GsrAt C H p n m bs ss gs) (h2 : GsrAt C H q n m bs ss gs) (hs : ∀ s ∈ ss, SOk n m s) (hn : n ≤ 8) : SameAt K C H p q := by
  obtain ⟨ab, as, ag, p1, b1, s1, g1⟩ := h1.at_
  obtain ⟨ab', as', ag', p2, b2, s2, g2⟩ := h2.at_
  refine ⟨_, _, [intD n, intD m, stD bs, stpsD ss, stD gs], p1, p2, .cons (.int _) (.cons (.int _) (.cons (dp_st b1) (.cons (dp_stps s1) (.cons (dp_st g1) .nil)))), .cons (.int _) (.cons (.int _) (.cons (dp_st b2) (.cons (dp_stps s2) (.cons (dp_st g2) .nil)))), ?_⟩
  refine (sh_tup (n := 2) fun d hd => ?_).ok (by decide)
  simp only [List.mem_cons, List.not_mem_nil, or_false] at hd
  rcases hd with rfl | rfl | rfl | rfl | rfl
  · exact sh_int
  · exact sh_int
  · exact ⟨(sh_st bs).lay, Nat.le_succ_of_le (sh_st bs).dep⟩
  · exact sh_stps hs hn
  · exact ⟨(sh_st gs).lay, Nat.le_succ_of_le (sh_st gs).dep⟩
theorem spv_eq {C p q : Addr} (h : SameAt K C H p q) : SpV (sp_eq K C) [.ref p, .ref q] H (.bl true) := fun H1 e Q k E => by
  obtain ⟨xs, ys, ds, h1, h2, h3, h4, h5⟩ := h
  exact ⟨p, q, rfl, ⟨xs, ys, ds, h1.ex e, h2.ex e, dpAll_ex e _ _ h3, dpAll_ex e _ _ h4, h5⟩, k⟩
/-- x != y, when they are alike -/
theorem rv_neOwn {C p q : Addr} {E : XK} (h : SameAt K C H p q) : RV (rNe C (sp_eq K C) E) (.ref p) (.ref q) H (.bl false) := fun H1 e Q k => by
  obtain ⟨xs, ys, ds, h1, h2, h3, h4, h5⟩ := h
  obtain ⟨dx, t, p1, p2⟩ := h1.ex e
  obtain ⟨dy, t', q1, q2⟩ := h2.ex e
  exact ⟨p, q, dx, dy, _, _, rfl, rfl, p1, q1, p, q, rfl, ⟨xs, ys, ds, ⟨dx, t, p1, p2⟩, ⟨dy, t', q1, q2⟩, dpAll_ex e _ _ h3, dpAll_ex e _ _ h4, h5⟩, fun H2 e2 => ⟨true, rfl, k H2 e2⟩⟩
end
end K14
set_option maxHeartbeats 4000000
namespace K14
open PySem L2 Evl
local macro_rules | `(tactic| walk_at "ev") => `(tactic| repeat' (first
  | exact ev_var rfl | exact ev_c | exact ea_nil | apply ea_cons | exact rv_I0 | apply ev_op | apply ev_cb | apply ev_un | exact ru_neg
  | exact rc_isiInt | exact rc_isiBool | exact rc_isiStr))
section
variable {P : Program} {w : World} {K : PySem.W.Frag} {mg : Str → Option Value} {base : Heap}
variable {σ : L2.St} {H H' : Hp} {ta tb te to ti : TE} {tA : TA} {tz : TS} {v : V} {D : Ends} {a : Addr}
theorem blw_map {n : Nat} : ∀ {xs : List V}, (∀ x ∈ xs, Blw n x) → ∃ ds : List Nat, xs = ds.map nV ∧ ∀ d ∈ ds, d < n
  | [], _ => ⟨[], rfl, fun _ h => nomatch h⟩
  | x :: xs, h => by
    obtain ⟨ds, r1, r2⟩ := blw_map (xs := xs) fun y hy => h y (.tail _ hy)
    obtain ⟨d, q, hd⟩ := h x (.head _)
    exact ⟨d :: ds, by rw [r1, q]; rfl, fun y hy => by
      cases hy with
      | head => exact hd
      | tail _ hy => exact r2 y hy⟩
/-- where the draws are nought -/
def zeros (ds : List Nat) : List Nat := (List.range ds.length).filter fun k => decide (V.int (ds.getD k 0 : Nat) = V.int 0)
theorem asc_zeros (ds : List Nat) : Asc ds.length (zeros ds) := ⟨List.pairwise_lt_range.filter _, fun k hk => List.mem_range.mp (List.mem_filter.mp hk).1⟩
theorem el_zeros {b : Addr} {ds : List Nat} {i j : Nat} {vs : List Nat} (hA : EvA tA σ H [.int ds.length]) (hz : ds.length ≤ 1000) (hb : H b = some (.lst (ds.map nV))) (hw : ∀ x, wipe ((wipe σ vs).set j (some x)) vs = wipe σ vs) (hj : ∀ x, ((wipe σ vs).set j (some x))[j]? = some (some x))
    (hi : ∀ x, ((wipe σ vs).set j (some x))[i]? = some (some (.ref b))) : EvL (tLc (iRng1 tA) (gName j) (tTest (tOp rEq (tOp (rIxL K) (tVar i) (tVar j)) (tC (.int 0)))) (tVar j) vs) σ H ((zeros ds).map nV) :=
  el_comp (fun k => decide (V.int (ds.getD k 0 : Nat) = V.int 0)) nV (ei_R1 hA (by omega)) (by omega) fun k x H1 e hk hx => by
    subst hx
    refine ⟨_, eg_name, hw _, et_test (ev_op (ev_op (ev_var (hi _)) (ev_var (hj _)) (rv_ixL (v := .int (ds.getD k 0 : Nat)) (sq_of (e _ _ hb)) (at_of rfl ?_))) ev_c (rv_eq rfl)), fun _ => ev_var (hj _)⟩
    rw [List.getElem?_map, List.getElem?_eq_getElem hk, List.getD_eq_getElem?_getD, List.getElem?_eq_getElem hk]
    rfl
theorem dp_nums {K : PySem.W.Frag} {q : Addr} {ns : List Nat} (h : H q = some (.lst (ns.map nV))) : Dp K H (.ref q) (.list (ns.map intD)) := .lst (sq_of h) (dp_map fun k _ => .int _)
theorem sh_nums (ns : List Nat) : SeqAt.shaped (.list (ns.map intD)) = true := (sh_lst (n := 0) fun d hd => by
  obtain ⟨k, _, rfl⟩ := List.mem_map.mp hd
  exact sh_int).ok (by decide)
/-- xs != [] -/
theorem ev_some {q : Addr} {ns : List Nat} {i : Nat} (hq : H q = some (.lst (ns.map nV))) (s : σ[i]? = some (some (.ref q))) : Ev (tOp (rNeD K) (tVar i) (tLst tNil)) σ H (.bl (!decide (ns = []))) :=
  ev_opL (ev_var s) (el_lst ea_nil (by decide)) fun p H1 hp e => fun H2 e2 Q k => ⟨.list (ns.map intD), .list ([].map intD), dp_nums ((e.trans e2) _ _ hq), dp_nums (ns := []) (e2 _ _ hp), sh_nums ns, sh_nums [], by
    have z : PyData.eqv (.list (ns.map intD)) (.list (([] : List Nat).map intD)) = decide (ns = []) := by cases ns <;> simp [PyData.eqv, PyData.eqvAll]
    rw [z]
    exact k H2 (Ex.refl H2)⟩
/-- those of the first m that a list of draws picks -/
def sp_some : Sp := fun vs H Q _ => ∃ (a : Addr) (m : Nat), vs = [.ref a, .int m] ∧ 1 ≤ m ∧ m ≤ 100 ∧ Bar H a ∧ ∀ p H' ns, H p = none → Bar H' a → ExB a H H' → StT H' p ns → Asc m ns → Q (.ref p) H'
theorem ok_some (T : Tx K mg) : FnOk P w K mg base CX0 2 T.d__law_some.f T.d__law_some.fd ["_law_barrel_here", "_law_stands"] sp_some := by
  refine T.d__law_some.F.ok sc__law_some (fun vs H Q E h => ?_) (fun cdv A outer s H vs Q E hr h => ?_)
  · obtain ⟨p, q, rfl, _⟩ := h
    rfl
  · obtain ⟨a, m, rfl, m1, m2, hb, k⟩ := h
    refine ⟨_, (pss_cons (ps_set (i := 2) sc__law_some.nd rfl (Or.inr rfl) (pe_lc (own := [("_law_k", 3)]) (g := (gName 3)) rfl sc__law_some.nd (pi_range1 (by rfl) T.z_range (pa_cons (pv 1) pa_nil)) (blkOk_by (own := [("_law_k", 3)]) (N := ["_law_barrel_here", "_law_stands", "_law_drawn", "_law_k", "_law_found"]) (sc := defScope s__law_some) (by decide +kernel)) (fun _ _ _ _ _ => (pg_name (i := 3) sc__law_some.nd rfl (Or.inl rfl))) (fun _ _ _ _ _ => pts_nil) (fun _ _ _ _ _ => (pe_call (ok_dip T) (hr.mono (by decide)) rfl T.d__law_dip.g T.d__law_dip.F.kp T.d__law_dip.b .nil pass0 (pa_cons (pv 0) (pa_cons pe_int pa_nil))))))
      (pss_cons (ps_setLc (i := 4) (own := [("_law_k", 3)]) (g := (gName 3)) rfl sc__law_some.nd rfl rfl (sw_true rfl rfl rfl (by decide +kernel)) (pi_range1 (by rfl) T.z_range (pa_cons (pv 1) pa_nil)) (blkOk_by (own := [("_law_k", 3)]) (N := ["_law_barrel_here", "_law_stands", "_law_drawn", "_law_k", "_law_found"]) (sc := defScope s__law_some) (by decide +kernel)) (fun _ _ _ _ _ => (pg_name (i := 3) sc__law_some.nd rfl (Or.inl rfl))) (fun _ _ _ _ _ => (pts_one (pt_cmpR op_eq (pe_ix (k_ixL K) (pv 2) (pv 3) (fun _ _ => rfl)) pe_int (nomark _)))) (fun _ _ _ _ _ => (pv 3)))
      (pss_one (ps_ret (pe_ifExp (PW.pt (pw_or (pt_cmpR (k_neD K hr.units) (pv 4) (pe_lst pa_nil) (nomark _)) (pw_or1 (pt_cmpR op_eq (pe_call (ok_dip T) (hr.mono (by decide)) rfl T.d__law_dip.g T.d__law_dip.F.kp T.d__law_dip.b .nil pass0 (pa_cons (pv 0) (pa_cons pe_int pa_nil))) pe_int (nomark _))))) (pe_callTy (k_tuple K) (by rfl) T.z_tuple (by decide +kernel) (pa_cons (pv 4) pa_nil)) (pe_tup (pa_cons (pe_call (ok_dip T) (hr.mono (by decide)) rfl T.d__law_dip.g T.d__law_dip.F.kp T.d__law_dip.b .nil pass0 (pa_cons (pv 0) (pa_cons (pv 1) pa_nil))) pa_nil))))))), ?_⟩
    refine q_asgBL (p := fun xs => xs.length = m ∧ ∀ x ∈ xs, Blw 2 x) (ebl_lcR (n := m) (fun H1 _ => ea_cons (ev_var rfl) ea_nil) (by omega) (fun _ => rfl) fun i hi => eb_dip (n := 2) rfl (eb_v fun H1 _ => ev_c) (by decide) (by decide)) hb fun l H2 xs hl e2 b2 h2 ⟨hx1, hx2⟩ => ?_
    obtain ⟨ds, rfl, hd'⟩ := blw_map hx2
    rw [List.length_map] at hx1
    subst hx1
    refine q_asgL (el_zeros (ds := ds) (ea_cons (ev_var rfl) ea_nil) (by omega) h2 (fun _ => rfl) (fun _ => rfl) (fun _ => rfl)) fun q H3 hq e3 h3 => ?_
    have b3 := b2.ex e3
    have hqa : q ≠ a := (b2.ne hq).symm
    have x3 : ExB a H H3 := e2.trans (Ex.exb e3)
    have hp0 : ∀ H', ExB a H H' → Bar H' a → ∀ p, H' p = none → H p = none := fun H' e b p h => exb_fresh e hb h b
    refine et_test (ev_some h3 rfl) H3 (Ex.refl H3) _ fun H4 e4 => ?_
    have b4 := b3.ex e4
    have x4 : ExB a H H4 := x3.trans (Ex.exb e4)
    have fin1 : ∀ H5, ExB a H4 H5 → Bar H5 a → (tCB (rTupQ K) (tCons (tVar 4) tNil)) [some (.ref a), some (.int ds.length), some (.ref l), none, some (.ref q)] H5 Q := fun H5 e5 b5 =>
      eu_tupleOf (ev_var rfl) (e5 _ _ hqa (e4 _ _ h3)) H5 (Ex.refl H5) _ fun p H6 hp e6 h6 => k p H6 (zeros ds) (hp0 H5 (x4.trans e5) b5 p hp) (b5.ex e6) ((x4.trans e5).trans (Ex.exb e6)) h6 (asc_zeros ds)
    by_cases hz : zeros ds = []
    · rw [decide_eq_true hz]
      show (tTest (tOp rEq (tCall sp_dip [] E0 (tCons (tVar 0) (tCons (tC (.int (5 : Nat))) tNil))) (tC (.int (0 : Nat))))) _ H4 _
      refine (eb_op (p := Blw 5) (q := fun v => v = .int (0 : Nat)) (r := fun v => ∃ c, v = .bl c) (eb_dip (n := 5) rfl (eb_v fun _ _ => ev_c) (by decide) (by decide)) (eb_v fun _ _ => ev_c) fun x y H1 _ ⟨d, q1, _⟩ q2 => ?_) H4 ExB.refl b4 _ fun v H5 e5 b5 ⟨c, hc⟩ => ⟨c, hc, ?_⟩
      · subst q1 q2
        exact ⟨_, rv_eq rfl, _, rfl⟩
      · cases c with
        | true => exact fin1 H5 e5 b5
        | false =>
          have hd : EvBs (tCons (tCall sp_dip [] E0 (tCons (tVar 0) (tCons (tVar 1) tNil))) tNil) [some (.ref a), some (.int ds.length), some (.ref l), none, some (.ref q)] H4 a (fun vs _ => ∃ v us, vs = v :: us ∧ Blw ds.length v ∧ us = []) := ebs_cons (p := Blw ds.length) (eb_dip (n := ds.length) rfl (eb_v fun _ _ => ev_var rfl) (by omega) (by omega)) ebs_nil
          have fin2 : (tTup (tCons (tCall sp_dip [] E0 (tCons (tVar 0) (tCons (tVar 1) tNil))) tNil)) [some (.ref a), some (.int ds.length), some (.ref l), none, some (.ref q)] H5 Q := hd H5 e5 b5 _ fun vs H6 e6 b6 ⟨v, us, q1, ⟨d, q2, hd⟩, q3⟩ => by
            subst q1 q2 q3
            exact ⟨sz_of (by show 1 ≤ 100000; decide), fun p hp => k p _ [d] (hp0 H6 ((x4.trans e5).trans e6) b6 p hp) (b6.upd (b6.ne hp)) (exb_mut ((x4.trans e5).trans e6) (hp0 H6 ((x4.trans e5).trans e6) b6 p hp)) upd_same ⟨List.pairwise_singleton _ _, fun x hx => by rw [List.mem_singleton.mp hx]; exact hd⟩⟩
          exact fin2
    · rw [decide_eq_false hz]
      exact fin1 H4 ExB.refl b4
def sp_ends_for : Sp := fun vs H Q _ => ∃ (a : Addr) (m : Nat), vs = [.ref a, .int m] ∧ 1 ≤ m ∧ m ≤ 100 ∧ Bar H a ∧ ∀ p H' ns, H p = none → Bar H' a → ExB a H H' → StT H' p ns → Asc m ns → Q (.ref p) H'
theorem ok_ends_for (T : Tx K mg) : FnOk P w K mg base CX0 3 T.d__law_ends_for.f T.d__law_ends_for.fd ["_law_barrel_here", "_law_stands"] sp_ends_for := by
  refine T.d__law_ends_for.F.ok sc__law_ends_for (fun vs H Q E h => ?_) (fun cdv A outer s H vs Q E hr h => ?_)
  · obtain ⟨p, q, rfl, _⟩ := h
    rfl
  · obtain ⟨a, m, rfl, m1, m2, hb, k⟩ := h
    refine ⟨_, (pss_cons (ps_set (i := 2) sc__law_ends_for.nd rfl (Or.inr rfl) (pe_call (ok_one_of T) (hr.mono (by decide)) rfl T.d__law_one_of.g T.d__law_one_of.F.kp T.d__law_one_of.b .nil pass0 (pa_cons (pv 0) (pa_cons (pe_lst (pa_cons pe_int (pa_cons pe_int (pa_cons pe_int (pa_cons pe_int pa_nil))))) pa_nil))))
      (pss_cons (ps_set (i := 3) sc__law_ends_for.nd rfl (Or.inr rfl) (pe_lc (own := [("_law_k", 4)]) (g := (gName 4)) rfl sc__law_ends_for.nd (pi_range1 (by rfl) T.z_range (pa_cons (pv 1) pa_nil)) (blkOk_by (own := [("_law_k", 4)]) (N := ["_law_barrel_here", "_law_stands", "_law_often", "_law_drawn", "_law_k"]) (sc := defScope s__law_ends_for) (by decide +kernel)) (fun _ _ _ _ _ => (pg_name (i := 4) sc__law_ends_for.nd rfl (Or.inl rfl))) (fun _ _ _ _ _ => pts_nil) (fun _ _ _ _ _ => (pe_call (ok_dip T) (hr.mono (by decide)) rfl T.d__law_dip.g T.d__law_dip.F.kp T.d__law_dip.b .nil pass0 (pa_cons (pv 0) (pa_cons (pv 2) pa_nil))))))
      (pss_one (ps_ret (pe_callTy (k_tuple K) (by rfl) T.z_tuple (by decide +kernel) (pa_cons (pe_lc (own := [("_law_k", 4)]) (g := (gName 4)) rfl sc__law_ends_for.nd (pi_range1 (by rfl) T.z_range (pa_cons (pv 1) pa_nil)) (blkOk_by (own := [("_law_k", 4)]) (N := ["_law_barrel_here", "_law_stands", "_law_often", "_law_drawn", "_law_k"]) (sc := defScope s__law_ends_for) (by decide +kernel)) (fun _ _ _ _ _ => (pg_name (i := 4) sc__law_ends_for.nd rfl (Or.inl rfl))) (fun _ _ _ _ _ => (pts_one (pt_cmpR op_eq (pe_ix (k_ixL K) (pv 3) (pv 4) (fun _ _ => rfl)) pe_int (nomark _)))) (fun _ _ _ _ _ => (pv 4))) pa_nil)))))), ?_⟩
    refine q_asgB (p := fun v _ => ∃ d, d ∈ [2, 2, 3, 9] ∧ v = .int (d : Nat)) (eb_one_of (ms := [2, 2, 3, 9]) rfl (fun H1 _ => ea_cons ev_c (ea_cons ev_c (ea_cons ev_c (ea_cons ev_c ea_nil)))) (by decide) (by decide)) hb fun v H1 e1 b1 ⟨d, hd, q⟩ => ?_
    subst q
    have d0 : 0 < d ∧ d < 10 := by
      simp only [List.mem_cons, List.not_mem_nil, or_false] at hd
      omega
    refine q_asgBL (p := fun xs => xs.length = m ∧ ∀ x ∈ xs, Blw d x) (ebl_lcR (n := m) (fun H1 _ => ea_cons (ev_var rfl) ea_nil) (by omega) (fun _ => rfl) fun i hi => eb_dip (n := d) rfl (eb_v fun H1 _ => ev_var rfl) d0.1 (by omega)) b1 fun l H2 xs hl e2 b2 h2 ⟨hx1, hx2⟩ => ?_
    obtain ⟨ds, rfl, hd'⟩ := blw_map hx2
    rw [List.length_map] at hx1
    subst hx1
    refine s_retU (eu_tupleOfL (el_zeros (ds := ds) (ea_cons (ev_var rfl) ea_nil) (by omega) h2 (fun _ => rfl) (fun _ => rfl) (fun _ => rfl))) fun p H3 hp e3 h3 => ?_
    exact k p H3 (zeros ds) (exb_fresh (e1.trans e2) hb hp b2) (b2.ex e3) ((e1.trans e2).trans (Ex.exb e3)) h3 (asc_zeros ds)
end
end K14
set_option maxHeartbeats 4000000
namespace K14
open PySem L2 Evl
local macro_rules | `(tactic| walk_at "ev") => `(tactic| repeat' (first
  | exact ev_var rfl | exact ev_c | exact ea_nil | apply ea_cons | exact rv_I0 | apply ev_op | apply ev_cb | apply ev_un | exact ru_neg
  | exact rc_isiInt | exact rc_isiBool | exact rc_isiStr))
section
variable {P : Program} {w : World} {K : PySem.W.Frag} {mg : Str → Option Value} {base : Heap}
variable {σ : L2.St} {H H' : Hp} {ta tb te to ti : TE} {tA : TA} {tz : TS} {v : V} {D : Ends} {a : Addr}
/-- two drawn numbers in a list -/
def PairAt (m : Nat) (H : Hp) (q : Addr) : Prop := ∃ x y : Nat, y < m ∧ H q = some (.lst [.int x, .int y])
/-- a list of such pairs -/
theorem ebl_pairs {j n m : Nat} {vs : List Nat} (hb : Bar H a) (h : ∀ H1, ExB a H H1 → EvA tA σ H1 [.int n]) (hn : n ≤ 1000) (hw : ∀ x, wipe ((wipe σ vs).set j (some x)) vs = wipe σ vs)
    (he : ∀ i, i < n → EvBL te ((wipe σ vs).set j (some (.int (i : Nat)))) H a (fun xs => ∃ x y : Nat, y < m ∧ xs = [.int x, .int y])) {Q : VK}
    (k : ∀ l H2 (qs : List Addr), H l = none → ExB a H H2 → Bar H2 a → H2 l = some (.lst (qs.map V.ref)) → qs.length = n → (∀ q ∈ qs, PairAt m H2 q) → Q (.ref l) H2) : tLc (iRng1 tA) (gName j) tYes te vs σ H Q :=
  h H ExB.refl H (Ex.refl H) _ fun H1 e1 => ⟨n, rfl, by omega, by omega, fun D hD =>
    have b1 : Bar H1 a := Bar.ex hb e1
    lc_range (lo := 0) (n := n) (fun i H' => ExB a H1 H' ∧ Bar H' a ∧ ∃ qs, H' D = some (.lst (qs.map V.ref)) ∧ qs.length = i ∧ ∀ q ∈ qs, q ≠ D ∧ q ≠ a ∧ PairAt m H' q)
      ⟨exb_mut ExB.refl hD, Bar.upd b1 (Bar.ne b1 hD), [], upd_same, rfl, fun _ h => nomatch h⟩
      (fun i H2 hi ⟨x2, b2, qs, h2, hl, hx⟩ => by
        rw [Int.zero_add]
        refine ⟨hw _, he i hi H2 ((Ex.exb e1).trans x2) b2 _ fun l H3 xs h3 e3 b3 hl3 ⟨x, y, hy, q⟩ => ?_⟩
        have hne : D ≠ a := (Bar.ne b1 hD).symm
        have hlD : l ≠ D := fun q => by
          rw [q, h2] at h3
          cases h3
        refine ⟨qs.map V.ref, e3 _ _ hne h2, sz_lt (by rw [List.length_map]; omega), exb_mut (x2.trans e3) hD, b3.upd hne.symm, qs ++ [l], by rw [upd_same, List.map_append] <;> rfl, by rw [List.length_append, hl]; rfl, fun z hz => ?_⟩
        rcases List.mem_append.mp hz with r | r
        · obtain ⟨z1, z2, u, v, z3, z4⟩ := hx z r
          exact ⟨z1, z2, u, v, z3, by rw [upd_ne z1]; exact e3 _ _ z2 z4⟩
        · rw [List.mem_singleton.mp r]
          exact ⟨hlD, (b2.ne h3).symm, x, y, hy, by rw [upd_ne hlD, hl3, q]⟩) (fun H2 ⟨x2, b2, qs, h2, hl, hx⟩ => k D H2 qs (fresh_back e1 hD) ((Ex.exb e1).trans x2) b2 h2 hl fun q hq => (hx q hq).2.2)⟩
theorem q_asgTup2B {p : List V → Hp → Prop} {i j : Nat} (h : EvBs tA σ H a p) (b : Bar H a) (hp : ∀ vs H, p vs H → ∃ x y, vs = [x, y]) (k : ∀ x y H1 T, ExB a H H1 → Bar H1 a → p [x, y] H1 → H1 T = none → tz D ((σ.set i (some x)).set j (some y)) (upd H1 T (.tup [x, y]))) :
    tSeq (tAsg (tTup tA) (gTup K 2 (gCons (gName i) (gCons (gName j) gNil)))) tz D σ H := h H ExB.refl b _ fun vs H1 e b1 r => by
  obtain ⟨x, y, rfl⟩ := hp vs H1 r
  exact ⟨by show 2 ≤ sizeLine; decide, fun T hT => ⟨T, _, rfl, st_of upd_same, rfl, _, _, rfl, _, _, rfl, rfl, k x y H1 T e b1 r hT⟩⟩
theorem ebs_two {p : V → Prop} (hb : Bar H a) (h : EvB te σ H a (fun v _ => p v)) : EvBs (tCons te (tCons (tLst tNil) tNil)) σ H a (fun vs H' => ∃ v t, vs = [v, .ref t] ∧ p v ∧ t ≠ a ∧ H t = none ∧ H' t = some (.lst [])) := fun H1 e b Q q =>
  h H1 e b _ fun v H2 e2 b2 pv => el_lst (σ := σ) (H := H2) ea_nil (by decide) H2 (Ex.refl _) _ fun t H3 ht e3 h3 => q _ H3 (e2.trans (Ex.exb e3)) (b2.ex e3) ⟨v, t, rfl, pv, (Bar.ne b2 ht).symm, exb_fresh (e.trans e2) hb ht b2, h3⟩
theorem pairs_list {m : Nat} : ∀ {qs : List Addr}, (∀ q ∈ qs, PairAt m H q) → ∃ zs : List (Nat × Nat), zs.length = qs.length ∧ (∀ z ∈ zs, z.2 < m) ∧ ∀ (i : Nat) q z, qs[i]? = some q → zs[i]? = some z → H q = some (.lst [.int z.1, .int z.2])
  | [], _ => ⟨[], rfl, fun _ h => by simp at h, fun i q z h => by simp at h⟩
  | q :: qs, h => by
    obtain ⟨zs, h1, h2, h3⟩ := pairs_list (qs := qs) fun y hy => h y (.tail _ hy)
    obtain ⟨x, y, hy, e⟩ := h q (.head _)
    refine ⟨(x, y) :: zs, by rw [List.length_cons, List.length_cons, h1], fun z hz => ?_, fun i p z hp hz => ?_⟩
    · cases hz with
      | head => exact hy
      | tail _ hz => exact h2 z hz
    · cases i with
      | zero =>
        cases hp
        cases hz
        exact e
      | succ i => exact h3 i p z hp hz
def offO (z : Nat × Nat) : Option Nat := if z.1 = 0 then none else some z.2
theorem given_offs (zs : List (Nat × Nat)) : given zs.length (fun _ => true) (fun i => gV (offO (zs.getD i (0, 0)))) = (zs.map offO).map gV := by
  unfold given
  rw [List.filter_eq_self.mpr fun _ _ => rfl]
  refine List.ext_getElem (by simp) fun i h1 h2 => ?_
  rw [List.length_map, List.length_range] at h1
  simp [List.getD_eq_getElem?_getD, List.getElem?_eq_getElem h1]
/-- None where the first is nought, else the second -/
theorem el_offs {l : Addr} {qs : List Addr} {zs : List (Nat × Nat)} {i j : Nat} {vs : List Nat} (s : σ[i]? = some (some (.ref l))) (hl : H l = some (.lst (qs.map V.ref))) (hz : zs.length = qs.length) (hn : qs.length ≤ 1000) (hq : ∀ (i : Nat) q z, qs[i]? = some q → zs[i]? = some z → H q = some (.lst [.int z.1, .int z.2]))
    (hw : ∀ x, wipe ((wipe σ vs).set j (some x)) vs = wipe σ vs) (hj : ∀ x, ((wipe σ vs).set j (some x))[j]? = some (some x)) :
    EvL (tLc (iList K (tVar i)) (gName j) tYes (tIf (tTest (tOp rEq (tOp (rIxL K) (tVar j) (tC (.int 0))) (tC (.int 0)))) (tC .non) (tOp (rIxL K) (tVar j) (tC (.int 1)))) vs) σ H ((zs.map offO).map gV) := by
  rw [← given_offs, hz]
  have hI : EvI (iList K (tVar i)) σ H qs.length (fun i x _ => (qs.map V.ref)[i]? = some x) := by
    have := ei_L (K := K) (ev_var s) (sq_of hl)
    rw [List.length_map] at this
    exact this
  refine el_comp (fun _ => true) _ hI (by omega) fun i x H1 e hi hx => ⟨_, eg_name, hw _, et_yes, fun _ => ?_⟩
  obtain ⟨q, hqi, rfl⟩ := get_map hx
  have hzi : i < zs.length := by omega
  have hp := e _ _ (hq i q zs[i] hqi (List.getElem?_eq_getElem hzi))
  rw [List.getD_eq_getElem?_getD, List.getElem?_eq_getElem hzi]
  have c0 : ∀ H2, Ex H1 H2 → Ev (tOp (rIxL K) (tVar j) (tC (.int 0))) ((wipe σ vs).set j (some (.ref q))) H2 (.int (zs[i].1 : Nat)) := fun H2 e2 => ev_op (ev_var (hj _)) ev_c (rv_ixL (sq_of (e2 _ _ hp)) (at_of (j := 0) rfl rfl))
  have c1 : Ev (tOp (rIxL K) (tVar j) (tC (.int 1))) ((wipe σ vs).set j (some (.ref q))) H1 (.int (zs[i].2 : Nat)) := ev_op (ev_var (hj _)) ev_c (rv_ixL (sq_of hp) (at_of (j := 1) rfl rfl))
  refine ev_if (et_test (ev_op (c0 H1 (Ex.refl H1)) ev_c (rv_eq rfl))) (fun h => ev_is ev_c ?_) (fun h => ev_is c1 ?_)
  · have z : zs[i].1 = 0 := by
      have := of_decide_eq_true h
      injection this with this
      omega
    show _ = gV (offO zs[i])
    rw [offO, if_pos z]
    rfl
  · have z : zs[i].1 ≠ 0 := fun c => by
      rw [c] at h
      exact absurd h (by decide)
    show _ = gV (offO zs[i])
    rw [offO, if_neg z]
    rfl
theorem q_pairs {j n m i : Nat} {vs : List Nat} (hb : Bar H a) (h : ∀ H1, ExB a H H1 → EvA tA σ H1 [.int n]) (hn : n ≤ 1000) (hw : ∀ x, wipe ((wipe σ vs).set j (some x)) vs = wipe σ vs)
    (he : ∀ i, i < n → EvBL te ((wipe σ vs).set j (some (.int (i : Nat)))) H a (fun xs => ∃ x y : Nat, y < m ∧ xs = [.int x, .int y]))
    (k : ∀ l H2 (qs : List Addr), H l = none → ExB a H H2 → Bar H2 a → H2 l = some (.lst (qs.map V.ref)) → qs.length = n → (∀ q ∈ qs, PairAt m H2 q) → tz D (σ.set i (some (.ref l))) H2) : tSeq (tAsg (tLc (iRng1 tA) (gName j) tYes te vs) (gName i)) tz D σ H :=
  ebl_pairs (Q := fun x H2 => tz D (σ.set i (some x)) H2) hb h hn hw he k
def sp_arrows_for : Sp := fun vs H Q _ => ∃ (a : Addr) (n m : Nat), vs = [.ref a, .int n, .int m] ∧ 1 ≤ n ∧ n ≤ 8 ∧ 1 ≤ m ∧ m ≤ 50 ∧ Bar H a ∧ ∀ p H' arr, H p = none → Bar H' a → ExB a H H' → ArrT H' p arr → Wf n arr → arr.length = m → Q (.ref p) H'
theorem ok_arrows_for (T : Tx K mg) : FnOk P w K mg base CX0 3 T.d__law_arrows_for.f T.d__law_arrows_for.fd ["_law_barrel_here", "_law_width", "_law_stands"] sp_arrows_for := by
  refine T.d__law_arrows_for.F.ok sc__law_arrows_for (fun vs H Q E h => ?_) (fun cdv A outer s H vs Q E hr h => ?_)
  · obtain ⟨a, n, m, rfl, _⟩ := h
    rfl
  · obtain ⟨a, n, m, rfl, n1, n2, m1, m2, hb, k⟩ := h
    refine ⟨_, (pss_cons (ps_asg (pe_tup (pa_cons (pe_call (ok_one_of T) (hr.mono (by decide)) rfl T.d__law_one_of.g T.d__law_one_of.F.kp T.d__law_one_of.b .nil pass0 (pa_cons (pv 0) (pa_cons (pe_lst (pa_cons pe_int (pa_cons pe_int (pa_cons pe_int pa_nil)))) pa_nil))) (pa_cons (pe_lst pa_nil) pa_nil))) (k_tup (n := 2) K rfl (pgs_cons (pg_name (i := 3) sc__law_arrows_for.nd rfl (Or.inr rfl)) (pgs_cons (pg_name (i := 4) sc__law_arrows_for.nd rfl (Or.inl rfl)) pgs_nil))))
      (pss_cons (ps_for PassesOwn.never rfl (pi_range1 (by rfl) T.z_range (pa_cons (pv 2) pa_nil)) (pg_name (i := 5) sc__law_arrows_for.nd rfl (Or.inl rfl)) (pss_cons (ps_setLc (i := 6) (own := [("_law_j", 7)]) (g := (gName 7)) rfl sc__law_arrows_for.nd rfl rfl (sw_true rfl rfl rfl (by decide +kernel)) (pi_range1 (by rfl) T.z_range (pa_cons (pv 1) pa_nil)) (blkOk_by (own := [("_law_j", 7)]) (N := ["_law_barrel_here", "_law_width", "_law_stands", "_law_bare", "_law_table", "_law_k", "_law_drawn", "_law_j", "_law_two"]) (sc := defScope s__law_arrows_for) (by decide +kernel)) (fun _ _ _ _ _ => (pg_name (i := 7) sc__law_arrows_for.nd rfl (Or.inl rfl))) (fun _ _ _ _ _ => pts_nil) (fun _ _ _ _ _ => (pe_lst (pa_cons (pe_call (ok_dip T) (hr.mono (by decide)) rfl T.d__law_dip.g T.d__law_dip.F.kp T.d__law_dip.b .nil pass0 (pa_cons (pv 0) (pa_cons (pv 3) pa_nil))) (pa_cons (pe_call (ok_dip T) (hr.mono (by decide)) rfl T.d__law_dip.g T.d__law_dip.F.kp T.d__law_dip.b .nil pass0 (pa_cons (pv 0) (pa_cons (pv 2) pa_nil))) pa_nil)))))
      (pss_one (ps_expr (pe_bm PySem.F.plainAttrs_list PySem.F.slot_list_append PySem.F.type_list_append mt_append (pv 4) (pa_cons (pe_callTy (k_tuple K) (by rfl) T.z_tuple (by decide +kernel) (pa_cons (pe_lc (own := [("_law_two", 8)]) (g := (gName 8)) rfl sc__law_arrows_for.nd (k_piL K (pv 6)) (blkOk_by (own := [("_law_two", 8)]) (N := ["_law_barrel_here", "_law_width", "_law_stands", "_law_bare", "_law_table", "_law_k", "_law_drawn", "_law_j", "_law_two"]) (sc := defScope s__law_arrows_for) (by decide +kernel)) (fun _ _ _ _ _ => (pg_name (i := 8) sc__law_arrows_for.nd rfl (Or.inl rfl))) (fun _ _ _ _ _ => pts_nil) (fun _ _ _ _ _ => (pe_ifExp (pt_cmpR op_eq (pe_ix (k_ixL K) (pv 8) pe_int (fun _ _ => rfl)) pe_int (nomark _)) pe_non (pe_ix (k_ixL K) (pv 8) pe_int (fun _ _ => rfl))))) pa_nil)) pa_nil))))))
      (pss_one (ps_ret (pe_callTy (k_tuple K) (by rfl) T.z_tuple (by decide +kernel) (pa_cons (pv 4) pa_nil)))))), ?_⟩
    refine q_asgTup2B (ebs_two (p := fun v => ∃ d, d ∈ [3, 6, 1000] ∧ v = .int (d : Nat)) hb (eb_one_of (ms := [3, 6, 1000]) rfl (fun H1 _ => ea_cons ev_c (ea_cons ev_c (ea_cons ev_c ea_nil))) (by decide) (by decide))) hb (fun vs H ⟨v, t, q, _⟩ => ⟨_, _, q⟩) fun x y H1 T e1 b1 ⟨v, t, q, ⟨d, hd, hv⟩, hta, htn, ht⟩ hT => ?_
    cases q
    subst hv
    have d0 : 0 < d ∧ d < 1001 := by
      simp only [List.mem_cons, List.not_mem_nil, or_false] at hd
      omega
    have hTt : t ≠ T := fun q => by
      rw [q, hT] at ht
      cases ht
    let Inv : Nat → L2.St → Hp → Prop := fun i σ' H' => (∃ g5 g6 g7 g8, σ' = [some (.ref a), some (.int n), some (.int m), some (.int d), some (.ref t), g5, g6, g7, g8]) ∧ Bar H' a ∧ ExB a H H' ∧ ∃ (ps : List Addr) (arr : List (List (Option Nat))), H' t = some (.lst (ps.map V.ref)) ∧ ps.length = i ∧ arr.length = i ∧
      (∀ (j : Nat) p r, ps[j]? = some p → arr[j]? = some r → H' p = some (.tup (r.map gV))) ∧ ∀ r ∈ arr, r.length = n ∧ ∀ g, some g ∈ r → g < m
    refine q_forR1 (ea_cons (ev_var rfl) ea_nil) ⟨by omega, by omega⟩ Inv (fun H2 e2 => ?_) (fun i σ' H2 hi I => ?_) (fun σ' H2 I => ?_)
    · refine ⟨⟨none, none, none, none, rfl⟩, (b1.upd (Bar.ne b1 hT)).ex e2, (e1.trans (Ex.exb (Ex.new hT))).trans (Ex.exb e2), [], [], ?_, rfl, rfl, (fun j p r h => by simp at h), (fun r h => by simp at h)⟩
      exact e2 _ _ (by rw [upd_ne hTt]; exact ht)
    · obtain ⟨⟨g5, g6, g7, g8, rfl⟩, b2, x2, ps, arr, h2, hpl, hal, hrow, hw⟩ := I
      refine q_pairs (n := n) (m := m) b2 (fun H1 _ => ea_cons (ev_var rfl) ea_nil) (by omega) (fun _ => rfl) (fun i hi => ?_) fun l H3 qs hl e3 b3 hl3 hql hqs => ?_
      · refine ebl_lst (p := fun xs => ∃ x y : Nat, y < m ∧ xs = [.int x, .int y]) ?_ (fun vs ⟨x, y, _, q⟩ => by rw [q]; show 2 ≤ 1000; decide)
        have hd : ∀ σ' : L2.St, σ'[0]? = some (some (.ref a)) → σ'[3]? = some (some (.int d)) → σ'[2]? = some (some (.int m)) → EvBs (tCons (tCall sp_dip [] E0 (tCons (tVar 0) (tCons (tVar 3) tNil))) (tCons (tCall sp_dip [] E0 (tCons (tVar 0) (tCons (tVar 2) tNil))) tNil)) σ' H2 a (fun xs _ => ∃ x y : Nat, y < m ∧ xs = [.int x, .int y]) := fun σ' s0 s3 s2 H1 e b Q q =>
          (ebs_cons (p := Blw d) (eb_dip (n := d) s0 (eb_v fun _ _ => ev_var s3) d0.1 (by omega)) (ebs_cons (p := Blw m) (eb_dip (n := m) s0 (eb_v fun _ _ => ev_var s2) (by omega) (by omega)) ebs_nil)) H1 e b _ fun vs H2 e2 b2 ⟨v, us, q1, ⟨x, q2, _⟩, w, zs, q3, ⟨y, q4, hy⟩, q5⟩ => q vs H2 e2 b2 ⟨x, y, hy, by rw [q1, q2, q3, q4, q5]⟩
        exact hd _ rfl rfl rfl
      · obtain ⟨zs, z1, z2, z3⟩ := pairs_list hqs
        refine s_appU (ys := (zs.map offO).map gV) (e3 _ _ hta h2) (ev_var rfl) (eu_tupleOfL (el_offs (zs := zs) rfl hl3 z1 (by omega) z3 (fun _ => rfl) (fun _ => rfl))) (by rw [List.length_map]; omega) fun p H4 hp e4 h4 => ?_
        have ht4 : H4 t = some (.lst (ps.map V.ref)) := e4 _ _ (e3 _ _ hta h2)
        have b4 := b3.ex e4
        refine ⟨⟨_, _, _, _, rfl⟩, b4.upd hta.symm, exb_mut ((x2.trans e3).trans (Ex.exb e4)) htn, ps ++ [p], arr ++ [zs.map offO], by rw [upd_same, List.map_append] <;> rfl, by rw [List.length_append, hpl] <;> rfl, by rw [List.length_append, hal] <;> rfl, fun j p' r hj hr' => ?_, fun r hr' => ?_⟩
        · have fin : ∀ ys : List V, H4 p' = some (.tup ys) → (upd H4 t (.lst (ps.map V.ref ++ [.ref p]))) p' = some (.tup ys) := fun ys h => by
            rw [upd_ne (fun q => by rw [q, ht4] at h; cases h)]
            exact h
          rcases Nat.lt_or_ge j i with hji | hji
          · rw [List.getElem?_append_left (by omega)] at hj hr'
            have h5 := hrow j p' r hj hr'
            have hpa : p' ≠ a := fun q => by
              obtain ⟨_, _, _, h6⟩ := b2
              rw [q, h6] at h5
              cases h5
            exact fin _ (e4 _ _ (e3 _ _ hpa h5))
          · rw [List.getElem?_append_right (by omega)] at hj hr'
            rw [hpl] at hj
            rw [hal] at hr'
            have hj0 : j - i = 0 := by
              have := (List.getElem?_eq_some_iff.mp hj).1
              simp at this
              omega
            rw [hj0] at hj hr'
            cases hj
            cases hr'
            exact fin _ h4
        · rcases List.mem_append.mp hr' with z | z
          · exact hw r z
          · rw [List.mem_singleton.mp z]
            refine ⟨by rw [List.length_map]; omega, fun g hg => ?_⟩
            obtain ⟨y, hy, q⟩ := List.mem_map.mp hg
            unfold offO at q
            split at q
            · cases q
            · cases q
              exact z2 y hy
    · obtain ⟨⟨g5, g6, g7, g8, rfl⟩, b2, x2, ps, arr, h2, hpl, hal, hrow, hw⟩ := I
      rw [Int.toNat_natCast] at hpl hal
      refine s_retU (eu_tupleOf (ev_var rfl) h2) fun p H3 hp e3 h3 => ?_
      refine k p H3 arr (exb_fresh x2 hb hp b2) (b2.ex e3) (x2.trans (Ex.exb e3)) ⟨ps, h3, by omega, fun j p r a b => e3 _ _ (hrow j p r a b)⟩ ⟨by omega, fun r hr => (hw r hr).1, fun r hr g hg => by rw [hal]; exact (hw r hr).2 g hg⟩ hal
end
end K14
set_option maxHeartbeats 4000000
namespace K14
open PySem L2 Evl
local macro_rules | `(tactic| walk_at "ev") => `(tactic| repeat' (first
  | exact ev_var rfl | exact ev_c | exact ea_nil | apply ea_cons | exact rv_I0 | apply ev_op | apply ev_cb | apply ev_un | exact ru_neg
  | exact rc_isiInt | exact rc_isiBool | exact rc_isiStr))
section
variable {P : Program} {w : World} {K : PySem.W.Frag} {mg : Str → Option Value} {base : Heap}
variable {σ : L2.St} {H H' : Hp} {ta tb te to ti : TE} {tA : TA} {tz : TS} {v : V} {D : Ends} {a : Addr}
theorem rc_abs {i : Int} : RC (fun xs H (Q : VK) => ∃ i, xs = [V.int i] ∧ Q (.int (if i < 0 then -i else i)) H) [.int i] H (.int (if i < 0 then -i else i)) := fun H1 _ _ q => ⟨i, rfl, q H1 (Ex.refl H1)⟩
theorem mem_cutV {xs : List V} {lo hi : Option Int} {v : V} (h : v ∈ cutV xs lo hi) : v ∈ xs := by
  unfold cutV at h
  first | exact List.mem_of_mem_drop (List.mem_of_mem_take h) | exact List.mem_of_mem_take (List.mem_of_mem_drop h)
def sp_barrel (K : PySem.W.Frag) : Sp := fun vs H Q _ => ∃ (l : Addr) (is : List Int) (k : Nat), vs = [.ref l, .int k] ∧ SqL K H l (is.map V.int) ∧ is.length ≤ 1000 ∧ ∀ p H', H p = none → Ex H H' → Bar H' p → Q (.ref p) H'
theorem ok_barrel (T : Tx K mg) : FnOk P w K mg base CX0 1 T.d__law_barrel.f T.d__law_barrel.fd ["_law_script", "_law_turn"] (sp_barrel K) := by
  refine T.d__law_barrel.F.ok sc__law_barrel (fun vs H Q E h => ?_) (fun cdv A outer s H vs Q E hr h => ?_)
  · obtain ⟨a, n, m, rfl, _⟩ := h
    rfl
  · obtain ⟨l, is, m, rfl, hl, hz, k⟩ := h
    refine ⟨_, (pss_cons (ps_set (i := 2) sc__law_barrel.nd rfl (Or.inl rfl) (pe_ifExp (pt_cmpR op_lt (pv 1) (pe_callB (k_len K) (by rfl) T.z_len (by decide +kernel) (pa_cons (pv 0) pa_nil)) (nomark _)) (pe_callTy call_int1 (by rfl) T.z_int (by decide +kernel) (pa_cons (pe_ix (k_ixL K) (pv 0) (pv 1) (fun _ _ => rfl)) pa_nil)) (pe_op op_add (pe_op op_mul pe_int (pv 1)) pe_int)))
      (pss_cons (ps_set (i := 3) sc__law_barrel.nd rfl (Or.inl rfl) (pe_op op_add pe_int (pe_op op_mul pe_int (pv 1))))
      (pss_cons (ps_for PassesOwn.never rfl (k_piL K (pe_slice (k_slL K) (pv 0) po_none (po_some pe_int))) (pg_name (i := 4) sc__law_barrel.nd rfl (Or.inl rfl)) (pss_one (ps_set (i := 3) sc__law_barrel.nd rfl (Or.inl rfl) (pe_op op_mod (pe_callTy call_int1 (by rfl) T.z_int (by decide +kernel) (pa_cons (pe_op op_add (pe_op op_add (pe_op op_mul (pv 3) pe_int) (pe_op op_mod (pe_callTy call_int1 (by rfl) T.z_int (by decide +kernel) (pa_cons (pv 4) pa_nil)) pe_int)) pe_int) pa_nil)) pe_int))))
      (pss_cons (ps_set (i := 5) sc__law_barrel.nd rfl (Or.inl rfl) (pe_ifExp (PW.pt (pw_or (pt_cmpR op_lt (pv 2) pe_int (nomark _)) (pw_or1 (pt_cmpR op_ge (pv 2) (pe_op op_pow pe_int pe_int) (nomark _))))) (pe_callB call_abs (by rfl) T.z_abs (by decide +kernel) (pa_cons (pv 2) pa_nil)) pe_int))
      (pss_one (ps_ret (pe_lst (pa_cons (pv 5) (pa_cons (pe_op op_mod (pe_callTy call_int1 (by rfl) T.z_int (by decide +kernel) (pa_cons (pe_op op_add (pv 3) (pe_op op_mul (pe_op op_mod (pv 2) pe_int) pe_int)) pa_nil)) pe_int) (pa_cons pe_int pa_nil)))))))))), ?_⟩
    have own : ∃ x : Int, Ev (tIf (tTest (tOp (rI0 fun i j => V.bl (decide (i < j))) (tVar 1) (tCB (rLenQ K) (tCons (tVar 0) tNil)))) (tCB (fun xs H Q => (∃ i, xs = [V.int i] ∧ Q (V.int i) H) ∨ ∃ k, xs = [V.bl k] ∧ Q (V.int (if k = true then 1 else 0)) H) (tCons (tOp (rIxL K) (tVar 0) (tVar 1)) tNil))
        (tOp (rI0 fun i j => V.int (i + j)) (tOp (rI CMul fun i j => V.int (i * j)) (tC (V.int 977)) (tVar 1)) (tC (V.int 60013)))) (L2.start ["_law_script", "_law_turn", "_law_own", "_law_stir", "_law_cell", "_law_figures"] [.ref l, .int m]) H (.int x) := by
      have hlen : Ev (tCB (rLenQ K) (tCons (tVar 0) tNil)) (L2.start ["_law_script", "_law_turn", "_law_own", "_law_stir", "_law_cell", "_law_figures"] [.ref l, .int m]) H (.int (is.length : Int)) := by
        have := ev_cb (ea_cons (ev_var (σ := L2.start ["_law_script", "_law_turn", "_law_own", "_law_stir", "_law_cell", "_law_figures"] [.ref l, .int m]) (i := 0) rfl) ea_nil) (rc_lenQ (K := K) (.inl hl))
        rw [List.length_map] at this
        exact this
      by_cases hm : m < is.length
      · refine ⟨is[m], ev_if (b := true) (et_test (ev_is (ev_op (ev_var rfl) hlen rv_I0) (by rw [decide_eq_true (by omega)]))) (fun _ => ev_cb (ea_cons (ev_op (ev_var rfl) (ev_var rfl) (rv_ixL hl (at_of (j := m) rfl ?_))) ea_nil) rc_i1) (fun h => nomatch h)⟩
        rw [List.getElem?_map, List.getElem?_eq_getElem hm]
        rfl
      · exact ⟨977 * m + 60013, ev_if (b := false) (et_test (ev_is (ev_op (ev_var rfl) hlen rv_I0) (by rw [decide_eq_false (by omega)]))) (fun h => nomatch h) (fun _ => ev_op (ev_op ev_c (ev_var rfl) (rv_I (by left; decide))) ev_c rv_I0)⟩
    obtain ⟨x, hown⟩ := own
    refine q_asg hown fun H1 e1 => ?_
    refine q_asg (ev_op ev_c (ev_op ev_c (ev_var rfl) (rv_I (by left; decide))) rv_I0) fun H2 e2 => ?_
    have e12 := e1.trans e2
    let Inv : Addr → Nat → L2.St → Hp → Prop := fun p i σ' H' => Ex H H' ∧ H' p = some (.lst (cutV (is.map V.int) none (some 20))) ∧ ∃ (y : Int) (g : Option V), σ' = [some (.ref l), some (.int m), some (.int x), some (.int y), g, none]
    refine q_forNLn (xs := cutV (is.map V.int) none (some 20)) (el_sl (ev_var rfl) eo_none (eo_some ev_c) (ex_l e12 hl)) Inv (fun p H3 hp e3 h3 => ⟨e12.trans e3, h3, _, _, rfl⟩) (fun p i σ' H' hi I => sq_of I.2.1) (fun p i v σ' H' hv I => ?_) (fun p σ' H' I => ?_)
    · obtain ⟨e3, h3, y, g, rfl⟩ := I
      obtain ⟨c, _, rfl⟩ := List.mem_map.mp (mem_cutV (List.mem_of_getElem? hv))
      refine s_asg (ev_op (ev_cb (ea_cons (ev_op (ev_op (ev_op (ev_var rfl) ev_c (rv_I (by right; decide))) (ev_op (ev_cb (ea_cons (ev_var rfl) ea_nil) rc_i1) ev_c (rv_I (by decide))) rv_I0) ev_c rv_I0) ea_nil) rc_i1) ev_c (rv_I (by decide))) fun H4 e4 => ?_
      exact ⟨e3.trans e4, e4 _ _ h3, _, _, rfl⟩
    · obtain ⟨e3, h3, y, g, rfl⟩ := I
      have fig : ∃ z : Int, Ev (tIf (tOr (tTest (tOp (rI0 fun i j => V.bl (decide (i < j))) (tVar 2) (tC (V.int 0)))) (tTest (tOp (rI0 fun i j => V.bl (decide (j ≤ i))) (tVar 2) (tOp (rI CPow fun i j => V.int (i ^ j.toNat)) (tC (V.int 10)) (tC (V.int 16))))))
          (tCB (fun xs H Q => ∃ i, xs = [V.int i] ∧ Q (V.int (if i < 0 then -i else i)) H) (tCons (tVar 2) tNil)) (tC (V.int 0))) [some (.ref l), some (.int m), some (.int x), some (.int y), g, none] H' (.int z) := by
        have t : EvT (tOr (tTest (tOp (rI0 fun i j => V.bl (decide (i < j))) (tVar 2) (tC (V.int 0)))) (tTest (tOp (rI0 fun i j => V.bl (decide (j ≤ i))) (tVar 2) (tOp (rI CPow fun i j => V.int (i ^ j.toNat)) (tC (V.int 10)) (tC (V.int 16)))))) [some (.ref l), some (.int m), some (.int x), some (.int y), g, none] H' (decide (x < 0) || decide ((10 : Int) ^ (16 : Int).toNat ≤ x)) :=
          et_or (et_test (ev_op (ev_var rfl) ev_c rv_I0)) fun _ => et_test (ev_op (ev_var rfl) (ev_op ev_c ev_c (rv_I (by exact ⟨by decide, by decide, by decide⟩))) rv_I0)
        cases hb : (decide (x < 0) || decide ((10 : Int) ^ (16 : Int).toNat ≤ x)) with
        | true => exact ⟨_, ev_if t (fun _ => ev_cb (ea_cons (ev_var rfl) ea_nil) rc_abs) (fun h => by rw [hb] at h; cases h)⟩
        | false => exact ⟨0, ev_if t (fun h => by rw [hb] at h; cases h) (fun _ => ev_c)⟩
      obtain ⟨z, hz⟩ := fig
      refine q_asg hz fun H4 e4 => ?_
      refine s_retL (el_lst (ea_cons (ev_var rfl) (ea_cons (ev_op (ev_cb (ea_cons (ev_op (ev_var rfl) (ev_op (ev_op (ev_var rfl) ev_c (rv_I (by decide))) ev_c (rv_I (by right; decide))) rv_I0) ea_nil) rc_i1) ev_c (rv_I (by decide))) (ea_cons ev_c ea_nil))) (by show 3 ≤ 100000; decide)) fun p H5 hp e5 h5 => ?_
      exact k p H5 (fresh_back (e3.trans e4) hp) ((e3.trans e4).trans e5) ⟨_, _, _, h5⟩
end
end K14
set_option maxHeartbeats 4000000
namespace K14
open PySem L2 Evl
local macro_rules | `(tactic| walk_at "ev") => `(tactic| repeat' (first
  | exact ev_var rfl | exact ev_c | exact ea_nil | apply ea_cons | exact rv_I0 | apply ev_op | apply ev_cb | apply ev_un | exact ru_neg
  | exact rc_isiInt | exact rc_isiBool | exact rc_isiStr))
section
variable {P : Program} {w : World} {K : PySem.W.Frag} {mg : Str → Option Value} {base : Heap}
variable {σ : L2.St} {H H' : Hp} {ta tb te to ti : TE} {tA : TA} {tz : TS} {v : V} {D : Ends} {a : Addr}
/-- rows over the first n signs -/
def Rows1 (n k : Nat) (us : List (List Nat)) : Prop := ∀ r ∈ us, r.length ≤ k ∧ ∀ c ∈ r, c < n
def rowsV (us : List (List Nat)) : List V := us.map fun r => V.str (rowS r)
theorem rowS_app (r : List Nat) (c : Nat) : rowS r ++ ⟨#[97 + c]⟩ = rowS (r ++ [c]) := by
  show Str.mk ((r.map (97 + ·)).toArray ++ #[97 + c]) = Str.mk ((r ++ [c]).map (97 + ·)).toArray
  congr 1
  simp
theorem s_ext {l : Addr} {xs ys : List V} (hl : H l = some (.lst xs)) (ha : Ev ta σ H (.ref l)) (h : EvL te σ H ys) (hz : xs.length + ys.length ≤ 100000) (k : ∀ H1, Ex H H1 → D.nx σ (upd H1 l (.lst (xs ++ ys)))) :
    tDrop (tBM K "list" rExtend ta (tCons te tNil)) D σ H := ha H (Ex.refl H) _ fun H1 e1 =>
  ⟨Or.inl ⟨rfl, xs, sq_of (e1 l _ hl)⟩, h H1 e1 _ fun p H2 hp e2 h2 => ⟨l, p, xs, ys, rfl, rfl, e2 l _ (e1 l _ hl), h2, sz_of hz, k H2 (e1.trans e2)⟩⟩
theorem s_parAs {p : List V → Hp → Prop} {i j : Nat} (h : EvAs tA σ H p) (k : ∀ vs H1, Ex H H1 → p vs H1 → ∃ v w, vs = [v, w] ∧ D.nx ((σ.set i (some v)).set j (some w)) H1) : tPar i j tA D σ H := h H (Ex.refl H) _ fun vs H1 e r => k vs H1 e r
theorem q_parAs {p : List V → Hp → Prop} {i j : Nat} (h : EvAs tA σ H p) (k : ∀ vs H1, Ex H H1 → p vs H1 → ∃ v w, vs = [v, w] ∧ tz D ((σ.set i (some v)).set j (some w)) H1) : tSeq (tPar i j tA) tz D σ H := h H (Ex.refl H) _ fun vs H1 e r => k vs H1 e r
theorem er_cat2 {b c : Addr} {i j : Nat} {xs ys : List V} (s : σ[i]? = some (some (.ref b))) (s' : σ[j]? = some (some (.ref c))) (hb : H b = some (.lst xs)) (hc : H c = some (.lst ys)) (hz : xs.length + ys.length ≤ 100000) : EvR (tOp rCat (tVar i) (tVar j)) σ H (fun H p => H p = some (.lst (xs ++ ys))) := fun H1 e Q q =>
  ev_var s H1 e _ fun H2 e2 => ev_var s' H2 (e.trans e2) _ fun H3 e3 => rv_cat (((e.trans e2).trans e3) _ _ hb) (((e.trans e2).trans e3) _ _ hc) hz _ fun p hp => q p _ (fresh_back (e2.trans e3) hp) ((e2.trans e3).trans (Ex.new hp)) upd_same
/-- one row made longer by each sign -/
theorem el_longer {r : List Nat} {n i w j : Nat} {vs : List Nat} (sw : σ[w]? = some (some (.int n))) (hn : n ≤ 8) (hr : r.length ≤ 100) (hw : ∀ x, wipe ((wipe σ vs).set j (some x)) vs = wipe σ vs) (hi : ∀ x, ((wipe σ vs).set j (some x))[i]? = some (some (.str (rowS r)))) (hj : ∀ x, ((wipe σ vs).set j (some x))[j]? = some (some x)) :
    EvL (tLc (iStr (tSl rSlS (tC (.str "abcdefgh")) tNoPart (tPart (tVar w)))) (gName j) tYes (tOp (fun x y H (Q : VK) => ∃ i j, x = V.str i ∧ y = V.str j ∧ i.length + j.length ≤ sizeLine ∧ Q (.str (i ++ j)) H) (tVar i) (tVar j)) vs) σ H (rowsV ((List.range n).map fun c => r ++ [c])) := by
  have h0 : Ev (tSl rSlS (tC (.str "abcdefgh")) tNoPart (tPart (tVar w))) σ H (.str ⟨(lets n).toArray⟩) := ev_is (ev_slS ev_c eo_none (eo_some (ev_var sw)) (by decide)) (by rw [alpha_cut n hn])
  have hs : (⟨(lets n).toArray⟩ : Str).cps.size = n := by simp [lets]
  have := el_cS (vs := vs) (j := j) (te := tOp (fun x y H (Q : VK) => ∃ i j, x = V.str i ∧ y = V.str j ∧ i.length + j.length ≤ sizeLine ∧ Q (.str (i ++ j)) H) (tVar i) (tVar j)) (fun c => V.str (rowS (r ++ [c]))) h0 (by omega) hw fun k c H1 e hc => by
    have hk : k < n := by
      have := (Array.getElem?_eq_some_iff.mp hc).1
      omega
    have hck : c = 97 + k := by
      simp [lets, hk] at hc
      exact hc.symm
    subst hck
    refine ev_op (ev_var (hi _)) (ev_var (hj _)) fun H2 e2 Q q => ⟨_, _, rfl, rfl, ?_, ?_⟩
    · rw [rowS_len]
      exact sz_of (by show r.length + 1 ≤ 100000; omega)
    · rw [rowS_app]
      exact q H2 (Ex.refl H2)
  rw [hs] at this
  rw [rowsV, List.map_map]
  exact this
def sp_upto : Sp := fun vs H Q _ => ∃ (n k : Nat), vs = [.int n, .int k] ∧ 1 ≤ n ∧ n ≤ 2 ∧ k ≤ 5 ∧ ∀ p H' us, H p = none → Ex H H' → H' p = some (.lst (rowsV us)) → Rows1 n k us → us.length ≤ 100 → Q (.ref p) H'
theorem ok_upto (T : Tx K mg) : FnOk P w K mg base CX0 1 T.d__law_upto.f T.d__law_upto.fd ["_law_width", "_law_deep"] sp_upto := by
  refine T.d__law_upto.F.ok sc__law_upto (fun vs H Q E h => ?_) (fun cdv A outer s H vs Q E hr h => ?_)
  · obtain ⟨a, n, rfl, _⟩ := h
    rfl
  · obtain ⟨n, m, rfl, n1, n2, hm, k⟩ := h
    refine ⟨_, (pss_cons (ps_par (i := 2) (j := 3) (by rfl) sc__law_upto.nd rfl rfl (by decide) rfl rfl (pa_cons (pe_lst (pa_cons pe_str pa_nil)) (pa_cons (pe_lst (pa_cons pe_str pa_nil)) pa_nil)) (by rfl))
      (pss_cons (ps_for PassesOwn.never rfl (pi_range1 (by rfl) T.z_range (pa_cons (pv 1) pa_nil)) (pg_name (i := 4) sc__law_upto.nd rfl (Or.inl rfl)) (pss_cons (ps_set (i := 5) sc__law_upto.nd rfl (Or.inl rfl) (pe_lst pa_nil))
      (pss_cons (ps_for PassesOwn.never rfl (k_piL K (pv 3)) (pg_name (i := 6) sc__law_upto.nd rfl (Or.inr rfl)) (pss_one (ps_expr (pe_bm PySem.F.plainAttrs_list PySem.F.slot_list_extend PySem.F.type_list_extend mt_extend (pv 5) (pa_cons (pe_lc (own := [("_law_sign", 7)]) (g := (gName 7)) rfl sc__law_upto.nd (pi_str (pe_slice sl_str pe_str po_none (po_some (pv 0)))) (blkOk_by (own := [("_law_sign", 7)]) (N := ["_law_width", "_law_deep", "_law_found", "_law_last", "_law_turn", "_law_longer", "_law_line", "_law_sign"]) (sc := defScope s__law_upto) (by decide +kernel)) (fun _ _ _ _ _ => (pg_name (i := 7) sc__law_upto.nd rfl (Or.inl rfl))) (fun _ _ _ _ _ => pts_nil) (fun _ _ _ _ _ => (pe_op op_add_str (pv 6) (pv 7)))) pa_nil)))))
      (pss_one (ps_par (i := 2) (j := 3) (by rfl) sc__law_upto.nd rfl rfl (by decide) rfl rfl (pa_cons (pe_op op_cat (pv 2) (pv 5)) (pa_cons (pv 5) pa_nil)) (by rfl))))))
      (pss_one (ps_ret (pv 2))))), ?_⟩
    have h1 : ∀ {σ : L2.St} {H : Hp}, EvR (tLst (tCons (tC (V.str "")) tNil)) σ H (fun H p => H p = some (.lst (rowsV [[]]))) := fun {σ H} => er_L (el_lst (ea_cons (ev_is ev_c (by rfl)) ea_nil) (by decide))
    refine q_parAs (as_f h1 is_mono (as_r h1 is_mono as_nil)) fun vs H1 e1 ⟨fa, us, q1, hfn, hfa, la, ws, q2, hla, q3⟩ => ?_
    subst q1 q2 q3
    refine ⟨_, _, rfl, ?_⟩
    let Inv : Nat → L2.St → Hp → Prop := fun i σ' H' => Ex H H' ∧ ∃ (fa la : Addr) (us ls : List (List Nat)) (g4 g5 g6 g7 : Option V), σ' = [some (.int n), some (.int m), some (.ref fa), some (.ref la), g4, g5, g6, g7] ∧ H fa = none ∧
      H' fa = some (.lst (rowsV us)) ∧ H' la = some (.lst (rowsV ls)) ∧ Rows1 n i us ∧ Rows1 n i ls ∧ us.length + 1 ≤ 2 ^ (i + 1) ∧ ls.length ≤ 2 ^ i
    have pow : ∀ i, 2 ^ (i + 1) = 2 * 2 ^ i := fun i => by rw [Nat.pow_succ, Nat.mul_comm]
    refine q_forR1 (ea_cons (ev_var rfl) ea_nil) ⟨by omega, by omega⟩ Inv (fun H2 e2 => ?_) (fun i σ' H2 hi I => ?_) (fun σ' H2 I => ?_)
    · exact ⟨e1.trans e2, fa, la, [[]], [[]], none, none, none, none, rfl, hfn, e2 _ _ hfa, e2 _ _ hla, (fun r hr => by rw [List.mem_singleton.mp hr]; exact ⟨Nat.zero_le _, fun c hc => nomatch hc⟩), (fun r hr => by rw [List.mem_singleton.mp hr]; exact ⟨Nat.zero_le _, fun c hc => nomatch hc⟩), by decide, by decide⟩
    · obtain ⟨e2, fa, la, us, ls, g4, g5, g6, g7, rfl, hfn, hf, hl, hu, hls, c1, c2⟩ := I
      have hpw : 2 ^ i ≤ 16 := by
        have : i ≤ 4 := by omega
        exact Nat.pow_le_pow_right (by decide) this
      have hpw2 := pow i
      have hpw3 := pow (i + 1)
      refine q_asgL (el_lst ea_nil (by decide)) fun p H3 hp e3 h3 => ?_
      let In2 : Nat → L2.St → Hp → Prop := fun j σ' H' => Ex H2 H' ∧ ∃ (ws : List (List Nat)) (g6 g7 : Option V), σ' = [some (.int n), some (.int m), some (.ref fa), some (.ref la), some (.int (i : Nat)), some (.ref p), g6, g7] ∧ H' p = some (.lst (rowsV ws)) ∧ Rows1 n (i + 1) ws ∧ ws.length = n * j
      have hlen : (rowsV ls).length = ls.length := List.length_map _
      refine q_forLn (xs := rowsV ls) (ev_var rfl) (sq_of (e3 _ _ hl)) In2 (fun H4 e4 => ⟨e3.trans e4, [], g6, g7, rfl, e4 _ _ h3, (fun r hr => nomatch hr), by simp⟩) (fun j σ' H' _ I => sq_of (I.1 _ _ hl)) (fun j x σ' H' hx I => ?_) (fun σ' H' I => ?_)
      · obtain ⟨e4, ws, g6, g7, rfl, hws, hr, hwl⟩ := I
        obtain ⟨r, hri, rfl⟩ := get_map hx
        have hrl := hls r (List.mem_of_getElem? hri)
        have hj : j < ls.length := (List.getElem?_eq_some_iff.mp hri).1
        have hnj : n * j ≤ 2 * j := Nat.mul_le_mul_right j n2
        refine s_ext (ys := rowsV ((List.range n).map fun c => r ++ [c])) hws (ev_var rfl) (el_longer (n := n) rfl (by omega) (by omega) (fun _ => rfl) (fun _ => rfl) (fun _ => rfl)) (by simp only [rowsV, List.length_map, List.length_range]; omega) fun H5 e5 => ?_
        refine ⟨Ex.mut (e4.trans e5) hp, ws ++ (List.range n).map fun c => r ++ [c], _, _, rfl, by rw [upd_same, rowsV, rowsV, rowsV, List.map_append], fun z hz => ?_, by simp only [List.length_append, List.length_map, List.length_range, hwl, Nat.mul_succ]⟩
        rcases List.mem_append.mp hz with q | q
        · exact hr z q
        · obtain ⟨c, hc, rfl⟩ := List.mem_map.mp q
          refine ⟨by rw [List.length_append, List.length_singleton]; omega, fun x hx => ?_⟩
          rcases List.mem_append.mp hx with y | y
          · exact hrl.2 x y
          · rw [List.mem_singleton.mp y]
            exact List.mem_range.mp hc
      · obtain ⟨e4, ws, g6, g7, rfl, hws, hr, hwl⟩ := I
        rw [hlen] at hwl
        have hnl : n * ls.length ≤ 2 * ls.length := Nat.mul_le_mul_right _ n2
        refine s_parAs (as_f (er_cat2 (xs := rowsV us) (ys := rowsV ws) rfl rfl (e4 _ _ hf) hws (by simp only [rowsV, List.length_map]; omega)) is_mono (as_v (ev_var rfl) as_nil)) fun vs H5 e5 ⟨q, zs, q1, hqn, hq, us', q2, q3⟩ => ?_
        subst q1 q2 q3
        refine ⟨_, _, rfl, e2.trans (e4.trans e5), q, p, us ++ ws, ws, _, _, _, _, rfl, fresh_back (e2.trans e4) hqn, by rw [hq, rowsV, rowsV, rowsV, List.map_append], e5 _ _ hws, fun z hz => ?_, hr, by rw [List.length_append]; omega, by omega⟩
        rcases List.mem_append.mp hz with y | y
        · have := hu z y
          exact ⟨by omega, this.2⟩
        · exact hr z y
    · obtain ⟨e2, fa, la, us, ls, g4, g5, g6, g7, rfl, hfn, hf, hl, hu, hls, c1, c2⟩ := I
      rw [Int.toNat_natCast] at hu c1
      have hpw : 2 ^ (m + 1) ≤ 64 := Nat.pow_le_pow_right (by decide) (show m + 1 ≤ 6 by omega)
      refine s_ret (v := .ref fa) (ev_var rfl) fun H3 e3 => ?_
      exact k fa H3 us hfn (e2.trans e3) (e3 _ _ hf) hu (by omega)
end
end K14
set_option maxHeartbeats 4000000
namespace K14
open PySem L2 Evl
local macro_rules | `(tactic| walk_at "ev") => `(tactic| repeat' (first
  | exact ev_var rfl | exact ev_c | exact ea_nil | apply ea_cons | exact rv_I0 | apply ev_op | apply ev_cb | apply ev_un | exact ru_neg
  | exact rc_isiInt | exact rc_isiBool | exact rc_isiStr))
section
variable {P : Program} {w : World} {K : PySem.W.Frag} {mg : Str → Option Value} {base : Heap}
variable {σ : L2.St} {H H' : Hp} {ta tb te to ti : TE} {tA : TA} {tz : TS} {v : V} {D : Ends} {a : Addr}
/-- a step without a sign out of l to a stand not in l -/
def outB (l : List Nat) (s : Stp) : Bool := decide (s.2.1 = none) && (decide (s.1 ∈ l) && !decide (s.2.2 ∈ l))
def out1 (ss : List Stp) (l : List Nat) : List Nat := l ++ ((ss.filter (outB l)).map (·.2.2)).take 1
def outN (ss : List Stp) (l : List Nat) : Nat → List Nat
  | 0 => l
  | i + 1 => out1 ss (outN ss l i)
theorem out1_len (ss : List Stp) (l : List Nat) : (out1 ss l).length ≤ l.length + 1 := by
  unfold out1
  rw [List.length_append, List.length_take]
  omega
theorem outN_len (ss : List Stp) (l : List Nat) : ∀ i, (outN ss l i).length ≤ l.length + i
  | 0 => Nat.le_refl _
  | i + 1 => Nat.le_trans (out1_len ss _) (by have := outN_len ss l i; omega)
theorem cut_one (ns : List Nat) : cutV (ns.map nV) none (some 1) = (ns.take 1).map nV := by
  cases ns with
  | nil => rfl
  | cons x xs =>
    have h : ∀ k : Nat, HT.sIx (k + 1) 0 none = 0 ∧ HT.sIx (k + 1) (k + 1) (some 1) = 1 := fun k => ⟨rfl, by
      unfold HT.sIx
      simp
      try omega⟩
    unfold cutV
    rw [List.length_map, List.length_cons, (h xs.length).1, (h xs.length).2]
    rfl
def outO (ss : List Stp) (l : List Nat) : List Nat := out1 ss (out1 ss (out1 ss l))
theorem range_getD {α : Type} (ss : List α) (d : α) : (List.range ss.length).map (fun i => ss.getD i d) = ss := by
  refine List.ext_getElem (by simp) fun i h1 h2 => ?_
  simp [List.getD_eq_getElem?_getD, List.getElem?_eq_getElem h2]
theorem given_pick {α : Type} (ss : List α) (d : α) (b : α → Bool) (g : α → V) : given ss.length (fun i => b (ss.getD i d)) (fun i => g (ss.getD i d)) = (ss.filter b).map g := by
  have h := range_getD ss d
  have : (ss.filter b).map g = ((((List.range ss.length).map (fun i => ss.getD i d)).filter b).map g) := by rw [h]
  rw [this, List.filter_map, List.map_map]
  rfl
theorem el_pick {as : Addr} {ss : List Stp} {i j : Nat} {vs : List Nat} {tt : TT} (b : Stp → Bool) (si : σ[i]? = some (some (.ref as))) (hs : StpT H as ss) (hz : ss.length ≤ 1000) (hw : ∀ x, wipe ((wipe σ vs).set j (some x)) vs = wipe σ vs) (hj : ∀ x, ((wipe σ vs).set j (some x))[j]? = some (some x))
    (ht : ∀ s p H1, s ∈ ss → Ex H H1 → H1 p = some (.tup (stpV s)) → EvT tt ((wipe σ vs).set j (some (.ref p))) H1 (b s)) :
    EvL (tLc (iTup K (tVar i)) (gName j) tt (tOp (rIxT K) (tVar j) (tC (.int 2))) vs) σ H (((ss.filter b).map (·.2.2)).map nV) := by
  obtain ⟨ps, h1, h2, h3⟩ := hs
  have e := given_pick ss (0, none, 0) b (fun s => nV s.2.2)
  rw [List.map_map]
  rw [show (ss.filter b).map (nV ∘ fun s => s.2.2) = given ss.length (fun i => b (ss.getD i (0, none, 0))) (fun i => nV (ss.getD i (0, none, 0)).2.2) from e.symm]
  have hI : EvI (iTup K (tVar i)) σ H ss.length (fun i x _ => (ps.map V.ref)[i]? = some x) := by
    have := ei_T (K := K) (ev_var si) (st_of h1)
    rw [List.length_map, h2] at this
    exact this
  refine el_comp _ _ hI (by omega) fun k x H1 e hk hx => ?_
  obtain ⟨p, hp, rfl⟩ := get_map hx
  have hp1 := e _ _ (h3 k p ss[k] hp (List.getElem?_eq_getElem hk))
  have hg : ss.getD k (0, none, 0) = ss[k] := by rw [List.getD_eq_getElem?_getD, List.getElem?_eq_getElem hk]; rfl
  rw [hg]
  exact ⟨_, eg_name, hw _, ht _ p H1 (List.getElem_mem hk) e hp1, fun _ => ev_op (ev_var (hj _)) ev_c (rv_ixT (st_of hp1) (at_of (j := 2) rfl rfl))⟩
theorem s_asgR1 {i : Nat} {R : Hp → Addr → Prop} (h : EvR te σ H R) (k : ∀ p H1, H p = none → Ex H H1 → R H1 p → D.nx (σ.set i (some (.ref p))) H1) : tAsg te (gName i) D σ H := h H (Ex.refl H) _ k
theorem sgS_nil (o : Option Nat) : decide (V.str (sgS o) = V.str "") = decide (o = none) := by
  cases o with
  | none => exact decide_eq_true rfl
  | some c =>
    rw [decide_eq_false (p := some c = none) (by simp)]
    refine decide_eq_false fun h => ?_
    injection h with h
    have := congrArg (fun s : Str => s.cps.size) h
    exact absurd this (by show ¬ (1 = 0); decide)
theorem flat_nums (ns : List Nat) : (ns.map nV).all flatV = true := by
  rw [List.all_eq_true]
  intro x hx
  obtain ⟨k, _, rfl⟩ := List.mem_map.mp hx
  rfl
theorem el_more {as f : Addr} {ss : List Stp} {l : List Nat} {i j n : Nat} {vs : List Nat} (si : σ[i]? = some (some (.ref as))) (hs : StpT H as ss) (hz : ss.length ≤ 1000) (hf : H f = some (.lst (l.map nV))) (hw : ∀ x, wipe ((wipe σ vs).set j (some x)) vs = wipe σ vs) (hj : ∀ x, ((wipe σ vs).set j (some x))[j]? = some (some x))
    (hn : ∀ x, ((wipe σ vs).set j (some x))[n]? = some (some (.ref f))) :
    EvL (tLc (iTup K (tVar i)) (gName j) (tAnd (tTest (tOp rEq (tOp (rIxT K) (tVar j) (tC (.int 1))) (tC (.str "")))) (tAnd (tTest (tOp (rIn K false) (tOp (rIxT K) (tVar j) (tC (.int 0))) (tVar n))) (tTest (tOp (rIn K true) (tOp (rIxT K) (tVar j) (tC (.int 2))) (tVar n)))))
      (tOp (rIxT K) (tVar j) (tC (.int 2))) vs) σ H (((ss.filter (outB l)).map (·.2.2)).map nV) :=
  el_pick (outB l) si hs hz hw hj fun s p H1 _ e hp => by
    refine et_and (et_test (ev_is (ev_op (ev_op (ev_var (hj _)) ev_c (rv_ixT (v := .str (sgS s.2.1)) (st_of hp) (at_of (j := 1) rfl rfl))) ev_c (rv_eq rfl)) (by rw [sgS_nil]))) fun _ => et_and (et_test (ev_is (ev_op (ev_op (ev_var (hj _)) ev_c (rv_ixT (v := .int (s.1 : Nat)) (st_of hp) (at_of (j := 0) rfl rfl))) (ev_var (hn _)) (rv_isL (sq_of (e _ _ hf)) rfl (flat_nums l))) ?_)) fun _ => et_test (ev_is (ev_op (ev_op (ev_var (hj _)) ev_c (rv_ixT (v := .int (s.2.2 : Nat)) (st_of hp) (at_of (j := 2) rfl rfl))) (ev_var (hn _)) (rv_niL (sq_of (e _ _ hf)) rfl (flat_nums l))) ?_)
    · exact congrArg V.bl (in_nats s.1 l)
    · exact congrArg (fun b => V.bl (!b)) (in_nats s.2.2 l)
def sp_out : Sp := fun vs H Q _ => ∃ (as lp : Addr) (ss : List Stp) (l : List Nat), vs = [.ref as, .ref lp] ∧ StpT H as ss ∧ ss.length ≤ 1000 ∧ SeqAt H lp (l.map nV) ∧ l.length ≤ 1000 ∧ ∀ p H', H p = none → Ex H H' → H' p = some (.lst ((outO ss l).map nV)) → Q (.ref p) H'
theorem ok_out (T : Tx K mg) : FnOk P w K mg base CX0 1 T.d__law_out.f T.d__law_out.fd ["_law_steps_here", "_law_lot"] sp_out := by
  refine T.d__law_out.F.ok sc__law_out (fun vs H Q E h => ?_) (fun cdv A outer s H vs Q E hr h => ?_)
  · obtain ⟨a, b, _, _, rfl, _⟩ := h
    rfl
  · obtain ⟨as, lp, ss, l, rfl, hs, hz, hl, hlz, k⟩ := h
    refine ⟨_, (pss_cons (ps_set (i := 2) sc__law_out.nd rfl (Or.inr rfl) (pe_callTy (k_list K) (by rfl) T.z_list (by decide +kernel) (pa_cons (pv 1) pa_nil)))
      (pss_cons (ps_for PassesOwn.never rfl (pi_range1 (by rfl) T.z_range (pa_cons pe_int pa_nil)) (pg_name (i := 3) sc__law_out.nd rfl (Or.inl rfl)) (pss_cons (ps_setLc (i := 4) (own := [("_law_step", 5)]) (g := (gName 5)) rfl sc__law_out.nd rfl rfl (sw_true rfl rfl rfl (by decide +kernel)) (k_piT K (pv 0)) (blkOk_by (own := [("_law_step", 5)]) (N := ["_law_steps_here", "_law_lot", "_law_found", "_law_turn", "_law_more", "_law_step"]) (sc := defScope s__law_out) (by decide +kernel)) (fun _ _ _ _ _ => (pg_name (i := 5) sc__law_out.nd rfl (Or.inl rfl))) (fun _ _ _ _ _ => (pts_one (PW.pt (pw_and (pt_cmpR op_eq (pe_ix (k_ixT K) (pv 5) pe_int (fun _ _ => rfl)) pe_str (nomark _)) (pw_and (pt_cmpR (k_inS K) (pe_ix (k_ixT K) (pv 5) pe_int (fun _ _ => rfl)) (pv 2) rfl) (pw_and1 (pt_cmpR (k_niS K) (pe_ix (k_ixT K) (pv 5) pe_int (fun _ _ => rfl)) (pv 2) rfl))))))) (fun _ _ _ _ _ => (pe_ix (k_ixT K) (pv 5) pe_int (fun _ _ => rfl))))
      (pss_one (ps_set (i := 2) sc__law_out.nd rfl (Or.inr rfl) (pe_op op_cat (pv 2) (pe_slice (k_slL K) (pv 4) po_none (po_some pe_int)))))))
      (pss_one (ps_ret (pv 2))))), ?_⟩
    refine q_asgL (el_listSq (ev_var rfl) hl) fun f H1 hf e1 h1 => ?_
    let Inv : Nat → L2.St → Hp → Prop := fun i σ' H' => Ex H H' ∧ ∃ (f : Addr) (g3 g4 g5 : Option V), σ' = [some (.ref as), some (.ref lp), some (.ref f), g3, g4, g5] ∧ H f = none ∧ H' f = some (.lst ((outN ss l i).map nV))
    refine q_forR1 (n := 3) (ea_cons ev_c ea_nil) ⟨by omega, by omega⟩ Inv (fun H2 e2 => ⟨e1.trans e2, f, none, none, none, rfl, hf, e2 _ _ h1⟩) (fun i σ' H2 hi I => ?_) (fun σ' H2 I => ?_)
    · obtain ⟨e2, f, g3, g4, g5, rfl, hfn, h2⟩ := I
      refine q_asgL (el_more rfl (hs.ex e2) hz h2 (fun _ => rfl) (fun _ => rfl) (fun _ => rfl)) fun q H3 hq e3 h3 => ?_
      have hlen := outN_len ss l i
      have hc : EvL (tSl (rSlL K) (tVar 4) tNoPart (tPart (tC (.int 1)))) [some (.ref as), some (.ref lp), some (.ref f), some (.int (i : Int)), some (.ref q), g5] H3 (((((ss.filter (outB (outN ss l i))).map (·.2.2)).take 1)).map nV) := by
        rw [← cut_one]
        exact el_sl (ev_var rfl) eo_none (eo_some ev_c) (sq_of h3)
      refine s_asgR1 (er_cat (R' := fun H p => H p = some (.lst ((outN ss l (i + 1)).map nV))) (ev_var rfl) (e3 _ _ h2) (er_L hc) fun H4 p e4 h4 => ⟨_, h4, by simp only [List.length_map, List.length_take]; omega, fun r hr => ?_⟩) fun p H4 hp e4 h4 => ?_
      · show (upd H4 r _) r = _
        rw [upd_same, ← List.map_append]
        rfl
      · exact ⟨e2.trans (e3.trans e4), p, _, _, _, rfl, fresh_back (e2.trans e3) hp, h4⟩
    · obtain ⟨e2, f, g3, g4, g5, rfl, hfn, h2⟩ := I
      exact s_ret (v := .ref f) (ev_var rfl) fun H3 e3 => k f H3 hfn (e2.trans e3) (e3 _ _ h2)
end
end K14
set_option maxHeartbeats 4000000
namespace K14
open PySem L2 Evl
local macro_rules | `(tactic| walk_at "ev") => `(tactic| repeat' (first
  | exact ev_var rfl | exact ev_c | exact ea_nil | apply ea_cons | exact rv_I0 | apply ev_op | apply ev_cb | apply ev_un | exact ru_neg
  | exact rc_isiInt | exact rc_isiBool | exact rc_isiStr))
section
variable {P : Program} {w : World} {K : PySem.W.Frag} {mg : Str → Option Value} {base : Heap}
variable {σ : L2.St} {H H' : Hp} {ta tb te to ti : TE} {tA : TA} {tz : TS} {v : V} {D : Ends} {a : Addr}
/-- by a sign out of a lot -/
def byS (ss : List Stp) (c : Nat) (l : List Nat) : List Nat := (ss.filter fun s => decide (s.2.1 = some c) && decide (s.1 ∈ l)).map (·.2.2)
def guess (ss : List Stp) : List Nat → List Nat → List Nat
  | l, [] => l
  | l, c :: r => guess ss (outO ss (byS ss c l)) r
theorem guess_snoc (ss : List Stp) (c : Nat) : ∀ (r l : List Nat), guess ss l (r ++ [c]) = outO ss (byS ss c (guess ss l r))
  | [], _ => rfl
  | d :: r, l => guess_snoc ss c r (outO ss (byS ss d l))
theorem outO_len (ss : List Stp) (l : List Nat) : (outO ss l).length ≤ l.length + 3 := outN_len ss l 3
theorem byS_len (ss : List Stp) (c : Nat) (l : List Nat) : (byS ss c l).length ≤ ss.length := by
  unfold byS
  rw [List.length_map]
  exact List.length_filter_le _ _
theorem spr_out {as lp : Addr} {ss : List Stp} {l : List Nat} (hs : StpT H as ss) (hz : ss.length ≤ 1000) (hl : SeqAt H lp (l.map nV)) (hlz : l.length ≤ 1000) : SpR sp_out ([.ref as, .ref lp] ++ []) H (fun H p => H p = some (.lst ((outO ss l).map nV))) :=
  fun H1 e Q q E => ⟨as, lp, ss, l, rfl, hs.ex e, hz, hl.imp (fun h => e _ _ h) (fun h => e _ _ h), hlz, fun p H' hp e' h' => q p H' hp e' h'⟩
theorem sgS_some (o : Option Nat) (c : Nat) : decide (V.str (sgS o) = V.str ⟨#[97 + c]⟩) = decide (o = some c) := by
  cases o with
  | none =>
    rw [decide_eq_false (p := none = some c) (by simp)]
    refine decide_eq_false fun h => ?_
    injection h with h
    have := congrArg (fun s : Str => s.cps.size) h
    exact absurd this (by show ¬ (0 = 1); decide)
  | some d =>
    refine decide_eq_decide.mpr ⟨fun h => ?_, fun h => ?_⟩
    · injection h with h
      have := congrArg (fun s : Str => s.cps.toList) h
      simp [sgS] at this
      rw [this]
    · cases h
      rfl
def sp_guessed : Sp := fun vs H Q _ => ∃ (as ab ag : Addr) (n : Nat) (ss : List Stp) (bs gs r : List Nat), vs = [.ref as, .ref ab, .ref ag, .str (rowS r)] ∧ StpT H as ss ∧ ss.length ≤ 100 ∧ StT H ab bs ∧ StT H ag gs ∧ bs.length ≤ 100 ∧ gs.length ≤ 100 ∧ r.length ≤ 100 ∧
  ∀ H', Ex H H' → Q (.bl (!decide ((guess ss (outO ss bs) r).filter (fun k => decide (k ∈ gs)) = []))) H'
theorem ok_guessed (T : Tx K mg) : FnOk P w K mg base CX0 2 T.d__law_guessed.f T.d__law_guessed.fd ["_law_steps_here", "_law_begins_here", "_law_goals_here", "_law_line"] sp_guessed := by
  refine T.d__law_guessed.F.ok sc__law_guessed (fun vs H Q E h => ?_) (fun cdv A outer s H vs Q E hr h => ?_)
  · obtain ⟨a, b, c, _, _, _, _, _, rfl, _⟩ := h
    rfl
  · obtain ⟨as, ab, ag, n, ss, bs, gs, r, rfl, hs, hz, hb, hg, hbl, hgl, hrl, k⟩ := h
    refine ⟨_, (pss_cons (ps_set (i := 4) sc__law_guessed.nd rfl (Or.inr rfl) (pe_call (ok_out T) (hr.mono (by decide)) rfl T.d__law_out.g T.d__law_out.F.kp T.d__law_out.b .nil pass0 (pa_cons (pv 0) (pa_cons (pv 1) pa_nil))))
      (pss_cons (ps_for PassesOwn.never rfl (pi_str (pv 3)) (pg_name (i := 5) sc__law_guessed.nd rfl (Or.inr rfl)) (pss_one (ps_set (i := 4) sc__law_guessed.nd rfl (Or.inr rfl) (pe_call (ok_out T) (hr.mono (by decide)) rfl T.d__law_out.g T.d__law_out.F.kp T.d__law_out.b .nil pass0 (pa_cons (pv 0) (pa_cons (pe_lc (own := [("_law_step", 6)]) (g := (gName 6)) rfl sc__law_guessed.nd (k_piT K (pv 0)) (blkOk_by (own := [("_law_step", 6)]) (N := ["_law_steps_here", "_law_begins_here", "_law_goals_here", "_law_line", "_law_lot", "_law_sign", "_law_step", "_law_spot"]) (sc := defScope s__law_guessed) (by decide +kernel)) (fun _ _ _ _ _ => (pg_name (i := 6) sc__law_guessed.nd rfl (Or.inl rfl))) (fun _ _ _ _ _ => (pts_one (PW.pt (pw_and (pt_cmpR op_eq (pe_ix (k_ixT K) (pv 6) pe_int (fun _ _ => rfl)) (pv 5) (nomark _)) (pw_and1 (pt_cmpR (k_inS K) (pe_ix (k_ixT K) (pv 6) pe_int (fun _ _ => rfl)) (pv 4) rfl)))))) (fun _ _ _ _ _ => (pe_ix (k_ixT K) (pv 6) pe_int (fun _ _ => rfl)))) pa_nil))))))
      (pss_one (ps_ret (pe_cmpR (k_neD K hr.units) (pe_lc (own := [("_law_spot", 7)]) (g := (gName 7)) rfl sc__law_guessed.nd (k_piL K (pv 4)) (blkOk_by (own := [("_law_spot", 7)]) (N := ["_law_steps_here", "_law_begins_here", "_law_goals_here", "_law_line", "_law_lot", "_law_sign", "_law_step", "_law_spot"]) (sc := defScope s__law_guessed) (by decide +kernel)) (fun _ _ _ _ _ => (pg_name (i := 7) sc__law_guessed.nd rfl (Or.inl rfl))) (fun _ _ _ _ _ => (pts_one (pt_cmpR (k_inS K) (pv 7) (pv 2) rfl))) (fun _ _ _ _ _ => (pv 7))) (pe_lst pa_nil) (nomark _)))))), ?_⟩
    refine q_asgR (er_callAs (as_v (ev_var rfl) (as_v (ev_var rfl) as_nil)) fun vs H1 e ⟨r1, q1, r2, q2, q3⟩ => by
      subst q1 q2 q3
      exact spr_out (hs.ex e) (by omega) (.inl (e _ _ hb)) (by omega)) fun f H1 hf e1 h1 => ?_
    have hb3 := outO_len ss bs
    let Inv : Nat → L2.St → Hp → Prop := fun i σ' H' => Ex H H' ∧ ∃ (f : Addr) (g5 g6 g7 : Option V), σ' = [some (.ref as), some (.ref ab), some (.ref ag), some (.str (rowS r)), some (.ref f), g5, g6, g7] ∧ H' f = some (.lst ((guess ss (outO ss bs) (r.take i)).map nV)) ∧ (guess ss (outO ss bs) (r.take i)).length ≤ 200
    refine q_forS (ev_var rfl) Inv (fun H2 e2 => ⟨e1.trans e2, f, none, none, none, rfl, e2 _ _ h1, by show (outO ss bs).length ≤ 200; omega⟩) (fun i c σ' H2 hc I => ?_) (fun σ' H2 I => ?_)
    · obtain ⟨e2, f, g5, g6, g7, rfl, h2, hl⟩ := I
      obtain ⟨d, hd, rfl⟩ := rowS_get hc
      have hi : i < r.length := (List.getElem?_eq_some_iff.mp hd).1
      have htk : r.take (i + 1) = r.take i ++ [d] := by
        rw [List.take_add_one, hd]
        rfl
      refine s_asgR1 (R := fun H p => H p = some (.lst ((outO ss (byS ss d (guess ss (outO ss bs) (r.take i)))).map nV))) (er_callAs (as_v (ev_var rfl) (as_r (R := fun H p => H p = some (.lst ((byS ss d (guess ss (outO ss bs) (r.take i))).map nV))) (er_L (el_pick (fun s => decide (s.2.1 = some d) && decide (s.1 ∈ guess ss (outO ss bs) (r.take i))) rfl (hs.ex e2) (by omega) (fun _ => rfl) (fun _ => rfl) fun s p H1 _ e hp => ?_)) is_mono as_nil)) fun vs H1 e ⟨r1, q1, l, r2, q2, hl2, q3⟩ => ?_) fun p H3 hp e3 h3 => ?_
      · refine et_and (et_test (ev_is (ev_op (ev_op (ev_var rfl) ev_c (rv_ixT (v := .str (sgS s.2.1)) (st_of hp) (at_of (j := 1) rfl rfl))) (ev_var rfl) (rv_eq rfl)) (by rw [sgS_some]))) fun _ => et_test (ev_is (ev_op (ev_op (ev_var rfl) ev_c (rv_ixT (v := .int (s.1 : Nat)) (st_of hp) (at_of (j := 0) rfl rfl))) (ev_var rfl) (rv_isL (sq_of (e _ _ h2)) rfl (flat_nums _))) ?_)
        exact congrArg V.bl (in_nats s.1 _)
      · subst q1 q2 q3
        exact spr_out ((hs.ex e2).ex e) (by omega) (.inr hl2) (by have := byS_len ss d (guess ss (outO ss bs) (r.take i)); omega)
      · refine ⟨e2.trans e3, p, _, _, _, rfl, by rw [htk, guess_snoc]; exact h3, ?_⟩
        rw [htk, guess_snoc]
        have h4 := outO_len ss (byS ss d (guess ss (outO ss bs) (r.take i)))
        have h5 := byS_len ss d (guess ss (outO ss bs) (r.take i))
        omega
    · obtain ⟨e2, f, g5, g6, g7, rfl, h2, hl⟩ := I
      rw [rowS_size, List.take_length] at h2 hl
      have hp : EvL (tLc (iList K (tVar 4)) (gName 7) (tTest (tOp (rIn K false) (tVar 7) (tVar 2))) (tVar 7) (List.map (fun x => x.snd) [(("_law_spot" : Str), 7)])) [some (.ref as), some (.ref ab), some (.ref ag), some (.str (rowS r)), some (.ref f), g5, g6, g7] H2 (((guess ss (outO ss bs) r).filter (fun k => decide (k ∈ gs))).map nV) := by
        rw [← given_pick (guess ss (outO ss bs) r) 0 (fun k => decide (k ∈ gs)) nV]
        have hI : EvI (iList K (tVar 4)) [some (.ref as), some (.ref ab), some (.ref ag), some (.str (rowS r)), some (.ref f), g5, g6, g7] H2 (guess ss (outO ss bs) r).length (fun i x _ => ((guess ss (outO ss bs) r).map nV)[i]? = some x) := by
          have := ei_L (K := K) (ev_var (σ := [some (.ref as), some (.ref ab), some (.ref ag), some (.str (rowS r)), some (.ref f), g5, g6, g7]) (i := 4) rfl) (sq_of h2)
          rw [List.length_map] at this
          exact this
        refine el_comp _ _ hI (by omega) fun j x H3 e hj hx => ?_
        obtain ⟨m, hm, rfl⟩ := get_map hx
        have hgd : (guess ss (outO ss bs) r).getD j 0 = m := by rw [List.getD_eq_getElem?_getD, hm]; rfl
        rw [hgd]
        exact ⟨_, eg_name, rfl, et_test (ev_is (ev_op (ev_var rfl) (ev_var rfl) (rv_isT (st_of ((hg.ex e2).ex e)) rfl (flat_nums gs))) (congrArg V.bl (in_nats m gs))), fun _ => ev_var rfl⟩
      refine s_ret (v := .bl (!decide ((guess ss (outO ss bs) r).filter (fun k => decide (k ∈ gs)) = []))) ?_ fun H3 e3 => k H3 (e2.trans e3)
      refine ev_opLL hp (el_lst ea_nil (by decide)) fun p q H3 hp3 hq3 e3 => fun H4 e4 Q k => ⟨.list (((guess ss (outO ss bs) r).filter (fun k => decide (k ∈ gs))).map intD), .list ([].map intD), dp_nums (e4 _ _ hp3), dp_nums (ns := []) (e4 _ _ hq3), sh_nums _, sh_nums [], ?_⟩
      have z : ∀ ns : List Nat, PyData.eqv (.list (ns.map intD)) (.list (([] : List Nat).map intD)) = decide (ns = []) := fun ns => by cases ns <;> simp [PyData.eqv, PyData.eqvAll]
      rw [z]
      exact k H4 (Ex.refl H4)
end
end K14
set_option maxHeartbeats 4000000
namespace K14
open PySem L2 Evl
section
variable {X : Cx} {CX : CXT} {k : Nat} {f : Addr} {fd : FuncData} {ps ks : List Str} {sp : Sp} {E : XK} {g : List Value → List Value → List Value} {gV : List V → List V → List V} {x : Str} {p pos : Pos} {kws : List Keyword} {tk : TA}
/-- f(k = v, ..), no argument by place -/
theorem pe_kw (F : FnOk X.prog X.w X.K X.mg X.base CX k f fd ps sp) (hr : Room k X.A) (hg : Gl X x) (hm : X.mg x = some (.ref f)) (hk : PySem.W.keepIn X.K (.ref f) = true) (hb : KBinds X.K fd ps ks g gV) (hx : Passes CX X E)
    (hkw : PK X kws tk) (hall : (backToKw pos (keywordEach kws X.env)).all (·.1.isSome) = true := by rfl) (hks : (backToKw pos (keywordEach kws X.env)).filterMap (·.1) = ks := by rfl)
    (hdb : (x == ("__debug__" : Str)) = false := by decide)
    (hpl : ((backTo pos (starEach [] X.env)).any (·.1) || (backToKw pos (keywordEach kws X.env)).any (·.1.isNone)) = false := by rfl) :
    PE X (.Call (.Name x p) [] kws pos) (tCallK sp gV E tNil tk) := by
  refine ⟨fun pins s σ H Q I h => ?_⟩
  refine wpAny_Call_Name_kw (ld_glob I hg hm ?_ hdb)
  refine PySem.W.callWith_KW0 (h₀ := X.base) I.ok.mod.kin hk hall (thn (hkw.run pos pins s σ H _ I h) fun ws s2 ⟨zs, H2, I2, rz, q2⟩ => ⟨I2.kIn, ?_⟩) hpl
  rw [hks]
  exact run_fnk (us := []) (vs := []) F hr hb hx I2 .nil rz q2
end
theorem kb_one {K : PySem.W.Frag} {mg : Str → Option Value} {nm : Str} {st : Stmt} {n : Str} (d : DefAt K mg nm nm st [n])
    (h1 : ∀ (kV doc pm : Value) (an : Option Addr) (cdv ct v : Value), bindArgs (PySem.W.fnOf nm nm (defArgs st) (defBody st) (defScope st) .none kV doc pm an cdv ct) ⟨[v], []⟩ = pure [(n, v)])
    (h2 : ∀ (kV doc pm : Value) (an : Option Addr) (cdv ct v : Value), bindArgs (PySem.W.fnOf nm nm (defArgs st) (defBody st) (defScope st) .none kV doc pm an cdv ct) ⟨[], [(n, v)]⟩ = pure [(n, v)]) :
    KBinds K d.fd [n] [n] (fun us ws => us ++ ws) (fun vs zs => vs ++ zs) where
  to := fun s us ws _ hl => by
    obtain ⟨oc, od, kV, doc, pm, an, cdv, ct, osl, e, lk, hcd⟩ := d.F.ex
    rw [e]
    match us, ws, hl with
    | [], [v], _ => exact .of_eq (h2 kV doc pm an cdv ct v)
    | [v], [], _ => exact .of_eq (h1 kV doc pm an cdv ct v)
  rel := fun r z => r.append z
theorem kb_reader_from {K : PySem.W.Frag} {mg : Str → Option Value} (T : Tx K mg) : KBinds K T.d_reader_from.fd ["guesser"] ["guesser"] (fun us ws => us ++ ws) (fun vs zs => vs ++ zs) := kb_one T.d_reader_from.toDefAt (fun _ _ _ _ _ _ _ => rfl) (fun _ _ _ _ _ _ _ => rfl)
theorem kb_turned {K : PySem.W.Frag} {mg : Str → Option Value} (T : Tx K mg) : KBinds K T.d_turned.fd ["guesser"] ["guesser"] (fun us ws => us ++ ws) (fun vs zs => vs ++ zs) := kb_one T.d_turned.toDefAt (fun _ _ _ _ _ _ _ => rfl) (fun _ _ _ _ _ _ _ => rfl)
end K14
set_option maxHeartbeats 4000000
namespace K14
open PySem L2 Evl
local macro_rules | `(tactic| walk_at "ev") => `(tactic| repeat' (first
  | exact ev_var rfl | exact ev_c | exact ea_nil | apply ea_cons | exact rv_I0 | apply ev_op | apply ev_cb | apply ev_un | exact ru_neg
  | exact rc_isiInt | exact rc_isiBool | exact rc_isiStr))
section
variable {P : Program} {w : World} {K : PySem.W.Frag} {mg : Str → Option Value} {base : Heap}
variable {σ : L2.St} {H H' : Hp} {ta tb te to ti : TE} {tA : TA} {tz : TS} {v : V} {D : Ends} {a : Addr}
theorem ebs_two' {p : V → Prop} (hb : Bar H a) (h : EvB te σ H a (fun v _ => p v)) : EvBs (tCons (tLst tNil) (tCons te tNil)) σ H a (fun vs H' => ∃ v t, vs = [.ref t, v] ∧ p v ∧ t ≠ a ∧ H t = none ∧ H' t = some (.lst [])) := fun H1 e b Q q =>
  el_lst (σ := σ) (H := H1) ea_nil (by decide) H1 (Ex.refl _) _ fun t H2 ht e2 h2 => h H2 (e.trans (Ex.exb e2)) (b.ex e2) _ fun v H3 e3 b3 pv => q _ H3 ((Ex.exb e2).trans e3) b3 ⟨v, t, rfl, pv, (Bar.ne b ht).symm, exb_fresh e hb ht b, e3 _ _ (Bar.ne b ht).symm h2⟩
theorem q_parB {p : List V → Hp → Prop} {i j : Nat} (h : EvBs tA σ H a p) (b : Bar H a) (k : ∀ vs H1, ExB a H H1 → Bar H1 a → p vs H1 → ∃ v w, vs = [v, w] ∧ tz D ((σ.set i (some v)).set j (some w)) H1) : tSeq (tPar i j tA) tz D σ H := h H ExB.refl b _ fun vs H1 e b1 r => k vs H1 e b1 r
theorem eb_ifB {p : V → Prop} (h : EvB te σ H a (fun v _ => ∃ c, v = .bl c)) (h1 : EvB ta σ H a (fun v _ => p v)) (h2 : EvB tb σ H a (fun v _ => p v)) : EvB (tIf (tTest te) ta tb) σ H a (fun v _ => p v) := fun H1 e b Q q =>
  h H1 e b _ fun v H2 e2 b2 ⟨c, hc⟩ => ⟨c, hc, by
    cases c with
    | true => exact h1 H2 (e.trans e2) b2 Q fun v H3 e3 b3 pv => q v H3 (e2.trans e3) b3 pv
    | false => exact h2 H2 (e.trans e2) b2 Q fun v H3 e3 b3 pv => q v H3 (e2.trans e3) b3 pv⟩
theorem eb_letter {n i : Nat} {E : XK} {te : TE} (s0 : σ[i]? = some (some (.ref a))) (h : EvB te σ H a (fun v _ => v = .int n)) (h0 : 0 < n) (h8 : n ≤ 8) :
    EvB (tOp rIxS (tC (.str "abcdefgh")) (tCall sp_dip [] E (tCons (tVar i) (tCons te tNil)))) σ H a (fun v _ => ∃ c, c < n ∧ v = .str (sgS (some c))) :=
  eb_op (p := fun v => v = .str "abcdefgh") (q := Blw n) (eb_v fun _ _ => ev_c) (eb_dip (n := n) s0 h h0 (by omega)) fun x y H1 _ q1 ⟨d, q2, hd⟩ => by
    subst q1 q2
    have q : ∀ d : Fin 8, atI ("abcdefgh" : Str).cps.toList ((d : Nat) : Int) = some (97 + (d : Nat)) := by decide +kernel
    exact ⟨_, rv_ixS (by decide) (q ⟨d, by omega⟩), d, hd, rfl⟩
theorem s_appUB {xs : List V} {l : Addr} {p : List V → Prop} (hb : Bar H a) (hla : l ≠ a) (hl : H l = some (.lst xs)) (ha : Ev ta σ H (.ref l)) (h : EvBs tA σ H a (fun vs _ => p vs)) (hp : ∀ vs, p vs → vs.length ≤ 100) (hz : xs.length < 100000)
    (k : ∀ q H1 vs, H q = none → ExB a H H1 → Bar H1 a → H1 q = some (.tup vs) → p vs → D.nx σ (upd H1 l (.lst (xs ++ [.ref q])))) : tDrop (tBM K "list" rAppend ta (tCons (tTup tA) tNil)) D σ H :=
  ha H (Ex.refl H) _ fun H1 e1 => ⟨Or.inl ⟨rfl, xs, sq_of (e1 l _ hl)⟩, h H1 (Ex.exb e1) (hb.ex e1) _ fun vs H2 e2 b2 pv => ⟨sz_of (by have := hp vs pv; omega), fun q hq =>
    ⟨l, xs, .ref q, rfl, rfl, (Ex.new hq) _ _ (e2 _ _ hla (e1 _ _ hl)), sz_lt hz, k q _ vs (exb_fresh ((Ex.exb e1).trans e2) hb hq b2) (((Ex.exb e1).trans e2).trans (Ex.exb (Ex.new hq))) (b2.upd (b2.ne hq)) upd_same pv⟩⟩⟩
def keyS (s : Stp) : List Key := [.inl (s.1 : Nat), .inr (sgS s.2.1), .inl (s.2.2 : Nat)]
theorem enc_keyS (s : Stp) : enc (keyS s) = encS s := rfl
theorem keyS_list : ∀ {ss : List Stp} {L : List (Addr × List Key)}, (∀ p ∈ L, ∃ s ∈ ss, p.2 = keyS s) → ∃ ts : List Stp, L.map (·.2) = ts.map keyS ∧ ∀ s ∈ ts, s ∈ ss
  | _, [], _ => ⟨[], rfl, fun _ h => nomatch h⟩
  | ss, p :: L, h => by
    obtain ⟨ts, h1, h2⟩ := keyS_list (ss := ss) (L := L) fun q hq => h q (.tail _ hq)
    obtain ⟨s, hs, e⟩ := h p (.head _)
    exact ⟨s :: ts, by rw [List.map_cons, List.map_cons, h1, e], fun x hx => by
      cases hx with
      | head => exact hs
      | tail _ hx => exact h2 x hx⟩
theorem get_map' {α β : Type} {l : List α} {f : α → β} {i : Nat} {x : β} (h : (l.map f)[i]? = some x) : ∃ m, l[i]? = some m ∧ f m = x := by
  obtain ⟨m, h1, h2⟩ := get_map h
  exact ⟨m, h1, h2.symm⟩
theorem keyS_inj {s t : Stp} (h : keyS s = keyS t) : s = t := by
  obtain ⟨a, o, b⟩ := s
  obtain ⟨c, o', d⟩ := t
  unfold keyS at h
  injection h with h1 h2
  injection h2 with h2 h3
  injection h3 with h3 _
  injection h1 with h1
  injection h2 with h2
  injection h3 with h3
  have e1 : a = c := Int.ofNat.inj h1
  have e3 : b = d := Int.ofNat.inj h3
  subst e1 e3
  cases o with
  | none =>
    cases o' with
    | none => rfl
    | some y =>
      have := congrArg (fun s : Str => s.cps.size) h2
      exact absurd this (by show ¬ (0 = 1); decide)
  | some x =>
    cases o' with
    | none =>
      have := congrArg (fun s : Str => s.cps.size) h2
      exact absurd this (by show ¬ (1 = 0); decide)
    | some y =>
      have := congrArg (fun s : Str => s.cps.toList) h2
      simp [sgS] at this
      rw [this]
/-- steps at addresses, sorted as keys: steps as they ought to be -/
theorem sorted_steps {n m : Nat} {ps : List Addr} {ss : List Stp} {L : List (Addr × List Key)} (hn : n ≤ 8) (hm : m ≤ 12) (ok : ∀ s ∈ ss, SOk n m s) (hl : ps.length = ss.length) (hrow : ∀ (j : Nat) p r, ps[j]? = some p → ss[j]? = some r → H p = some (.tup (stpV r)))
    (hs : Sorted ((ps.zip ss).map fun b => (b.1, keyS b.2)) L) : ∃ ts, SsOk n m ts ∧ ts.length ≤ ss.length ∧ (∀ s, s ∈ ts ↔ s ∈ ss) ∧ L.length = ts.length ∧ ∀ (i : Nat) p s, (L.map (·.1))[i]? = some p → ts[i]? = some s → H p = some (.tup (stpV s)) := by
  obtain ⟨s1, s2, s3, s4⟩ := hs
  have hmem : ∀ p ∈ L, ∃ s ∈ ss, p.2 = keyS s ∧ H p.1 = some (.tup (stpV s)) := fun p hp => by
    obtain ⟨⟨x, s⟩, hb, rfl⟩ := List.mem_map.mp (s1 p hp)
    obtain ⟨i, hi⟩ := List.mem_iff_getElem?.mp hb
    obtain ⟨h1, h2⟩ := List.getElem?_zip_eq_some.mp hi
    exact ⟨s, List.mem_of_getElem? h2, rfl, hrow i x s h1 h2⟩
  obtain ⟨ts, t1, t2⟩ := keyS_list (ss := ss) (L := L) fun p hp => by
    obtain ⟨s, a, b, _⟩ := hmem p hp
    exact ⟨s, a, b⟩
  have hL : L.length = ts.length := by
    have := congrArg List.length t1
    simpa using this
  have hat : ∀ (i : Nat) p s, (L.map (·.1))[i]? = some p → ts[i]? = some s → H p = some (.tup (stpV s)) := fun i p s hp hs => by
    obtain ⟨b, hb, rfl⟩ := get_map' hp
    obtain ⟨s', _, q, h⟩ := hmem b (List.mem_of_getElem? hb)
    have e : (L.map (·.2))[i]? = (ts.map keyS)[i]? := by rw [t1]
    rw [List.getElem?_map, List.getElem?_map, hb, hs] at e
    have := Option.some.inj e
    have z : s' = s := keyS_inj (q.symm.trans this)
    rw [← z]
    exact h
  have bd : ∀ s ∈ ts, SBd s := fun s hs => (ok s (t2 s hs)).bd hn hm
  have nd : ts.Nodup := by
    rw [t1] at s3
    exact (List.pairwise_map.mp s3).imp fun h q => h (by rw [q])
  have a1 : ts.Pairwise fun s t => cd s ≤ cd t := by
    have h1 : (L.map (·.2)).Pairwise fun a b => PySem.W.dataLe false enc a b = true := List.pairwise_map.mpr s4
    rw [t1] at h1
    refine List.Pairwise.imp_of_mem (fun {a b} ha hb h => ?_) (List.pairwise_map.mp h1)
    have : PySem.W.dataLe false encS a b = true := h
    rw [le_enc (bd a ha) (bd b hb)] at this
    exact of_decide_eq_true this
  have a2 : ts.Pairwise fun s t => cd s < cd t := List.Pairwise.imp_of_mem (fun {a b} ha hb h => by
    have : cd a ≠ cd b := fun e => h.2 (cd_inj (bd a ha) (bd b hb) e)
    have := h.1
    omega) (List.pairwise_and_iff.mpr ⟨a1, nd⟩)
  have mem : ∀ s, s ∈ ts ↔ s ∈ ss := fun s => ⟨t2 s, fun hs => by
    obtain ⟨i, hi⟩ := List.mem_iff_getElem?.mp hs
    have hil := (List.getElem?_eq_some_iff.mp hi).1
    have hp : ps[i]? = some ps[i] := List.getElem?_eq_getElem (by omega)
    have hz : (ps.zip ss)[i]? = some (ps[i], s) := List.getElem?_zip_eq_some.mpr ⟨hp, hi⟩
    have := s2 (ps[i], keyS s) (List.mem_map.mpr ⟨_, List.mem_of_getElem? hz, rfl⟩)
    rw [t1] at this
    obtain ⟨u, hu, e⟩ := List.mem_map.mp this
    rw [← keyS_inj e]
    exact hu⟩
  have len : ts.length ≤ ss.length := by
    have := nat_nodup_len (ts.map cd) (ss.map cd) (List.pairwise_map.mpr (a2.imp fun h => Nat.ne_of_lt h)) (fun x hx => by
      obtain ⟨s, hs, rfl⟩ := List.mem_map.mp hx
      exact List.mem_map.mpr ⟨s, t2 s hs, rfl⟩)
    simpa using this
  exact ⟨ts, ⟨fun s hs => ok s (t2 s hs), a2⟩, len, mem, hL, hat⟩
theorem er_sortAt {l : Addr} {ks : List (Addr × List Key)} (h : Ev te σ H (.ref l)) (hl : H l = some (.lst (ks.map fun p => V.ref p.1))) (hk : ∀ p ∈ ks, H p.1 = some (.tup (p.2.map kV))) (al : PySem.W.AllAlike (ks.map fun p => enc p.2)) (ne : ∀ p ∈ ks, p.2 ≠ []) (hz : ks.length < 64) :
    EvR (tSortSet K te) σ H (fun H' q => ∃ L : List (Addr × List Key), H' q = some (.lst (L.map fun p => V.ref p.1)) ∧ Sorted ks L) := fun H1 e Q q =>
  h H1 e _ fun H2 e2 => ⟨l, ks, rfl, sq_of ((e.trans e2) _ _ hl), fun p hp => (e.trans e2) _ _ (hk p hp), al, ne, hz, fun a L ha l1 l2 l3 l4 => q a _ (fresh_back e2 ha) (e2.trans (Ex.new ha)) ⟨L, upd_same, l1, l2, l3, l4⟩⟩
def sp_steps : Sp := fun vs H Q _ => ∃ (a : Addr) (n m k : Nat), vs = [.ref a, .int n, .int m, .int k] ∧ 1 ≤ n ∧ n ≤ 8 ∧ 1 ≤ m ∧ m ≤ 12 ∧ k ≤ 20 ∧ Bar H a ∧ ∀ p H' ss, H p = none → Bar H' a → ExB a H H' → StpT H' p ss → SsOk n m ss → ss.length ≤ k → Q (.ref p) H'
theorem ok_steps (T : Tx K mg) : FnOk P w K mg base CX0 3 T.d__law_steps.f T.d__law_steps.fd ["_law_barrel_here", "_law_width", "_law_stands", "_law_many"] sp_steps := by
  refine T.d__law_steps.F.ok sc__law_steps (fun vs H Q E h => ?_) (fun cdv A outer s H vs Q E hr h => ?_)
  · obtain ⟨a, b, c, d, rfl, _⟩ := h
    rfl
  · obtain ⟨a, n, m, c, rfl, n1, n2, m1, m2, hc, hb, k⟩ := h
    refine ⟨_, (pss_cons (ps_par (i := 4) (j := 5) (by rfl) sc__law_steps.nd rfl rfl (by decide) rfl rfl (pa_cons (pe_lst pa_nil) (pa_cons (pe_call (ok_one_of T) (hr.mono (by decide)) rfl T.d__law_one_of.g T.d__law_one_of.F.kp T.d__law_one_of.b .nil pass0 (pa_cons (pv 0) (pa_cons (pe_lst (pa_cons pe_int (pa_cons pe_int (pa_cons pe_int pa_nil)))) pa_nil))) pa_nil)) (by rfl))
      (pss_cons (ps_for PassesOwn.never rfl (pi_range1 (by rfl) T.z_range (pa_cons (pv 3) pa_nil)) (pg_name (i := 6) sc__law_steps.nd rfl (Or.inl rfl)) (pss_cons (ps_set (i := 7) sc__law_steps.nd rfl (Or.inl rfl) (pe_ix ix_str pe_str (pe_call (ok_dip T) (hr.mono (by decide)) rfl T.d__law_dip.g T.d__law_dip.F.kp T.d__law_dip.b .nil pass0 (pa_cons (pv 0) (pa_cons (pv 1) pa_nil))) (fun _ _ => rfl)))
      (pss_cons (ps_set (i := 7) sc__law_steps.nd rfl (Or.inl rfl) (pe_ifExp (pt_cmpR op_eq (pe_call (ok_dip T) (hr.mono (by decide)) rfl T.d__law_dip.g T.d__law_dip.F.kp T.d__law_dip.b .nil pass0 (pa_cons (pv 0) (pa_cons (pv 5) pa_nil))) pe_int (nomark _)) pe_str (pv 7)))
      (pss_one (ps_expr (pe_bm PySem.F.plainAttrs_list PySem.F.slot_list_append PySem.F.type_list_append mt_append (pv 4) (pa_cons (pe_tup (pa_cons (pe_call (ok_dip T) (hr.mono (by decide)) rfl T.d__law_dip.g T.d__law_dip.F.kp T.d__law_dip.b .nil pass0 (pa_cons (pv 0) (pa_cons (pv 2) pa_nil))) (pa_cons (pv 7) (pa_cons (pe_call (ok_dip T) (hr.mono (by decide)) rfl T.d__law_dip.g T.d__law_dip.F.kp T.d__law_dip.b .nil pass0 (pa_cons (pv 0) (pa_cons (pv 2) pa_nil))) pa_nil)))) pa_nil)))))))
      (pss_one (ps_ret (pe_callTy (k_tuple K) (by rfl) T.z_tuple (by decide +kernel) (pa_cons (pe_sortSet K rfl hr.units (by rfl) T.z_sorted (by rfl) T.z_set (pv 4)) pa_nil)))))), ?_⟩
    refine q_parB (ebs_two' (p := fun v => ∃ d, d ∈ [2, 5, 1000] ∧ v = .int (d : Nat)) hb (eb_one_of (ms := [2, 5, 1000]) rfl (fun H1 _ => ea_cons ev_c (ea_cons ev_c (ea_cons ev_c ea_nil))) (by decide) (by decide))) hb fun vs H1 e1 b1 ⟨v, t, q, ⟨d, hd, hv⟩, hta, htn, ht⟩ => ?_
    subst q hv
    refine ⟨_, _, rfl, ?_⟩
    have d0 : 0 < d ∧ d < 1001 := by
      simp only [List.mem_cons, List.not_mem_nil, or_false] at hd
      omega
    let Inv : Nat → L2.St → Hp → Prop := fun i σ' H' => (∃ g6 g7, σ' = [some (.ref a), some (.int n), some (.int m), some (.int c), some (.ref t), some (.int d), g6, g7]) ∧ Bar H' a ∧ ExB a H H' ∧ ∃ (ps : List Addr) (ss : List Stp), H' t = some (.lst (ps.map V.ref)) ∧ ps.length = i ∧ ss.length = i ∧
      (∀ (j : Nat) p r, ps[j]? = some p → ss[j]? = some r → H' p = some (.tup (stpV r))) ∧ ∀ s ∈ ss, SOk n m s
    refine q_forR1 (ea_cons (ev_var rfl) ea_nil) ⟨by omega, by omega⟩ Inv (fun H2 e2 => ?_) (fun i σ' H2 hi I => ?_) (fun σ' H2 I => ?_)
    · exact ⟨⟨none, none, rfl⟩, b1.ex e2, e1.trans (Ex.exb e2), [], [], e2 _ _ ht, rfl, rfl, (fun j p r h => by simp at h), (fun r h => by simp at h)⟩
    · obtain ⟨⟨g6, g7, rfl⟩, b2, x2, ps, ss, h2, hpl, hsl, hrow, hw⟩ := I
      refine q_asgB (p := fun v _ => ∃ c, c < n ∧ v = .str (sgS (some c))) (eb_letter rfl (eb_v fun _ _ => ev_var rfl) n1 n2) b2 fun v H3 e3 b3 ⟨x, hx, hv⟩ => ?_
      subst hv
      refine q_asgB (p := fun v _ => ∃ o, (∀ y, o = some y → y < n) ∧ v = .str (sgS o)) (eb_ifB (p := fun v => ∃ o, (∀ y, o = some y → y < n) ∧ v = .str (sgS o)) (eb_op (p := Blw d) (q := fun v => v = .int (0 : Nat)) (r := fun v => ∃ c, v = .bl c) (eb_dip (n := d) rfl (eb_v fun _ _ => ev_var rfl) d0.1 (by omega)) (eb_v fun _ _ => ev_c) fun x y H1 _ ⟨z, q1, _⟩ q2 => by
        subst q1 q2
        exact ⟨_, rv_eq rfl, _, rfl⟩) (eb_mono (eb_v (v := .str "") fun _ _ => ev_c) fun v _ q => ⟨none, (fun y h => by cases h), q⟩) (eb_mono (eb_v (v := .str (sgS (some x))) fun _ _ => ev_var rfl) fun v _ q => ⟨some x, (fun y h => by cases h; exact hx), q⟩)) b3 fun v H4 e4 b4 ⟨o, ho, hv⟩ => ?_
      subst hv
      have x4 : ExB a H2 H4 := e3.trans e4
      refine s_appUB (p := fun vs => ∃ s : Stp, SOk n m s ∧ vs = stpV s) b4 hta (x4 _ _ hta h2) (ev_var rfl) ?_ (fun vs ⟨s, _, q⟩ => by rw [q]; show 3 ≤ 100; decide) (by rw [List.length_map]; omega) fun q H5 vs hq e5 b5 h5 ⟨s, hs, hv⟩ => ?_
      · have hh : ∀ σ' : L2.St, σ'[0]? = some (some (.ref a)) → σ'[2]? = some (some (.int m)) → σ'[7]? = some (some (.str (sgS o))) → EvBs (tCons (tCall sp_dip [] E0 (tCons (tVar 0) (tCons (tVar 2) tNil))) (tCons (tVar 7) (tCons (tCall sp_dip [] E0 (tCons (tVar 0) (tCons (tVar 2) tNil))) tNil))) σ' H4 a (fun vs _ => ∃ s : Stp, SOk n m s ∧ vs = stpV s) := fun σ' s0 s2 s7 H1 e b Q q =>
          (ebs_cons (p := Blw m) (eb_dip (n := m) s0 (eb_v fun _ _ => ev_var s2) (by omega) (by omega)) (ebs_cons (p := fun v => v = .str (sgS o)) (eb_v fun _ _ => ev_var s7) (ebs_cons (p := Blw m) (eb_dip (n := m) s0 (eb_v fun _ _ => ev_var s2) (by omega) (by omega)) ebs_nil))) H1 e b _ fun vs H2 e2 b2 ⟨v, us, q1, ⟨x, q2, hx⟩, w, zs, q3, q4, u, ys, q5, ⟨y, q6, hy⟩, q7⟩ => q vs H2 e2 b2 ⟨(x, o, y), ⟨hx, hy, ho⟩, by rw [q1, q2, q3, q4, q5, q6, q7]; rfl⟩
        exact hh _ rfl rfl rfl
      · subst hv
        have ht4 : H4 t = some (.lst (ps.map V.ref)) := x4 _ _ hta h2
        have ht5 : H5 t = some (.lst (ps.map V.ref)) := e5 _ _ hta ht4
        refine ⟨⟨_, _, rfl⟩, b5.upd hta.symm, exb_mut ((x2.trans x4).trans e5) htn, ps ++ [q], ss ++ [s], by rw [upd_same, List.map_append] <;> rfl, by rw [List.length_append, hpl] <;> rfl, by rw [List.length_append, hsl] <;> rfl, fun j p' r hj hr' => ?_, fun r hr' => ?_⟩
        · have fin : ∀ ys : List V, H5 p' = some (.tup ys) → (upd H5 t (.lst (ps.map V.ref ++ [.ref q]))) p' = some (.tup ys) := fun ys h => by
            rw [upd_ne (fun q => by rw [q, ht5] at h; cases h)]
            exact h
          rcases Nat.lt_or_ge j i with hji | hji
          · rw [List.getElem?_append_left (by omega)] at hj hr'
            have h6 := hrow j p' r hj hr'
            have hpa : p' ≠ a := fun q => by
              obtain ⟨_, _, _, h7⟩ := b2
              rw [q, h7] at h6
              cases h6
            exact fin _ (e5 _ _ hpa (x4 _ _ hpa h6))
          · rw [List.getElem?_append_right (by omega)] at hj hr'
            rw [hpl] at hj
            rw [hsl] at hr'
            have hj0 : j - i = 0 := by
              have := (List.getElem?_eq_some_iff.mp hj).1
              simp at this
              omega
            rw [hj0] at hj hr'
            cases hj
            cases hr'
            exact fin _ h5
        · rcases List.mem_append.mp hr' with z | z
          · exact hw r z
          · rw [List.mem_singleton.mp z]
            exact hs
    · obtain ⟨⟨g6, g7, rfl⟩, b2, x2, ps, ss, h2, hpl, hsl, hrow, hw⟩ := I
      have hkm : ((ps.zip ss).map fun b => (b.1, keyS b.2)).map (fun p => V.ref p.1) = ps.map V.ref := by
        have h1 : (ps.zip ss).map Prod.fst = ps := List.map_fst_zip (by omega)
        rw [List.map_map]
        conv => rhs; rw [← h1, List.map_map]
        rfl
      have hk : ∀ p ∈ (ps.zip ss).map (fun b => (b.1, keyS b.2)), H2 p.1 = some (.tup (p.2.map kV)) ∧ ∃ s, p.2 = keyS s := fun p hp => by
        obtain ⟨⟨x, s⟩, hb, rfl⟩ := List.mem_map.mp hp
        obtain ⟨i, hi⟩ := List.mem_iff_getElem?.mp hb
        obtain ⟨h1, h2⟩ := List.getElem?_zip_eq_some.mp hi
        exact ⟨hrow i x s h1 h2, s, rfl⟩
      have al : PySem.W.AllAlike (((ps.zip ss).map fun b => (b.1, keyS b.2)).map fun p => enc p.2) := fun d hd e he => by
        obtain ⟨p, hp, rfl⟩ := List.mem_map.mp hd
        obtain ⟨q, hq, rfl⟩ := List.mem_map.mp he
        obtain ⟨_, s, h1⟩ := hk p hp
        obtain ⟨_, u, h2⟩ := hk q hq
        rw [h1, h2, enc_keyS, enc_keyS]
        simp [encS, PySem.W.alike, PySem.W.alikeAll]
      refine s_retR (R := fun H' p => ∃ ts, StpT H' p ts ∧ SsOk n m ts ∧ ts.length ≤ ss.length) (er_tupleOfR (er_sortAt (ev_var rfl) (by rw [hkm]; exact h2) (fun p hp => (hk p hp).1) al (fun p hp => by
          obtain ⟨_, s, h1⟩ := hk p hp
          rw [h1]
          exact fun h => nomatch h) (by rw [List.length_map, List.length_zip]; omega)) fun H3 q e3 ⟨L, hL, S⟩ => ?_) fun p H3 hp e3 ⟨ts, t1, t2, t3⟩ => k p H3 ts (exb_fresh x2 hb hp b2) (b2.ex e3) (x2.trans (Ex.exb e3)) t1 t2 (by omega)
      obtain ⟨ts, t1, t2, _, t3, t4⟩ := sorted_steps n2 m2 hw (by omega) (fun j p r a b => e3 _ _ (hrow j p r a b)) S
      exact ⟨_, hL, fun l hl => ⟨ts, ⟨L.map (·.1), by rw [upd_same, List.map_map] <;> rfl, by rw [List.length_map, t3], fun i p s a b => (Ex.new hl) _ _ (t4 i p s a b)⟩, t1, t2⟩⟩
end
end K14
set_option maxHeartbeats 4000000
/-! a text backwards; repr of a list of two truth values, where no repr is under way; defs that know that none is -/
namespace K14
open PySem L2 Evl
section
variable {X : Cx}
def revS (z : Str) : Str := ⟨z.cps.toList.reverse.toArray⟩
def tRevS (te : TE) : TE := fun σ H Q => te σ H fun x H1 => ∃ z : Str, x = .str z ∧ z.length ≤ sizeLine ∧ Q (.str (revS z)) H1
theorem pick_rev (z : Str) : (Builtin.Str.strSliceIndices none none (-1) z.length).filterMap (z.cps[·]?) = z.cps.toList.reverse := by
  have e : Builtin.Str.strSliceIndices none none (-1) z.length = (List.range z.cps.size).reverse := by
    show sliceRange ((z.cps.size : Int) - 1) (-1) (-1) = _
    rw [PySem.W.krv_sliceRange, PySem.W.krv_range]
  rw [e, List.filterMap_reverse, PySem.W.krv_all]
open PySem.Spec PyProof.Rows in
theorem pe_revS {e : Expr} {te : TE} {k : Nat} {p1 p2 p3 pos : Pos} (he : PE X e te) : PE X (.Subscript e (.Slice none none (some (.UnaryOp .USub (.Constant (.int 1) k p1) p2)) p3) pos) (tRevS te) where
  run pins s σ H Q I h := by
    refine PyProof.Rows.Subscript_ (thn (he.run pins s σ H _ I h) fun v s1 ⟨x, H1, I1, r1, z, ex, hz, q⟩ => ?_)
    subst ex
    obtain ⟨tz, rfl⟩ := r1
    have hst : PO X (some (.UnaryOp .USub (.Constant (.int 1) k p1) p2)) (tPart (tUn (rU fun i => .int (-i)) (tC (.int 1)))) := po_some (pe_un un_neg pe_int)
    refine wpAny_Slice (thn (po_none.run pins s1 σ H1 (fun o G => o = none ∧ G = H1) I1 ⟨rfl, rfl⟩) fun vl s2 ⟨l, _, I2, pl, el, e2⟩ => thn (po_none.run pins s2 σ _ (fun o G => o = none ∧ G = H1) I2 ⟨rfl, e2⟩) fun vu s3 ⟨u, _, I3, pu, eu, e3⟩ =>
      thn (hst.run pins s3 σ _ (fun o G => o = some (-1) ∧ G = H1) I3 ⟨1, rfl, -1, rfl, rfl, e3⟩) fun vs s4 ⟨o, H4, I4, ps, eo, e4⟩ => ?_)
    subst el eu eo e4
    have I5 : L2.Inv X pins σ H4 { s4 with heap := s4.heap.push { cls := .type "slice", data := .fields #[vl, vu, vs] } } := I4.kept (t' := s4.toks) fun b ob q => Heap.get?_push_of_some _ q
    obtain ⟨l, rfl, el⟩ := IsPart.raw pl
    obtain ⟨u, rfl, eu⟩ := IsPart.raw pu
    obtain ⟨w, rfl, ew⟩ := IsPart.raw ps
    obtain rfl : l = none := by
      cases l with
      | none => rfl
      | some x => cases el
    obtain rfl : u = none := by
      cases u with
      | none => rfl
      | some x => cases eu
    have hsl : (s4.heap.push { cls := .type "slice", data := .fields #[partValue none, partValue none, partValue w] }).IsSlice s4.heap.objs.size none none w := ⟨_, Heap.get?_push_size _ rfl, rfl, rfl⟩
    show wpAny (model X.prog X.w) X.A (subscriptTail e (.Slice none none (some (.UnaryOp .USub (.Constant (.int 1) k p1) p2)) p3) (.str z tz) (.ref s4.heap.objs.size)) (EP X pins σ Q) X.xe { s4 with heap := s4.heap.push { cls := .type "slice", data := .fields #[partValue none, partValue none, partValue w] } }
    refine tail_any (ops := [.str z tz, .ref s4.heap.objs.size]) (typeIs_str _ _ _) F.slot_str_getitem.lookup ?_ (by with_unfolding_all rfl)
    refine wpAny_getItem_str_slice hsl (by rw [ew]; rfl) ?_
    have em : sliceMade z tz none none w = .str (revS z) := by
      unfold sliceMade slicePicked
      rw [ew]
      show (if ((-1 : Int) == 1 && _) = true then _ else Made.str ⟨((Builtin.Str.strSliceIndices none none (-1) z.length).filterMap (z.cps[·]?)).toArray⟩) = _
      rw [if_neg (by simp), pick_rev]
      rfl
    rw [em]
    have hz2 : (revS z).length ≤ sizeLine := by
      show (z.cps.toList.reverse.toArray).size ≤ sizeLine
      rw [List.size_toArray, List.length_reverse]
      exact hz
    exact ⟨hz2, .str (revS z), H4, I5.tok _, ⟨_, rfl⟩, q⟩
/-- the text of a list of two truth values -/
def two (a b : Bool) : PyData := .list [.bool a, .bool b]
theorem two_len (a b : Bool) : (two a b).shown.length ≤ sizeLine := by
  have h : ∀ a b : Bool, (two a b).shown.length ≤ 100 := by
    intro a b
    cases a <;> cases b <;> decide +kernel
  have := h a b
  rw [sizeLine_eq]
  omega
def rRepr2 : List V → Hp → VK → Prop := fun xs H Q => ∃ (p : Addr) (a b : Bool), xs = [.ref p] ∧ H p = some (.lst [.bl a, .bl b]) ∧ Q (.str (two a b).shown) H
theorem call_repr2 (hc : X.calm = true) (hg : X.A.guards = some []) (hu : X.A.units + 64 < cLine) : CallR X (.builtin "repr") rRepr2 := by
  intro pins s σ H xs us Q I r h
  obtain ⟨p, a, b, rfl, hp, q⟩ := h
  obtain ⟨its, rv, pl, hz⟩ := I.list (SqL.of hp)
  obtain ⟨o, ho, hcl, n, hd⟩ := pl.isList
  rw [Vals.ref1 r]
  have rd : Reads s.heap (.ref p) (two a b) (p :: []) := by
    refine .list ho hcl hd ?_
    cases rv with
    | cons r1 r2 => cases r2 with
      | cons r2 r3 =>
        cases r3
        cases r1
        cases r2
        exact .cons (.bool a) (.cons (.bool b) .nil)
  refine repr_of_reads' rd (by cases a <;> cases b <;> rfl) (by intro h; exact absurd h (by simp [two, PyData.hasDict, PyData.hasDictAll])) hg ?_ (fun b o e => e) (fun h' u tk hk => ?_) (two_len a b)
  · have : (two a b).depth ≤ 5 := by cases a <;> cases b <;> decide +kernel
    omega
  · exact ⟨.str _, H, I.kept (t' := tk) fun b o e => hk b o e, ⟨u, rfl⟩, q⟩
end
end K14
set_option maxHeartbeats 4000000
/-! defs called where no repr is under way -/
namespace K14
open PySem L2 Evl
/-- the promise of a def that is called where no repr is under way -/
structure FnG (P : Program) (w : World) (K : PySem.W.Frag) (mg : Str → Option Value) (base : Heap) (CX : CXT) (k : Nat) (f : Addr) (fd : FuncData) (ps : List Str) (sp : Sp) : Prop where
  len : ∀ vs H Q E, sp vs H Q E → vs.length = ps.length
  go : ∀ (A : Around) (outer : List Env) (s : Shared) (H : Hp) (args : Args) (us : List Value) (vs : List V) (Q : VK) (E : XK), A.guards = some [] → Room k A → Env0 P w K mg base A outer s H → BindsTo s fd args (ps.zip us) → Vals vs us → sp vs H Q E →
    codeAny (model P w) A (.call (.ref f) args) (CR CX outer P w H s Q E) s
section
variable {P : Program} {w : World} {K : PySem.W.Frag} {mg : Str → Option Value} {base : Heap}
theorem okG {x qual : Str} {st : Stmt} {f : Addr} {fd : FuncData} {N ps : List Str} {k : Nat} {sp : Sp} (F : Fun K x qual st f fd) (S : FnScope N ps (defScope st)) (len : ∀ vs H Q E, sp vs H Q E → vs.length = ps.length)
    (body : ∀ (cdv : Value) (A : Around) (outer : List Env) (s : Shared) (H : Hp) (vs : List V) (Q : VK) (E : XK), A.guards = some [] → Room k (A.deeper (PyProof.Rows.envOfC qual (defScope st) s.heap.objs.size f cdv)) → sp vs H Q E →
      ∃ t, PSs (cxOf CX0 P w K mg base N qual (defScope st) f cdv A outer s H E).nox (defBody st) t ∧ t { nx := fun _ H' => Q .non H', rt := Q } (L2.start N vs) H) : FnG P w K mg base CX0 (k + 1) f fd ps sp := by
  obtain ⟨oc, od, kV, doc, pm, an, cdv, ct, osl, rfl, lk, hcd⟩ := F.ex
  refine ⟨len, fun A outer s H args us vs Q E hg hr e0 hb r hsp => ?_⟩
  have KX : K.In s.heap := e0.mod.kin.keeps fun b o e => (e0.bs b o e).1
  have lim : s.heap.NoLimit := e0.mod.nolimit.keeps fun b o e => (e0.bs b o e).1
  obtain ⟨t, ht, hq⟩ := body cdv A outer s H vs Q E hg (hr.deeper _) hsp
  have kinds : ∀ y ∈ ps.zip us, (defScope st).names.lookup y.1 = some .local ∨ ((defScope st).names.lookup y.1 = some .cell ∧ ((cellsFrom (s.heap.objs.size + 1) (defScope st).names []).lookup y.1).isSome = true) := fun y hy => by
    obtain ⟨n, v⟩ := y
    rcases S.par n (List.of_mem_zip hy).1 with q | q
    · exact .inl q
    · exact .inr ⟨q, PySem.W.cellsFrom_some _ _ _ (.inl q)⟩
  refine codeAny_call_function hr.depth (KX _ _ lk) rfl S.co S.gen rfl (PySem.W.codeRec_of KX hcd) (hb _ _ _ _ ?_)
  refine wpAny_newFunctionEnv_cells S.kind kinds fun env he s1 z => ?_
  subst he
  refine ⟨lim.keeps z.toInCall.keep, codeAny_func ?_⟩
  have I := inv_start (CX := CX0) (P := P) (w := w) (mg := mg) (E := E) S hr.hd e0 (len _ _ _ _ hsp) r z
  refine wpAny_mono (ht.nox.run [] s1 (L2.start N vs) H _ I hq) (fun fl s' hs => ?_) fun e s' hs => hs
  cases fl with
  | ret u =>
    obtain ⟨v, σ', H', J, rv, q⟩ := hs
    exact ⟨v, H', J.os, J.bare, J.base, J.hok, rv, q⟩
  | next =>
    obtain ⟨σ', H', J, q⟩ := hs
    exact ⟨V.non, H', J.os, J.bare, J.base, J.hok, rfl, q⟩
  | brk | cont =>
    obtain ⟨_, _, _, no⟩ := hs
    exact no.elim
end
section
variable {X : Cx} {CX : CXT} {k : Nat} {f : Addr} {fd : FuncData} {ps : List Str} {sp : Sp} {dvs : List V} {ds : List Value} {E : XK} {x : Str} {p pos : Pos} {e : Expr} {es : List Expr} {t : TA}
/-- a call of such a def, where no repr is under way -/
theorem pe_callG (hG : X.A.guards = some []) (F : FnG X.prog X.w X.K X.mg X.base CX k f fd ps sp) (hr : Room k X.A) (hg : Gl X x) (hm : X.mg x = some (.ref f)) (hk : PySem.W.keepIn X.K (.ref f) = true) (hb : Binds X.K fd ps ds) (hd : Vals dvs ds) (hx : Passes CX X E) (ha : PA X (e :: es) t)
    (hdb : (x == ("__debug__" : Str)) = false := by decide) (he : starEach (e :: es) X.env = (false, eval e X.env) :: starEach es X.env := by rfl) (hpl : (backTo pos (starEach es X.env)).any (·.1) = false := by rfl) : PE X (.Call (.Name x p) (e :: es) [] pos) (tCall sp dvs E t) where
  run pins s σ H Q I h := by
    refine wpAny_Call_Name_kw (ld_glob I hg hm ?_ hdb)
    refine PySem.W.callWith_K (h₀ := X.base) I.ok.mod.kin hk (thn (ha.run pos pins s σ H _ I h) fun us s1 ⟨vs, H1, I1, r, q⟩ => ⟨I1.kIn, ?_⟩) he hpl
    have r2 : Vals (vs ++ dvs) (us ++ ds) := r.append hd
    have hl : (us ++ ds).length = ps.length := by rw [← r2.length]; exact F.len _ _ _ _ q
    refine wpAny_call (codeAny_mono (F.go X.A X.stack s1 H1 ⟨us, []⟩ (us ++ ds) (vs ++ dvs) Q E hG hr I1.env0 (hb s1 us I1.kIn hl) r2 q) fun res s' hq => ?_)
    cases res with
    | error er => exact hx pins σ H1 s1 er s' I1 hq
    | ok fl =>
      cases fl with
      | ret u => exact I1.after hq
      | _ => exact False.elim hq
end
end K14
set_option maxHeartbeats 4000000
/-! the end of a law whose def is told where no repr is under way -/
namespace K14
open PySem L2 Evl
section
variable {P : Program} {w : World} {K : PySem.W.Frag} {mg mb : Str → Option Value} {CX : CXT} {k : Nat} {fa a : Addr} {fd : FuncData} {x : Str} {sp : Sp} {s : Shared} {vs : List Value} {ns : List Int}
/-- what is asked of a run -/
abbrev LawEnd (s : Shared) (r : Result) (s' : Shared) : Prop := r = .ok (.ret (.bool true)) ∧ OldK s.heap s'.heap ∧ s'.os = s.os ∧ PyProof.Rows.AllBare s'.gens
/-- from an abstract heap in which the script may be tracked, and nothing else -/
theorem law_from (KX : K.In s.heap) (hns : s.heap.Ns mainGlobals mg) (hb : s.heap.Ns builtinsNs mb) (hbb : ∀ x : Str, x ≠ "__name__" → mb x = bootBuiltins x) (hlim : s.heap.NoLimit) (hg : s.gens = #[]) (ha : s.heap.get? a = some { cls := .type "list", data := .seq vs.toArray })
    (hr : Room k callerA) (F : ∀ base : Heap, K.In base → base.Ns mainGlobals mg → FnG P w K mg base CX k fa fd [x] sp) (hbind : ∀ (s : Shared) (u : Value), BindsTo s fd ⟨[u], []⟩ [(x, u)]) {H : Hp} (hO : Only H) (hS : sp [.ref a] H (fun v _ => v = .bl true) fun _ _ _ => False)
    (hCX : ∀ e s', CX [] H s (fun _ _ _ => False) e s' → False) (hok : HOk P w H s.heap) (one : ∀ b, H b ≠ none → b = a) (notK : H a ≠ none → K.lookup a = none) : codeAny (model P w) callerA (.call (.ref fa) ⟨[.ref a], []⟩) (LawEnd s) s := by
  have stays : ∀ {b : Addr} {o : Obj}, s.heap.get? b = some o → H b = none → (hidT s.heap H).get? b = some o := fun e n => hidT_get e n
  have dictFree : ∀ {b : Addr} {o : Obj} {es : Array DictEntry} {ep : Nat}, s.heap.get? b = some o → o.data = .dict es ep → H b = none := fun {b o es ep} e d => Classical.byContradiction fun c => by
    have e' : b = a := one b c
    rw [e', ha] at e
    cases e
    cases (show Data.seq vs.toArray _ = Data.dict es ep from d)
  have nsK : ∀ {b : Addr} {m : Str → Option Value}, s.heap.Ns b m → (hidT s.heap H).Ns b m := fun {b m} ⟨o, es, ep, e, d, r⟩ => ⟨o, es, ep, stays e (dictFree e d), d, r⟩
  have hKb : K.In (hidT s.heap H) := fun b o e => stays (KX b o e) (Classical.byContradiction fun c => by
    have e' : b = a := one b c
    rw [e'] at e c
    rw [notK c] at e
    cases e)
  have hM : Mod K mg (hidT s.heap H) := ⟨hKb, nsK hns, ⟨mb, nsK hb, hbb⟩, let ⟨mc, h1, h2⟩ := hlim; ⟨mc, nsK h1, h2⟩⟩
  have e0 : Env0 P w K mg (hidT s.heap H) callerA [] s H := ⟨rfl, hM, fun b o e => of_hidT e, Nat.le_of_eq (hidT_size _ _), trivial, fun b hb => absurd (show b ∈ ([] : List Addr) from hb) (by simp), hok, .of_eq hg⟩
  refine codeAny_mono ((F _ hKb (nsK hns)).go callerA [] s H ⟨[.ref a], []⟩ [.ref a] [.ref a] _ _ rfl hr e0 (hbind s (.ref a)) (.cons rfl .nil) hS) fun r s' h => ?_
  cases r with
  | error e => exact (hCX e s' h).elim
  | ok fl =>
    cases fl with
    | next | brk | cont => exact False.elim h
    | ret u =>
      obtain ⟨v, H', os, bare, un, hok', rv, q⟩ := h
      obtain rfl : v = .bl true := q
      obtain rfl : u = Value.bool true := rv
      refine ⟨rfl, OldK.of_keep fun b o e => ?_, os, bare⟩
      cases q : H b with
      | none => exact un.keep b o e q (fun z => absurd (show b ∈ ([] : List Addr) from z) (by simp)) (by simp)
      | some u =>
        rcases hO b with z | ⟨ob, xs, z⟩
        · rw [q] at z
          cases z
        · obtain ⟨e1, _⟩ := hok b _ z
          obtain ⟨e2, _⟩ := hok' b _ (un.frzs b ob _ z)
          rw [e] at e1
          cases e1
          exact e2
theorem law_callG (KX : K.In s.heap) (hns : s.heap.Ns mainGlobals mg) (hb : s.heap.Ns builtinsNs mb) (hbb : ∀ x : Str, x ≠ "__name__" → mb x = bootBuiltins x) (hlim : s.heap.NoLimit) (hg : s.gens = #[]) (ha : s.heap.get? a = some { cls := .type "list", data := .seq vs.toArray }) (hi : PyProof.Rows.IntsAre vs ns) (hl : ns.length ≤ sizeLine)
    (hr : Room k callerA) (F : ∀ base : Heap, K.In base → base.Ns mainGlobals mg → FnG P w K mg base CX k fa fd [x] sp) (hbind : ∀ (s : Shared) (u : Value), BindsTo s fd ⟨[u], []⟩ [(x, u)]) (hsp : ∀ H : Hp, Only H → SqL K H a (ns.map V.int) → sp [.ref a] H (fun v _ => v = .bl true) fun _ _ _ => False)
    (hCX : ∀ H e s', CX [] H s (fun _ _ _ => False) e s' → False) : codeAny (model P w) callerA (.call (.ref fa) ⟨[.ref a], []⟩) (LawEnd s) s := by
  have rv := vals_ints hi
  cases hk : K.lookup a with
  | some o =>
    have e := KX a o hk
    rw [ha] at e
    cases e
    have hO : Only (fun _ => none : Hp) := fun _ => .inl rfl
    refine law_from KX hns hb hbb hlim hg ha hr F hbind (H := fun _ => none) hO (hsp _ hO (.inr ⟨_, vs.toArray, _, hk, rfl, rfl, rfl, by rw [List.size_toArray, hi.length]; exact hl, by simpa using rv⟩)) (hCX _) (fun b u z => by cases (show (none : Option HO) = some u from z)) (fun b z => absurd rfl z) fun z => absurd rfl z
  | none =>
    have at_ : ∀ {b : Addr} {u : HO}, (if b = a then some (HO.frz { cls := .type "list", data := .seq vs.toArray } (.lst (ns.map V.int))) else none) = some u → b = a ∧ u = .frz { cls := .type "list", data := .seq vs.toArray } (.lst (ns.map V.int)) := fun {b u} z => by
      split at z
      · rename_i c
        exact ⟨c, (Option.some.inj z).symm⟩
      · cases z
    have hO : Only (fun b => if b = a then some (.frz { cls := .type "list", data := .seq vs.toArray } (.lst (ns.map V.int))) else none) := fun b => by
      by_cases c : b = a
      · exact .inr ⟨_, _, if_pos c⟩
      · exact .inl (if_neg c)
    refine law_from KX hns hb hbb hlim hg ha hr F hbind hO (hsp _ hO (.inl (.inr ⟨{ cls := .type "list", data := .seq vs.toArray }, if_pos rfl⟩))) (hCX _) (fun b u z => ?_) (fun b z => ?_) fun _ => hk
    · obtain ⟨rfl, rfl⟩ := at_ z
      exact ⟨ha, by rw [List.length_map]; exact hl, vs, _, rv, ha⟩
    · by_cases c : b = a
      · exact c
      · exact absurd (if_neg c) z
end
/-- the goal that the head leaves -/
theorem walk_ofG {l : PySem.W.OpenLaw} {n k : Nat} {q : Program} {loose : List Str} {XP : (Str → Option Value) → Heap → Prop} {YP : World → Heap → Prop} {d : DefRec} {K : Params → PySem.W.Frag} {sp : PySem.W.Frag → Sp} {x : Str} (hn : l.most = some n) (hn2 : n ≤ sizeLine) (hdf : d.params.defaults = []) (hr : Room k callerA)
    (hY : ∀ (w : World) (h : Heap), YP w h → (K w.params).In h)
    (F : ∀ (w : World) (mg : Str → Option Value) (fa : Addr) (h : Heap), (K w.params).In h → h.Ns mainGlobals mg → mg d.name = some (.ref fa) → ∃ fd : FuncData, (∀ (s : Shared) (u : Value), BindsTo s fd ⟨[u], []⟩ [(x, u)]) ∧
      ∀ base : Heap, (K w.params).In base → base.Ns mainGlobals mg → FnG l.prog w (K w.params) mg base CX0 k fa fd [x] (sp (K w.params)))
    (hsp : ∀ (K : PySem.W.Frag) (H : Hp) (a : Addr) (ns : List Int), ns.length ≤ n → Only H → SqL K H a (ns.map V.int) → sp K [.ref a] H (fun v _ => v = .bl true) fun _ _ _ => False) : PySem.W.WalkO q loose XP YP l.row.toRowW d [] (fun f vs => PySem.call f vs) := by
  refine Att.attach_call hn hdf fun w s₀ s₁ mg mb fa o pm cd doc a vs ns G Y ho hd hcd hmg hobj hints hlen hg => ?_
  obtain ⟨fd, hb, hF⟩ := F w mg fa _ (hY w _ Y) G.T.g hmg
  exact law_callG (hY w _ Y) G.T.g G.T.b G.T.builtins G.T.nolimit hg hobj hints (Nat.le_trans hlen hn2) hr hF hb (fun H hO hS => hsp _ H a ns hlen hO hS) fun H e s' h => h
end K14
set_option maxHeartbeats 4000000
/-! plain: the least reader of a language is one -/
namespace K14
/-- a row of w signs -/
def Ov (w : Nat) (r : List Nat) : Prop := ∀ a ∈ r, a < w
theorem Ov.cons {w a : Nat} {r : List Nat} (ha : a < w) (h : Ov w r) : Ov w (a :: r) := fun b hb => by
  rcases List.mem_cons.mp hb with rfl | hb
  · exact ha
  · exact h b hb
theorem Ov.tail {w a : Nat} {r : List Nat} (h : Ov w (a :: r)) : Ov w r := fun b hb => h b (List.mem_cons_of_mem _ hb)
theorem Ov.head {w a : Nat} {r : List Nat} (h : Ov w (a :: r)) : a < w := h a (List.mem_cons_self ..)
theorem ov_nil {w : Nat} : Ov w [] := fun _ h => nomatch h
section
variable {rows arr : Rows} {ends shut us line : List Nat} {w : Nat} {f : Nat → Nat}
theorem acc_none (r : List Nat) : acc rows ends none r = false := by
  unfold acc
  rw [run_none]
theorem acc_cons (s a : Nat) (r : List Nat) : acc rows ends (some s) (a :: r) = acc rows ends (stp rows s a) r := rfl
theorem acc_nil (s : Nat) : acc rows ends (some s) [] = decide (s ∈ ends) := rfl
theorem stp_mem {s a t : Nat} (h : stp rows s a = some t) : (rows.getD s [])[a]? = some (some t) := by
  unfold stp at h
  rw [List.getD_eq_getElem?_getD] at h
  cases q : (rows.getD s [])[a]? with
  | none =>
    rw [q] at h
    cases h
  | some o =>
    rw [q] at h
    rw [← h]
    rfl
theorem mem_stp {s t : Nat} (h : some t ∈ rows.getD s []) : ∃ a, a < (rows.getD s []).length ∧ stp rows s a = some t := by
  obtain ⟨a, ha, e⟩ := List.getElem_of_mem h
  refine ⟨a, ha, ?_⟩
  unfold stp
  rw [List.getD_eq_getElem?_getD, List.getElem?_eq_getElem ha, e]
  rfl
theorem Wf.tgt (W : Wf w rows) {s a t : Nat} (hs : s < rows.length) (h : stp rows s a = some t) : t < rows.length :=
  W.bnd _ (List.mem_of_getElem? (W.row hs).1) t (List.mem_of_getElem? (stp_mem h))
theorem co_acc (W : Wf w rows) : ∀ (r : List Nat) (s : Nat), s < rows.length → acc rows ends (some s) r = true → Co rows ends s
  | [], s, _, h => .base (of_decide_eq_true h)
  | a :: r, s, hs, h => by
    rw [acc_cons] at h
    cases q : stp rows s a with
    | none =>
      rw [q, acc_none] at h
      cases h
    | some t =>
      rw [q] at h
      exact .step (co_acc W r t (W.tgt hs q) h) hs (List.mem_of_getElem? (stp_mem q))
theorem acc_co (W : Wf w rows) {s : Nat} (h : Co rows ends s) : ∃ r, Ov w r ∧ acc rows ends (some s) r = true := by
  induction h with
  | base h => exact ⟨[], ov_nil, decide_eq_true h⟩
  | step _ hj hk ih =>
    obtain ⟨r, h1, h2⟩ := ih
    obtain ⟨a, ha, e⟩ := mem_stp hk
    rw [(W.row hj).2] at ha
    exact ⟨a :: r, h1.cons ha, by rw [acc_cons, e]; exact h2⟩
theorem useful_to (W : Wf w rows) (U : UsefulAre rows ends us) {s a t : Nat} (hs : s ∈ us) (h : stp rows s a = some t) (c : Co rows ends t) : t ∈ us := by
  have hb := U.bd s hs
  refine (U.mem t (W.tgt hb h)).mpr ⟨.step ((U.mem s hb).mp hs).1 (List.mem_of_getElem? (stp_mem h)), c⟩
theorem dead (W : Wf w rows) (U : UsefulAre rows ends us) {s a : Nat} (hs : s ∈ us) (h : ∀ x, stp rows s a = some x → x ∉ us) (r : List Nat) : acc rows ends (stp rows s a) r = false := by
  cases q : stp rows s a with
  | none => exact acc_none r
  | some t =>
    cases e : acc rows ends (some t) r with
    | false => rfl
    | true => exact absurd (useful_to W U hs q (co_acc W r t (W.tgt (U.bd s hs) q) e)) (h t q)
theorem kO_cases (us : List Nat) (f : Nat → Nat) (o : Option Nat) : (∃ x, x ∈ us ∧ o = some x ∧ kO us f o = (f x : Int)) ∨ ((∀ x, o = some x → x ∉ us) ∧ kO us f o = -1) := by
  cases o with
  | none => exact .inr ⟨fun x h => (nomatch h), rfl⟩
  | some t =>
    by_cases m : t ∈ us
    · exact .inl ⟨t, m, rfl, by simp [kO, m]⟩
    · exact .inr ⟨fun x h => by cases h; exact m, by simp [kO, m]⟩
/-- stands of a kind accept alike -/
theorem same_kind (W : Wf w rows) (U : UsefulAre rows ends us) (KO : KindsOk rows ends us f) : ∀ (r : List Nat) (s t : Nat), Ov w r → s ∈ us → t ∈ us → f s = f t → acc rows ends (some s) r = acc rows ends (some t) r
  | [], s, t, _, hs, ht, e => by
    rw [acc_nil, acc_nil]
    exact decide_eq_decide.mpr (KO.inv.fin s hs t ht e)
  | a :: r, s, t, ho, hs, ht, e => by
    rw [acc_cons, acc_cons]
    have m := KO.step s hs t ht e
    have c1 := W.cell (U.bd s hs) ho.head
    have c2 := W.cell (U.bd t ht) ho.head
    have m1 : ((rows.getD s []).map (kO us f))[a]? = ((rows.getD t []).map (kO us f))[a]? := by rw [m]
    rw [List.getElem?_map, List.getElem?_map, c1, c2] at m1
    have m2 : kO us f (stp rows s a) = kO us f (stp rows t a) := Option.some.inj m1
    rcases kO_cases us f (stp rows s a) with ⟨x, hx, ex, kx⟩ | ⟨hx, kx⟩
    · rcases kO_cases us f (stp rows t a) with ⟨y, hy, ey, ky⟩ | ⟨hy, ky⟩
      · rw [ex, ey]
        exact same_kind W U KO r x y ho.tail hx hy (by omega)
      · omega
    · rcases kO_cases us f (stp rows t a) with ⟨y, hy, ey, ky⟩ | ⟨hy, ky⟩
      · omega
      · rw [dead W U hs hx, dead W U ht hy]
/-- stands that accept alike are of a kind -/
theorem kind_same (W : Wf w rows) (U : UsefulAre rows ends us) (KO : KindsOk rows ends us f) {s t : Nat} (hs : s ∈ us) (ht : t ∈ us) (h : ∀ r, Ov w r → acc rows ends (some s) r = acc rows ends (some t) r) : f s = f t := by
  refine KO.inv.all (fun s t => ∀ r, Ov w r → acc rows ends (some s) r = acc rows ends (some t) r) ⟨fun s hs t ht h => decide_eq_decide.mp (h [] ov_nil), fun s hs t ht h => ?_⟩ s hs t ht h
  have ls := (W.row (U.bd s hs)).2
  have lt := (W.row (U.bd t ht)).2
  refine ⟨by rw [ls, lt], fun a o p ho hp => ?_⟩
  have ha : a < w := by
    rw [← ls]
    exact (List.getElem?_eq_some_iff.mp ho).1
  rw [W.cell (U.bd s hs) ha] at ho
  rw [W.cell (U.bd t ht) ha] at hp
  cases ho
  cases hp
  have key : ∀ r, Ov w r → acc rows ends (stp rows s a) r = acc rows ends (stp rows t a) r := fun r hr => h (a :: r) (hr.cons ha)
  have one : ∀ {s t : Nat}, s ∈ us → t ∈ us → (∀ r, Ov w r → acc rows ends (stp rows s a) r = acc rows ends (stp rows t a) r) → (∃ x ∈ us, stp rows s a = some x) → ∃ y ∈ us, stp rows t a = some y := fun {s t} hs ht key ⟨x, hx, ex⟩ => by
    obtain ⟨r, hr, e⟩ := acc_co W ((U.mem x (U.bd x hx)).mp hx).2
    have := key r hr
    rw [ex, e] at this
    cases q : stp rows t a with
    | none =>
      rw [q, acc_none] at this
      cases this
    | some y =>
      rw [q] at this
      exact ⟨y, useful_to W U ht q (co_acc W r y (W.tgt (U.bd t ht) q) this.symm), rfl⟩
  exact ⟨⟨one hs ht key, one ht hs fun r hr => (key r hr).symm⟩, fun x hx y hy ex ey r hr => by
    have := key r hr
    rwa [ex, ey] at this⟩
/-- the reader made accepts as the one it is made of -/
theorem bfs_acc (W : Wf w rows) (U : UsefulAre rows ends us) (KO : KindsOk rows ends us f) (B : Bfs rows w us f line arr) (hsh : ∀ j, j < line.length → (j ∈ shut ↔ line.getD j 0 ∈ ends)) : ∀ (r : List Nat) (j s : Nat), Ov w r → line[j]? = some s → acc arr shut (some j) r = acc rows ends (some s) r
  | [], j, s, _, hj => by
    rw [acc_nil, acc_nil]
    refine decide_eq_decide.mpr ((hsh j (List.getElem?_eq_some_iff.mp hj).1).trans ?_)
    rw [getD_of hj]
  | a :: r, j, s, ho, hj => by
    have hs := B.sub s (List.mem_of_getElem? hj)
    have c1 := W.cell (U.bd s hs) ho.head
    have e1 : stp arr j a = num us f line (stp rows s a) := by
      unfold stp
      rw [getD_of (B.row j s hj)]
      refine getD_of ?_
      rw [List.getElem?_map, c1]
      rfl
    rw [acc_cons, acc_cons, e1]
    rcases kO_cases us f (stp rows s a) with ⟨x, hx, ex, _⟩ | ⟨hx, _⟩
    · rw [ex, num_in hx]
      have hm : f x ∈ line.map f := B.has s (List.mem_of_getElem? hj) x (List.mem_of_getElem? (stp_mem ex)) hx
      have hi := List.idxOf_lt_length_of_mem hm
      have hil : (line.map f).idxOf (f x) < line.length := by rwa [List.length_map] at hi
      have hk := List.getElem?_eq_getElem hil
      rw [bfs_acc W U KO B hsh r _ _ ho.tail hk]
      have ef : f (line[(line.map f).idxOf (f x)]) = f x := by
        have := List.getElem_idxOf hi
        rwa [List.getElem_map] at this
      exact same_kind W U KO r _ _ ho.tail (B.sub _ (List.getElem_mem hil)) hx ef
    · rw [num_out hx, acc_none, dead W U hs hx]
/-- a reader each of whose stands is useful, and tells itself apart, numbered as met -/
structure Canon (w : Nat) (arr : Rows) (shut : List Nat) : Prop where
  wf : Wf w arr
  apart : ∀ i j, i < arr.length → j < arr.length → (∀ r, Ov w r → acc arr shut (some i) r = acc arr shut (some j) r) → i = j
  live : ∀ i, i < arr.length → ∃ r, Ov w r ∧ acc arr shut (some i) r = true
  met : Met w arr.length arr.flatten
  asc : Asc arr.length shut
theorem flat_get : ∀ {arr : Rows} {w j a : Nat}, (∀ r ∈ arr, r.length = w) → j < arr.length → a < w → arr.flatten[j * w + a]? = (arr.getD j [])[a]?
  | [], _, _, _, _, h, _ => absurd h (Nat.not_lt_zero _)
  | r :: arr, w, 0, a, hw, _, ha => by
    rw [List.flatten_cons, Nat.zero_mul, Nat.zero_add, List.getElem?_append_left (by rw [hw r (List.mem_cons_self ..)]; exact ha)]
    rfl
  | r :: arr, w, j + 1, a, hw, hj, ha => by
    have hr := hw r (List.mem_cons_self ..)
    rw [List.flatten_cons, List.getElem?_append_right (by rw [hr, Nat.succ_mul]; omega), hr]
    have : (j + 1) * w + a - w = j * w + a := by
      rw [Nat.succ_mul]
      omega
    rw [this, flat_get (fun r hr => hw r (List.mem_cons_of_mem _ hr)) (by simpa using hj) ha]
    rfl
theorem flat_cell {w j a : Nat} (W : Wf w arr) (hj : j < arr.length) (ha : a < w) : arr.flatten[j * w + a]? = some (stp arr j a) := by
  rw [flat_get W.wid hj ha]
  exact W.cell hj ha
theorem div_lt {q k w : Nat} (h : q < k * w) : ∃ j a, j < k ∧ a < w ∧ q = j * w + a := by
  have hw : 0 < w := by
    rcases Nat.eq_zero_or_pos w with e | e
    · rw [e, Nat.mul_zero] at h
      omega
    · exact e
  refine ⟨q / w, q % w, Nat.div_lt_of_lt_mul (by rw [Nat.mul_comm]; exact h), Nat.mod_lt _ hw, ?_⟩
  rw [Nat.mul_comm]
  exact (Nat.div_add_mod q w).symm
theorem step_alike {A B : Rows} {sA sB : List Nat} (CA : Canon w A sA) {i k a : Nat} (ha : a < w) (h : ∀ r, Ov w r → acc A sA (some i) r = acc B sB (some k) r) (r : List Nat) (hr : Ov w r) : acc A sA (stp A i a) r = acc B sB (stp B k a) r := h (a :: r) (hr.cons ha)
theorem alike_some {A B : Rows} {sA sB : List Nat} (CA : Canon w A sA) {x : Nat} {o : Option Nat} (hx : x < A.length) (h : ∀ r, Ov w r → acc A sA (some x) r = acc B sB o r) : ∃ y, o = some y := by
  obtain ⟨r, hr, e⟩ := CA.live x hx
  cases o with
  | none =>
    have := h r hr
    rw [e, acc_none] at this
    cases this
  | some y => exact ⟨y, rfl⟩
theorem canon_le {A B : Rows} {sA sB : List Nat} (CA : Canon w A sA) (CB : Canon w B sB) (h0 : ∀ r, Ov w r → acc A sA (some 0) r = acc B sB (some 0) r) : ∀ n k, k < n → k < A.length → k < B.length ∧ ∀ r, Ov w r → acc A sA (some k) r = acc B sB (some k) r
  | 0, k, h, _ => absurd h (Nat.not_lt_zero _)
  | n + 1, k, hkn, hk => by
    by_cases z : k = 0
    · subst z
      exact ⟨CB.wf.ne, h0⟩
    have ih : ∀ j, j < k → j < A.length → j < B.length ∧ ∀ r, Ov w r → acc A sA (some j) r = acc B sB (some j) r := fun j hj => canon_le CA CB h0 n j (by omega)
    obtain ⟨q, q1, q2, q3⟩ := CA.met k (by omega) hk
    obtain ⟨j, a, hj, ha, rfl⟩ := div_lt q1
    obtain ⟨jB, jL⟩ := ih j hj (by omega)
    have eA : stp A j a = some k := by
      rw [flat_cell CA.wf (by omega) ha] at q2
      exact Option.some.inj q2
    have L1 : ∀ r, Ov w r → acc A sA (some k) r = acc B sB (stp B j a) r := fun r hr => by
      rw [← eA]
      exact jL (a :: r) (hr.cons ha)
    obtain ⟨k', eB⟩ := alike_some CA hk L1
    rw [eB] at L1
    have k'B := CB.wf.tgt jB eB
    have fin : k' = k := by
      rcases Nat.lt_trichotomy k' k with c | c | c
      · exact absurd (CA.apart k' k (by omega) hk fun r hr => by rw [(ih k' c (by omega)).2 r hr, L1 r hr]) (by omega)
      · exact c
      · obtain ⟨p, p1, p2, p3⟩ := CB.met k (by omega) (by omega)
        rcases Nat.lt_trichotomy (j * w + a) p with d | d | d
        · have := p3 _ d k' (by rw [flat_cell CB.wf jB ha, eB])
          omega
        · rw [← d, flat_cell CB.wf jB ha, eB] at p2
          have := Option.some.inj (Option.some.inj p2)
          omega
        · obtain ⟨j2, a2, hj2, ha2, rfl⟩ := div_lt p1
          obtain ⟨j2B, j2L⟩ := ih j2 hj2 (by omega)
          have eB2 : stp B j2 a2 = some k := by
            rw [flat_cell CB.wf j2B ha2] at p2
            exact Option.some.inj p2
          have L2 : ∀ r, Ov w r → acc B sB (some k) r = acc A sA (stp A j2 a2) r := fun r hr => by
            rw [← eB2]
            exact (j2L (a2 :: r) (hr.cons ha2)).symm
          obtain ⟨k2, eA2⟩ := alike_some CB (by omega) L2
          rw [eA2] at L2
          have k2k := q3 _ d k2 (by rw [flat_cell CA.wf (by omega) ha2, eA2])
          exact absurd (CB.apart k k2 (by omega) (by have := (ih k2 k2k (by omega)).1; omega) fun r hr => by rw [L2 r hr, (ih k2 k2k (by omega)).2 r hr]) (by omega)
    subst fin
    exact ⟨k'B, L1⟩
theorem canon_eq {A B : Rows} {sA sB : List Nat} (CA : Canon w A sA) (CB : Canon w B sB) (h0 : ∀ r, Ov w r → acc A sA (some 0) r = acc B sB (some 0) r) : A = B ∧ sA = sB := by
  have L := fun k hk => canon_le CA CB h0 (k + 1) k (Nat.lt_succ_self _) hk
  have L' := fun k hk => canon_le CB CA (fun r hr => (h0 r hr).symm) (k + 1) k (Nat.lt_succ_self _) hk
  have hl : A.length = B.length := by
    have h1 := CA.wf.ne
    have h2 := CB.wf.ne
    have h3 := (L (A.length - 1) (by omega)).1
    have h4 := (L' (B.length - 1) (by omega)).1
    omega
  refine ⟨List.ext_getElem hl fun j h1 h2 => ?_, asc_eq CA.asc.asc CB.asc.asc fun k => ?_⟩
  · have w1 := CA.wf.wid _ (List.getElem_mem h1)
    have w2 := CB.wf.wid _ (List.getElem_mem h2)
    refine List.ext_getElem (by rw [w1, w2]) fun a a1 a2 => ?_
    have ha : a < w := by omega
    have g1 : A.getD j [] = A[j] := getD_of (List.getElem?_eq_getElem h1)
    have g2 : B.getD j [] = B[j] := getD_of (List.getElem?_eq_getElem h2)
    have c1 := CA.wf.cell h1 ha
    have c2 := CB.wf.cell h2 ha
    rw [g1, List.getElem?_eq_getElem a1] at c1
    rw [g2, List.getElem?_eq_getElem a2] at c2
    rw [Option.some.inj c1, Option.some.inj c2]
    have key : ∀ r, Ov w r → acc A sA (stp A j a) r = acc B sB (stp B j a) r := fun r hr => (L j h1).2 (a :: r) (hr.cons ha)
    cases e1 : stp A j a with
    | none =>
      cases e2 : stp B j a with
      | none => rfl
      | some y =>
        rw [e1, e2] at key
        obtain ⟨x, hx⟩ := alike_some CB (CB.wf.tgt h2 e2) fun r hr => (key r hr).symm
        cases hx
    | some x =>
      rw [e1] at key
      have hx := CA.wf.tgt h1 e1
      obtain ⟨y, hy⟩ := alike_some CA hx key
      rw [hy] at key ⊢
      have hy' := CB.wf.tgt h2 hy
      rw [CB.apart x y (by omega) hy' fun r hr => by rw [← (L x hx).2 r hr, key r hr]]
  · constructor
    · intro hk
      have hb := CA.asc.bd k hk
      have := (L k hb).2 [] ov_nil
      rw [acc_nil, acc_nil, decide_eq_true hk] at this
      exact of_decide_eq_true this.symm
    · intro hk
      have hb := CB.asc.bd k hk
      have := (L' k hb).2 [] ov_nil
      rw [acc_nil, acc_nil, decide_eq_true hk] at this
      exact of_decide_eq_true this.symm
theorem bfs_wf (W : Wf w rows) (U : UsefulAre rows ends us) (B : Bfs rows w us f line arr) : Wf w arr := by
  have row : ∀ r ∈ arr, ∃ s ∈ line, r = (rows.getD s []).map (num us f line) := fun r hr => by
    obtain ⟨j, hj, e⟩ := List.getElem_of_mem hr
    have hj' : j < line.length := by rw [← B.len]; exact hj
    have q := B.row j _ (List.getElem?_eq_getElem hj')
    rw [List.getElem?_eq_getElem hj, e] at q
    exact ⟨_, List.getElem_mem hj', Option.some.inj q⟩
  refine ⟨by rw [B.len]; exact (List.getElem?_eq_some_iff.mp B.first).1, fun r hr => ?_, fun r hr k hk => ?_⟩
  · obtain ⟨s, hs, rfl⟩ := row r hr
    rw [List.length_map]
    exact (W.row (U.bd s (B.sub s hs))).2
  · obtain ⟨s, hs, rfl⟩ := row r hr
    obtain ⟨o, ho, e⟩ := List.mem_map.mp hk
    rw [B.len]
    cases o with
    | none => cases e
    | some t =>
      by_cases m : t ∈ us
      · rw [num_in m] at e
        cases e
        have := List.idxOf_lt_length_of_mem (B.has s hs t ho m)
        rwa [List.length_map] at this
      · rw [num_out fun x e => by cases e; exact m] at e
        cases e
theorem bfs_canon (W : Wf w rows) (U : UsefulAre rows ends us) (KO : KindsOk rows ends us f) (B : Bfs rows w us f line arr) (hsh : shut = (List.range line.length).filter fun i => decide (line.getD i 0 ∈ ends)) : Canon w arr shut ∧ ∀ r, Ov w r → acc arr shut (some 0) r = acc rows ends (some 0) r := by
  have sh : ∀ j, j < line.length → (j ∈ shut ↔ line.getD j 0 ∈ ends) := fun j hj => by
    rw [hsh, List.mem_filter, List.mem_range, decide_eq_true_eq]
    exact ⟨fun h => h.2, fun h => ⟨hj, h⟩⟩
  have L := bfs_acc (shut := shut) W U KO B sh
  have get : ∀ j, j < arr.length → ∃ s, line[j]? = some s ∧ s ∈ us := fun j hj => by
    rw [B.len] at hj
    exact ⟨_, List.getElem?_eq_getElem hj, B.sub _ (List.getElem_mem hj)⟩
  refine ⟨⟨bfs_wf W U B, fun i j hi hj h => ?_, fun i hi => ?_, by rw [B.len]; exact B.met, ?_⟩, fun r hr => L r 0 0 hr B.first⟩
  · obtain ⟨s, s1, s2⟩ := get i hi
    obtain ⟨t, t1, t2⟩ := get j hj
    have e := kind_same W U KO s2 t2 fun r hr => by rw [← L r i s hr s1, ← L r j t hr t1, h r hr]
    rw [B.len] at hi hj
    have h1 : (line.map f)[i]'(by rw [List.length_map]; exact hi) = (line.map f)[j]'(by rw [List.length_map]; exact hj) := by
      rw [List.getElem_map, List.getElem_map]
      rw [List.getElem?_eq_getElem hi] at s1
      rw [List.getElem?_eq_getElem hj] at t1
      rw [Option.some.inj s1, Option.some.inj t1, e]
    have nd := List.pairwise_iff_getElem.mp B.nd
    rcases Nat.lt_trichotomy i j with c | c | c
    · exact absurd h1 (nd i j _ _ c)
    · exact c
    · exact absurd h1.symm (nd j i _ _ c)
  · obtain ⟨s, s1, s2⟩ := get i hi
    obtain ⟨r, hr, e⟩ := acc_co W ((U.mem s (U.bd s s2)).mp s2).2
    exact ⟨r, hr, by rw [L r i s hr s1, e]⟩
  · rw [B.len, hsh]
    exact ⟨List.Pairwise.filter _ List.pairwise_lt_range, fun k hk => List.mem_range.mp (List.mem_filter.mp hk).1⟩
theorem stp_rep {w a : Nat} : stp [List.replicate w none] 0 a = none := by
  unfold stp
  show (List.replicate w none).getD a none = none
  rw [List.getD_eq_getElem?_getD, List.getElem?_replicate]
  split <;> rfl
theorem no_acc (W : Wf w rows) (h : ¬ Useful rows ends 0) (r : List Nat) : acc rows ends (some 0) r = false := by
  cases e : acc rows ends (some 0) r with
  | false => rfl
  | true => exact absurd ⟨.base (by simp), co_acc W r 0 W.ne e⟩ h
theorem rep_acc (r : List Nat) : acc [List.replicate w none] [] (some 0) r = false := by
  cases r with
  | nil => rfl
  | cons a r => rw [acc_cons, stp_rep, acc_none]
/-- the least reader says the same -/
theorem least_acc (W : Wf w rows) (h : LeastR rows w ends arr shut) (r : List Nat) (hr : Ov w r) : acc arr shut (some 0) r = acc rows ends (some 0) r := by
  rcases h with ⟨h, rfl, rfl⟩ | ⟨us, f, line, U, h0, KO, B, hs⟩
  · rw [no_acc W h, rep_acc]
  · exact (bfs_canon W U KO B hs).2 r hr
/-- .. and is told by what it says -/
theorem least_eq {rows' arr' : Rows} {ends' shut' : List Nat} (W : Wf w rows) (W' : Wf w rows') (h : LeastR rows w ends arr shut) (h' : LeastR rows' w ends' arr' shut') (e : ∀ r, Ov w r → acc rows ends (some 0) r = acc rows' ends' (some 0) r) : arr = arr' ∧ shut = shut' := by
  rcases id h with ⟨a1, rfl, rfl⟩ | ⟨us, f, line, U, h0, KO, B, hs⟩
  · rcases id h' with ⟨b1, rfl, rfl⟩ | ⟨us', f', line', U', h0', KO', B', hs'⟩
    · exact ⟨rfl, rfl⟩
    · obtain ⟨r, hr, q⟩ := acc_co W' ((U'.mem 0 W'.ne).mp h0').2
      rw [← e r hr, no_acc W a1] at q
      cases q
  · rcases id h' with ⟨b1, rfl, rfl⟩ | ⟨us', f', line', U', h0', KO', B', hs'⟩
    · obtain ⟨r, hr, q⟩ := acc_co W ((U.mem 0 W.ne).mp h0).2
      rw [e r hr, no_acc W' b1] at q
      cases q
    · have c1 := bfs_canon W U KO B hs
      have c2 := bfs_canon W' U' KO' B' hs'
      exact canon_eq c1.1 c2.1 fun r hr => by rw [c1.2 r hr, c2.2 r hr, e r hr]
end
end K14
set_option maxHeartbeats 4000000
/-! plain: ways of guessers -/
namespace K14
/-- a way over some steps -/
inductive Wy (ss : List Stp) : Nat → List Nat → Nat → Prop
  | nil {s : Nat} : Wy ss s [] s
  | eps {s t u : Nat} {r : List Nat} : (s, none, t) ∈ ss → Wy ss t r u → Wy ss s r u
  | sg {s a t u : Nat} {r : List Nat} : (s, some a, t) ∈ ss → Wy ss t r u → Wy ss s (a :: r) u
/-- a row with a way -/
def Says (ss : List Stp) (bs gs : List Nat) (r : List Nat) : Prop := ∃ b ∈ bs, ∃ g ∈ gs, Wy ss b r g
section
variable {ss ts : List Stp} {bs gs : List Nat} {r q : List Nat} {s t u m w : Nat}
theorem Wy.trans (h : Wy ss s r t) (k : Wy ss t q u) : Wy ss s (r ++ q) u := by
  induction h with
  | nil => exact k
  | eps e _ ih => exact .eps e (ih k)
  | sg e _ ih => exact .sg e (ih k)
theorem Wy.turn (hm : ∀ x, x ∈ ts ↔ turnS x ∈ ss) (h : Wy ss s r t) : Wy ts t r.reverse s := by
  induction h with
  | nil => exact .nil
  | @eps s t u r e _ ih =>
    have := ih.trans (.eps ((hm (t, none, s)).mpr e) .nil)
    rwa [List.append_nil] at this
  | @sg s a t u r e _ ih =>
    rw [List.reverse_cons]
    exact ih.trans (.sg ((hm (t, some a, s)).mpr e) .nil)
theorem Says.turn (hm : ∀ x, x ∈ ts ↔ turnS x ∈ ss) (h : Says ss bs gs r) : Says ts gs bs r.reverse := by
  obtain ⟨b, hb, g, hg, h⟩ := h
  exact ⟨g, hg, b, hb, h.turn hm⟩
theorem turnS_twice (x : Stp) : turnS (turnS x) = x := rfl
theorem says_turn (hm : ∀ x, x ∈ ts ↔ turnS x ∈ ss) : Says ts gs bs r.reverse ↔ Says ss bs gs r := by
  refine ⟨fun h => ?_, fun h => h.turn hm⟩
  have := h.turn (ts := ss) (fun x => by rw [hm, turnS_twice])
  rwa [List.reverse_reverse] at this
theorem turn_twice {n m : Nat} {us : List Stp} (hn : n ≤ 8) (hm : m ≤ 12) (ok : SsOk n m ss) (h1 : TurnOf n m ss ts) (h2 : TurnOf n m ts us) : us = ss :=
  ss_eq hn hm h2.ok ok fun x => by rw [h2.mem, h1.mem, turnS_twice]
theorem Wy.cons_inv {a : Nat} {z : List Nat} (h : Wy ss s z u) (e : z = a :: r) : ∃ x y, Wy ss s [] x ∧ (x, some a, y) ∈ ss ∧ Wy ss y r u := by
  induction h with
  | nil => cases e
  | eps h1 _ ih =>
    obtain ⟨x, y, a1, a2, a3⟩ := ih e
    exact ⟨x, y, .eps h1 a1, a2, a3⟩
  | sg h1 h2 _ =>
    cases e
    exact ⟨_, _, .nil, h1, h2⟩
theorem rch_wy (hb : ∀ s ∈ ss, s.2.2 < m) {S : List Nat} (hS : ∀ k ∈ S, k < m) {k : Nat} (h : Rch (gR m ss none) S k) : ∃ b ∈ S, Wy ss b [] k := by
  induction h with
  | base h => exact ⟨_, h, .nil⟩
  | @step j k hj h ih =>
    obtain ⟨b, h1, h2⟩ := ih
    rw [gR_get (rch_lt hS hb hj)] at h
    obtain ⟨x, hx, e⟩ := List.mem_map.mp h
    cases e
    exact ⟨b, h1, h2.trans (.eps (mem_gb.mp hx) .nil)⟩
theorem wy_rch (ha : ∀ s ∈ ss, s.1 < m) {S : List Nat} {z : List Nat} (h : Wy ss s z u) : z = [] → Rch (gR m ss none) S s → Rch (gR m ss none) S u := by
  induction h with
  | nil => exact fun _ h => h
  | @eps s t u r h1 _ ih =>
    refine fun e k => ih e (.step k ?_)
    rw [gR_get (ha _ h1)]
    exact List.mem_map.mpr ⟨t, mem_gb.mpr h1, rfl⟩
  | sg _ _ _ => exact fun e => nomatch e
theorem mem_cloW (ha : ∀ s ∈ ss, s.1 < m) (hb : ∀ s ∈ ss, s.2.2 < m) {S : List Nat} (hS : ∀ k ∈ S, k < m) (k : Nat) : k ∈ clo m ss S ↔ ∃ b ∈ S, Wy ss b [] k := by
  rw [mem_clo hS hb]
  exact ⟨rch_wy hb hS, fun ⟨b, h1, h2⟩ => wy_rch ha h2 rfl (.base h1)⟩
theorem mem_nearL {lot : List Nat} {a k : Nat} : k ∈ nearL ss lot a ↔ ∃ s ∈ lot, (s, some a, k) ∈ ss := by
  unfold nearL
  rw [List.mem_flatMap]
  exact ⟨fun ⟨s, h1, h2⟩ => ⟨s, h1, mem_gb.mp h2⟩, fun ⟨s, h1, h2⟩ => ⟨s, h1, mem_gb.mpr h2⟩⟩
theorem mem_lots (ha : ∀ s ∈ ss, s.1 < m) (hb : ∀ s ∈ ss, s.2.2 < m) : ∀ (r S : List Nat), (∀ k ∈ S, k < m) → ∀ k, k ∈ r.foldl (stepL m ss) (clo m ss S) ↔ ∃ b ∈ S, Wy ss b r k
  | [], S, hS, k => mem_cloW ha hb hS k
  | a :: r, S, hS, k => by
    have hN : ∀ k ∈ nearL ss (clo m ss S) a, k < m := fun k hk => by
      obtain ⟨s, _, h⟩ := mem_nearL.mp hk
      exact hb _ h
    show k ∈ r.foldl (stepL m ss) (clo m ss (nearL ss (clo m ss S) a)) ↔ _
    rw [mem_lots ha hb r _ hN k]
    constructor
    · rintro ⟨b, h1, h2⟩
      obtain ⟨s, h3, h4⟩ := mem_nearL.mp h1
      obtain ⟨b0, h5, h6⟩ := (mem_cloW ha hb hS s).mp h3
      exact ⟨b0, h5, h6.trans (.sg h4 h2)⟩
    · rintro ⟨b, h1, h2⟩
      obtain ⟨x, y, a1, a2, a3⟩ := h2.cons_inv rfl
      exact ⟨y, mem_nearL.mpr ⟨x, (mem_cloW ha hb hS x).mpr ⟨b, h1, a1⟩, a2⟩, a3⟩
theorem rch_nil {rows : Rows} {k : Nat} (h : Rch rows [] k) : False := by
  induction h with
  | base h => cases h
  | step _ _ ih => exact ih
open Classical in
theorem clo_nil : clo m ss [] = [] := by
  unfold clo
  exact List.filter_eq_nil_iff.mpr fun k _ h => rch_nil (of_decide_eq_true h)
theorem fold_nil : ∀ r : List Nat, r.foldl (stepL m ss) [] = []
  | [] => rfl
  | a :: r => by
    show r.foldl (stepL m ss) (clo m ss (nearL ss [] a)) = []
    have : nearL ss [] a = [] := rfl
    rw [this, clo_nil, fold_nil r]
theorem lots_acc {arr : Rows} {ends : List Nat} {line : List (List Nat)}
    (hrow : ∀ (j : Nat) lot, line[j]? = some lot → arr[j]? = some ((List.range w).map fun a => numL line (stepL m ss lot a)))
    (has : ∀ lot ∈ line, ∀ a, a < w → stepL m ss lot a ≠ [] → stepL m ss lot a ∈ line)
    (he : ends = (List.range line.length).filter fun i => decide (∃ s ∈ line.getD i [], s ∈ gs)) : ∀ (r : List Nat) (j : Nat) (lot : List Nat), Ov w r → line[j]? = some lot → (acc arr ends (some j) r = true ↔ ∃ s ∈ r.foldl (stepL m ss) lot, s ∈ gs)
  | [], j, lot, _, hj => by
    rw [acc_nil, decide_eq_true_eq, he, List.mem_filter, List.mem_range, decide_eq_true_eq, getD_of hj]
    exact ⟨fun h => h.2, fun h => ⟨(List.getElem?_eq_some_iff.mp hj).1, h⟩⟩
  | a :: r, j, lot, ho, hj => by
    have e1 : stp arr j a = numL line (stepL m ss lot a) := by
      unfold stp
      rw [getD_of (hrow j lot hj)]
      refine getD_of ?_
      rw [List.getElem?_map, List.getElem?_range ho.head]
      rfl
    rw [acc_cons, e1]
    show _ ↔ ∃ s ∈ r.foldl (stepL m ss) (stepL m ss lot a), s ∈ gs
    by_cases c : stepL m ss lot a = []
    · rw [c, fold_nil]
      unfold numL
      rw [if_pos rfl, acc_none]
      exact ⟨fun h => (nomatch h), fun ⟨s, h, _⟩ => (nomatch h)⟩
    · unfold numL
      rw [if_neg c]
      have hm := has lot (List.mem_of_getElem? hj) a ho.head c
      have hi := List.idxOf_lt_length_of_mem hm
      refine lots_acc hrow has he r _ _ ho.tail ?_
      rw [List.getElem?_eq_getElem hi, List.getElem_idxOf hi]
/-- the reader of lots says what the guesser says -/
theorem sub_acc {arr : Rows} {ends : List Nat} (ha : ∀ s ∈ ss, s.1 < m) (hb : ∀ s ∈ ss, s.2.2 < m) (hS : ∀ k ∈ bs, k < m) (h : SubR w m bs ss gs arr ends) (hr : Ov w r) : acc arr ends (some 0) r = true ↔ Says ss bs gs r := by
  obtain ⟨line, h1, h2, h3, h4, h5, h6, h7⟩ := h.ex
  rw [lots_acc h5 h6 h7 r 0 _ hr h1]
  constructor
  · rintro ⟨s, h8, h9⟩
    obtain ⟨b, a1, a2⟩ := (mem_lots ha hb r bs hS s).mp h8
    exact ⟨b, a1, s, h9, a2⟩
  · rintro ⟨b, a1, g, a2, a3⟩
    exact ⟨g, (mem_lots ha hb r bs hS g).mpr ⟨b, a1, a3⟩, a2⟩
theorem sub_wf {arr : Rows} {ends : List Nat} (h : SubR w m bs ss gs arr ends) : Wf w arr ∧ arr.length ≤ 2 ^ m ∧ Asc arr.length ends := by
  obtain ⟨line, h1, h2, h3, h4, h5, h6, h7⟩ := h.ex
  have row : ∀ r ∈ arr, ∃ lot ∈ line, r = (List.range w).map fun a => numL line (stepL m ss lot a) := fun r hr => by
    obtain ⟨j, hj, e⟩ := List.getElem_of_mem hr
    have hj' : j < line.length := by rw [← h4]; exact hj
    have q := h5 j _ (List.getElem?_eq_getElem hj')
    rw [List.getElem?_eq_getElem hj, e] at q
    exact ⟨_, List.getElem_mem hj', Option.some.inj q⟩
  refine ⟨⟨by rw [h4]; exact (List.getElem?_eq_some_iff.mp h1).1, fun r hr => ?_, fun r hr k hk => ?_⟩, by rw [h4]; exact lots_le h2 h3, ?_⟩
  · obtain ⟨lot, _, rfl⟩ := row r hr
    rw [List.length_map, List.length_range]
  · obtain ⟨lot, hl, rfl⟩ := row r hr
    obtain ⟨a, ha, e⟩ := List.mem_map.mp hk
    unfold numL at e
    split at e
    · cases e
    · rename_i c
      cases e
      rw [h4]
      exact List.idxOf_lt_length_of_mem (h6 lot hl a (List.mem_range.mp ha) c)
  · rw [h4, h7]
    exact ⟨List.Pairwise.filter _ List.pairwise_lt_range, fun k hk => List.mem_range.mp (List.mem_filter.mp hk).1⟩
/-! ### the law's own guessing -/
def Shut (ss : List Stp) (l : List Nat) : Prop := ∀ s t, (s, none, t) ∈ ss → s ∈ l → t ∈ l
theorem mem_outL {l : List Nat} {k : Nat} : k ∈ (ss.filter (outB l)).map (·.2.2) ↔ ∃ s, s ∈ l ∧ k ∉ l ∧ (s, none, k) ∈ ss := by
  rw [List.mem_map]
  constructor
  · rintro ⟨⟨a, o, b⟩, h, rfl⟩
    rw [List.mem_filter] at h
    obtain ⟨h1, h2⟩ := h
    unfold outB at h2
    simp only [Bool.and_eq_true, decide_eq_true_eq, Bool.not_eq_true', decide_eq_false_iff_not] at h2
    obtain ⟨rfl, h3, h4⟩ := h2
    exact ⟨a, h3, h4, h1⟩
  · rintro ⟨s, h1, h2, h3⟩
    refine ⟨_, List.mem_filter.mpr ⟨h3, ?_⟩, rfl⟩
    unfold outB
    simp [h1, h2]
theorem out1_shut {l : List Nat} (h : Shut ss l) : out1 ss l = l := by
  have : (ss.filter (outB l)).map (·.2.2) = [] := List.eq_nil_iff_forall_not_mem.mpr fun k hk => by
    obtain ⟨s, h1, h2, h3⟩ := mem_outL.mp hk
    exact h2 (h s k h3 h1)
  unfold out1
  rw [this]
  exact List.append_nil l
theorem out1_sub {l : List Nat} {k : Nat} (h : k ∈ l) : k ∈ out1 ss l := List.mem_append_left _ h
theorem out1_from {l : List Nat} {k : Nat} (h : k ∈ out1 ss l) : ∃ b ∈ l, Wy ss b [] k := by
  rcases List.mem_append.mp h with h | h
  · exact ⟨k, h, .nil⟩
  · obtain ⟨s, h1, _, h3⟩ := mem_outL.mp (List.mem_of_mem_take h)
    exact ⟨s, h1, .eps h3 .nil⟩
def cnt (m : Nat) (l : List Nat) : Nat := ((List.range m).filter fun k => !decide (k ∈ l)).length
theorem cnt_le {l : List Nat} : cnt m l ≤ m := filter_len
theorem cnt_zero (hb : ∀ s ∈ ss, s.2.2 < m) {l : List Nat} (h : cnt m l = 0) : Shut ss l := fun s t h1 _ => by
  have e := List.eq_nil_of_length_eq_zero h
  refine Classical.byContradiction fun c => ?_
  have : t ∈ (List.range m).filter fun k => !decide (k ∈ l) := List.mem_filter.mpr ⟨List.mem_range.mpr (hb _ h1), by simp [c]⟩
  rw [e] at this
  cases this
theorem out1_cnt (hb : ∀ s ∈ ss, s.2.2 < m) {l : List Nat} (h : ¬ Shut ss l) : cnt m (out1 ss l) + 1 ≤ cnt m l := by
  obtain ⟨s, t, h1, h2, h3⟩ : ∃ s t, (s, none, t) ∈ ss ∧ s ∈ l ∧ t ∉ l := Classical.byContradiction fun c => h fun s t h1 h2 => Classical.byContradiction fun h3 => c ⟨s, t, h1, h2, h3⟩
  have hm := mem_outL.mpr ⟨s, h2, h3, h1⟩
  cases q : (ss.filter (outB l)).map (·.2.2) with
  | nil =>
    rw [q] at hm
    cases hm
  | cons k ks =>
    have hk : k ∈ (ss.filter (outB l)).map (·.2.2) := by
      rw [q]
      exact List.mem_cons_self ..
    obtain ⟨s', k1, k2, k3⟩ := mem_outL.mp hk
    have e : out1 ss l = l ++ [k] := by
      unfold out1
      rw [q]
      rfl
    have nd : ∀ {p : Nat → Bool}, ((List.range m).filter p).Nodup := fun {p} => List.Pairwise.filter _ List.nodup_range
    have : k :: ((List.range m).filter fun x => !decide (x ∈ l ++ [k])) = k :: ((List.range m).filter fun x => !decide (x ∈ l ++ [k])) := rfl
    have hl := sub_len (A := (List.range m).filter fun x => !decide (x ∈ l)) (B := k :: ((List.range m).filter fun x => !decide (x ∈ l ++ [k]))) (List.nodup_cons.mpr ⟨fun c => by
      have := (List.mem_filter.mp c).2
      simp at this, nd⟩) fun x hx => by
      rcases List.mem_cons.mp hx with rfl | hx
      · exact List.mem_filter.mpr ⟨List.mem_range.mpr (hb _ k3), by simp [k2]⟩
      · obtain ⟨x1, x2⟩ := List.mem_filter.mp hx
        simp at x2
        exact List.mem_filter.mpr ⟨x1, by simp [x2.1]⟩
    rw [List.length_cons] at hl
    unfold cnt
    rw [e]
    exact hl
theorem outO_shut (hb : ∀ s ∈ ss, s.2.2 < m) (hm : m ≤ 3) (l : List Nat) : Shut ss (outO ss l) := by
  unfold outO
  by_cases c1 : Shut ss l
  · rw [out1_shut c1, out1_shut c1, out1_shut c1]
    exact c1
  have d1 := out1_cnt hb c1
  by_cases c2 : Shut ss (out1 ss l)
  · rw [out1_shut c2, out1_shut c2]
    exact c2
  have d2 := out1_cnt hb c2
  by_cases c3 : Shut ss (out1 ss (out1 ss l))
  · rw [out1_shut c3]
    exact c3
  have d3 := out1_cnt hb c3
  have := cnt_le (m := m) (l := l)
  exact cnt_zero hb (by omega)
theorem wy_shut {l : List Nat} (h : Shut ss l) {z : List Nat} (k : Wy ss s z u) : z = [] → s ∈ l → u ∈ l := by
  induction k with
  | nil => exact fun _ h => h
  | eps h1 _ ih => exact fun e k => ih e (h _ _ h1 k)
  | sg _ _ _ => exact fun e => nomatch e
theorem mem_outO (hb : ∀ s ∈ ss, s.2.2 < m) (hm : m ≤ 3) (l : List Nat) (k : Nat) : k ∈ outO ss l ↔ ∃ b ∈ l, Wy ss b [] k := by
  constructor
  · intro h
    obtain ⟨b, h1, h2⟩ := out1_from h
    obtain ⟨c, h3, h4⟩ := out1_from h1
    obtain ⟨d, h5, h6⟩ := out1_from h3
    exact ⟨d, h5, h6.trans (h4.trans h2)⟩
  · rintro ⟨b, h1, h2⟩
    exact wy_shut (outO_shut hb hm l) h2 rfl (out1_sub (out1_sub (out1_sub h1)))
theorem mem_byS {c : Nat} {l : List Nat} {k : Nat} : k ∈ byS ss c l ↔ ∃ s ∈ l, (s, some c, k) ∈ ss := by
  unfold byS
  rw [List.mem_map]
  constructor
  · rintro ⟨⟨a, o, b⟩, h, rfl⟩
    rw [List.mem_filter] at h
    obtain ⟨h1, h2⟩ := h
    simp only [Bool.and_eq_true, decide_eq_true_eq] at h2
    obtain ⟨rfl, h3⟩ := h2
    exact ⟨a, h3, h1⟩
  · rintro ⟨s, h1, h2⟩
    exact ⟨_, List.mem_filter.mpr ⟨h2, by simp [h1]⟩, rfl⟩
theorem mem_guess (hb : ∀ s ∈ ss, s.2.2 < m) (hm : m ≤ 3) : ∀ (r S : List Nat) (k : Nat), k ∈ guess ss (outO ss S) r ↔ ∃ b ∈ S, Wy ss b r k
  | [], S, k => mem_outO hb hm S k
  | a :: r, S, k => by
    show k ∈ guess ss (outO ss (byS ss a (outO ss S))) r ↔ _
    rw [mem_guess hb hm r _ k]
    constructor
    · rintro ⟨b, h1, h2⟩
      obtain ⟨s, h3, h4⟩ := mem_byS.mp h1
      obtain ⟨b0, h5, h6⟩ := (mem_outO hb hm S s).mp h3
      exact ⟨b0, h5, h6.trans (.sg h4 h2)⟩
    · rintro ⟨b, h1, h2⟩
      obtain ⟨x, y, a1, a2, a3⟩ := h2.cons_inv rfl
      exact ⟨y, mem_byS.mpr ⟨x, (mem_outO hb hm S x).mpr ⟨b, h1, a1⟩, a2⟩, a3⟩
/-- what the law guesses -/
theorem guess_says (hb : ∀ s ∈ ss, s.2.2 < m) (hm : m ≤ 3) : (!decide ((guess ss (outO ss bs) r).filter (fun k => decide (k ∈ gs)) = [])) = true ↔ Says ss bs gs r := by
  rw [Bool.not_eq_true', decide_eq_false_iff_not]
  constructor
  · intro h
    obtain ⟨k, hk⟩ := List.exists_mem_of_ne_nil _ h
    obtain ⟨h1, h2⟩ := List.mem_filter.mp hk
    obtain ⟨b, h3, h4⟩ := (mem_guess hb hm r bs k).mp h1
    exact ⟨b, h3, k, of_decide_eq_true h2, h4⟩
  · rintro ⟨b, h1, g, h2, h3⟩ e
    have : g ∈ (guess ss (outO ss bs) r).filter (fun k => decide (k ∈ gs)) := List.mem_filter.mpr ⟨(mem_guess hb hm r bs g).mpr ⟨b, h1, h3⟩, decide_eq_true h2⟩
    rw [e] at this
    cases this
/-! ### a reader's steps -/
theorem wy_run {n : Nat} {arr : Rows} (W : Wf n arr) {z : List Nat} (h : Wy (stepsTill arr arr.length) s z u) : run arr (some s) z = some u := by
  induction h with
  | nil => rfl
  | eps h1 _ _ =>
    obtain ⟨s, a, t, _, _, e⟩ := mem_steps.mp h1
    cases e
  | @sg s a t u r h1 _ ih =>
    obtain ⟨s', a', t', h2, h3, e⟩ := mem_steps.mp h1
    have : stp arr s a = some t := by
      cases e
      unfold stp
      exact getD_of h3
    rw [run_cons, this]
    exact ih
theorem run_wy {n : Nat} {arr : Rows} (W : Wf n arr) : ∀ (r : List Nat) (s u : Nat), s < arr.length → run arr (some s) r = some u → Wy (stepsTill arr arr.length) s r u
  | [], s, u, _, h => by
    cases h
    exact .nil
  | a :: r, s, u, hs, h => by
    rw [run_cons] at h
    cases q : stp arr s a with
    | none =>
      rw [q, run_none] at h
      cases h
    | some t =>
      rw [q] at h
      exact .sg (mem_steps.mpr ⟨s, a, t, hs, stp_mem q, rfl⟩) (run_wy W r t u (W.tgt hs q) h)
theorem steps_says {n : Nat} {arr : Rows} {ends : List Nat} (W : Wf n arr) : Says (stepsTill arr arr.length) [0] ends r ↔ acc arr ends (some 0) r = true := by
  constructor
  · rintro ⟨b, h1, g, h2, h3⟩
    rw [List.mem_singleton.mp h1] at h3
    unfold acc
    rw [wy_run W h3]
    exact decide_eq_true h2
  · intro h
    unfold acc at h
    cases q : run arr (some 0) r with
    | none =>
      rw [q] at h
      cases h
    | some k =>
      rw [q] at h
      exact ⟨0, by simp, k, of_decide_eq_true h, run_wy W r 0 k W.ne q⟩
end
end K14
set_option maxHeartbeats 4000000
/-! what a made reader is; helpers for the law's last defs -/
namespace K14
open PySem L2 Evl
/-- the least reader of the rows L -/
def LeastOf (n : Nat) (L : List Nat → Prop) (arr : Rows) (shut : List Nat) : Prop := ∃ rows ends, Wf n rows ∧ rows.length ≤ 30 ∧ LeastR rows n ends arr shut ∧ ∀ r, Ov n r → (acc rows ends (some 0) r = true ↔ L r)
theorem LeastOf.eq {n : Nat} {L M : List Nat → Prop} {arr arr' : Rows} {shut shut' : List Nat} (h : LeastOf n L arr shut) (h' : LeastOf n M arr' shut') (e : ∀ r, Ov n r → (L r ↔ M r)) : arr' = arr ∧ shut' = shut := by
  obtain ⟨rows, ends, W, _, l, q⟩ := h
  obtain ⟨rows', ends', W', _, l', q'⟩ := h'
  have := least_eq W' W l' l fun r hr => by
    rw [Bool.eq_iff_iff, q r hr, q' r hr, e r hr]
  exact this
theorem LeastOf.acc {n : Nat} {L : List Nat → Prop} {arr : Rows} {shut : List Nat} (h : LeastOf n L arr shut) {r : List Nat} (hr : Ov n r) : K14.acc arr shut (some 0) r = true ↔ L r := by
  obtain ⟨rows, ends, W, _, l, q⟩ := h
  rw [least_acc W l r hr, q r hr]
theorem LeastOf.wf {n : Nat} {L : List Nat → Prop} {arr : Rows} {shut : List Nat} (h : LeastOf n L arr shut) : Wf n arr ∧ arr.length ≤ 30 ∧ Asc arr.length shut := by
  obtain ⟨rows, ends, W, hl, l, _⟩ := h
  obtain ⟨a, _, c⟩ := l.wf W.wid
  refine ⟨a, ?_, c⟩
  rcases l with ⟨_, rfl, _⟩ | ⟨us, f, line, U, _, _, B, _⟩
  · show 1 ≤ 30
    decide
  · have h1 := sub_len (List.Pairwise.of_map f (fun a b ne e => ne (by rw [e])) B.nd : line.Nodup) B.sub
    have h2 := nat_nodup_len us (List.range rows.length) (U.asc.imp fun h => Nat.ne_of_lt h) fun x hx => List.mem_range.mpr (U.bd x hx)
    rw [List.length_range] at h2
    rw [B.len]
    omega
theorem LeastOf.imp {n : Nat} {L M : List Nat → Prop} {arr : Rows} {shut : List Nat} (h : LeastOf n L arr shut) (e : ∀ r, Ov n r → (L r ↔ M r)) : LeastOf n M arr shut := by
  obtain ⟨rows, ends, W, hl, l, q⟩ := h
  exact ⟨rows, ends, W, hl, l, fun r hr => (q r hr).trans (e r hr)⟩
section
variable {P : Program} {w : World} {K : PySem.W.Frag} {mg : Str → Option Value} {base : Heap}
variable {σ : L2.St} {H H' : Hp} {ta tb te to ti : TE} {tA tk : TA} {tz tu : TS} {v : V} {D : Ends} {a : Addr}
/-- a least reader at p -/
def LeastAt (C : Addr) (n : Nat) (L : List Nat → Prop) (H : Hp) (p : Addr) : Prop := ∃ arr shut, RdrAt C H p n arr shut ∧ LeastOf n L arr shut
theorem LeastAt.ex {C p : Addr} {n : Nat} {L : List Nat → Prop} (h : LeastAt C n L H p) (e : Ex H H') : LeastAt C n L H' p := by
  obtain ⟨arr, shut, h1, h2⟩ := h
  exact ⟨arr, shut, h1.ex e, h2⟩
theorem least_of_sub {C p : Addr} {n m : Nat} {bs : List Nat} {ss : List Stp} {gs : List Nat} (hm : m ≤ 4) (ok : SsOk n m ss) (Ab : Asc m bs) (h : SubAt C n m bs ss gs H p) : LeastAt C n (Says ss bs gs) H p := by
  obtain ⟨arr, ends, S, arr', shut, h1, h2⟩ := h
  obtain ⟨W, hl, _⟩ := sub_wf S
  have h16 : 2 ^ m ≤ 2 ^ 4 := Nat.pow_le_pow_right (by decide) hm
  exact ⟨arr', shut, h1, arr, ends, W, by omega, h2, fun r hr => sub_acc (fun s hs => (ok.ok s hs).b) (fun s hs => (ok.ok s hs).g) Ab.bd S hr⟩
theorem least_of_made {C p : Addr} {n : Nat} {rows : Rows} {ends : List Nat} (W : Wf n rows) (hl : rows.length ≤ 30) (h : MadeAt C n rows ends H p) : LeastAt C n (fun r => acc rows ends (some 0) r = true) H p := by
  obtain ⟨arr, shut, h1, h2⟩ := h
  exact ⟨arr, shut, h1, rows, ends, W, hl, h2, fun r _ => Iff.rfl⟩
/-- two least readers of the same rows are alike -/
theorem same_least {C p q : Addr} {n : Nat} {L M : List Nat → Prop} (h1 : LeastAt C n L H p) (h2 : LeastAt C n M H q) (e : ∀ r, Ov n r → (L r ↔ M r)) : SameAt K C H p q := by
  obtain ⟨arr, shut, a1, a2⟩ := h1
  obtain ⟨arr', shut', b1, b2⟩ := h2
  obtain ⟨rfl, rfl⟩ := a2.eq b2 e
  exact same_rdr a1 b1
/-- the least reader of a least reader -/
theorem er_least {C p : Addr} {n : Nat} {L : List Nat → Prop} {E : XK} (n1 : 1 ≤ n) (n8 : n ≤ 8) (h : Ev ta σ H (.ref p)) (hp : LeastAt C n L H p) : EvR (tCall (sp_least C) [] E (tCons ta tNil)) σ H (LeastAt C n L) := by
  obtain ⟨arr, shut, h1, h2⟩ := hp
  obtain ⟨W, hl, As⟩ := h2.wf
  refine er_imp (er_call (ea_cons h ea_nil) (spr_least ⟨h1, W, by omega, n1, n8, As⟩)) fun H1 q _ r => ?_
  obtain ⟨arr', shut', h3, h4⟩ := least_of_made W hl r
  exact ⟨arr', shut', h3, h4.imp fun r hr => h2.acc hr⟩
theorem er_callK {sp : Sp} {E : XK} {p : List V → Hp → Prop} {R : Hp → Addr → Prop} (h : EvAs tk σ H p) (hs : ∀ vs H1, Ex H H1 → p vs H1 → SpR sp vs H1 R) : EvR (tCallK sp (fun vs zs => vs ++ zs) E tNil tk) σ H R := fun H1 e Q q =>
  h H1 e _ fun vs H2 e2 r => hs vs H2 (e.trans e2) r H2 (Ex.refl H2) Q (fun p H3 hp e3 h3 => q p H3 (fresh_back e2 hp) (e2.trans e3) h3) E
theorem ev_neR {C q : Addr} {E : XK} {R : Hp → Addr → Prop} (h : EvR ta σ H R) (hb : ∀ H1, Ex H H1 → Ev tb σ H1 (.ref q)) (hs : ∀ H1 p, Ex H H1 → R H1 p → SameAt K C H1 p q) : Ev (tOp (rNe C (sp_eq K C) E) ta tb) σ H (.bl false) := fun H1 e Q k =>
  h H1 e _ fun p H2 _ e2 r => hb H2 (e.trans e2) H2 (Ex.refl H2) _ fun H3 e3 => rv_neOwn (hs H2 p (e.trans e2) r) H3 e3 Q fun H4 e4 => k H4 ((e2.trans e3).trans e4)
theorem ev_rev {r : List Nat} (h : Ev te σ H (.str (rowS r))) (hl : r.length ≤ 100) : Ev (tRevS te) σ H (.str (rowS r.reverse)) := fun H1 e Q q =>
  h H1 e _ fun H2 e2 => ⟨rowS r, rfl, sz_of (by
    show (r.map (97 + ·)).toArray.size ≤ 100000
    rw [List.size_toArray, List.length_map]
    omega), by
    have : revS (rowS r) = rowS r.reverse := by
      unfold revS rowS
      simp
    rw [this]
    exact q H2 e2⟩
theorem ev_repr2 {x y : Bool} (h : EvL ta σ H [.bl x, .bl y]) : Ev (tCB rRepr2 (tCons ta tNil)) σ H (.str (two x y).shown) := fun H1 e Q q =>
  h H1 e _ fun p H2 _ e2 h2 => ⟨p, x, y, rfl, h2, q H2 e2⟩
theorem q_forRL {j : Nat} {R : Hp → Addr → Prop} (h : EvR te σ H R) (k : ∀ p H1, H p = none → Ex H H1 → R H1 p → tSeq (tFor (iList K (tC (.ref p))) (gName j) tu) tz D σ H1) : tSeq (tFor (iList K te) (gName j) tu) tz D σ H := h H (Ex.refl H) _ k
/-- two new ascending tuples, drawn -/
theorem eb_some {m i j : Nat} {E : XK} (s0 : σ[i]? = some (some (.ref a))) (s2 : σ[j]? = some (some (.int m))) (h1 : 1 ≤ m) (h2 : m ≤ 100) (hb : Bar H a) : EvB (tCall sp_some [] E (tCons (tVar i) (tCons (tVar j) tNil))) σ H a (fun v H' => ∃ p ns, v = .ref p ∧ p ≠ a ∧ StT H' p ns ∧ Asc m ns) :=
  eb_call (ebs_cons (p := fun v => v = .ref a) (eb_v fun H1 _ => ev_var s0) (ebs_cons (p := fun v => v = .int m) (eb_v fun H1 _ => ev_var s2) ebs_nil)) fun vs H1 e b ⟨x, us, q1, q2, y, zs, q3, q4, q5⟩ Q k => by
    subst q1 q2 q3 q4 q5
    exact ⟨a, m, rfl, h1, h2, b, fun p H' ns hp b' e' st as => k _ H' e' b' ⟨p, ns, rfl, (b.ne hp).symm, st, as⟩⟩
theorem ebs_two_some {m i j : Nat} {E E' : XK} (s0 : σ[i]? = some (some (.ref a))) (s2 : σ[j]? = some (some (.int m))) (h1 : 1 ≤ m) (h2 : m ≤ 100) (hb : Bar H a) :
    EvBs (tCons (tCall sp_some [] E (tCons (tVar i) (tCons (tVar j) tNil))) (tCons (tCall sp_some [] E' (tCons (tVar i) (tCons (tVar j) tNil))) tNil)) σ H a
      (fun vs H' => ∃ p q bs gs, vs = [.ref p, .ref q] ∧ p ≠ a ∧ q ≠ a ∧ StT H' p bs ∧ Asc m bs ∧ StT H' q gs ∧ Asc m gs) := fun H1 e b Q k =>
  eb_some s0 s2 h1 h2 hb H1 e b _ fun v H2 e2 b2 ⟨p, bs, hv, pa, st, as⟩ => eb_some s0 s2 h1 h2 hb H2 (e.trans e2) b2 _ fun v' H3 e3 b3 ⟨q, gs, hv', qa, st', as'⟩ => k _ H3 (e2.trans e3) b3 ⟨p, q, bs, gs, by rw [hv, hv'], pa, qa, e3 _ _ pa st, as, st', as'⟩
theorem eb_steps {n m c i j l : Nat} {E E' : XK} (s0 : σ[i]? = some (some (.ref a))) (s1 : σ[j]? = some (some (.int n))) (s2 : σ[l]? = some (some (.int m))) (n1 : 1 ≤ n) (n8 : n ≤ 8) (m1 : 1 ≤ m) (m12 : m ≤ 12) (hc : 0 < c) (hc20 : c ≤ 20) :
    EvB (tCall sp_steps [] E (tCons (tVar i) (tCons (tVar j) (tCons (tVar l) (tCons (tCall sp_dip [] E' (tCons (tVar i) (tCons (tC (.int (c : Nat))) tNil))) tNil))))) σ H a (fun v H' => ∃ p ss, v = .ref p ∧ StpT H' p ss ∧ SsOk n m ss ∧ ss.length ≤ 20) :=
  eb_call (ebs_cons (p := fun v => v = .ref a) (eb_v fun H1 _ => ev_var s0) (ebs_cons (p := fun v => v = .int n) (eb_v fun H1 _ => ev_var s1) (ebs_cons (p := fun v => v = .int m) (eb_v fun H1 _ => ev_var s2) (ebs_cons (p := Blw c) (eb_dip (n := c) s0 (eb_v fun _ _ => ev_c) hc (by omega)) ebs_nil)))) fun vs H1 e b ⟨x, us, q1, q2, y, zs, q3, q4, z, ws, q5, q6, u, ys, q7, ⟨d, q8, hd⟩, q9⟩ Q k => by
    subst q1 q2 q3 q4 q5 q6 q7 q8 q9
    exact ⟨a, n, m, d, rfl, n1, n8, m1, m12, by omega, b, fun p H' ss hp b' e' st ok hl => k _ H' e' b' ⟨p, ss, rfl, st, ok, by omega⟩⟩
end
end K14
set_option maxHeartbeats 4000000
namespace K14
open PySem L2 Evl
local macro_rules | `(tactic| walk_at "ev") => `(tactic| repeat' (first
  | exact ev_var rfl | exact ev_c | exact ea_nil | apply ea_cons | exact rv_I0 | apply ev_op | apply ev_cb | apply ev_un | exact ru_neg
  | exact rc_isiInt | exact rc_isiBool | exact rc_isiStr))
section
variable {P : Program} {w : World} {K : PySem.W.Frag} {mg : Str → Option Value} {base : Heap}
variable {σ : L2.St} {H H' : Hp} {ta tb te to ti : TE} {tA : TA} {tz : TS} {v : V} {D : Ends} {a : Addr}
def sp_right : Sp := fun vs H Q _ => ∃ a : Addr, vs = [.ref a] ∧ Bar H a ∧ ∀ H', Bar H' a → ExB a H H' → Q (.bl true) H'
theorem ok_guesser_right (T : Tx K mg) : FnG P w K mg base CX0 10 T.d__law_guesser_right.f T.d__law_guesser_right.fd ["_law_barrel_here"] sp_right := by
  refine okG T.d__law_guesser_right.F sc__law_guesser_right (fun vs H Q E h => ?_) (fun cdv A outer s H vs Q E hG hr h => ?_)
  · obtain ⟨a, rfl, _⟩ := h
    rfl
  · obtain ⟨a, rfl, hb, k⟩ := h
    refine ⟨_, (pss_cons (ps_par (i := 1) (j := 2) (by rfl) sc__law_guesser_right.nd rfl rfl (by decide) rfl rfl (pa_cons (pe_call (ok_one_of T) (hr.mono (by decide)) rfl T.d__law_one_of.g T.d__law_one_of.F.kp T.d__law_one_of.b .nil pass0 (pa_cons (pv 0) (pa_cons (pe_lst (pa_cons pe_int (pa_cons pe_int (pa_cons pe_int pa_nil)))) pa_nil))) (pa_cons (pe_op op_add pe_int (pe_call (ok_dip T) (hr.mono (by decide)) rfl T.d__law_dip.g T.d__law_dip.F.kp T.d__law_dip.b .nil pass0 (pa_cons (pv 0) (pa_cons pe_int pa_nil)))) pa_nil)) (by rfl))
      (pss_cons (ps_par (i := 3) (j := 4) (by rfl) sc__law_guesser_right.nd rfl rfl (by decide) rfl rfl (pa_cons (pe_call (ok_some T) (hr.mono (by decide)) rfl T.d__law_some.g T.d__law_some.F.kp T.d__law_some.b .nil pass0 (pa_cons (pv 0) (pa_cons (pv 2) pa_nil))) (pa_cons (pe_call (ok_some T) (hr.mono (by decide)) rfl T.d__law_some.g T.d__law_some.F.kp T.d__law_some.b .nil pass0 (pa_cons (pv 0) (pa_cons (pv 2) pa_nil))) pa_nil)) (by rfl))
      (pss_cons (ps_set (i := 5) sc__law_guesser_right.nd rfl (Or.inl rfl) (pe_call (ok_steps T) (hr.mono (by decide)) rfl T.d__law_steps.g T.d__law_steps.F.kp T.d__law_steps.b .nil pass0 (pa_cons (pv 0) (pa_cons (pv 1) (pa_cons (pv 2) (pa_cons (pe_call (ok_dip T) (hr.mono (by decide)) rfl T.d__law_dip.g T.d__law_dip.F.kp T.d__law_dip.b .nil pass0 (pa_cons (pv 0) (pa_cons pe_int pa_nil))) pa_nil))))))
      (pss_cons (ps_set (i := 6) sc__law_guesser_right.nd rfl (Or.inl rfl) (pe_make T.mkG (ok_Guesser_init T) (hr.mono (by decide)) rfl T.gGuesser T.d_Guesser_init.b .nil pass0 (pa_cons (pv 1) (pa_cons (pv 2) (pa_cons (pv 3) (pa_cons (pv 5) (pa_cons (pv 4) pa_nil)))))))
      (pss_cons (ps_par (i := 7) (j := 8) (by rfl) sc__law_guesser_right.nd rfl rfl (by decide) rfl rfl (pa_cons (pe_call (ok_reader_from T) (hr.mono (by decide)) rfl T.d_reader_from.g T.d_reader_from.F.kp T.d_reader_from.b .nil pass0 (pa_cons (pv 6) pa_nil)) (pa_cons (pe_call (ok_reader_from T) (hr.mono (by decide)) rfl T.d_reader_from.g T.d_reader_from.F.kp T.d_reader_from.b .nil pass0 (pa_cons (pe_call (ok_turned T) (hr.mono (by decide)) rfl T.d_turned.g T.d_turned.F.kp T.d_turned.b .nil pass0 (pa_cons (pv 6) pa_nil)) pa_nil)) pa_nil)) (by rfl))
      (pss_cons (ps_if (PW.pt (pw_or (pt_cmpR (op_neOwn T.neR T.hmR T.eqR T.feR (ok_Reader_eq T) T.d_Reader_eq.b (hr.mono (by decide)) pass0) (pe_kw (ok_reader_from T) (hr.mono (by decide)) rfl T.d_reader_from.g T.d_reader_from.F.kp (kb_reader_from T) pass0 (pk_cons (pv 6) pk_nil)) (pv 7) (nomark _)) (pw_or (pt_cmpR (op_neOwn T.neR T.hmR T.eqR T.feR (ok_Reader_eq T) T.d_Reader_eq.b (hr.mono (by decide)) pass0) (pe_call (ok_least T) (hr.mono (by decide)) rfl T.d_least.g T.d_least.F.kp T.d_least.b .nil pass0 (pa_cons (pv 7) pa_nil)) (pv 7) (nomark _)) (pw_or1 (pt_cmpR (op_neOwn T.neG T.hmG T.eqG T.feG (ok_Guesser_eq T) T.d_Guesser_eq.b (hr.mono (by decide)) pass0) (pe_kw (ok_turned T) (hr.mono (by decide)) rfl T.d_turned.g T.d_turned.F.kp (kb_turned T) pass0 (pk_cons (pe_call (ok_turned T) (hr.mono (by decide)) rfl T.d_turned.g T.d_turned.F.kp T.d_turned.b .nil pass0 (pa_cons (pv 6) pa_nil)) pk_nil)) (pv 6) (nomark _)))))) (pss_one (ps_ret pe_bl)) pss_nil)
      (pss_cons (ps_for PassesOwn.never rfl (k_piL K (pe_call (ok_upto T) (hr.mono (by decide)) rfl T.d__law_upto.g T.d__law_upto.F.kp T.d__law_upto.b .nil pass0 (pa_cons (pv 1) (pa_cons pe_int pa_nil)))) (pg_name (i := 9) sc__law_guesser_right.nd rfl (Or.inl rfl)) (pss_cons (ps_set (i := 10) sc__law_guesser_right.nd rfl (Or.inl rfl) (pe_call (ok_guessed T) (hr.mono (by decide)) rfl T.d__law_guessed.g T.d__law_guessed.F.kp T.d__law_guessed.b .nil pass0 (pa_cons (pv 5) (pa_cons (pv 3) (pa_cons (pv 4) (pa_cons (pv 9) pa_nil))))))
      (pss_one (ps_if (pt_cmpR op_ne (pe_callB (call_repr2 rfl hG hr.units) (by rfl) T.z_repr (by decide +kernel) (pa_cons (pe_lst (pa_cons (pe_call (ok_says T) (hr.mono (by decide)) rfl T.d_says.g T.d_says.F.kp T.d_says.b .nil pass0 (pa_cons (pv 7) (pa_cons (pv 9) pa_nil))) (pa_cons (pe_call (ok_says T) (hr.mono (by decide)) rfl T.d_says.g T.d_says.F.kp T.d_says.b .nil pass0 (pa_cons (pv 8) (pa_cons (pe_revS (pv 9)) pa_nil))) pa_nil))) pa_nil)) (pe_callB (call_repr2 rfl hG hr.units) (by rfl) T.z_repr (by decide +kernel) (pa_cons (pe_lst (pa_cons (pv 10) (pa_cons (pv 10) pa_nil))) pa_nil)) (nomark _)) (pss_one (ps_ret pe_bl)) pss_nil))))
      (pss_one (ps_ret (pe_cmpR op_eq (pe_prop (pv 7) T.clR T.p_Reader_signs (ok_Reader_signs T) (hr.mono (by decide)) T.d_Reader_signs.b .nil pass0 rfl) (pv 1) (nomark _))))))))))), ?_⟩
    refine q_parB (p := fun vs _ => ∃ n m : Nat, vs = [.int n, .int m] ∧ 1 ≤ n ∧ n ≤ 2 ∧ 1 ≤ m ∧ m ≤ 3) (fun H1 e b Q q => (ebs_cons (p := fun v => ∃ d, d ∈ [1, 2, 2] ∧ v = .int (d : Nat)) (eb_one_of (ms := [1, 2, 2]) rfl (fun H1 _ => ea_cons ev_c (ea_cons ev_c (ea_cons ev_c ea_nil))) (by decide) (by decide))
        (ebs_cons (p := fun v => ∃ m : Nat, 1 ≤ m ∧ m ≤ 3 ∧ v = .int m) (eb_op (p := fun v => v = .int 1) (q := Blw 3) (eb_v fun _ _ => ev_c) (eb_dip (n := 3) rfl (eb_v fun _ _ => ev_c) (by decide) (by decide)) fun x y H1 _ q1 ⟨d, q2, hd⟩ => by
          subst q1 q2
          exact ⟨_, rv_I0, 1 + d, by omega, by omega, congrArg V.int (by omega)⟩) ebs_nil)) H1 e b _ fun vs H2 e2 b2 ⟨v, us, q1, ⟨d, hd, q2⟩, u, zs, q3, ⟨m, h1, h2, q4⟩, q5⟩ => q vs H2 e2 b2 ⟨d, m, by rw [q1, q2, q3, q4, q5], by simp only [List.mem_cons, List.not_mem_nil, or_false] at hd; omega, by simp only [List.mem_cons, List.not_mem_nil, or_false] at hd; omega, h1, h2⟩) hb fun vs H1 e1 b1 ⟨n, m, hv, n1, n2, m1, m3⟩ => ?_
    subst hv
    refine ⟨_, _, rfl, ?_⟩
    refine q_parB (ebs_two_some (m := m) rfl rfl m1 (by omega) b1) b1 fun vs H2 e2 b2 ⟨pb, pg, bs, gs, hv, pba, pga, stb, ab, stg, ag⟩ => ?_
    subst hv
    refine ⟨_, _, rfl, ?_⟩
    refine q_asgB (eb_steps (n := n) (m := m) (c := 8) rfl rfl rfl n1 (by omega) m1 (by omega) (by decide) (by decide)) b2 fun v H3 e3 b3 ⟨ps, ss, hv, sts, ok, hl⟩ => ?_
    subst hv
    have stb3 : StT H3 pb bs := e3 _ _ pba stb
    have stg3 : StT H3 pg gs := e3 _ _ pga stg
    have x3 : ExB a H H3 := (e1.trans e2).trans e3
    refine q_asgR (er_Guesser (by walk_at "ev") stb3 sts stg3 n1 (by omega) m1 (by omega) ab ok (by omega) ag) fun p H4 hp e4 hG4 => ?_
    have G : GsrIn T.CG H4 p n m bs ss gs := ⟨hG4, n1, by omega, m1, by omega, ab, ag, ok, by omega⟩
    refine q_parAs (p := fun vs H' => ∃ y z, vs = [.ref y, .ref z] ∧ LeastAt T.CR n (Says ss bs gs) H' y ∧ ∃ ts, TurnOf n m ss ts ∧ LeastAt T.CR n (Says ts gs bs) H' z) (fun H5 e5 Q q =>
      as_r (R := fun H' y => LeastAt T.CR n (Says ss bs gs) H' y) (er_imp (er_call (by walk_at "ev") (spr_reader_from G)) fun H6 y _ r => least_of_sub (by omega) ok ab r) (fun _ _ _ e h => h.ex e)
        (as_r (R := fun H' z => ∃ ts, TurnOf n m ss ts ∧ LeastAt T.CR n (Says ts gs bs) H' z) (er_callAs (as_r (er_call (by walk_at "ev") (spr_turned G)) (fun _ _ _ e ⟨ts, h1, h2⟩ => ⟨ts, h1, h2.ex e⟩) as_nil) fun vs H6 _ ⟨t, r, q1, ⟨ts, h1, h2⟩, q2⟩ => by
          subst q1 q2
          exact fun H7 e7 Q q => spr_reader_from h2 H7 e7 Q fun z H8 hz e8 r => q z H8 hz e8 ⟨ts, h1, least_of_sub (by omega) h1.ok ag r⟩) (fun _ _ _ e ⟨ts, h1, h2⟩ => ⟨ts, h1, h2.ex e⟩) as_nil) H5 e5 _ fun vs H6 e6 ⟨y, us, q1, h1, z, zs, q2, h2, q3⟩ => q vs H6 e6 ⟨y, z, by rw [q1, q2, q3], h1, h2⟩) fun vs H5 e5 ⟨y, z, hv, hy, ts, ht, hz⟩ => ?_
    subst hv
    refine ⟨_, _, rfl, ?_⟩
    have G5 := G.ex e5
    refine q_when (b := false) (et_is (et_or (a := false) (et_test (ev_neR (er_callK (as_v (ev_var rfl) as_nil) fun vs H6 e6 ⟨r, q1, q2⟩ => by
        subst q1 q2
        exact spr_reader_from (G5.ex e6)) (fun H6 e6 => ev_var rfl) fun H6 q e6 r => same_least (least_of_sub (by omega) ok ab r) (hy.ex e6) fun _ _ => Iff.rfl)) fun _ =>
      et_or (a := false) (b := false) (et_test (ev_neR (er_least n1 (by omega) (ev_var rfl) hy) (fun H6 e6 => ev_var rfl) fun H6 q e6 r => same_least r (hy.ex e6) fun _ _ => Iff.rfl)) fun _ =>
      et_test (ev_neR (R := fun H' q => GsrAt T.CG H' q n m bs ss gs) (er_callK (as_r (er_call (by walk_at "ev") (spr_turned G5)) (fun _ _ _ e ⟨ts, h1, h2⟩ => ⟨ts, h1, h2.ex e⟩) as_nil) fun vs H6 e6 ⟨t, r, q1, ⟨us, h1, h2⟩, q2⟩ => by
        subst q1 q2
        exact fun H7 e7 Q q => spr_turned h2 H7 e7 Q fun t H8 ht e8 ⟨xs, h3, h4⟩ => q t H8 ht e8 (by
          have := turn_twice (by omega) (by omega) ok h1 h3
          rw [← this]
          exact h4.at_)) (fun H6 e6 => ev_var rfl) fun H6 q e6 r => same_gsr r (G5.ex e6).at_ ok.ok (by omega))) rfl) (fun h => nomatch h) fun _ H6 e6 => ?_
    have hup : EvR (tCall sp_upto [] E0 (tCons (tVar 1) (tCons (tC (.int 5)) tNil))) [some (.ref a), some (.int n), some (.int m), some (.ref pb), some (.ref pg), some (.ref ps), some (.ref p), some (.ref y), some (.ref z), none, none] H6 (fun H' l => ∃ us, H' l = some (.lst (rowsV us)) ∧ Rows1 n 5 us ∧ us.length ≤ 100) :=
      er_call (by walk_at "ev") fun H7 e7 Q q E => ⟨n, 5, rfl, n1, n2, Nat.le_refl 5, fun l H8 us hl e8 h1 h2 h3 => q l H8 hl e8 ⟨us, h1, h2, h3⟩⟩
    refine q_forRL hup fun l H7 hl7 e7 ⟨us, hus, h1, h2⟩ => ?_
    have ex7 : Ex H5 H7 := e6.trans e7
    let Inv : Nat → L2.St → Hp → Prop := fun i σ' H' => Ex H7 H' ∧ ∃ g9 g10, σ' = [some (.ref a), some (.int n), some (.int m), some (.ref pb), some (.ref pg), some (.ref ps), some (.ref p), some (.ref y), some (.ref z), g9, g10]
    refine q_forLn (a := l) (xs := rowsV us) ev_c (sq_of hus) Inv (fun H8 e8 => ⟨e8, none, none, rfl⟩) (fun i σ' H8 _ I => sq_of (I.1 _ _ hus)) (fun i x σ' H8 hx I => ?_) (fun σ' H8 I => ?_)
    · obtain ⟨e8, g9, g10, rfl⟩ := I
      obtain ⟨r, hr, rfl⟩ := get_map hx
      obtain ⟨hr5, hrn⟩ := h1 r (List.mem_of_getElem? hr)
      have x8 : Ex H5 H8 := ex7.trans e8
      have y8 : Ex H3 H8 := (e4.trans e5).trans x8
      obtain ⟨arr, shut, r1, l1⟩ := hy.ex x8
      obtain ⟨brr, bhut, r2, l2⟩ := hz.ex x8
      have hrev : ∀ c ∈ r.reverse, c < n := fun c hc => hrn c (List.mem_reverse.mp hc)
      refine q_asg (v := .bl (acc arr shut (some 0) r)) (ev_is (ev_call (by walk_at "ev") fun H9 e9 Q q E => ⟨ps, pb, pg, n, ss, bs, gs, r, rfl, sts.ex (y8.trans e9), by omega, (stb3.ex (y8.trans e9)), (stg3.ex (y8.trans e9)), by have := asc_len ab; omega, by have := asc_len ag; omega, by omega, q⟩) ?_) fun H9 e9 => ?_
      · refine congrArg V.bl ?_
        rw [Bool.eq_iff_iff, guess_says (fun s hs => (ok.ok s hs).g) m3, l1.acc hrn]
      · have eq : acc brr bhut (some 0) r.reverse = acc arr shut (some 0) r := by
          rw [Bool.eq_iff_iff, l2.acc hrev, l1.acc hrn, says_turn ht.mem]
        have hyes : EvL (tLst (tCons (tCall (sp_says T.CR) [] E0 (tCons (tVar 7) (tCons (tVar 9) tNil))) (tCons (tCall (sp_says T.CR) [] E0 (tCons (tVar 8) (tCons (tRevS (tVar 9)) tNil))) tNil)))
            [some (.ref a), some (.int n), some (.int m), some (.ref pb), some (.ref pg), some (.ref ps), some (.ref p), some (.ref y), some (.ref z), some (.str (rowS r)), some (.bl (acc arr shut (some 0) r))] H9 [.bl (acc arr shut (some 0) r), .bl (acc brr bhut (some 0) r.reverse)] :=
          el_lst (ea_cons (ev_call (by walk_at "ev") (spv_says (r1.ex e9) l1.wf.1 (by omega) hrn (by omega))) (ea_cons (ev_call (ea_cons (ev_var rfl) (ea_cons (ev_rev (ev_var rfl) (by omega)) ea_nil)) (spv_says (r2.ex e9) l2.wf.1 (by omega) hrev (by rw [List.length_reverse]; omega))) ea_nil)) (by show 2 ≤ 100000; decide)
        rw [eq] at hyes
        refine s_when (b := false) (et_test (ev_is (ev_op (ev_repr2 hyes) (ev_repr2 (el_lst (ea_cons (ev_var rfl) (ea_cons (ev_var rfl) ea_nil)) (by show 2 ≤ 100000; decide))) (rv_ne rfl)) (by simp))) (fun h => nomatch h) fun _ H10 e10 => ?_
        exact ⟨(e8.trans e9).trans e10, _, _, rfl⟩
    · obtain ⟨e8, g9, g10, rfl⟩ := I
      obtain ⟨arr, shut, r1, l1⟩ := hy.ex (ex7.trans e8)
      obtain ⟨aa, ae, pp, _, _⟩ := r1.at_
      refine s_ret (v := .bl true) (ev_is (ev_op (ev_get (ev_var rfl) pp rfl) (ev_var rfl) (rv_eq rfl)) (by simp)) fun H9 e9 => ?_
      have x9 : Ex H3 H9 := ((e4.trans e5).trans (ex7.trans e8)).trans e9
      exact k H9 (b3.ex x9) (x3.trans (Ex.exb x9))
end
end K14
set_option maxHeartbeats 4000000
namespace K14
open PySem L2 Evl
local macro_rules | `(tactic| walk_at "ev") => `(tactic| repeat' (first
  | exact ev_var rfl | exact ev_c | exact ea_nil | apply ea_cons | exact rv_I0 | apply ev_op | apply ev_cb | apply ev_un | exact ru_neg
  | exact rc_isiInt | exact rc_isiBool | exact rc_isiStr))
section
variable {P : Program} {w : World} {K : PySem.W.Frag} {mg : Str → Option Value} {base : Heap}
variable {σ : L2.St} {H H' : Hp} {ta tb te to ti : TE} {tA : TA} {tz tu : TS} {v : V} {D : Ends} {a : Addr}
theorem ArrT.exb {p : Addr} {arr : Rows} (h : ArrT H p arr) (b : Bar H a) (e : ExB a H H') : ArrT H' p arr := by
  have ne : ∀ q xs, H q = some (.tup xs) → q ≠ a := fun q xs hq z => by
    obtain ⟨_, _, _, hb⟩ := b
    rw [z, hb] at hq
    cases hq
  obtain ⟨ps, h1, h2, h3⟩ := h
  exact ⟨ps, e _ _ (ne _ _ h1) h1, h2, fun i q r x y => e _ _ (ne _ _ (h3 i q r x y)) (h3 i q r x y)⟩
/-- if not f(barrel): .., where f says yes -/
theorem q_whenB {te : TE} (h : EvB te σ H a (fun v _ => v = .bl true)) (b : Bar H a) (k : ∀ H1, ExB a H H1 → Bar H1 a → tz D σ H1) : tSeq (tIfS (tNot (tB te)) tu tNext) tz D σ H :=
  h H ExB.refl b _ fun v H1 e b1 hv => ⟨true, hv, k H1 e b1⟩
theorem eb_right {i : Nat} {E : XK} (s0 : σ[i]? = some (some (.ref a))) : EvB (tCall sp_right [] E (tCons (tVar i) tNil)) σ H a (fun v _ => v = .bl true) :=
  eb_call (ebs_cons (p := fun v => v = .ref a) (eb_v fun H1 _ => ev_var s0) ebs_nil) fun vs H1 e b ⟨x, us, q1, q2, q3⟩ Q k => by
    subst q1 q2 q3
    exact ⟨a, rfl, b, fun H' b' e' => k _ H' e' b' rfl⟩
/-- a drawn reader -/
theorem eb_Reader {C : Addr} {n m i j l : Nat} {E E1 E2 : XK} (s0 : σ[i]? = some (some (.ref a))) (s1 : σ[j]? = some (some (.int n))) (s2 : σ[l]? = some (some (.int m))) (n1 : 1 ≤ n) (n8 : n ≤ 8) (m1 : 1 ≤ m) (m5 : m ≤ 5) :
    EvB (tMake C (sp_Reader_init C) [] E (tCons (tVar j) (tCons (tCall sp_arrows_for [] E1 (tCons (tVar i) (tCons (tVar j) (tCons (tVar l) tNil)))) (tCons (tCall sp_ends_for [] E2 (tCons (tVar i) (tCons (tVar l) tNil))) tNil)))) σ H a
      (fun v H' => ∃ p arr ends, v = .ref p ∧ RdrIn C H' p n arr ends ∧ arr.length = m) := fun H1 e b Q k => by
  have hA : EvB (tCall sp_arrows_for [] E1 (tCons (tVar i) (tCons (tVar j) (tCons (tVar l) tNil)))) σ H a (fun v H' => ∃ pa arr, v = .ref pa ∧ ArrT H' pa arr ∧ Wf n arr ∧ arr.length = m) :=
    eb_call (ebs_cons (p := fun v => v = .ref a) (eb_v fun H1 _ => ev_var s0) (ebs_cons (p := fun v => v = .int n) (eb_v fun H1 _ => ev_var s1) (ebs_cons (p := fun v => v = .int m) (eb_v fun H1 _ => ev_var s2) ebs_nil))) fun vs H1 e b ⟨x, us, q1, q2, y, zs, q3, q4, z, ws, q5, q6, q7⟩ Q k => by
      subst q1 q2 q3 q4 q5 q6 q7
      exact ⟨a, n, m, rfl, n1, n8, m1, by omega, b, fun p H' arr hp b' e' hAr W hl => k _ H' e' b' ⟨p, arr, rfl, hAr, W, hl⟩⟩
  have hE : EvB (tCall sp_ends_for [] E2 (tCons (tVar i) (tCons (tVar l) tNil))) σ H a (fun v H' => ∃ pe ends, v = .ref pe ∧ StT H' pe ends ∧ Asc m ends) :=
    eb_call (ebs_cons (p := fun v => v = .ref a) (eb_v fun H1 _ => ev_var s0) (ebs_cons (p := fun v => v = .int m) (eb_v fun H1 _ => ev_var s2) ebs_nil)) fun vs H1 e b ⟨x, us, q1, q2, y, zs, q3, q4, q5⟩ Q k => by
      subst q1 q2 q3 q4 q5
      exact ⟨a, m, rfl, m1, by omega, b, fun p H' ends hp b' e' hEn As => k _ H' e' b' ⟨p, ends, rfl, hEn, As⟩⟩
  refine ⟨_, s1, ?_⟩
  refine hA H1 e b _ fun v H3 e3 b3 ⟨pa, arr, hv, hAr, W, hl⟩ => ?_
  subst hv
  refine hE H3 (e.trans e3) b3 _ fun v H5 e5 b5 ⟨pe, ends, hv, hEn, As⟩ => ?_
  subst hv
  intro x dx hx hd hn
  have hAr5 : ArrT H5 pa arr := hAr.exb b3 e5
  have e6 : Ex H5 (upd (upd H5 dx (.own x)) x (.ins C dx [])) := fun b o hb => by rw [upd_ne (ne_of_none hb hx), upd_ne (ne_of_none hb hd)]; exact hb
  refine ⟨x, dx, pa, pe, n, arr, ends, rfl, upd_same, hAr5.ex e6, hEn.ex e6, W, by omega, n1, n8, by rw [hl]; exact As, fun H' I => ⟨rfl, ?_⟩⟩
  obtain ⟨i1, i2⟩ := inited_new hx hd I
  exact k (.ref x) H' ((e3.trans e5).trans (Ex.exb i2)) (b5.ex i2) ⟨x, arr, ends, rfl, ⟨⟨pa, pe, i1, hAr5.ex i2, hEn.ex i2⟩, W, by omega, n1, n8, by rw [hl]; exact As⟩, hl⟩
/-- x != y, both made here and alike -/
theorem ev_neRR {C : Addr} {E : XK} {R S : Hp → Addr → Prop} (h : EvR ta σ H R) (hb : ∀ H1, Ex H H1 → EvR tb σ H1 S) (hs : ∀ H1 H2 p q, Ex H H1 → Ex H1 H2 → R H1 p → S H2 q → SameAt K C H2 p q) : Ev (tOp (rNe C (sp_eq K C) E) ta tb) σ H (.bl false) := fun H1 e Q k =>
  h H1 e _ fun p H2 _ e2 r => hb H2 (e.trans e2) H2 (Ex.refl H2) _ fun q H3 _ e3 s => rv_neOwn (hs H2 H3 p q (e.trans e2) e3 r s) H3 (Ex.refl H3) Q fun H4 e4 => k H4 ((e2.trans e3).trans e4)
theorem ok_right (T : Tx K mg) : FnG P w K mg base CX0 11 T.d__law_right.f T.d__law_right.fd ["_law_barrel_here"] sp_right := by
  refine okG T.d__law_right.F sc__law_right (fun vs H Q E h => ?_) (fun cdv A outer s H vs Q E hG hr h => ?_)
  · obtain ⟨a, rfl, _⟩ := h
    rfl
  · obtain ⟨a, rfl, hb, k⟩ := h
    refine ⟨_, (pss_cons (ps_for PassesOwn.never rfl (pi_range1 (by rfl) T.z_range (pa_cons pe_int pa_nil)) (pg_name (i := 1) sc__law_right.nd rfl (Or.inl rfl)) (pss_cons (ps_if (pt_not (pt_val (pe_callG hG (ok_guesser_right T) (hr.mono (by decide)) rfl T.d__law_guesser_right.g T.d__law_guesser_right.F.kp T.d__law_guesser_right.b .nil pass0 (pa_cons (pv 0) pa_nil)))) (pss_one (ps_ret pe_bl)) pss_nil)
      (pss_cons (ps_par (i := 2) (j := 3) (by rfl) sc__law_right.nd rfl rfl (by decide) rfl rfl (pa_cons (pe_call (ok_one_of T) (hr.mono (by decide)) rfl T.d__law_one_of.g T.d__law_one_of.F.kp T.d__law_one_of.b .nil pass0 (pa_cons (pv 0) (pa_cons (pe_lst (pa_cons pe_int (pa_cons pe_int (pa_cons pe_int pa_nil)))) pa_nil))) (pa_cons (pe_op op_add pe_int (pe_call (ok_dip T) (hr.mono (by decide)) rfl T.d__law_dip.g T.d__law_dip.F.kp T.d__law_dip.b .nil pass0 (pa_cons (pv 0) (pa_cons pe_int pa_nil)))) pa_nil)) (by rfl))
      (pss_cons (ps_set (i := 4) sc__law_right.nd rfl (Or.inl rfl) (pe_make T.mkR (ok_Reader_init T) (hr.mono (by decide)) rfl T.gReader T.d_Reader_init.b .nil pass0 (pa_cons (pv 2) (pa_cons (pe_call (ok_arrows_for T) (hr.mono (by decide)) rfl T.d__law_arrows_for.g T.d__law_arrows_for.F.kp T.d__law_arrows_for.b .nil pass0 (pa_cons (pv 0) (pa_cons (pv 2) (pa_cons (pv 3) pa_nil)))) (pa_cons (pe_call (ok_ends_for T) (hr.mono (by decide)) rfl T.d__law_ends_for.g T.d__law_ends_for.F.kp T.d__law_ends_for.b .nil pass0 (pa_cons (pv 0) (pa_cons (pv 3) pa_nil))) pa_nil)))))
      (pss_one (ps_if (pt_cmpR (op_neOwn T.neR T.hmR T.eqR T.feR (ok_Reader_eq T) T.d_Reader_eq.b (hr.mono (by decide)) pass0) (pe_call (ok_reader_from T) (hr.mono (by decide)) rfl T.d_reader_from.g T.d_reader_from.F.kp T.d_reader_from.b .nil pass0 (pa_cons (pe_call (ok_guesser_of T) (hr.mono (by decide)) rfl T.d_guesser_of.g T.d_guesser_of.F.kp T.d_guesser_of.b .nil pass0 (pa_cons (pv 4) pa_nil)) pa_nil)) (pe_call (ok_least T) (hr.mono (by decide)) rfl T.d_least.g T.d_least.F.kp T.d_least.b .nil pass0 (pa_cons (pv 4) pa_nil)) (nomark _)) (pss_one (ps_ret pe_bl)) pss_nil))))))
      (pss_one (ps_ret pe_bl))), ?_⟩
    let Inv : Nat → L2.St → Hp → Prop := fun i σ' H' => Bar H' a ∧ ExB a H H' ∧ ∃ g1 g2 g3 g4, σ' = [some (.ref a), g1, g2, g3, g4]
    refine q_forR1 (n := 3) (ea_cons ev_c ea_nil) ⟨by omega, by omega⟩ Inv (fun H1 e1 => ⟨hb.ex e1, Ex.exb e1, none, none, none, none, rfl⟩) (fun i σ' H1 hi I => ?_) (fun σ' H1 I => ?_)
    · obtain ⟨b1, x1, g1, g2, g3, g4, rfl⟩ := I
      refine q_whenB (eb_right rfl) b1 fun H2 e2 b2 => ?_
      refine q_parB (p := fun vs _ => ∃ n m : Nat, vs = [.int n, .int m] ∧ 1 ≤ n ∧ n ≤ 2 ∧ 1 ≤ m ∧ m ≤ 4) (fun H1 e b Q q => (ebs_cons (p := fun v => ∃ d, d ∈ [1, 2, 2] ∧ v = .int (d : Nat)) (eb_one_of (ms := [1, 2, 2]) rfl (fun H1 _ => ea_cons ev_c (ea_cons ev_c (ea_cons ev_c ea_nil))) (by decide) (by decide))
        (ebs_cons (p := fun v => ∃ m : Nat, 1 ≤ m ∧ m ≤ 4 ∧ v = .int m) (eb_op (p := fun v => v = .int 1) (q := Blw 4) (eb_v fun _ _ => ev_c) (eb_dip (n := 4) rfl (eb_v fun _ _ => ev_c) (by decide) (by decide)) fun x y H1 _ q1 ⟨d, q2, hd⟩ => by
          subst q1 q2
          exact ⟨_, rv_I0, 1 + d, by omega, by omega, congrArg V.int (by omega)⟩) ebs_nil)) H1 e b _ fun vs H2 e2 b2 ⟨v, us, q1, ⟨d, hd, q2⟩, u, zs, q3, ⟨m, h1, h2, q4⟩, q5⟩ => q vs H2 e2 b2 ⟨d, m, by rw [q1, q2, q3, q4, q5], by simp only [List.mem_cons, List.not_mem_nil, or_false] at hd; omega, by simp only [List.mem_cons, List.not_mem_nil, or_false] at hd; omega, h1, h2⟩) b2 fun vs H3 e3 b3 ⟨n, m, hv, n1, n2, m1, m4⟩ => ?_
      subst hv
      refine ⟨_, _, rfl, ?_⟩
      refine q_asgB (eb_Reader (n := n) (m := m) rfl rfl rfl n1 (by omega) m1 (by omega)) b3 fun v H4 e4 b4 ⟨p, arr, ends, hv, R, hl⟩ => ?_
      subst hv
      refine s_when (b := false) (et_test (ev_neRR (R := fun H' q => LeastAt T.CR n (fun r => acc arr ends (some 0) r = true) H' q) (er_callAs (as_r (er_call (by walk_at "ev") (spr_guesser_of R (by omega))) (fun _ _ _ e h => h.ex e) as_nil) fun vs H5 e5 ⟨t, r, q1, h1, q2⟩ => by
          subst q1 q2
          exact fun H6 e6 Q q => spr_reader_from h1 H6 e6 Q fun z H7 hz e7 r => q z H7 hz e7 (by
            obtain ⟨brr, bhut, r1, l1⟩ := least_of_sub (by omega) h1.ok h1.ba r
            exact ⟨brr, bhut, r1, l1.imp fun r _ => steps_says R.wf⟩))
        (fun H5 e5 => er_call (by walk_at "ev") (spr_least (R.ex e5))) fun H5 H6 y z e5 e6 h1 h2 => same_least (h1.ex e6) (least_of_made R.wf (by omega) h2) fun _ _ => Iff.rfl)) (fun h => nomatch h) fun _ H5 e5 => ?_
      exact ⟨b4.ex e5, (((x1.trans e2).trans e3).trans e4).trans (Ex.exb e5), _, _, _, _, rfl⟩
    · obtain ⟨b1, x1, g1, g2, g3, g4, rfl⟩ := I
      exact s_ret (v := .bl true) ev_c fun H2 e2 => k H2 (b1.ex e2) (x1.trans (Ex.exb e2))
end
end K14
set_option maxHeartbeats 4000000
namespace K14
open PySem L2 Evl
section
variable {P : Program} {w : World} {K : PySem.W.Frag} {mg : Str → Option Value} {base : Heap}
variable {σ : L2.St} {H H' : Hp} {ta tb te to ti : TE} {tA : TA} {tz tu : TS} {v : V} {D : Ends} {a : Addr}
def sp_law (K : PySem.W.Frag) : Sp := fun vs H Q _ => ∃ (a : Addr) (ns : List Int), vs = [.ref a] ∧ SqL K H a (ns.map V.int) ∧ ns.length ≤ 63 ∧ ∀ H', Q (.bl true) H'
theorem spr_barrel {l : Addr} {is : List Int} {k : Nat} (h : SqL K H l (is.map V.int)) (hz : is.length ≤ 1000) : SpR (sp_barrel K) ([.ref l, .int k] ++ []) H (fun H p => Bar H p) := fun H1 e Q q E => ⟨l, is, k, rfl, ex_l e h, hz, fun p H' hp e' b => q p H' hp e' b⟩
/-- one turn of the law: a barrel of its own -/
theorem ev_turn {l : Addr} {is : List Int} {i j k : Nat} {E E' : XK} (s0 : σ[i]? = some (some (.ref l))) (s1 : σ[j]? = some (some (.int k))) (h : SqL K H l (is.map V.int)) (hz : is.length ≤ 1000) :
    Ev (tCall sp_right [] E (tCons (tCall (sp_barrel K) [] E' (tCons (tVar i) (tCons (tVar j) tNil))) tNil)) σ H (.bl true) := fun H1 e Q q =>
  er_call (ea_cons (ev_var s0) (ea_cons (ev_var s1) ea_nil)) (spr_barrel h hz) H1 e _ fun p H2 hp e2 b2 => ⟨p, rfl, b2, fun H3 b3 e3 => q H3 fun b o hb => e3 b o (fun z => by rw [z, hp] at hb; cases hb) (e2 b o hb)⟩
theorem rc_max2 {i j : Int} : RC (fun xs H (Q : VK) => ∃ i j, xs = [V.int i, V.int j] ∧ Q (V.int (if j > i then j else i)) H) [.int i, .int j] H (.int (if j > i then j else i)) := fun H1 _ _ q => ⟨i, j, rfl, q H1 (Ex.refl H1)⟩
theorem rc_min2 {i j : Int} : RC (fun xs H (Q : VK) => ∃ i j, xs = [V.int i, V.int j] ∧ Q (V.int (if j < i then j else i)) H) [.int i, .int j] H (.int (if j < i then j else i)) := fun H1 _ _ q => ⟨i, j, rfl, q H1 (Ex.refl H1)⟩
theorem ok_law (T : Tx K mg) : FnG P w K mg base CX0 12 T.d_law.f T.d_law.fd ["_law_script"] (sp_law K) := by
  refine okG T.d_law.F sc_law (fun vs H Q E h => ?_) (fun cdv A outer s H vs Q E hG hr h => ?_)
  · obtain ⟨a, ns, rfl, _⟩ := h
    rfl
  · obtain ⟨a, ns, rfl, hS, hl, k⟩ := h
    refine ⟨_, (pss_one (ps_ret (pe_callB (k_all K rfl) (by rfl) T.z_all (by decide +kernel) (pa_cons (pe_lc (own := [("_law_turn", 1)]) (g := (gName 1)) rfl sc_law.nd (pi_range1 (by rfl) T.z_range (pa_cons (pe_callB (call_max2 rfl) (by rfl) T.z_max (by decide +kernel) (pa_cons pe_int (pa_cons (pe_callB (call_min2 rfl) (by rfl) T.z_min (by decide +kernel) (pa_cons (pe_callB (k_len K) (by rfl) T.z_len (by decide +kernel) (pa_cons (pv 0) pa_nil)) (pa_cons pe_int pa_nil))) pa_nil))) pa_nil)) (blkOk_by (own := [("_law_turn", 1)]) (N := ["_law_script", "_law_turn"]) (sc := defScope s_law) (by decide +kernel)) (fun _ _ _ _ _ => (pg_name (i := 1) sc_law.nd rfl (Or.inl rfl))) (fun _ _ _ _ _ => pts_nil) (fun _ _ _ _ _ => (pe_callG hG (ok_right T) (hr.mono (by decide)) rfl T.d__law_right.g T.d__law_right.F.kp T.d__law_right.b .nil pass0 (pa_cons (pe_call (ok_barrel T) (hr.mono (by decide)) rfl T.d__law_barrel.g T.d__law_barrel.F.kp T.d__law_barrel.b .nil pass0 (pa_cons (pv 0) (pa_cons (pv 1) pa_nil))) pa_nil)))) pa_nil)))), ?_⟩
    have hlen : Ev (tCB (rLenQ K) (tCons (tVar 0) tNil)) (L2.start ["_law_script", "_law_turn"] [.ref a]) H (.int (ns.length : Int)) := by
      have := ev_cb (ea_cons (ev_var (σ := L2.start ["_law_script", "_law_turn"] [.ref a]) (i := 0) rfl) ea_nil) (rc_lenQ (K := K) (.inl hS))
      rw [List.length_map] at this
      exact this
    have num : ∃ n : Nat, n ≤ 3 ∧ (if (if (3 : Int) < (ns.length : Int) then (3 : Int) else (ns.length : Int)) > 2 then (if (3 : Int) < (ns.length : Int) then (3 : Int) else (ns.length : Int)) else (2 : Int)) = (n : Int) := by
      by_cases c : (3 : Int) < (ns.length : Int)
      · exact ⟨3, Nat.le_refl _, by rw [if_pos c]; rfl⟩
      · rw [if_neg c]
        by_cases d : (ns.length : Int) > 2
        · exact ⟨ns.length, by omega, by rw [if_pos d]⟩
        · exact ⟨2, by omega, by rw [if_neg d]; rfl⟩
    obtain ⟨n, hn, en⟩ := num
    refine s_ret (v := .bl true) (ev_allN (xs := given n (fun _ => true) fun _ => .bl true) (el_lcR1 (n := (n : Int)) (fun _ => true) (fun _ => .bl true) (fun H1 e Q q => ?_) ⟨by omega, by omega⟩ (fun _ => rfl) (fun _ _ _ _ => et_yes) fun i H1 e1 hi _ => ev_turn (k := i) rfl rfl (ex_l e1 hS) (by omega)) fun x hx => ?_) fun H1 _ => k H1
    · have := ea_cons (ev_cb (ea_cons (ev_c (v := .int 2)) (ea_cons (ev_cb (ea_cons hlen (ea_cons (ev_c (v := .int 3)) ea_nil)) rc_min2) ea_nil)) rc_max2) ea_nil
      rw [en] at this
      exact this H1 e Q q
    · unfold given at hx
      obtain ⟨i, _, rfl⟩ := List.mem_map.mp hx
      rfl
end
end K14
set_option maxHeartbeats 4000000
/-! what the top has left, collected -/
namespace K14
open PySem L2
section
variable {K : PySem.W.Frag} {h : Heap} {mg : Str → Option Value}
/-- how a def without defaults binds -/
def Plain (nm : Str) (st : Stmt) (ps : List Str) : Prop := ∀ (kV doc pm : Value) (an : Option Addr) (cdv ct : Value) (us : List Value), us.length = ps.length → bindArgs (PySem.W.fnOf nm nm (defArgs st) (defBody st) (defScope st) .none kV doc pm an cdv ct) ⟨us, []⟩ = pure (ps.zip us)
def Plain2 (nm qual : Str) (st : Stmt) (ps : List Str) : Prop := ∀ (kV doc pm : Value) (an : Option Addr) (cdv ct : Value) (us : List Value), us.length = ps.length → bindArgs (PySem.W.fnOf nm qual (defArgs st) (defBody st) (defScope st) .none kV doc pm an cdv ct) ⟨us, []⟩ = pure (ps.zip us)
theorem gd_mk (X : K.In h) (G : h.Ns mainGlobals mg) (nm : Str) (st : Stmt) (ps : List Str) (b : Plain nm st ps) {f : Addr} {oc : Value} {od an : Option Addr} {sl : Array (Option Value)} {kV dc pm cd ct : Value} (a : PySem.W.nsIn K mainGlobals nm = some (some (.ref f)))
    (l : K.lookup f = some ⟨oc, od, .func (PySem.W.fnOf nm nm (defArgs st) (defBody st) (defScope st) .none kV dc pm an cd ct), sl⟩) (c : PySem.W.codeIn K cd nm = true) (k : PySem.W.keepIn K (.ref f) = true) : Nonempty (GDef K mg nm st ps) := by
  have F := fun_mk (st := st) l c k
  exact ⟨⟨⟨f, _, F, F.binds b⟩, PySem.W.mg_of X G a⟩⟩
theorem dd_of (nm qual : Str) (st : Stmt) (ps : List Str) (b : Plain2 nm qual st ps) {C f : Addr} (_a : PySem.W.findIn K (.ref C) nm = some (some (.ref f))) {oc : Value} {od an : Option Addr} {sl : Array (Option Value)} {kV dc pm cd ct : Value}
    (l : K.lookup f = some ⟨oc, od, .func (PySem.W.fnOf nm qual (defArgs st) (defBody st) (defScope st) .none kV dc pm an cd ct), sl⟩) (c : PySem.W.codeIn K cd qual = true) (k : PySem.W.keepIn K (.ref f) = true) : ∃ d : DefAt K mg nm qual st ps, d.f = f := by
  have F := fun_mk (st := st) l c k
  exact ⟨⟨f, _, F, F.binds b⟩, rfl⟩
theorem dd_ofP (nm qual : Str) (st : Stmt) (ps : List Str) (b : Plain2 nm qual st ps) {C f : Addr} (_a : ∃ p, PropOf K C nm p f) {oc : Value} {od an : Option Addr} {sl : Array (Option Value)} {kV dc pm cd ct : Value}
    (l : K.lookup f = some ⟨oc, od, .func (PySem.W.fnOf nm qual (defArgs st) (defBody st) (defScope st) .none kV dc pm an cd ct), sl⟩) (c : PySem.W.codeIn K cd qual = true) (k : PySem.W.keepIn K (.ref f) = true) : ∃ d : DefAt K mg nm qual st ps, d.f = f := by
  have F := fun_mk (st := st) l c k
  exact ⟨⟨f, _, F, F.binds b⟩, rfl⟩
theorem step {p q : Prop} (h : p) (k : p → q) : q := k h
/-- a class's own -/
structure ClsTx (K : PySem.W.Frag) (mg : Str → Option Value) (nm : Str) (C fI fE : Addr) : Prop where
  g : mg nm = some (.ref C)
  cl : Cls K C
  mk1 : Mk K C fI
  np : NoAttr K C "parts"
  ha : PySem.W.findIn K (.ref C) "__class__" = some (some (.builtin "object.__class__"))
  hm : PySem.W.mroIn K C (.type "object") = some true
  is : PySem.W.kitOne K (.ref C) (.ref C) = some true
  eq : PySem.W.findIn K (.ref C) "__eq__" = some (some (.ref fE))
  ne : PySem.W.findIn K (.ref C) "__ne__" = some (some (.builtin "object.__ne__"))
  fe : PySem.W.isFn K (.ref fE) = true
  init : PySem.W.findIn K (.ref C) "__init__" = some (some (.ref fI))
theorem cls_mk (X : K.In h) (G : h.Ns mainGlobals mg) (nm : Str) {C fI fE : Addr} (g : PySem.W.nsIn K mainGlobals nm = some (some (.ref C))) (pg : PySem.W.plainGet K C Str.empty = true) (hd : PySem.W.hasDictIn K C = true) (po : PySem.W.plainOver K C = true)
    (sa : PySem.W.findIn K (.ref C) "__setattr__" = some (some (.builtin "object.__setattr__"))) (mk : PySem.W.makesIn K C = true) (a1 : PySem.W.findIn K (.ref C) "__init__" = some (some (.ref fI))) (i1 : PySem.W.isFn K (.ref fI) = true) (kc : PySem.W.keepIn K (.ref C) = true)
    (np : PySem.W.findIn K (.ref C) "parts" = some none) (ha : PySem.W.findIn K (.ref C) "__class__" = some (some (.builtin "object.__class__"))) (hm : PySem.W.mroIn K C (.type "object") = some true)
    (eq : PySem.W.findIn K (.ref C) "__eq__" = some (some (.ref fE))) (ne : PySem.W.findIn K (.ref C) "__ne__" = some (some (.builtin "object.__ne__"))) (fe : PySem.W.isFn K (.ref fE) = true) : ClsTx K mg nm C fI fE :=
  ⟨PySem.W.mg_of X G g, ⟨pg, hd, po, sa⟩, ⟨mk, a1, i1, kc⟩, np, ha, hm, if_pos (beq_self_eq_true _), eq, ne, fe, a1⟩
theorem prop_mk {nm : Str} {C fI fE p g : Addr} (_c : ClsTx K mg nm C fI fE) (f : Str) {rest : List Value} (at_ : PySem.W.findIn K (.ref C) f = some (some (.ref p))) (get : PySem.W.specialIn K (.ref p) "__get__" = some (some (.builtin "property.__get__"))) (tak : PySem.W.takesIn K (.ref p) = some true)
    (rec_ : PySem.W.recIn K p "property" = some (.ref g :: rest)) : ∃ p, PropOf K C f p g := ⟨p, at_, get, tak, rest, rec_⟩
theorem b_is_number : Plain "is_number" s_is_number ["value", "low", "high"] := fun _ _ _ _ _ _ us hl => match us, hl with | [_, _, _], _ => rfl
theorem b_is_goal : Plain "is_goal" s_is_goal ["value", "size"] := fun _ _ _ _ _ _ us hl => match us, hl with | [_, _], _ => rfl
theorem b_are_arrows : Plain "are_arrows" s_are_arrows ["value", "signs"] := fun _ _ _ _ _ _ us hl => match us, hl with | [_, _], _ => rfl
theorem b_are_stands : Plain "are_stands" s_are_stands ["value", "size"] := fun _ _ _ _ _ _ us hl => match us, hl with | [_, _], _ => rfl
theorem b_is_row : Plain "is_row" s_is_row ["value", "signs", "most"] := fun _ _ _ _ _ _ us hl => match us, hl with | [_, _, _], _ => rfl
theorem b_Reader_init : Plain2 "__init__" "Reader.__init__" s_Reader_init ["self", "signs", "arrows", "ends"] := fun _ _ _ _ _ _ us hl => match us, hl with | [_, _, _, _], _ => rfl
theorem b_Reader_signs : Plain2 "signs" "Reader.signs" s_Reader_signs ["self"] := fun _ _ _ _ _ _ us hl => match us, hl with | [_], _ => rfl
theorem b_Reader_arrows : Plain2 "arrows" "Reader.arrows" s_Reader_arrows ["self"] := fun _ _ _ _ _ _ us hl => match us, hl with | [_], _ => rfl
theorem b_Reader_ends : Plain2 "ends" "Reader.ends" s_Reader_ends ["self"] := fun _ _ _ _ _ _ us hl => match us, hl with | [_], _ => rfl
theorem b_Reader_eq : Plain2 "__eq__" "Reader.__eq__" s_Reader_eq ["self", "other"] := fun _ _ _ _ _ _ us hl => match us, hl with | [_, _], _ => rfl
theorem b_is_signs : Plain "is_signs" s_is_signs ["value"] := fun _ _ _ _ _ _ us hl => match us, hl with | [_], _ => rfl
theorem b_check_signs : Plain "check_signs" s_check_signs ["signs"] := fun _ _ _ _ _ _ us hl => match us, hl with | [_], _ => rfl
theorem b_check_reader : Plain "check_reader" s_check_reader ["reader"] := fun _ _ _ _ _ _ us hl => match us, hl with | [_], _ => rfl
theorem b_check_row : Plain "check_row" s_check_row ["row", "signs"] := fun _ _ _ _ _ _ us hl => match us, hl with | [_, _], _ => rfl
theorem b_goal_by : Plain "goal_by" s_goal_by ["arrows", "stand", "row"] := fun _ _ _ _ _ _ us hl => match us, hl with | [_, _, _], _ => rfl
theorem b_reached : Plain "reached" s_reached ["arrows", "stands"] := fun _ _ _ _ _ _ us hl => match us, hl with | [_, _], _ => rfl
theorem b_turned_back : Plain "turned_back" s_turned_back ["arrows"] := fun _ _ _ _ _ _ us hl => match us, hl with | [_], _ => rfl
theorem b_useful_of : Plain "useful_of" s_useful_of ["arrows", "ends"] := fun _ _ _ _ _ _ us hl => match us, hl with | [_, _], _ => rfl
theorem b_kinds_of : Plain "kinds_of" s_kinds_of ["arrows", "ends", "stands"] := fun _ _ _ _ _ _ us hl => match us, hl with | [_, _, _], _ => rfl
theorem b_least_of : Plain "least_of" s_least_of ["signs", "arrows", "ends"] := fun _ _ _ _ _ _ us hl => match us, hl with | [_, _, _], _ => rfl
theorem b_made : Plain "made" s_made ["signs", "arrows", "ends"] := fun _ _ _ _ _ _ us hl => match us, hl with | [_, _, _], _ => rfl
theorem b_led_to : Plain "led_to" s_led_to ["reader", "row"] := fun _ _ _ _ _ _ us hl => match us, hl with | [_, _], _ => rfl
theorem b_says : Plain "says" s_says ["reader", "row"] := fun _ _ _ _ _ _ us hl => match us, hl with | [_, _], _ => rfl
theorem b_is_step : Plain "is_step" s_is_step ["value", "signs", "size"] := fun _ _ _ _ _ _ us hl => match us, hl with | [_, _, _], _ => rfl
theorem b_are_steps : Plain "are_steps" s_are_steps ["value", "signs", "size"] := fun _ _ _ _ _ _ us hl => match us, hl with | [_, _, _], _ => rfl
theorem b_Guesser_init : Plain2 "__init__" "Guesser.__init__" s_Guesser_init ["self", "signs", "size", "begins", "steps", "goals"] := fun _ _ _ _ _ _ us hl => match us, hl with | [_, _, _, _, _, _], _ => rfl
theorem b_Guesser_signs : Plain2 "signs" "Guesser.signs" s_Guesser_signs ["self"] := fun _ _ _ _ _ _ us hl => match us, hl with | [_], _ => rfl
theorem b_Guesser_size : Plain2 "size" "Guesser.size" s_Guesser_size ["self"] := fun _ _ _ _ _ _ us hl => match us, hl with | [_], _ => rfl
theorem b_Guesser_begins : Plain2 "begins" "Guesser.begins" s_Guesser_begins ["self"] := fun _ _ _ _ _ _ us hl => match us, hl with | [_], _ => rfl
theorem b_Guesser_steps : Plain2 "steps" "Guesser.steps" s_Guesser_steps ["self"] := fun _ _ _ _ _ _ us hl => match us, hl with | [_], _ => rfl
theorem b_Guesser_goals : Plain2 "goals" "Guesser.goals" s_Guesser_goals ["self"] := fun _ _ _ _ _ _ us hl => match us, hl with | [_], _ => rfl
theorem b_Guesser_eq : Plain2 "__eq__" "Guesser.__eq__" s_Guesser_eq ["self", "other"] := fun _ _ _ _ _ _ us hl => match us, hl with | [_, _], _ => rfl
theorem b_check_guesser : Plain "check_guesser" s_check_guesser ["guesser"] := fun _ _ _ _ _ _ us hl => match us, hl with | [_], _ => rfl
theorem b_goals_by : Plain "goals_by" s_goals_by ["size", "steps"] := fun _ _ _ _ _ _ us hl => match us, hl with | [_, _], _ => rfl
theorem b_spread_out : Plain "spread_out" s_spread_out ["tables", "stands"] := fun _ _ _ _ _ _ us hl => match us, hl with | [_, _], _ => rfl
theorem b_reader_of_steps : Plain "reader_of_steps" s_reader_of_steps ["signs", "size", "begins", "steps", "goals"] := fun _ _ _ _ _ _ us hl => match us, hl with | [_, _, _, _, _], _ => rfl
theorem b_reader_from : Plain "reader_from" s_reader_from ["guesser"] := fun _ _ _ _ _ _ us hl => match us, hl with | [_], _ => rfl
theorem b_steps_of : Plain "steps_of" s_steps_of ["reader"] := fun _ _ _ _ _ _ us hl => match us, hl with | [_], _ => rfl
theorem b_guesser_of : Plain "guesser_of" s_guesser_of ["reader"] := fun _ _ _ _ _ _ us hl => match us, hl with | [_], _ => rfl
theorem b_turned : Plain "turned" s_turned ["guesser"] := fun _ _ _ _ _ _ us hl => match us, hl with | [_], _ => rfl
theorem b_least_by : Plain "least_by" s_least_by ["reader"] := fun _ _ _ _ _ _ us hl => match us, hl with | [_], _ => rfl
theorem b_least : Plain "least" s_least ["reader"] := fun _ _ _ _ _ _ us hl => match us, hl with | [_], _ => rfl
theorem b__law_barrel : Plain "_law_barrel" s__law_barrel ["_law_script", "_law_turn"] := fun _ _ _ _ _ _ us hl => match us, hl with | [_, _], _ => rfl
theorem b__law_dip : Plain "_law_dip" s__law_dip ["_law_barrel_here", "_law_top"] := fun _ _ _ _ _ _ us hl => match us, hl with | [_, _], _ => rfl
theorem b__law_one_of : Plain "_law_one_of" s__law_one_of ["_law_barrel_here", "_law_menu"] := fun _ _ _ _ _ _ us hl => match us, hl with | [_, _], _ => rfl
theorem b__law_arrows_for : Plain "_law_arrows_for" s__law_arrows_for ["_law_barrel_here", "_law_width", "_law_stands"] := fun _ _ _ _ _ _ us hl => match us, hl with | [_, _, _], _ => rfl
theorem b__law_ends_for : Plain "_law_ends_for" s__law_ends_for ["_law_barrel_here", "_law_stands"] := fun _ _ _ _ _ _ us hl => match us, hl with | [_, _], _ => rfl
theorem b__law_upto : Plain "_law_upto" s__law_upto ["_law_width", "_law_deep"] := fun _ _ _ _ _ _ us hl => match us, hl with | [_, _], _ => rfl
theorem b__law_steps : Plain "_law_steps" s__law_steps ["_law_barrel_here", "_law_width", "_law_stands", "_law_many"] := fun _ _ _ _ _ _ us hl => match us, hl with | [_, _, _, _], _ => rfl
theorem b__law_some : Plain "_law_some" s__law_some ["_law_barrel_here", "_law_stands"] := fun _ _ _ _ _ _ us hl => match us, hl with | [_, _], _ => rfl
theorem b__law_out : Plain "_law_out" s__law_out ["_law_steps_here", "_law_lot"] := fun _ _ _ _ _ _ us hl => match us, hl with | [_, _], _ => rfl
theorem b__law_guessed : Plain "_law_guessed" s__law_guessed ["_law_steps_here", "_law_begins_here", "_law_goals_here", "_law_line"] := fun _ _ _ _ _ _ us hl => match us, hl with | [_, _, _, _], _ => rfl
theorem b__law_guesser_right : Plain "_law_guesser_right" s__law_guesser_right ["_law_barrel_here"] := fun _ _ _ _ _ _ us hl => match us, hl with | [_], _ => rfl
theorem b__law_right : Plain "_law_right" s__law_right ["_law_barrel_here"] := fun _ _ _ _ _ _ us hl => match us, hl with | [_], _ => rfl
theorem b_law : Plain "law" s_law ["_law_script"] := fun _ _ _ _ _ _ us hl => match us, hl with | [_], _ => rfl
/-- all of it -/
theorem tx_mk (X : K.In h) (G : h.Ns mainGlobals mg)
    (d_is_number : Nonempty (GDef K mg "is_number" s_is_number ["value", "low", "high"]))
    (d_is_goal : Nonempty (GDef K mg "is_goal" s_is_goal ["value", "size"]))
    (d_are_arrows : Nonempty (GDef K mg "are_arrows" s_are_arrows ["value", "signs"]))
    (d_are_stands : Nonempty (GDef K mg "are_stands" s_are_stands ["value", "size"]))
    (d_is_row : Nonempty (GDef K mg "is_row" s_is_row ["value", "signs", "most"]))
    (d_is_signs : Nonempty (GDef K mg "is_signs" s_is_signs ["value"]))
    (d_check_signs : Nonempty (GDef K mg "check_signs" s_check_signs ["signs"]))
    (d_check_reader : Nonempty (GDef K mg "check_reader" s_check_reader ["reader"]))
    (d_check_row : Nonempty (GDef K mg "check_row" s_check_row ["row", "signs"]))
    (d_goal_by : Nonempty (GDef K mg "goal_by" s_goal_by ["arrows", "stand", "row"]))
    (d_reached : Nonempty (GDef K mg "reached" s_reached ["arrows", "stands"]))
    (d_turned_back : Nonempty (GDef K mg "turned_back" s_turned_back ["arrows"]))
    (d_useful_of : Nonempty (GDef K mg "useful_of" s_useful_of ["arrows", "ends"]))
    (d_kinds_of : Nonempty (GDef K mg "kinds_of" s_kinds_of ["arrows", "ends", "stands"]))
    (d_least_of : Nonempty (GDef K mg "least_of" s_least_of ["signs", "arrows", "ends"]))
    (d_made : Nonempty (GDef K mg "made" s_made ["signs", "arrows", "ends"]))
    (d_led_to : Nonempty (GDef K mg "led_to" s_led_to ["reader", "row"]))
    (d_says : Nonempty (GDef K mg "says" s_says ["reader", "row"]))
    (d_is_step : Nonempty (GDef K mg "is_step" s_is_step ["value", "signs", "size"]))
    (d_are_steps : Nonempty (GDef K mg "are_steps" s_are_steps ["value", "signs", "size"]))
    (d_check_guesser : Nonempty (GDef K mg "check_guesser" s_check_guesser ["guesser"]))
    (d_goals_by : Nonempty (GDef K mg "goals_by" s_goals_by ["size", "steps"]))
    (d_spread_out : Nonempty (GDef K mg "spread_out" s_spread_out ["tables", "stands"]))
    (d_reader_of_steps : Nonempty (GDef K mg "reader_of_steps" s_reader_of_steps ["signs", "size", "begins", "steps", "goals"]))
    (d_reader_from : Nonempty (GDef K mg "reader_from" s_reader_from ["guesser"]))
    (d_steps_of : Nonempty (GDef K mg "steps_of" s_steps_of ["reader"]))
    (d_guesser_of : Nonempty (GDef K mg "guesser_of" s_guesser_of ["reader"]))
    (d_turned : Nonempty (GDef K mg "turned" s_turned ["guesser"]))
    (d_least_by : Nonempty (GDef K mg "least_by" s_least_by ["reader"]))
    (d_least : Nonempty (GDef K mg "least" s_least ["reader"]))
    (d__law_barrel : Nonempty (GDef K mg "_law_barrel" s__law_barrel ["_law_script", "_law_turn"]))
    (d__law_dip : Nonempty (GDef K mg "_law_dip" s__law_dip ["_law_barrel_here", "_law_top"]))
    (d__law_one_of : Nonempty (GDef K mg "_law_one_of" s__law_one_of ["_law_barrel_here", "_law_menu"]))
    (d__law_arrows_for : Nonempty (GDef K mg "_law_arrows_for" s__law_arrows_for ["_law_barrel_here", "_law_width", "_law_stands"]))
    (d__law_ends_for : Nonempty (GDef K mg "_law_ends_for" s__law_ends_for ["_law_barrel_here", "_law_stands"]))
    (d__law_upto : Nonempty (GDef K mg "_law_upto" s__law_upto ["_law_width", "_law_deep"]))
    (d__law_steps : Nonempty (GDef K mg "_law_steps" s__law_steps ["_law_barrel_here", "_law_width", "_law_stands", "_law_many"]))
    (d__law_some : Nonempty (GDef K mg "_law_some" s__law_some ["_law_barrel_here", "_law_stands"]))
    (d__law_out : Nonempty (GDef K mg "_law_out" s__law_out ["_law_steps_here", "_law_lot"]))
    (d__law_guessed : Nonempty (GDef K mg "_law_guessed" s__law_guessed ["_law_steps_here", "_law_begins_here", "_law_goals_here", "_law_line"]))
    (d__law_guesser_right : Nonempty (GDef K mg "_law_guesser_right" s__law_guesser_right ["_law_barrel_here"]))
    (d__law_right : Nonempty (GDef K mg "_law_right" s__law_right ["_law_barrel_here"]))
    (d_law : Nonempty (GDef K mg "law" s_law ["_law_script"]))
    {f_Reader_init : Addr} (d_Reader_init : ∃ d : DefAt K mg "__init__" "Reader.__init__" s_Reader_init ["self", "signs", "arrows", "ends"], d.f = f_Reader_init)
    {f_Reader_signs : Addr} (d_Reader_signs : ∃ d : DefAt K mg "signs" "Reader.signs" s_Reader_signs ["self"], d.f = f_Reader_signs)
    {f_Reader_arrows : Addr} (d_Reader_arrows : ∃ d : DefAt K mg "arrows" "Reader.arrows" s_Reader_arrows ["self"], d.f = f_Reader_arrows)
    {f_Reader_ends : Addr} (d_Reader_ends : ∃ d : DefAt K mg "ends" "Reader.ends" s_Reader_ends ["self"], d.f = f_Reader_ends)
    {f_Reader_eq : Addr} (d_Reader_eq : ∃ d : DefAt K mg "__eq__" "Reader.__eq__" s_Reader_eq ["self", "other"], d.f = f_Reader_eq)
    {CR : Addr} (cR : ClsTx K mg "Reader" CR f_Reader_init f_Reader_eq)
    (p_Reader_signs : ∃ p, PropOf K CR "signs" p f_Reader_signs)
    (p_Reader_arrows : ∃ p, PropOf K CR "arrows" p f_Reader_arrows)
    (p_Reader_ends : ∃ p, PropOf K CR "ends" p f_Reader_ends)
    {f_Guesser_init : Addr} (d_Guesser_init : ∃ d : DefAt K mg "__init__" "Guesser.__init__" s_Guesser_init ["self", "signs", "size", "begins", "steps", "goals"], d.f = f_Guesser_init)
    {f_Guesser_signs : Addr} (d_Guesser_signs : ∃ d : DefAt K mg "signs" "Guesser.signs" s_Guesser_signs ["self"], d.f = f_Guesser_signs)
    {f_Guesser_size : Addr} (d_Guesser_size : ∃ d : DefAt K mg "size" "Guesser.size" s_Guesser_size ["self"], d.f = f_Guesser_size)
    {f_Guesser_begins : Addr} (d_Guesser_begins : ∃ d : DefAt K mg "begins" "Guesser.begins" s_Guesser_begins ["self"], d.f = f_Guesser_begins)
    {f_Guesser_steps : Addr} (d_Guesser_steps : ∃ d : DefAt K mg "steps" "Guesser.steps" s_Guesser_steps ["self"], d.f = f_Guesser_steps)
    {f_Guesser_goals : Addr} (d_Guesser_goals : ∃ d : DefAt K mg "goals" "Guesser.goals" s_Guesser_goals ["self"], d.f = f_Guesser_goals)
    {f_Guesser_eq : Addr} (d_Guesser_eq : ∃ d : DefAt K mg "__eq__" "Guesser.__eq__" s_Guesser_eq ["self", "other"], d.f = f_Guesser_eq)
    {CG : Addr} (cG : ClsTx K mg "Guesser" CG f_Guesser_init f_Guesser_eq)
    (p_Guesser_signs : ∃ p, PropOf K CG "signs" p f_Guesser_signs)
    (p_Guesser_size : ∃ p, PropOf K CG "size" p f_Guesser_size)
    (p_Guesser_begins : ∃ p, PropOf K CG "begins" p f_Guesser_begins)
    (p_Guesser_steps : ∃ p, PropOf K CG "steps" p f_Guesser_steps)
    (p_Guesser_goals : ∃ p, PropOf K CG "goals" p f_Guesser_goals)
    (hn : PySem.W.specialIn K (.builtin "object.__class__") "__get__" = some (some (.builtin "getset_descriptor.__get__")))
    (htk : PySem.W.takesIn K (.builtin "object.__class__") = some true)
    {t_MOST_SIGNS : Tok} (g_MOST_SIGNS : PySem.W.nsIn K mainGlobals "MOST_SIGNS" = some (some (.int 8 t_MOST_SIGNS)))
    {t_MOST_STANDS : Tok} (g_MOST_STANDS : PySem.W.nsIn K mainGlobals "MOST_STANDS" = some (some (.int 200 t_MOST_STANDS)))
    {t_MOST_GUESSED : Tok} (g_MOST_GUESSED : PySem.W.nsIn K mainGlobals "MOST_GUESSED" = some (some (.int 12 t_MOST_GUESSED)))
    {t_MOST_ROW : Tok} (g_MOST_ROW : PySem.W.nsIn K mainGlobals "MOST_ROW" = some (some (.int 200 t_MOST_ROW)))
    {t_ALPHABET : Tok} (g_ALPHABET : PySem.W.nsIn K mainGlobals "ALPHABET" = some (some (.str "abcdefgh" t_ALPHABET)))
    (z_isinstance : PySem.W.nsIn K mainGlobals "isinstance" = some none)
    (z_len : PySem.W.nsIn K mainGlobals "len" = some none)
    (z_all : PySem.W.nsIn K mainGlobals "all" = some none)
    (z_any : PySem.W.nsIn K mainGlobals "any" = some none)
    (z_range : PySem.W.nsIn K mainGlobals "range" = some none)
    (z_enumerate : PySem.W.nsIn K mainGlobals "enumerate" = some none)
    (z_sorted : PySem.W.nsIn K mainGlobals "sorted" = some none)
    (z_set : PySem.W.nsIn K mainGlobals "set" = some none)
    (z_list : PySem.W.nsIn K mainGlobals "list" = some none)
    (z_tuple : PySem.W.nsIn K mainGlobals "tuple" = some none)
    (z_int : PySem.W.nsIn K mainGlobals "int" = some none)
    (z_bool : PySem.W.nsIn K mainGlobals "bool" = some none)
    (z_str : PySem.W.nsIn K mainGlobals "str" = some none)
    (z_max : PySem.W.nsIn K mainGlobals "max" = some none)
    (z_min : PySem.W.nsIn K mainGlobals "min" = some none)
    (z_abs : PySem.W.nsIn K mainGlobals "abs" = some none)
    (z_divmod : PySem.W.nsIn K mainGlobals "divmod" = some none)
    (z_repr : PySem.W.nsIn K mainGlobals "repr" = some none) : Nonempty (Tx K mg) := by
  obtain ⟨d_is_number⟩ := d_is_number
  obtain ⟨d_is_goal⟩ := d_is_goal
  obtain ⟨d_are_arrows⟩ := d_are_arrows
  obtain ⟨d_are_stands⟩ := d_are_stands
  obtain ⟨d_is_row⟩ := d_is_row
  obtain ⟨d_is_signs⟩ := d_is_signs
  obtain ⟨d_check_signs⟩ := d_check_signs
  obtain ⟨d_check_reader⟩ := d_check_reader
  obtain ⟨d_check_row⟩ := d_check_row
  obtain ⟨d_goal_by⟩ := d_goal_by
  obtain ⟨d_reached⟩ := d_reached
  obtain ⟨d_turned_back⟩ := d_turned_back
  obtain ⟨d_useful_of⟩ := d_useful_of
  obtain ⟨d_kinds_of⟩ := d_kinds_of
  obtain ⟨d_least_of⟩ := d_least_of
  obtain ⟨d_made⟩ := d_made
  obtain ⟨d_led_to⟩ := d_led_to
  obtain ⟨d_says⟩ := d_says
  obtain ⟨d_is_step⟩ := d_is_step
  obtain ⟨d_are_steps⟩ := d_are_steps
  obtain ⟨d_check_guesser⟩ := d_check_guesser
  obtain ⟨d_goals_by⟩ := d_goals_by
  obtain ⟨d_spread_out⟩ := d_spread_out
  obtain ⟨d_reader_of_steps⟩ := d_reader_of_steps
  obtain ⟨d_reader_from⟩ := d_reader_from
  obtain ⟨d_steps_of⟩ := d_steps_of
  obtain ⟨d_guesser_of⟩ := d_guesser_of
  obtain ⟨d_turned⟩ := d_turned
  obtain ⟨d_least_by⟩ := d_least_by
  obtain ⟨d_least⟩ := d_least
  obtain ⟨d__law_barrel⟩ := d__law_barrel
  obtain ⟨d__law_dip⟩ := d__law_dip
  obtain ⟨d__law_one_of⟩ := d__law_one_of
  obtain ⟨d__law_arrows_for⟩ := d__law_arrows_for
  obtain ⟨d__law_ends_for⟩ := d__law_ends_for
  obtain ⟨d__law_upto⟩ := d__law_upto
  obtain ⟨d__law_steps⟩ := d__law_steps
  obtain ⟨d__law_some⟩ := d__law_some
  obtain ⟨d__law_out⟩ := d__law_out
  obtain ⟨d__law_guessed⟩ := d__law_guessed
  obtain ⟨d__law_guesser_right⟩ := d__law_guesser_right
  obtain ⟨d__law_right⟩ := d__law_right
  obtain ⟨d_law⟩ := d_law
  obtain ⟨d_Reader_init, rfl⟩ := d_Reader_init
  obtain ⟨d_Reader_signs, rfl⟩ := d_Reader_signs
  obtain ⟨d_Reader_arrows, rfl⟩ := d_Reader_arrows
  obtain ⟨d_Reader_ends, rfl⟩ := d_Reader_ends
  obtain ⟨d_Reader_eq, rfl⟩ := d_Reader_eq
  obtain ⟨d_Guesser_init, rfl⟩ := d_Guesser_init
  obtain ⟨d_Guesser_signs, rfl⟩ := d_Guesser_signs
  obtain ⟨d_Guesser_size, rfl⟩ := d_Guesser_size
  obtain ⟨d_Guesser_begins, rfl⟩ := d_Guesser_begins
  obtain ⟨d_Guesser_steps, rfl⟩ := d_Guesser_steps
  obtain ⟨d_Guesser_goals, rfl⟩ := d_Guesser_goals
  obtain ⟨d_Guesser_eq, rfl⟩ := d_Guesser_eq
  obtain ⟨a_Reader_signs, p_Reader_signs⟩ := p_Reader_signs
  obtain ⟨a_Reader_arrows, p_Reader_arrows⟩ := p_Reader_arrows
  obtain ⟨a_Reader_ends, p_Reader_ends⟩ := p_Reader_ends
  obtain ⟨a_Guesser_signs, p_Guesser_signs⟩ := p_Guesser_signs
  obtain ⟨a_Guesser_size, p_Guesser_size⟩ := p_Guesser_size
  obtain ⟨a_Guesser_begins, p_Guesser_begins⟩ := p_Guesser_begins
  obtain ⟨a_Guesser_steps, p_Guesser_steps⟩ := p_Guesser_steps
  obtain ⟨a_Guesser_goals, p_Guesser_goals⟩ := p_Guesser_goals
  exact ⟨{
    d_is_number := d_is_number
    d_is_goal := d_is_goal
    d_are_arrows := d_are_arrows
    d_are_stands := d_are_stands
    d_is_row := d_is_row
    d_Reader_init := d_Reader_init
    d_Reader_signs := d_Reader_signs
    d_Reader_arrows := d_Reader_arrows
    d_Reader_ends := d_Reader_ends
    d_Reader_eq := d_Reader_eq
    d_is_signs := d_is_signs
    d_check_signs := d_check_signs
    d_check_reader := d_check_reader
    d_check_row := d_check_row
    d_goal_by := d_goal_by
    d_reached := d_reached
    d_turned_back := d_turned_back
    d_useful_of := d_useful_of
    d_kinds_of := d_kinds_of
    d_least_of := d_least_of
    d_made := d_made
    d_led_to := d_led_to
    d_says := d_says
    d_is_step := d_is_step
    d_are_steps := d_are_steps
    d_Guesser_init := d_Guesser_init
    d_Guesser_signs := d_Guesser_signs
    d_Guesser_size := d_Guesser_size
    d_Guesser_begins := d_Guesser_begins
    d_Guesser_steps := d_Guesser_steps
    d_Guesser_goals := d_Guesser_goals
    d_Guesser_eq := d_Guesser_eq
    d_check_guesser := d_check_guesser
    d_goals_by := d_goals_by
    d_spread_out := d_spread_out
    d_reader_of_steps := d_reader_of_steps
    d_reader_from := d_reader_from
    d_steps_of := d_steps_of
    d_guesser_of := d_guesser_of
    d_turned := d_turned
    d_least_by := d_least_by
    d_least := d_least
    d__law_barrel := d__law_barrel
    d__law_dip := d__law_dip
    d__law_one_of := d__law_one_of
    d__law_arrows_for := d__law_arrows_for
    d__law_ends_for := d__law_ends_for
    d__law_upto := d__law_upto
    d__law_steps := d__law_steps
    d__law_some := d__law_some
    d__law_out := d__law_out
    d__law_guessed := d__law_guessed
    d__law_guesser_right := d__law_guesser_right
    d__law_right := d__law_right
    d_law := d_law
    CR := CR
    gReader := cR.g
    clR := cR.cl
    mkR := cR.mk1
    npR := cR.np
    haR := cR.ha
    hmR := cR.hm
    isR := cR.is
    eqR := cR.eq
    neR := cR.ne
    feR := cR.fe
    a_Reader_signs := a_Reader_signs
    p_Reader_signs := p_Reader_signs
    a_Reader_arrows := a_Reader_arrows
    p_Reader_arrows := p_Reader_arrows
    a_Reader_ends := a_Reader_ends
    p_Reader_ends := p_Reader_ends
    CG := CG
    gGuesser := cG.g
    clG := cG.cl
    mkG := cG.mk1
    npG := cG.np
    haG := cG.ha
    hmG := cG.hm
    isG := cG.is
    eqG := cG.eq
    neG := cG.ne
    feG := cG.fe
    a_Guesser_signs := a_Guesser_signs
    p_Guesser_signs := p_Guesser_signs
    a_Guesser_size := a_Guesser_size
    p_Guesser_size := p_Guesser_size
    a_Guesser_begins := a_Guesser_begins
    p_Guesser_begins := p_Guesser_begins
    a_Guesser_steps := a_Guesser_steps
    p_Guesser_steps := p_Guesser_steps
    a_Guesser_goals := a_Guesser_goals
    p_Guesser_goals := p_Guesser_goals
    hn := hn
    htk := htk
    g_MOST_SIGNS := ⟨_, PySem.W.mg_of X G g_MOST_SIGNS⟩
    g_MOST_STANDS := ⟨_, PySem.W.mg_of X G g_MOST_STANDS⟩
    g_MOST_GUESSED := ⟨_, PySem.W.mg_of X G g_MOST_GUESSED⟩
    g_MOST_ROW := ⟨_, PySem.W.mg_of X G g_MOST_ROW⟩
    g_ALPHABET := ⟨_, PySem.W.mg_of X G g_ALPHABET⟩
    z_isinstance := PySem.W.mg_none_of X G z_isinstance
    z_len := PySem.W.mg_none_of X G z_len
    z_all := PySem.W.mg_none_of X G z_all
    z_any := PySem.W.mg_none_of X G z_any
    z_range := PySem.W.mg_none_of X G z_range
    z_enumerate := PySem.W.mg_none_of X G z_enumerate
    z_sorted := PySem.W.mg_none_of X G z_sorted
    z_set := PySem.W.mg_none_of X G z_set
    z_list := PySem.W.mg_none_of X G z_list
    z_tuple := PySem.W.mg_none_of X G z_tuple
    z_int := PySem.W.mg_none_of X G z_int
    z_bool := PySem.W.mg_none_of X G z_bool
    z_str := PySem.W.mg_none_of X G z_str
    z_max := PySem.W.mg_none_of X G z_max
    z_min := PySem.W.mg_none_of X G z_min
    z_abs := PySem.W.mg_none_of X G z_abs
    z_divmod := PySem.W.mg_none_of X G z_divmod
    z_repr := PySem.W.mg_none_of X G z_repr }⟩
theorem law_fin {P : Program} {w : World} {fa : Addr} (T : Nonempty (Tx K mg)) (hfa : mg "law" = some (.ref fa)) :
    ∃ fd : FuncData, (∀ (s : Shared) (u : Value), BindsTo s fd ⟨[u], []⟩ [("_law_script", u)]) ∧ ∀ base : Heap, K.In base → base.Ns mainGlobals mg → FnG P w K mg base CX0 12 fa fd ["_law_script"] (sp_law K) := by
  obtain ⟨T⟩ := T
  have e := hfa.symm.trans T.d_law.g
  cases e
  refine ⟨T.d_law.fd, fun s u => ?_, fun base _ _ => ok_law T⟩
  obtain ⟨oc, od, kV, doc, pm, an, cdv, ct, osl, e, lk, hcd⟩ := T.d_law.F.ex
  rw [e]
  exact .of_eq rfl
end
theorem law_walk {l : PySem.W.OpenLaw} {q : Program} {loose : List Str} {XP : (Str → Option Value) → Heap → Prop} {YP : World → Heap → Prop} {d : DefRec} {K : Params → PySem.W.Frag} (hn : l.most = some 63) (hdf : d.params.defaults = []) (hd : d.name = "law")
    (hY : ∀ (w : World) (h : Heap), YP w h → (K w.params).In h) (F : ∀ (w : World) (mg : Str → Option Value) (h : Heap), (K w.params).In h → h.Ns mainGlobals mg → Nonempty (Tx (K w.params) mg)) : PySem.W.WalkO q loose XP YP l.row.toRowW d [] (fun f vs => PySem.call f vs) :=
  walk_ofG (n := 63) (k := 12) (x := "_law_script") (sp := fun K => sp_law K) hn (by decide) hdf ⟨rfl, by decide, by decide⟩ hY (fun w mg fa h KX G hmg => law_fin (F w mg h KX G) (by rw [← hd]; exact hmg)) fun K H a ns hl _ hS => ⟨a, ns, rfl, hS, hl, fun _ => rfl⟩
end K14
open PySem PySem.W PyProof.Rows in
set_option maxRecDepth 100000 in
set_option maxHeartbeats 0 in
theorem PySem.Challenge.cw_rowreaders_k14_whole_guessers_as_readers_holds : PySem.Challenge.rw_rowreaders_k14_whole_guessers_as_readers.Holds := by
  w_on; o_law; k_head; (case hw => w_witness2)
  k_fill
  refine K14.law_walk (l := PySem.Challenge.rw_rowreaders_k14_whole_guessers_as_readers) rfl rfl rfl (fun w h Y => PySem.W.kIn_of Y) ?F
  case F =>
    intro w mg h KX G
    refine' K14.step (K14.gd_mk KX G "is_number" _ _ K14.b_is_number ?a1 ?l1 ?c1 ?k1) fun d_is_number => ?_
    (case a1 => k_is)
    (case l1 => k_is)
    (case c1 => k_is)
    (case k1 => k_is)
    refine' K14.step (K14.gd_mk KX G "is_goal" _ _ K14.b_is_goal ?a2 ?l2 ?c2 ?k2) fun d_is_goal => ?_
    (case a2 => k_is)
    (case l2 => k_is)
    (case c2 => k_is)
    (case k2 => k_is)
    refine' K14.step (K14.gd_mk KX G "are_arrows" _ _ K14.b_are_arrows ?a3 ?l3 ?c3 ?k3) fun d_are_arrows => ?_
    (case a3 => k_is)
    (case l3 => k_is)
    (case c3 => k_is)
    (case k3 => k_is)
    refine' K14.step (K14.gd_mk KX G "are_stands" _ _ K14.b_are_stands ?a4 ?l4 ?c4 ?k4) fun d_are_stands => ?_
    (case a4 => k_is)
    (case l4 => k_is)
    (case c4 => k_is)
    (case k4 => k_is)
    refine' K14.step (K14.gd_mk KX G "is_row" _ _ K14.b_is_row ?a5 ?l5 ?c5 ?k5) fun d_is_row => ?_
    (case a5 => k_is)
    (case l5 => k_is)
    (case c5 => k_is)
    (case k5 => k_is)
    refine' K14.step (K14.gd_mk KX G "is_signs" _ _ K14.b_is_signs ?a6 ?l6 ?c6 ?k6) fun d_is_signs => ?_
    (case a6 => k_is)
    (case l6 => k_is)
    (case c6 => k_is)
    (case k6 => k_is)
    refine' K14.step (K14.gd_mk KX G "check_signs" _ _ K14.b_check_signs ?a7 ?l7 ?c7 ?k7) fun d_check_signs => ?_
    (case a7 => k_is)
    (case l7 => k_is)
    (case c7 => k_is)
    (case k7 => k_is)
    refine' K14.step (K14.gd_mk KX G "check_reader" _ _ K14.b_check_reader ?a8 ?l8 ?c8 ?k8) fun d_check_reader => ?_
    (case a8 => k_is)
    (case l8 => k_is)
    (case c8 => k_is)
    (case k8 => k_is)
    refine' K14.step (K14.gd_mk KX G "check_row" _ _ K14.b_check_row ?a9 ?l9 ?c9 ?k9) fun d_check_row => ?_
    (case a9 => k_is)
    (case l9 => k_is)
    (case c9 => k_is)
    (case k9 => k_is)
    refine' K14.step (K14.gd_mk KX G "goal_by" _ _ K14.b_goal_by ?a10 ?l10 ?c10 ?k10) fun d_goal_by => ?_
    (case a10 => k_is)
    (case l10 => k_is)
    (case c10 => k_is)
    (case k10 => k_is)
    refine' K14.step (K14.gd_mk KX G "reached" _ _ K14.b_reached ?a11 ?l11 ?c11 ?k11) fun d_reached => ?_
    (case a11 => k_is)
    (case l11 => k_is)
    (case c11 => k_is)
    (case k11 => k_is)
    refine' K14.step (K14.gd_mk KX G "turned_back" _ _ K14.b_turned_back ?a12 ?l12 ?c12 ?k12) fun d_turned_back => ?_
    (case a12 => k_is)
    (case l12 => k_is)
    (case c12 => k_is)
    (case k12 => k_is)
    refine' K14.step (K14.gd_mk KX G "useful_of" _ _ K14.b_useful_of ?a13 ?l13 ?c13 ?k13) fun d_useful_of => ?_
    (case a13 => k_is)
    (case l13 => k_is)
    (case c13 => k_is)
    (case k13 => k_is)
    refine' K14.step (K14.gd_mk KX G "kinds_of" _ _ K14.b_kinds_of ?a14 ?l14 ?c14 ?k14) fun d_kinds_of => ?_
    (case a14 => k_is)
    (case l14 => k_is)
    (case c14 => k_is)
    (case k14 => k_is)
    refine' K14.step (K14.gd_mk KX G "least_of" _ _ K14.b_least_of ?a15 ?l15 ?c15 ?k15) fun d_least_of => ?_
    (case a15 => k_is)
    (case l15 => k_is)
    (case c15 => k_is)
    (case k15 => k_is)
    refine' K14.step (K14.gd_mk KX G "made" _ _ K14.b_made ?a16 ?l16 ?c16 ?k16) fun d_made => ?_
    (case a16 => k_is)
    (case l16 => k_is)
    (case c16 => k_is)
    (case k16 => k_is)
    refine' K14.step (K14.gd_mk KX G "led_to" _ _ K14.b_led_to ?a17 ?l17 ?c17 ?k17) fun d_led_to => ?_
    (case a17 => k_is)
    (case l17 => k_is)
    (case c17 => k_is)
    (case k17 => k_is)
    refine' K14.step (K14.gd_mk KX G "says" _ _ K14.b_says ?a18 ?l18 ?c18 ?k18) fun d_says => ?_
    (case a18 => k_is)
    (case l18 => k_is)
    (case c18 => k_is)
    (case k18 => k_is)
    refine' K14.step (K14.gd_mk KX G "is_step" _ _ K14.b_is_step ?a19 ?l19 ?c19 ?k19) fun d_is_step => ?_
    (case a19 => k_is)
    (case l19 => k_is)
    (case c19 => k_is)
    (case k19 => k_is)
    refine' K14.step (K14.gd_mk KX G "are_steps" _ _ K14.b_are_steps ?a20 ?l20 ?c20 ?k20) fun d_are_steps => ?_
    (case a20 => k_is)
    (case l20 => k_is)
    (case c20 => k_is)
    (case k20 => k_is)
    refine' K14.step (K14.gd_mk KX G "check_guesser" _ _ K14.b_check_guesser ?a21 ?l21 ?c21 ?k21) fun d_check_guesser => ?_
    (case a21 => k_is)
    (case l21 => k_is)
    (case c21 => k_is)
    (case k21 => k_is)
    refine' K14.step (K14.gd_mk KX G "goals_by" _ _ K14.b_goals_by ?a22 ?l22 ?c22 ?k22) fun d_goals_by => ?_
    (case a22 => k_is)
    (case l22 => k_is)
    (case c22 => k_is)
    (case k22 => k_is)
    refine' K14.step (K14.gd_mk KX G "spread_out" _ _ K14.b_spread_out ?a23 ?l23 ?c23 ?k23) fun d_spread_out => ?_
    (case a23 => k_is)
    (case l23 => k_is)
    (case c23 => k_is)
    (case k23 => k_is)
    refine' K14.step (K14.gd_mk KX G "reader_of_steps" _ _ K14.b_reader_of_steps ?a24 ?l24 ?c24 ?k24) fun d_reader_of_steps => ?_
    (case a24 => k_is)
    (case l24 => k_is)
    (case c24 => k_is)
    (case k24 => k_is)
    refine' K14.step (K14.gd_mk KX G "reader_from" _ _ K14.b_reader_from ?a25 ?l25 ?c25 ?k25) fun d_reader_from => ?_
    (case a25 => k_is)
    (case l25 => k_is)
    (case c25 => k_is)
    (case k25 => k_is)
    refine' K14.step (K14.gd_mk KX G "steps_of" _ _ K14.b_steps_of ?a26 ?l26 ?c26 ?k26) fun d_steps_of => ?_
    (case a26 => k_is)
    (case l26 => k_is)
    (case c26 => k_is)
    (case k26 => k_is)
    refine' K14.step (K14.gd_mk KX G "guesser_of" _ _ K14.b_guesser_of ?a27 ?l27 ?c27 ?k27) fun d_guesser_of => ?_
    (case a27 => k_is)
    (case l27 => k_is)
    (case c27 => k_is)
    (case k27 => k_is)
    refine' K14.step (K14.gd_mk KX G "turned" _ _ K14.b_turned ?a28 ?l28 ?c28 ?k28) fun d_turned => ?_
    (case a28 => k_is)
    (case l28 => k_is)
    (case c28 => k_is)
    (case k28 => k_is)
    refine' K14.step (K14.gd_mk KX G "least_by" _ _ K14.b_least_by ?a29 ?l29 ?c29 ?k29) fun d_least_by => ?_
    (case a29 => k_is)
    (case l29 => k_is)
    (case c29 => k_is)
    (case k29 => k_is)
    refine' K14.step (K14.gd_mk KX G "least" _ _ K14.b_least ?a30 ?l30 ?c30 ?k30) fun d_least => ?_
    (case a30 => k_is)
    (case l30 => k_is)
    (case c30 => k_is)
    (case k30 => k_is)
    refine' K14.step (K14.gd_mk KX G "_law_barrel" _ _ K14.b__law_barrel ?a31 ?l31 ?c31 ?k31) fun d__law_barrel => ?_
    (case a31 => k_is)
    (case l31 => k_is)
    (case c31 => k_is)
    (case k31 => k_is)
    refine' K14.step (K14.gd_mk KX G "_law_dip" _ _ K14.b__law_dip ?a32 ?l32 ?c32 ?k32) fun d__law_dip => ?_
    (case a32 => k_is)
    (case l32 => k_is)
    (case c32 => k_is)
    (case k32 => k_is)
    refine' K14.step (K14.gd_mk KX G "_law_one_of" _ _ K14.b__law_one_of ?a33 ?l33 ?c33 ?k33) fun d__law_one_of => ?_
    (case a33 => k_is)
    (case l33 => k_is)
    (case c33 => k_is)
    (case k33 => k_is)
    refine' K14.step (K14.gd_mk KX G "_law_arrows_for" _ _ K14.b__law_arrows_for ?a34 ?l34 ?c34 ?k34) fun d__law_arrows_for => ?_
    (case a34 => k_is)
    (case l34 => k_is)
    (case c34 => k_is)
    (case k34 => k_is)
    refine' K14.step (K14.gd_mk KX G "_law_ends_for" _ _ K14.b__law_ends_for ?a35 ?l35 ?c35 ?k35) fun d__law_ends_for => ?_
    (case a35 => k_is)
    (case l35 => k_is)
    (case c35 => k_is)
    (case k35 => k_is)
    refine' K14.step (K14.gd_mk KX G "_law_upto" _ _ K14.b__law_upto ?a36 ?l36 ?c36 ?k36) fun d__law_upto => ?_
    (case a36 => k_is)
    (case l36 => k_is)
    (case c36 => k_is)
    (case k36 => k_is)
    refine' K14.step (K14.gd_mk KX G "_law_steps" _ _ K14.b__law_steps ?a37 ?l37 ?c37 ?k37) fun d__law_steps => ?_
    (case a37 => k_is)
    (case l37 => k_is)
    (case c37 => k_is)
    (case k37 => k_is)
    refine' K14.step (K14.gd_mk KX G "_law_some" _ _ K14.b__law_some ?a38 ?l38 ?c38 ?k38) fun d__law_some => ?_
    (case a38 => k_is)
    (case l38 => k_is)
    (case c38 => k_is)
    (case k38 => k_is)
    refine' K14.step (K14.gd_mk KX G "_law_out" _ _ K14.b__law_out ?a39 ?l39 ?c39 ?k39) fun d__law_out => ?_
    (case a39 => k_is)
    (case l39 => k_is)
    (case c39 => k_is)
    (case k39 => k_is)
    refine' K14.step (K14.gd_mk KX G "_law_guessed" _ _ K14.b__law_guessed ?a40 ?l40 ?c40 ?k40) fun d__law_guessed => ?_
    (case a40 => k_is)
    (case l40 => k_is)
    (case c40 => k_is)
    (case k40 => k_is)
    refine' K14.step (K14.gd_mk KX G "_law_guesser_right" _ _ K14.b__law_guesser_right ?a41 ?l41 ?c41 ?k41) fun d__law_guesser_right => ?_
    (case a41 => k_is)
    (case l41 => k_is)
    (case c41 => k_is)
    (case k41 => k_is)
    refine' K14.step (K14.gd_mk KX G "_law_right" _ _ K14.b__law_right ?a42 ?l42 ?c42 ?k42) fun d__law_right => ?_
    (case a42 => k_is)
    (case l42 => k_is)
    (case c42 => k_is)
    (case k42 => k_is)
    refine' K14.step (K14.gd_mk KX G "law" _ _ K14.b_law ?a43 ?l43 ?c43 ?k43) fun d_law => ?_
    (case a43 => k_is)
    (case l43 => k_is)
    (case c43 => k_is)
    (case k43 => k_is)
    refine' K14.step (K14.cls_mk KX G "Reader" ?g44 ?pg44 ?hd44 ?po44 ?sa44 ?mk44 ?a144 ?i144 ?kc44 ?np44 ?ha44 ?hm44 ?eq44 ?ne44 ?fe44) fun cR => ?_
    (case g44 => k_is)
    (case pg44 => k_is)
    (case hd44 => k_is)
    (case po44 => k_is)
    (case sa44 => k_is)
    (case mk44 => k_is)
    (case a144 => k_is)
    (case i144 => k_is)
    (case kc44 => k_is)
    (case np44 => k_is)
    (case ha44 => k_is)
    (case hm44 => k_is)
    (case eq44 => k_is)
    (case ne44 => k_is)
    (case fe44 => k_is)
    refine' K14.step (K14.prop_mk cR "signs" ?at_45 ?get45 ?tak45 ?rec_45) fun p_Reader_signs => ?_
    (case at_45 => k_is)
    (case get45 => k_is)
    (case tak45 => k_is)
    (case rec_45 => k_is)
    refine' K14.step (K14.prop_mk cR "arrows" ?at_46 ?get46 ?tak46 ?rec_46) fun p_Reader_arrows => ?_
    (case at_46 => k_is)
    (case get46 => k_is)
    (case tak46 => k_is)
    (case rec_46 => k_is)
    refine' K14.step (K14.prop_mk cR "ends" ?at_47 ?get47 ?tak47 ?rec_47) fun p_Reader_ends => ?_
    (case at_47 => k_is)
    (case get47 => k_is)
    (case tak47 => k_is)
    (case rec_47 => k_is)
    refine' K14.step (K14.dd_of (mg := mg) "__init__" "Reader.__init__" _ _ K14.b_Reader_init cR.init ?l48 ?c48 ?k48) fun d_Reader_init => ?_
    (case l48 => k_is)
    (case c48 => k_is)
    (case k48 => k_is)
    refine' K14.step (K14.dd_ofP (mg := mg) "signs" "Reader.signs" _ _ K14.b_Reader_signs p_Reader_signs ?l49 ?c49 ?k49) fun d_Reader_signs => ?_
    (case l49 => k_is)
    (case c49 => k_is)
    (case k49 => k_is)
    refine' K14.step (K14.dd_ofP (mg := mg) "arrows" "Reader.arrows" _ _ K14.b_Reader_arrows p_Reader_arrows ?l50 ?c50 ?k50) fun d_Reader_arrows => ?_
    (case l50 => k_is)
    (case c50 => k_is)
    (case k50 => k_is)
    refine' K14.step (K14.dd_ofP (mg := mg) "ends" "Reader.ends" _ _ K14.b_Reader_ends p_Reader_ends ?l51 ?c51 ?k51) fun d_Reader_ends => ?_
    (case l51 => k_is)
    (case c51 => k_is)
    (case k51 => k_is)
    refine' K14.step (K14.dd_of (mg := mg) "__eq__" "Reader.__eq__" _ _ K14.b_Reader_eq cR.eq ?l52 ?c52 ?k52) fun d_Reader_eq => ?_
    (case l52 => k_is)
    (case c52 => k_is)
    (case k52 => k_is)
    refine' K14.step (K14.cls_mk KX G "Guesser" ?g53 ?pg53 ?hd53 ?po53 ?sa53 ?mk53 ?a153 ?i153 ?kc53 ?np53 ?ha53 ?hm53 ?eq53 ?ne53 ?fe53) fun cG => ?_
    (case g53 => k_is)
    (case pg53 => k_is)
    (case hd53 => k_is)
    (case po53 => k_is)
    (case sa53 => k_is)
    (case mk53 => k_is)
    (case a153 => k_is)
    (case i153 => k_is)
    (case kc53 => k_is)
    (case np53 => k_is)
    (case ha53 => k_is)
    (case hm53 => k_is)
    (case eq53 => k_is)
    (case ne53 => k_is)
    (case fe53 => k_is)
    refine' K14.step (K14.prop_mk cG "signs" ?at_54 ?get54 ?tak54 ?rec_54) fun p_Guesser_signs => ?_
    (case at_54 => k_is)
    (case get54 => k_is)
    (case tak54 => k_is)
    (case rec_54 => k_is)
    refine' K14.step (K14.prop_mk cG "size" ?at_55 ?get55 ?tak55 ?rec_55) fun p_Guesser_size => ?_
    (case at_55 => k_is)
    (case get55 => k_is)
    (case tak55 => k_is)
    (case rec_55 => k_is)
    refine' K14.step (K14.prop_mk cG "begins" ?at_56 ?get56 ?tak56 ?rec_56) fun p_Guesser_begins => ?_
    (case at_56 => k_is)
    (case get56 => k_is)
    (case tak56 => k_is)
    (case rec_56 => k_is)
    refine' K14.step (K14.prop_mk cG "steps" ?at_57 ?get57 ?tak57 ?rec_57) fun p_Guesser_steps => ?_
    (case at_57 => k_is)
    (case get57 => k_is)
    (case tak57 => k_is)
    (case rec_57 => k_is)
    refine' K14.step (K14.prop_mk cG "goals" ?at_58 ?get58 ?tak58 ?rec_58) fun p_Guesser_goals => ?_
    (case at_58 => k_is)
    (case get58 => k_is)
    (case tak58 => k_is)
    (case rec_58 => k_is)
    refine' K14.step (K14.dd_of (mg := mg) "__init__" "Guesser.__init__" _ _ K14.b_Guesser_init cG.init ?l59 ?c59 ?k59) fun d_Guesser_init => ?_
    (case l59 => k_is)
    (case c59 => k_is)
    (case k59 => k_is)
    refine' K14.step (K14.dd_ofP (mg := mg) "signs" "Guesser.signs" _ _ K14.b_Guesser_signs p_Guesser_signs ?l60 ?c60 ?k60) fun d_Guesser_signs => ?_
    (case l60 => k_is)
    (case c60 => k_is)
    (case k60 => k_is)
    refine' K14.step (K14.dd_ofP (mg := mg) "size" "Guesser.size" _ _ K14.b_Guesser_size p_Guesser_size ?l61 ?c61 ?k61) fun d_Guesser_size => ?_
    (case l61 => k_is)
    (case c61 => k_is)
    (case k61 => k_is)
    refine' K14.step (K14.dd_ofP (mg := mg) "begins" "Guesser.begins" _ _ K14.b_Guesser_begins p_Guesser_begins ?l62 ?c62 ?k62) fun d_Guesser_begins => ?_
    (case l62 => k_is)
    (case c62 => k_is)
    (case k62 => k_is)
    refine' K14.step (K14.dd_ofP (mg := mg) "steps" "Guesser.steps" _ _ K14.b_Guesser_steps p_Guesser_steps ?l63 ?c63 ?k63) fun d_Guesser_steps => ?_
    (case l63 => k_is)
    (case c63 => k_is)
    (case k63 => k_is)
    refine' K14.step (K14.dd_ofP (mg := mg) "goals" "Guesser.goals" _ _ K14.b_Guesser_goals p_Guesser_goals ?l64 ?c64 ?k64) fun d_Guesser_goals => ?_
    (case l64 => k_is)
    (case c64 => k_is)
    (case k64 => k_is)
    refine' K14.step (K14.dd_of (mg := mg) "__eq__" "Guesser.__eq__" _ _ K14.b_Guesser_eq cG.eq ?l65 ?c65 ?k65) fun d_Guesser_eq => ?_
    (case l65 => k_is)
    (case c65 => k_is)
    (case k65 => k_is)
    refine' K14.tx_mk KX G d_is_number d_is_goal d_are_arrows d_are_stands d_is_row d_is_signs d_check_signs d_check_reader d_check_row d_goal_by d_reached d_turned_back d_useful_of d_kinds_of d_least_of d_made d_led_to d_says d_is_step d_are_steps d_check_guesser d_goals_by d_spread_out d_reader_of_steps d_reader_from d_steps_of d_guesser_of d_turned d_least_by d_least d__law_barrel d__law_dip d__law_one_of d__law_arrows_for d__law_ends_for d__law_upto d__law_steps d__law_some d__law_out d__law_guessed d__law_guesser_right d__law_right d_law d_Reader_init d_Reader_signs d_Reader_arrows d_Reader_ends d_Reader_eq cR p_Reader_signs p_Reader_arrows p_Reader_ends d_Guesser_init d_Guesser_signs d_Guesser_size d_Guesser_begins d_Guesser_steps d_Guesser_goals d_Guesser_eq cG p_Guesser_signs p_Guesser_size p_Guesser_begins p_Guesser_steps p_Guesser_goals ?hn ?htk ?g_MOST_SIGNS ?g_MOST_STANDS ?g_MOST_GUESSED ?g_MOST_ROW ?g_ALPHABET ?z_isinstance ?z_len ?z_all ?z_any ?z_range ?z_enumerate ?z_sorted ?z_set ?z_list ?z_tuple ?z_int ?z_bool ?z_str ?z_max ?z_min ?z_abs ?z_divmod ?z_repr
    (case hn => k_is)
    (case htk => k_is)
    (case g_MOST_SIGNS => k_is)
    (case g_MOST_STANDS => k_is)
    (case g_MOST_GUESSED => k_is)
    (case g_MOST_ROW => k_is)
    (case g_ALPHABET => k_is)
    (case z_isinstance => k_is)
    (case z_len => k_is)
    (case z_all => k_is)
    (case z_any => k_is)
    (case z_range => k_is)
    (case z_enumerate => k_is)
    (case z_sorted => k_is)
    (case z_set => k_is)
    (case z_list => k_is)
    (case z_tuple => k_is)
    (case z_int => k_is)
    (case z_bool => k_is)
    (case z_str => k_is)
    (case z_max => k_is)
    (case z_min => k_is)
    (case z_abs => k_is)
    (case z_divmod => k_is)
    (case z_repr => k_is)
