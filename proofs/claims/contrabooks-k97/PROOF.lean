import PyProof.Rows.All
import Wide.All
import OpenK.AllK
import Wide.FinOn
import KE.KStateDown
import HandS.ForMost
import HandS.Defaults
import HandS.Head0
import HandS.Head1
import HandS.Head2
import HandS.HeadHook1
import HandS.HeadHook2
import HandS.HeadHook3
import HandS.HeadHook4
import HandS.HeadNt
import PySem.Challenge.RW_contrabooks_k97_whole_reports_and_goals
import HandS.Codes
import HandS.IsInst
import HandS.Star
import HandS.Wide
import HandS.Strs
import HandS.SetFor
import HandS.DictComp
import KE.GoesEnum
import HandS.Walk
import KE.KDictDisplayH
import KE.KeyNested
import HandS.Nested
import HandS.ClsMeth
import HandS.More
import KE.KSuper
import HandS.FStr
import OpenK.KOps
import KE.KOpsOwn
import HandS.Property
import HandS.SetBool
import HandS.SetKeys
import HandS.TupAny
import HandS.HeadWalk
import HandS.EndTab
set_option Elab.async false
set_option linter.all false
set_option maxRecDepth 100000
set_option maxHeartbeats 0
namespace K97
open PySem PySem.Spec PyProof.Rows L2
def top (i : Nat) : Stmt := PySem.Challenge.pw_contrabooks_k97_whole_reports_and_goals.main.body.getD i (.Pass ⟨0, 0, 0, 0⟩)
def nm0 : List PySem.Str := [PySem.Str.ofString "_wall", PySem.Str.ofString "BookError", PySem.Str.ofString "InvalidMove", PySem.Str.ofString "InvalidRow", PySem.Str.ofString "InvalidHouse", PySem.Str.ofString "InvalidReport", PySem.Str.ofString "InvalidText", PySem.Str.ofString "InvalidGoal", PySem.Str.ofString "NoRow", PySem.Str.ofString "KINDS", PySem.Str.ofString "STATES", PySem.Str.ofString "DEEDS", PySem.Str.ofString "PLACES", PySem.Str.ofString "OWNERS", PySem.Str.ofString "GOALS", PySem.Str.ofString "DIGITS", PySem.Str.ofString "is_integer", PySem.Str.ofString "is_number", PySem.Str.ofString "is_amount", PySem.Str.ofString "is_sequence", PySem.Str.ofString "number_of", PySem.Str.ofString "Move", PySem.Str.ofString "Begin", PySem.Str.ofString "Take", PySem.Str.ofString "Right", PySem.Str.ofString "Shut", PySem.Str.ofString "amount_of", PySem.Str.ofString "move_of", PySem.Str.ofString "History", PySem.Str.ofString "BEGIN", PySem.Str.ofString "Made", PySem.Str.ofString "Step", PySem.Str.ofString "beginning", PySem.Str.ofString "ranked", PySem.Str.ofString "kind_at"]
def nm1 : List PySem.Str := [PySem.Str.ofString "put_into", PySem.Str.ofString "goals_of", PySem.Str.ofString "opposed", PySem.Str.ofString "takes", PySem.Str.ofString "rights", PySem.Str.ofString "hits", PySem.Str.ofString "overs", PySem.Str.ofString "steps", PySem.Str.ofString "meets", PySem.Str.ofString "followed", PySem.Str.ofString "OF_REPORTS", PySem.Str.ofString "MORE", PySem.Str.ofString "need_goal", PySem.Str.ofString "Track", PySem.Str.ofString "history_of", PySem.Str.ofString "way_to", PySem.Str.ofString "happens", PySem.Str.ofString "least", PySem.Str.ofString "counts_otherwise", PySem.Str.ofString "way_apart", PySem.Str.ofString "alike", PySem.Str.ofString "CHECKS", PySem.Str.ofString "MOST_DEPTH", PySem.Str.ofString "is_one_of", PySem.Str.ofString "Let", PySem.Str.ofString "row_of", PySem.Str.ofString "row_of_houses", PySem.Str.ofString "depth_of", PySem.Str.ofString "check_of", PySem.Str.ofString "first_places", PySem.Str.ofString "House", PySem.Str.ofString "is_within", PySem.Str.ofString "WEIGHTS", PySem.Str.ofString "Count", PySem.Str.ofString "row_of_reports"]
def nm2 : List PySem.Str := [PySem.Str.ofString "are_rows", PySem.Str.ofString "Report", PySem.Str.ofString "owner_month", PySem.Str.ofString "Figures", PySem.Str.ofString "_law_seed", PySem.Str.ofString "_law_choose", PySem.Str.ofString "_law_one_of", PySem.Str.ofString "_law_rows", PySem.Str.ofString "_law_house", PySem.Str.ofString "_law_report", PySem.Str.ofString "_law_let_of", PySem.Str.ofString "_law_house_of", PySem.Str.ofString "_law_report_of", PySem.Str.ofString "_law_near_report", PySem.Str.ofString "_law_soon"]
def loose : List PySem.Str := nm0 ++ nm1 ++ nm2
def d_is_integer : He.DefD := ⟨("is_integer", none), "is_integer", "is_integer", defArgs (top 18), defBody (top 18), defScope (top 18), [], []⟩
def d_is_number : He.DefD := ⟨("is_number", none), "is_number", "is_number", defArgs (top 19), defBody (top 19), defScope (top 19), [], []⟩
def d_is_amount : He.DefD := ⟨("is_amount", none), "is_amount", "is_amount", defArgs (top 20), defBody (top 20), defScope (top 20), [], []⟩
def d_is_sequence : He.DefD := ⟨("is_sequence", none), "is_sequence", "is_sequence", defArgs (top 21), defBody (top 21), defScope (top 21), [], []⟩
def d_beginning : He.DefD := ⟨("beginning", none), "beginning", "beginning", defArgs (top 36), defBody (top 36), defScope (top 36), [], []⟩
def d_ranked : He.DefD := ⟨("ranked", none), "ranked", "ranked", defArgs (top 37), defBody (top 37), defScope (top 37), [], []⟩
def d_kind_at : He.DefD := ⟨("kind_at", none), "kind_at", "kind_at", defArgs (top 38), defBody (top 38), defScope (top 38), [], []⟩
def d_put_into : He.DefD := ⟨("put_into", none), "put_into", "put_into", defArgs (top 39), defBody (top 39), defScope (top 39), [], []⟩
def d_goals_of : He.DefD := ⟨("goals_of", none), "goals_of", "goals_of", defArgs (top 40), defBody (top 40), defScope (top 40), [], []⟩
def d_opposed : He.DefD := ⟨("opposed", none), "opposed", "opposed", defArgs (top 41), defBody (top 41), defScope (top 41), [], []⟩
def d_takes : He.DefD := ⟨("takes", none), "takes", "takes", defArgs (top 42), defBody (top 42), defScope (top 42), [], []⟩
def d_rights : He.DefD := ⟨("rights", none), "rights", "rights", defArgs (top 43), defBody (top 43), defScope (top 43), [], []⟩
def d_steps : He.DefD := ⟨("steps", none), "steps", "steps", defArgs (top 46), defBody (top 46), defScope (top 46), [], []⟩
def d_meets : He.DefD := ⟨("meets", none), "meets", "meets", defArgs (top 47), defBody (top 47), defScope (top 47), [], []⟩
def d_followed : He.DefD := ⟨("followed", none), "followed", "followed", defArgs (top 48), defBody (top 48), defScope (top 48), [], []⟩
def d_need_goal : He.DefD := ⟨("need_goal", none), "need_goal", "need_goal", defArgs (top 52), defBody (top 52), defScope (top 52), [], []⟩
def d_history_of : He.DefD := ⟨("history_of", none), "history_of", "history_of", defArgs (top 54), defBody (top 54), defScope (top 54), [], []⟩
def d_way_to : He.DefD := ⟨("way_to", none), "way_to", "way_to", defArgs (top 55), defBody (top 55), defScope (top 55), [], []⟩
def d_happens : He.DefD := ⟨("happens", none), "happens", "happens", defArgs (top 56), defBody (top 56), defScope (top 56), [.non], []⟩
def d_least : He.DefD := ⟨("least", none), "least", "least", defArgs (top 57), defBody (top 57), defScope (top 57), [.non], []⟩
def d_counts_otherwise : He.DefD := ⟨("counts_otherwise", none), "counts_otherwise", "counts_otherwise", defArgs (top 59), defBody (top 59), defScope (top 59), [], []⟩
def d_way_apart : He.DefD := ⟨("way_apart", none), "way_apart", "way_apart", defArgs (top 60), defBody (top 60), defScope (top 60), [], []⟩
def d_alike : He.DefD := ⟨("alike", none), "alike", "alike", defArgs (top 61), defBody (top 61), defScope (top 61), [], []⟩
def d_is_one_of : He.DefD := ⟨("is_one_of", none), "is_one_of", "is_one_of", defArgs (top 65), defBody (top 65), defScope (top 65), [], []⟩
def d_first_places : He.DefD := ⟨("first_places", none), "first_places", "first_places", defArgs (top 71), defBody (top 71), defScope (top 71), [], []⟩
def d_row_of_reports : He.DefD := ⟨("row_of_reports", none), "row_of", "row_of", defArgs (top 77), defBody (top 77), defScope (top 77), [], []⟩
def d_are_rows : He.DefD := ⟨("are_rows", none), "are_rows", "are_rows", defArgs (top 79), defBody (top 79), defScope (top 79), [], []⟩
def d_law_seed : He.DefD := ⟨("_law_seed", none), "_law_seed", "_law_seed", defArgs (top 84), defBody (top 84), defScope (top 84), [], []⟩
def d_law_choose : He.DefD := ⟨("_law_choose", none), "_law_choose", "_law_choose", defArgs (top 85), defBody (top 85), defScope (top 85), [], []⟩
def d_law_one_of : He.DefD := ⟨("_law_one_of", none), "_law_one_of", "_law_one_of", defArgs (top 86), defBody (top 86), defScope (top 86), [], []⟩
def d_law_rows : He.DefD := ⟨("_law_rows", none), "_law_rows", "_law_rows", defArgs (top 87), defBody (top 87), defScope (top 87), [], []⟩
def d_law_house : He.DefD := ⟨("_law_house", none), "_law_house", "_law_house", defArgs (top 88), defBody (top 88), defScope (top 88), [], []⟩
def d_law_report : He.DefD := ⟨("_law_report", none), "_law_report", "_law_report", defArgs (top 89), defBody (top 89), defScope (top 89), [], []⟩
def d_law_let_of : He.DefD := ⟨("_law_let_of", none), "_law_let_of", "_law_let_of", defArgs (top 90), defBody (top 90), defScope (top 90), [], []⟩
def d_law_house_of : He.DefD := ⟨("_law_house_of", none), "_law_house_of", "_law_house_of", defArgs (top 91), defBody (top 91), defScope (top 91), [], []⟩
def d_law_report_of : He.DefD := ⟨("_law_report_of", none), "_law_report_of", "_law_report_of", defArgs (top 92), defBody (top 92), defScope (top 92), [], []⟩
def d_law_near_report : He.DefD := ⟨("_law_near_report", none), "_law_near_report", "_law_near_report", defArgs (top 93), defBody (top 93), defScope (top 93), [], []⟩
def d_law_soon : He.DefD := ⟨("_law_soon", none), "_law_soon", "_law_soon", defArgs (top 94), defBody (top 94), defScope (top 94), [], []⟩
def d_law : He.DefD := ⟨("law", none), "law", "law", defArgs (top 95), defBody (top 95), defScope (top 95), [], []⟩
def m_Move_init : He.DefD := ⟨("Move", some "__init__"), "__init__", "Move.__init__", defArgs (inClass (top 24) 0), defBody (inClass (top 24) 0), defScope (inClass (top 24) 0), [], []⟩
def m_History_init : He.DefD := ⟨("History", some "__init__"), "__init__", "History.__init__", defArgs (inClass (top 31) 0), defBody (inClass (top 31) 0), defScope (inClass (top 31) 0), [.adr (He.dflAt ("History", some "__init__") 0)], []⟩
def m_History_len : He.DefD := ⟨("History", some "__len__"), "__len__", "History.__len__", defArgs (inClass (top 31) 2), defBody (inClass (top 31) 2), defScope (inClass (top 31) 2), [], []⟩
def m_Made_init : He.DefD := ⟨("Made", some "__init__"), "__init__", "Made.__init__", defArgs (inClass (top 34) 0), defBody (inClass (top 34) 0), defScope (inClass (top 34) 0), [], []⟩
def m_Step_init : He.DefD := ⟨("Step", some "__init__"), "__init__", "Step.__init__", defArgs (inClass (top 35) 0), defBody (inClass (top 35) 0), defScope (inClass (top 35) 0), [], []⟩
def m_Track_init : He.DefD := ⟨("Track", some "__init__"), "__init__", "Track.__init__", defArgs (inClass (top 53) 0), defBody (inClass (top 53) 0), defScope (inClass (top 53) 0), [], []⟩
def m_Track_put : He.DefD := ⟨("Track", some "put"), "put", "Track.put", defArgs (inClass (top 53) 1), defBody (inClass (top 53) 1), defScope (inClass (top 53) 1), [], []⟩
def m_Track_take : He.DefD := ⟨("Track", some "take"), "take", "Track.take", defArgs (inClass (top 53) 2), defBody (inClass (top 53) 2), defScope (inClass (top 53) 2), [], []⟩
def m_Track_follow : He.DefD := ⟨("Track", some "follow"), "follow", "Track.follow", defArgs (inClass (top 53) 3), defBody (inClass (top 53) 3), defScope (inClass (top 53) 3), [], []⟩
def m_Let_init : He.DefD := ⟨("Let", some "__init__"), "__init__", "Let.__init__", defArgs (inClass (top 66) 0), defBody (inClass (top 66) 0), defScope (inClass (top 66) 0), [], []⟩
def m_House_init : He.DefD := ⟨("House", some "__init__"), "__init__", "House.__init__", defArgs (inClass (top 72) 0), defBody (inClass (top 72) 0), defScope (inClass (top 72) 0), [.adr (He.dflAt ("House", some "__init__") 0)], []⟩
def m_House_placed : He.DefD := ⟨("House", some "placed"), "placed", "House.placed", defArgs (inClass (top 72) 2), defBody (inClass (top 72) 2), defScope (inClass (top 72) 2), [], []⟩
def m_Count_init : He.DefD := ⟨("Count", some "__init__"), "__init__", "Count.__init__", defArgs (inClass (top 76) 0), defBody (inClass (top 76) 0), defScope (inClass (top 76) 0), [], []⟩
def m_Report_init : He.DefD := ⟨("Report", some "__init__"), "__init__", "Report.__init__", defArgs (inClass (top 80) 0), defBody (inClass (top 80) 0), defScope (inClass (top 80) 0), [.adr (He.dflAt ("Report", some "__init__") 0)], []⟩
def m_Report_weight_of : He.DefD := ⟨("Report", some "weight_of"), "weight_of", "Report.weight_of", defArgs (inClass (top 80) 2), defBody (inClass (top 80) 2), defScope (inClass (top 80) 2), [], []⟩
def m_Report_month_of : He.DefD := ⟨("Report", some "month_of"), "month_of", "Report.month_of", defArgs (inClass (top 80) 3), defBody (inClass (top 80) 3), defScope (inClass (top 80) 3), [], []⟩
def m_Report_invert : He.DefD := ⟨("Report", some "__invert__"), "__invert__", "Report.__invert__", defArgs (inClass (top 80) 5), defBody (inClass (top 80) 5), defScope (inClass (top 80) 5), [], []⟩
def fn0 : List He.DefD := [d_is_integer, d_is_number, d_is_amount, d_is_sequence, d_beginning, d_ranked, d_kind_at, d_put_into, d_goals_of, d_opposed, d_takes, d_rights, d_steps, d_meets, d_followed, d_need_goal, d_history_of, d_way_to, d_happens, d_least, d_counts_otherwise, d_way_apart, d_alike, d_is_one_of, d_first_places, d_row_of_reports, d_are_rows, d_law_seed, d_law_choose, d_law_one_of]
def fn1 : List He.DefD := [d_law_rows, d_law_house, d_law_report, d_law_let_of, d_law_house_of, d_law_report_of, d_law_near_report, d_law_soon, d_law, m_Move_init, m_History_init, m_History_len, m_Made_init, m_Step_init, m_Track_init, m_Track_put, m_Track_take, m_Track_follow, m_Let_init, m_House_init, m_House_placed, m_Count_init, m_Report_init, m_Report_weight_of, m_Report_month_of, m_Report_invert]
def fn : List He.DefD := fn0 ++ fn1
def fa0 : List He.Fa := [.glo "is_integer", .glo "is_number", .glo "is_amount", .glo "is_sequence", .glo "beginning", .glo "ranked", .glo "kind_at", .glo "put_into", .glo "goals_of", .glo "opposed", .glo "takes", .glo "rights", .glo "steps", .glo "meets", .glo "followed", .glo "need_goal", .glo "history_of", .glo "way_to", .glo "happens", .glo "least", .glo "counts_otherwise", .glo "way_apart", .glo "alike", .glo "is_one_of", .glo "first_places", .glo "row_of_reports", .glo "are_rows", .glo "_law_seed", .glo "_law_choose", .glo "_law_one_of"]
def fa1 : List He.Fa := [.glo "_law_rows", .glo "_law_house", .glo "_law_report", .glo "_law_let_of", .glo "_law_house_of", .glo "_law_report_of", .glo "_law_near_report", .glo "_law_soon", .glo "law", .glo "Move", .glo "Begin", .glo "Take", .glo "Right", .glo "Shut", .glo "History", .glo "Made", .glo "Step", .glo "Track", .glo "Let", .glo "House", .glo "Count", .glo "Report", .glo "KINDS", .glo "STATES", .glo "DEEDS", .glo "PLACES", .glo "OWNERS", .glo "GOALS", .glo "CHECKS", .glo "WEIGHTS"]
def fa2 : List He.Fa := [.glo "OF_REPORTS", .glo "BEGIN", .free "len", .free "sorted", .free "set", .free "int", .free "tuple", .free "isinstance", .free "any", .free "all", .free "abs", .free "str", .free "enumerate", .free "range", .free "min", .free "max", .free "super", .free "list", .free "bool", .int "MORE" 3, .int "MOST_DEPTH" 4, .cls "Begin", .cls "Take", .cls "Right", .cls "Shut", .cls "History", .cls "Made", .cls "Step", .cls "Track", .cls "Let"]
def fa3 : List He.Fa := [.cls "House", .cls "Count", .cls "Report", .mkr "History", .mkr "Made", .mkr "Step", .mkr "Track", .mkr "Let", .mkr "House", .mkr "Count", .mkr "Report", .noat "History" "moves", .noat "Made" "kind", .noat "Made" "owners", .noat "Step" "name", .noat "Step" "deed", .noat "Step" "behind", .noat "Step" "made", .noat "Step" "met", .noat "Step" "latest", .noat "Track" "moves", .noat "Track" "path", .noat "Track" "many", .noat "Track" "amount", .noat "Let" "kind", .noat "Let" "state", .noat "Let" "deed", .noat "Let" "place", .noat "House" "depth", .noat "House" "check"]
def fa4 : List He.Fa := [.noat "House" "rows", .noat "House" "places", .noat "Count" "kind", .noat "Count" "weight", .noat "Count" "whose", .noat "Report" "rows", .noat "Report" "by_kind", .noat "Begin" "amount", .noat "Take" "at", .noat "Take" "amount", .noat "Right" "at", .noat "Right" "amount", .noat "Move" "script", .meth "History" "__len__", .meth "Track" "put", .meth "Track" "take", .meth "Track" "follow", .meth "House" "placed", .meth "Report" "weight_of", .meth "Report" "month_of", .meth "Report" "__invert__"]
def fa5 : List He.Fa := [.mkr "Begin", .mkr "Take", .mkr "Right", .mkr "Shut", .noat "Begin" "script", .noat "Take" "script", .noat "Right" "script", .noat "Shut" "script"]
def fa : List He.Fa := fa0 ++ fa1 ++ fa2 ++ fa3 ++ fa4 ++ fa5
def used0 : List PySem.Str := [PySem.Str.ofString "is_integer", PySem.Str.ofString "is_number", PySem.Str.ofString "is_amount", PySem.Str.ofString "is_sequence", PySem.Str.ofString "beginning", PySem.Str.ofString "ranked", PySem.Str.ofString "kind_at", PySem.Str.ofString "put_into", PySem.Str.ofString "goals_of", PySem.Str.ofString "opposed", PySem.Str.ofString "takes", PySem.Str.ofString "rights", PySem.Str.ofString "steps", PySem.Str.ofString "meets", PySem.Str.ofString "followed", PySem.Str.ofString "need_goal", PySem.Str.ofString "history_of", PySem.Str.ofString "way_to", PySem.Str.ofString "happens", PySem.Str.ofString "least", PySem.Str.ofString "counts_otherwise", PySem.Str.ofString "way_apart", PySem.Str.ofString "alike", PySem.Str.ofString "is_one_of", PySem.Str.ofString "first_places", PySem.Str.ofString "row_of_reports", PySem.Str.ofString "are_rows", PySem.Str.ofString "_law_seed", PySem.Str.ofString "_law_choose", PySem.Str.ofString "_law_one_of"]
def used1 : List PySem.Str := [PySem.Str.ofString "_law_rows", PySem.Str.ofString "_law_house", PySem.Str.ofString "_law_report", PySem.Str.ofString "_law_let_of", PySem.Str.ofString "_law_house_of", PySem.Str.ofString "_law_report_of", PySem.Str.ofString "_law_near_report", PySem.Str.ofString "_law_soon", PySem.Str.ofString "law", PySem.Str.ofString "Move", PySem.Str.ofString "Begin", PySem.Str.ofString "Take", PySem.Str.ofString "Right", PySem.Str.ofString "Shut", PySem.Str.ofString "History", PySem.Str.ofString "Made", PySem.Str.ofString "Step", PySem.Str.ofString "Track", PySem.Str.ofString "Let", PySem.Str.ofString "House", PySem.Str.ofString "Count", PySem.Str.ofString "Report", PySem.Str.ofString "KINDS", PySem.Str.ofString "STATES", PySem.Str.ofString "DEEDS", PySem.Str.ofString "PLACES", PySem.Str.ofString "OWNERS", PySem.Str.ofString "GOALS", PySem.Str.ofString "CHECKS", PySem.Str.ofString "WEIGHTS"]
def used2 : List PySem.Str := [PySem.Str.ofString "OF_REPORTS", PySem.Str.ofString "BEGIN"]
def used : List PySem.Str := used0 ++ used1 ++ used2
def tf : List He.Defn := [("way_to", none), ("way_apart", none)]
/-- an instance of C is one of D -/
def isiB (K : PySem.W.Frag) (C D : Addr) : Bool := He.eqO (PySem.W.findIn K (.ref C) "__class__") (some (some (.builtin "object.__class__"))) && (He.eqO (PySem.W.specialIn K (.builtin "object.__class__") "__get__") (some (some (.builtin "getset_descriptor.__get__"))) && (decide (PySem.W.takesIn K (.builtin "object.__class__") = some true) && (decide (PySem.W.mroIn K C (.type "object") = some true) && decide (PySem.W.kitOne K (.ref C) (.ref D) = some true))))
def cellB (K : PySem.W.Frag) (cc D : Addr) : Bool := match K.lookup cc with
  | some ⟨_, _, .cell (some (.ref d)), _⟩ => decide (d = D)
  | _ => false
def file0 : Str := PySem.Challenge.pw_contrabooks_k97_whole_reports_and_goals.main.file
def codeB (K : PySem.W.Frag) (cda : Addr) (qual : Str) : Bool := match K.lookup cda with
  | some ⟨_, _, .fields vs, _⟩ => (match (vs[2]? : Option Value), (vs[1]? : Option Value) with
    | some (.str file _), some (.str q _) => (file0 == file) && decide (q = qual)
    | _, _ => false)
  | _ => false
/-- the def of a class's __init__ that asks super() -/
def supB (K : PySem.W.Frag) (x qual : Str) (dvs : List V) : Bool := match K.lookup (He.ma K (He.ga K x) "__init__") with
  | some ⟨_, _, .func fd, _⟩ => (match fd.closure, fd.code with
    | [(_, cc)], .ref cda => cellB K cc (He.ga K x) && (codeB K cda qual && (PySem.W.codeIn K (.ref cda) qual && He.dflB K fd.defaults dvs))
    | _, _ => false)
  | _ => false
def supC (K : PySem.W.Frag) (x : Str) : Bool := (PySem.W.clsIn K (He.ga K x)).isSome && (decide (PySem.W.mroIn K (He.ga K x) (.ref (He.ga K x)) = some true) && He.eqO (PySem.W.ks_superIn K (He.ga K x) (He.ga K x) "__init__") (some (some (.ref (He.ma K (He.ga K "Move") "__init__")))))
def mvB (K : PySem.W.Frag) : Bool := decide (PySem.W.typeIn K (.ref (He.ma K (He.ga K "Move") "__init__")) = some (.type "function")) && (PySem.W.fnIn K (He.ma K (He.ga K "Move") "__init__") && He.eqO (PySem.W.nsIn K cStatics "thirdparty.any") (some none))
/-- an inner tuple of a tuple of the module -/
def innAt (x : Str) (i : Nat) (K : PySem.W.Frag) : Addr := match K.lookup (He.ga K x) with
  | some ⟨_, _, .seq its _, _⟩ => (match its.toList[i]? with
    | some (.ref a) => a
    | _ => 0)
  | _ => 0
def tupA (K : PySem.W.Frag) (a : Addr) (vs : List V) : Bool := match K.lookup a with
  | some ⟨.type c, _, .seq its _, _⟩ => decide (c = "tuple") && (decide (its.size ≤ sizeLine) && He.relAll vs its.toList)
  | _ => false
def rdB (K : PySem.W.Frag) : Bool := PySem.W.readsIn K (He.ga K "Report") (.type "type") && (He.eqO (PySem.W.specialIn K (.ref (He.ga K "Report")) "__getattribute__") (some (some (.builtin "type.__getattribute__"))) && (He5.wrapB K (He.ga K "Report") "classmethod" "classmethod.__get__" "read" && PySem.W.fnIn K (He5.wf K (He.ga K "Report") "classmethod" "read")))
def rd2B (K : PySem.W.Frag) : Bool := PySem.W.keepIn K (.ref (He5.wf K (He.ga K "Report") "classmethod" "read")) && (match K.lookup (He5.wf K (He.ga K "Report") "classmethod" "read") with
  | some ⟨_, _, .func fd, _⟩ => PySem.W.codeIn K fd.code "Report.read" && (He.dflB K fd.defaults [] && He.kwdB K fd.kwdefaults [])
  | _ => false)
def neB (K : PySem.W.Frag) : Bool := !decide ((He.cT K ("way_to", none)).2 = (He.cT K ("way_apart", none)).2)
def txts (l : List Str) : List He.Dv := l.map He.Dv.str
def ex1 (K : PySem.W.Frag) : Bool := He.tupB K "KINDS" (txts ["first", "new", "minus", "plus"]) && (He.tupB K "STATES" (txts ["open", "shut"]) && (He.tupB K "DEEDS" (txts ["whole", "part", "right"]) && (He.tupB K "PLACES" (txts ["now", "there"]) && (He.tupB K "OWNERS" (txts ["own", "target", "top", "deed"]) && (He.tupB K "GOALS" (txts ["changed", "moved", "over", "twice", "wrong"]) && (He.tupB K "CHECKS" (txts ["left", "all"]) && (He.tupB K "OF_REPORTS" (txts ["changed", "wrong"]) && He.tupB K "WEIGHTS" [.int (-1), .int 0, .int 1])))))))
def ex2 (K : PySem.W.Frag) : Bool := tupA K (He.ga K "BEGIN") [.int 0, .ref (innAt "BEGIN" 1 K), .bl false, .bl false, .bl false, .int 0] && (tupA K (innAt "BEGIN" 1 K) [.int 0] && (isiB K (He.ga K "Count") (He.ga K "Count") && (isiB K (He.ga K "Let") (He.ga K "Let") && (isiB K (He.ga K "Begin") (He.ga K "Move") && (isiB K (He.ga K "Take") (He.ga K "Move") && (isiB K (He.ga K "Right") (He.ga K "Move") && isiB K (He.ga K "Shut") (He.ga K "Move")))))))
def ex3 (K : PySem.W.Frag) : Bool := supB K "Begin" "Begin.__init__" [] && (supB K "Take" "Take.__init__" [.non] && (supB K "Right" "Right.__init__" [] && (supB K "Shut" "Shut.__init__" [] && (supC K "Begin" && (supC K "Take" && (supC K "Right" && (supC K "Shut" && (mvB K && rdB K))))))))
def ex (K : PySem.W.Frag) : Bool := ex1 K && (ex2 K && (ex3 K && (rd2B K && neB K)))
/-- defs that no DefD tells -/
abbrev FnC : Type := Option (Str × Str × Arguments × FuncBody × Scope × Addr × List Str × Addr)
def fnC (K : PySem.W.Frag) (a : Addr) : FnC := match K.lookup a with
  | some ⟨_, _, .func fd, _⟩ => some (fd.name, fd.qualname, fd.params, fd.body, fd.scope, fd.globals, fd.closure.map (·.1), fd.builtins)
  | _ => none
def valC (nm qual : Str) (st : Stmt) (cl : List Str) : FnC := some (nm, qual, defArgs st, .stmts (defBody st), defScope st, mainGlobals, cl, builtinsNs)
def moreC (K : PySem.W.Frag) : List FnC := [fnC K (He.ma K (He.ga K "Begin") "__init__"), fnC K (He.ma K (He.ga K "Take") "__init__"), fnC K (He.ma K (He.ga K "Right") "__init__"), fnC K (He.ma K (He.ga K "Shut") "__init__"), fnC K (He5.wf K (He.ga K "Report") "classmethod" "read")]
def valsC : List FnC := [valC "__init__" "Begin.__init__" (inClass (top 25) 0) ["__class__"], valC "__init__" "Take.__init__" (inClass (top 26) 0) ["__class__"], valC "__init__" "Right.__init__" (inClass (top 27) 0) ["__class__"], valC "__init__" "Shut.__init__" (inClass (top 28) 0) ["__class__"], valC "read" "Report.read" (inClass (top 80) 1) []]
/-- what an object that is named in the module brings with it -/
def kids (g : Addr → Option Obj) (a : Addr) : List Addr := match g a with
  | some ⟨_, _, .func fd, _⟩ => He.refV fd.code ++ (He.refV fd.defaults ++ fd.closure.map (·.2))
  | some ⟨_, _, .cls cd, _⟩ => [cd.ns]
  | some ⟨_, _, .seq its _, _⟩ => its.toList.flatMap He.refV
  | _ => []
def nsKids (g : Addr → Option Obj) (a : Addr) : List Addr := match g a with
  | some ⟨_, _, .cls cd, _⟩ => (match g cd.ns with
    | some ⟨_, _, .dict es _, _⟩ => es.toList.flatMap fun e => He.refV e.val
    | _ => [])
  | _ => []
/-- the def behind a classmethod -/
def recKids (g : Addr → Option Obj) (a : Addr) : List Addr := match g a with
  | some ⟨_, _, .fields vs, _⟩ => vs.toList.flatMap He.refV
  | _ => []
def atoms (g : Addr → Option Obj) : List Addr :=
  let K0 := He.frG g [mainGlobals]
  let us := used.map (He.ga K0)
  let ms := us.flatMap (nsKids g)
  let rs := recKids g (He.ma (He.frG g ([mainGlobals] ++ (us ++ us.flatMap (kids g)))) (He.ga K0 "Report") "read")
  [mainGlobals, cStatics] ++ (us ++ (us.flatMap (kids g) ++ (ms ++ (ms.flatMap (kids g) ++ (rs ++ rs.flatMap (kids g))))))
abbrev R : PySem.W.OpenRow := PySem.W.OpenLaw.row PySem.Challenge.rw_contrabooks_k97_whole_reports_and_goals
abbrev AlZ : Type := He.AlX × List FnC
def obsK (g : Addr → Option Obj) (K : PySem.W.Frag) : AlZ := ((He.obsT fa fn [] K, ex K && He.tabsB g tf K), moreC K)
def obsZ (g : Addr → Option Obj) : AlZ := obsK g (He.frT g (atoms g))
def valZ (w : World) : AlZ := (He.valX fn [] w, valsC)
structure SaysZ (w : World) (h : Heap) (K : PySem.W.Frag) : Prop where
  x : He.SaysX fa fn [] tf ex w h K
  c : moreC K = valsC
theorem says_of {w : World} {h : Heap} (e : obsZ h.get? = valZ w) : SaysZ w h (He.frT h.get? (atoms h.get?)) := by
  have e0 : (He.obsT fa fn [] (He.frT h.get? (atoms h.get?)), ex (He.frT h.get? (atoms h.get?)) && He.tabsB h.get? tf (He.frT h.get? (atoms h.get?))) = He.valX fn [] w := congrArg (fun z : AlZ => z.1) e
  have e1 : He.obsT fa fn [] (He.frT h.get? (atoms h.get?)) = He.valT fn [] w := congrArg (fun z : He.AlX => z.1) e0
  have e2 : (ex (He.frT h.get? (atoms h.get?)) && He.tabsB h.get? tf (He.frT h.get? (atoms h.get?))) = true := congrArg (fun z : He.AlX => z.2) e0
  obtain ⟨h1, h2⟩ := He.ba e2
  have tb : ∀ p ∈ tf, PySem.W.codeHdIn (He.frT h.get? (atoms h.get?)) (He.cT (He.frT h.get? (atoms h.get?)) p).1 (He.cT (He.frT h.get? (atoms h.get?)) p).2 = true ∧ ∃ o, h.get? (He.cT (He.frT h.get? (atoms h.get?)) p).2 = some o ∧ He.emptyTab o = true := by
    intro p hp
    have z := List.all_eq_true.mp h2 p hp
    refine ⟨(He.ba z).1, ?_⟩
    have z2 := (He.ba z).2
    cases q : h.get? (He.cT (He.frT h.get? (atoms h.get?)) p).2 with
    | none => rw [q] at z2; cases z2
    | some o => rw [q] at z2; exact ⟨o, rfl, z2⟩
  refine ⟨⟨e1, h1, fun p hp => (tb p hp).1, fun p hp => ?_, fun p hp => ?_⟩, congrArg (fun z : AlZ => z.2) e⟩
  · obtain ⟨_, o, q, z⟩ := tb p hp
    exact He.frT_none q z
  · obtain ⟨_, o, q, z⟩ := tb p hp
    rw [q, He.emptyTab_eq z]
def hk : PySem.W.Hook where
  α := AlZ
  obs := fun s => obsZ s.heap.get?
  val := fun w => valZ w
  says := fun w h => ∃ K : PySem.W.Frag, K.In h ∧ SaysZ w h K
  of := fun _ _ e => ⟨_, He.frT_in, says_of e⟩
  keeps := fun _ _ _ ⟨K, hK, c⟩ k => ⟨K, PySem.W.Frag.In.keeps hK k, ⟨⟨c.x.t, c.x.more, c.x.hd, c.x.out, fun p hp => k _ _ (c.x.empty p hp)⟩, c.c⟩⟩
def ob (s : PySem.W.SharedT) : AlZ := obsZ (HandSHeadRun.getT s)
theorem ob_eq (s : PySem.W.SharedT) : ob s = hk.obs s.abs := by
  have e : HandSHeadRun.getT s = s.abs.heap.get? := funext (HandSHeadRun.getT_eq s)
  show obsZ (HandSHeadRun.getT s) = obsZ s.abs.heap.get?
  rw [e]
theorem run (w : World) : HandSHeadRun.RunEq R (PySem.W.view R.prog [95]) hk ob 20000 loose w := by
  intro os
  kernel_rfl
end K97
set_option maxHeartbeats 4000000
/-! The mirror: what the package reckons, in plain Lean; and the laws about it. -/
namespace K97
inductive Kd where
  | first | new | minus | plus
  deriving DecidableEq
inductive Stt where
  | opn | shut
  deriving DecidableEq
inductive Dd where
  | whole | part | right
  deriving DecidableEq
inductive Pl where
  | now | there
  deriving DecidableEq
inductive Ow where
  | own | target | top | deed
  deriving DecidableEq
inductive Nm where
  | beg | shut | take | right
  deriving DecidableEq
/-- a standing that is not hit -/
structure Sg where
  deed : Int
  ms : List Int
  nw : Bool
  rt : Bool
  lt : Int
  deriving DecidableEq
/-- an entry that a step makes -/
structure Md where
  kd : Kd
  own : Int
  target : Int
  top : Int
  deed : Int
  deriving DecidableEq
def Md.at_ (m : Md) : Ow → Int
  | .own => m.own
  | .target => m.target
  | .top => m.top
  | .deed => m.deed
/-- a step -/
structure Stp where
  name : Nm
  dd : Option Dd
  behind : List Sg
  made : List Md
  moved : Bool
  twice : Bool
  lt : Int
/-- a house, as far as steps without hits ask it -/
structure Hm where
  depth : Nat
  pl : Kd → Stt → Dd → Option Pl
/-- a report -/
structure Rp where
  wt : Kd → Int
  wh : Kd → Ow
/-! ### sorted sets, ranks -/
def insS (x : Int) : List Int → List Int
  | [] => [x]
  | y :: r => if x < y then x :: y :: r else if x = y then y :: r else y :: insS x r
def sset (l : List Int) : List Int := l.foldr insS []
theorem mem_insS (x z : Int) : ∀ l : List Int, z ∈ insS x l ↔ z = x ∨ z ∈ l
  | [] => by simp [insS]
  | y :: r => by
    unfold insS
    split
    · simp
    · split
      · rename_i h
        subst h
        simp
      · simp only [List.mem_cons, mem_insS x z r]
        constructor
        · rintro (h | h | h)
          · exact .inr (.inl h)
          · exact .inl h
          · exact .inr (.inr h)
        · rintro (h | h | h)
          · exact .inr (.inl h)
          · exact .inl h
          · exact .inr (.inr h)
theorem pw_insS (x : Int) : ∀ l : List Int, l.Pairwise (· < ·) → (insS x l).Pairwise (· < ·)
  | [], _ => by simp [insS]
  | y :: r, h => by
    unfold insS
    have h1 := List.pairwise_cons.mp h
    split
    · rename_i c
      refine List.pairwise_cons.mpr ⟨fun z hz => ?_, h⟩
      rcases List.mem_cons.mp hz with e | hz
      · omega
      · have := h1.1 z hz
        omega
    · split
      · exact h
      · refine List.pairwise_cons.mpr ⟨fun z hz => ?_, pw_insS x r h1.2⟩
        rcases (mem_insS x z r).mp hz with e | hz
        · omega
        · exact h1.1 z hz
theorem len_insS (x : Int) : ∀ l : List Int, (insS x l).length ≤ l.length + 1
  | [] => by simp [insS]
  | y :: r => by
    unfold insS
    split
    · simp
    · split
      · simp
      · simp only [List.length_cons]
        have := len_insS x r
        omega
theorem mem_sset (z : Int) : ∀ l : List Int, z ∈ sset l ↔ z ∈ l
  | [] => by simp [sset]
  | y :: r => by
    show z ∈ insS y (sset r) ↔ _
    rw [mem_insS, mem_sset z r, List.mem_cons]
theorem pw_sset : ∀ l : List Int, (sset l).Pairwise (· < ·)
  | [] => by simp [sset]
  | y :: r => pw_insS y (sset r) (pw_sset r)
theorem len_sset : ∀ l : List Int, (sset l).length ≤ l.length
  | [] => by simp [sset]
  | y :: r => by
    show (insS y (sset r)).length ≤ _
    have h1 := len_insS y (sset r)
    have h2 := len_sset r
    simp only [List.length_cons]
    omega
/-- two ascending lists with the same members are one -/
theorem pw_same : ∀ {l m : List Int}, l.Pairwise (· < ·) → m.Pairwise (· < ·) → (∀ z, z ∈ l ↔ z ∈ m) → l = m
  | [], [], _, _, _ => rfl
  | [], y :: r, _, _, h => by have := (h y).mpr List.mem_cons_self; simp at this
  | x :: r, [], _, _, h => by have := (h x).mp List.mem_cons_self; simp at this
  | x :: r, y :: t, hl, hm, h => by
    have a := List.pairwise_cons.mp hl
    have b := List.pairwise_cons.mp hm
    have e : x = y := by
      have h1 := (h x).mp List.mem_cons_self
      have h2 := (h y).mpr List.mem_cons_self
      rcases List.mem_cons.mp h1 with e | h1
      · exact e
      · rcases List.mem_cons.mp h2 with e | h2
        · exact e.symm
        · have c1 := b.1 x h1
          have c2 := a.1 y h2
          omega
    subst e
    rw [pw_same a.2 b.2 fun z => ?_]
    constructor
    · intro hz
      rcases List.mem_cons.mp ((h z).mp (List.mem_cons_of_mem _ hz)) with e | q
      · have := a.1 z hz
        omega
      · exact q
    · intro hz
      rcases List.mem_cons.mp ((h z).mpr (List.mem_cons_of_mem _ hz)) with e | q
      · have := b.1 z hz
        omega
      · exact q
theorem sset_unique {l m : List Int} (hm : m.Pairwise (· < ·)) (h : ∀ z, z ∈ m ↔ z ∈ l) : m = sset l :=
  pw_same hm (pw_sset l) fun z => (h z).trans (mem_sset z l).symm
def idx (k : List Int) (x : Int) : Int := ((k.findIdx (· == x) : Nat) : Int)
theorem idx_nonneg (k : List Int) (x : Int) : 0 ≤ idx k x := Int.natCast_nonneg _
theorem idx_lt {k : List Int} {x : Int} (h : x ∈ k) : idx k x < (k.length : Int) := by
  unfold idx
  have : k.findIdx (· == x) < k.length := List.findIdx_lt_length_of_exists ⟨x, h, by simp⟩
  omega
def ranked (d : Int) (ms : List Int) (nw rt : Bool) (l : Int) : Sg :=
  ⟨idx (sset (d :: (ms ++ [l]))) d, ms.map (idx (sset (d :: (ms ++ [l])))), nw, rt, idx (sset (d :: (ms ++ [l]))) l⟩
/-! ### steps -/
def BEG : Sg := ⟨0, [0], false, false, 0⟩
def firstStp : Stp := ⟨.beg, none, [BEG], [⟨.first, 0, 0, 0, 0⟩], false, false, 0⟩
def kindAt (s : Sg) (dp : Nat) : Kd := if dp = 0 then (if s.nw = true then .new else .first) else if dp % 2 = 1 then .minus else .plus
def placed (s : Sg) (m : Int) : Option Pl → Option Int
  | none => none
  | some .now => some s.lt
  | some .there => some m
def putInto (h : Hm) (s : Sg) (dp : Nat) (d : Dd) : Option Int :=
  placed s (s.ms.getD dp 0) (h.pl (kindAt s dp) (if s.ms.getD dp 0 = s.lt then .opn else .shut) d)
def oppSg (s : Sg) (m : Int) (r : Bool) : Sg := ranked s.deed (s.ms ++ [m]) s.nw r s.lt
def oppMd (s : Sg) (m : Int) : Md := ⟨kindAt s s.ms.length, m, s.ms.getD (s.ms.length - 1) 0, s.ms.getD 0 0, s.deed⟩
def takeStp (s : Sg) (d : Dd) (m : Int) : Stp := ⟨.take, some d, [oppSg s m false], [oppMd s m], decide (m < s.lt), s.rt, s.lt⟩
def takeOf (h : Hm) (s : Sg) (d : Dd) : List Stp :=
  match (if s.ms.length - 1 < h.depth then putInto h s (s.ms.length - 1) d else none) with
  | none => []
  | some m => [takeStp s d m]
def takes (h : Hm) (s : Sg) : List Stp := takeOf h s .whole ++ takeOf h s .part
def rightStp (s : Sg) (m : Int) : Stp :=
  ⟨.right, some .right, [oppSg s m true, ranked s.deed [m] true false s.lt], [oppMd s m, ⟨.new, m, m, m, s.deed⟩], decide (m < s.lt), false, s.lt⟩
def rights (h : Hm) (s : Sg) : List Stp :=
  match (if s.ms.length = 1 ∧ 0 < h.depth then putInto h s 0 .right else none) with
  | none => []
  | some m => [rightStp s m]
def shutStp (s : Sg) : Stp := ⟨.shut, none, [ranked s.deed s.ms s.nw s.rt (s.lt + 1)], [], false, false, s.lt⟩
def stepsM (h : Hm) (s : Sg) : List Stp := shutStp s :: (takes h s ++ rights h s)
/-! ### what is looked for -/
def changed (r : Rp) (st : Stp) : Bool := (st.made.filter fun m => !decide (r.wt m.kd = 0)).any fun m => decide (m.at_ (r.wh m.kd) < st.lt)
def wrong (r : Rp) (st : Stp) : Bool := st.made.any fun m => !decide (r.wt m.kd = 1)
def moved (st : Stp) : Bool := st.moved
def other (r s : Rp) (m : Md) : Bool := if r.wt m.kd = s.wt m.kd then (!decide (r.wt m.kd = 0) && !decide (m.at_ (r.wh m.kd) = m.at_ (s.wh m.kd))) else true
def otherwise (r s : Rp) (st : Stp) : Bool := st.made.any (other r s)
/-! ### the search -/
abbrev Way := List (Stp × Int)
abbrev Ways := List (Sg × Way)
def has (W : Ways) (b : Sg) : Bool := W.any fun e => decide (e.1 = b)
def addOne (way : Way) (st : Stp) (W : Ways) (b : Sg) (spot : Int) : Ways := if has W b = true then W else W ++ [(b, way ++ [(st, spot)])]
/-- the standings behind a step from the spot-th on -/
def addAll (way : Way) (st : Stp) : Int → List Sg → Ways → Ways
  | _, [], W => W
  | i, b :: r, W => addAll way st (i + 1) r (addOne way st W b i)
def expand (way : Way) : List Stp → Ways → Ways
  | [], W => W
  | st :: r, W => expand way r (addAll way st 0 st.behind W)
def bst (h : Hm) : Nat → Ways
  | 0 => [(BEG, [(firstStp, 0)])]
  | n + 1 => match (bst h n)[n]? with
    | none => bst h n
    | some e => expand e.2 (stepsM h e.1) (bst h n)
def srch (h : Hm) (p : Stp → Bool) : Nat → Nat → Option Way
  | 0, _ => none
  | k + 1, n => match (bst h n)[n]? with
    | none => none
    | some e => match (stepsM h e.1).find? p with
      | some st => some (e.2 ++ [(st, 0)])
      | none => srch h p k (n + 1)
/-- more turns than the search can take -/
def UU : Nat := 8388608
def search (h : Hm) (p : Stp → Bool) : Option Way := if p firstStp = true then some [(firstStp, 0)] else srch h p UU 0
def soon (h : Hm) (p : Stp → Bool) : Int := match search h p with
  | none => 0
  | some way => (way.length : Int)
/-! ### the laws -/
theorem find_congr {α : Type} {p q : α → Bool} : ∀ {l : List α}, (∀ a ∈ l, p a = q a) → l.find? p = l.find? q
  | [], _ => rfl
  | a :: r, h => by
    have e := h a List.mem_cons_self
    simp only [List.find?_cons, e]
    rw [find_congr fun b hb => h b (List.mem_cons_of_mem _ hb)]
theorem srch_congr {h : Hm} {p q : Stp → Bool} (hs : ∀ s, ∀ st ∈ stepsM h s, p st = q st) : ∀ k n, srch h p k n = srch h q k n
  | 0, _ => rfl
  | k + 1, n => by
    simp only [srch]
    cases e : (bst h n)[n]? with
    | none => rfl
    | some x =>
      simp only
      rw [find_congr (hs x.1), srch_congr hs k (n + 1)]
theorem search_congr {h : Hm} {p q : Stp → Bool} (h0 : p firstStp = q firstStp) (hs : ∀ s, ∀ st ∈ stepsM h s, p st = q st) : search h p = search h q := by
  unfold search
  rw [h0, srch_congr hs]
theorem soon_congr {h : Hm} {p q : Stp → Bool} (h0 : p firstStp = q firstStp) (hs : ∀ s, ∀ st ∈ stepsM h s, p st = q st) : soon h p = soon h q := by
  unfold soon
  rw [search_congr h0 hs]
theorem srch_never {h : Hm} {p : Stp → Bool} (hs : ∀ s, ∀ st ∈ stepsM h s, p st = false) : ∀ k n, srch h p k n = none
  | 0, _ => rfl
  | k + 1, n => by
    simp only [srch]
    cases e : (bst h n)[n]? with
    | none => rfl
    | some x =>
      simp only
      rw [show (stepsM h x.1).find? p = none from List.find?_eq_none.mpr fun st hst => by rw [hs x.1 st hst]; simp]
      exact srch_never hs k (n + 1)
theorem search_never {h : Hm} {p : Stp → Bool} (h0 : p firstStp = false) (hs : ∀ s, ∀ st ∈ stepsM h s, p st = false) : search h p = none := by
  unfold search
  rw [h0, if_neg Bool.false_ne_true, srch_never hs]
/-- where c is met nowhere, what agrees where c isn't met is found as soon -/
theorem srch_apart {h : Hm} {c p q : Stp → Bool} (hpq : ∀ st, c st = false → p st = q st) : ∀ k n, srch h c k n = none → srch h p k n = srch h q k n
  | 0, _, _ => rfl
  | k + 1, n, e => by
    simp only [srch] at e ⊢
    cases ew : (bst h n)[n]? with
    | none => rfl
    | some x =>
      rw [ew] at e
      simp only at e ⊢
      cases ef : (stepsM h x.1).find? c with
      | some st => rw [ef] at e; simp at e
      | none =>
        rw [ef] at e
        have hn := List.find?_eq_none.mp ef
        rw [find_congr (p := p) (q := q) fun st hst => hpq st (by
          have := hn st hst
          simpa using this), srch_apart hpq k (n + 1) e]
theorem search_apart {h : Hm} {c p q : Stp → Bool} (hpq : ∀ st, c st = false → p st = q st) (e : search h c = none) : search h p = search h q := by
  unfold search at e ⊢
  cases h0 : c firstStp with
  | true => rw [h0] at e; simp at e
  | false =>
    rw [h0, if_neg Bool.false_ne_true] at e
    rw [hpq _ h0, srch_apart hpq _ _ e]
theorem any_congr {α : Type} {p q : α → Bool} {l : List α} (h : ∀ a ∈ l, p a = q a) : l.any p = l.any q := by
  induction l with
  | nil => rfl
  | cons a r ih =>
    simp only [List.any_cons]
    rw [h a List.mem_cons_self, ih fun b hb => h b (List.mem_cons_of_mem _ hb)]
theorem any_filter' {α : Type} (p q : α → Bool) (l : List α) : (l.filter p).any q = l.any fun a => p a && q a := by
  induction l with
  | nil => rfl
  | cons a r ih =>
    rw [List.filter_cons]
    cases e : p a
    · simp [e, ih]
    · simp [e, ih]
theorem changed_eq (r : Rp) (st : Stp) : changed r st = st.made.any fun m => !decide (r.wt m.kd = 0) && decide (m.at_ (r.wh m.kd) < st.lt) := any_filter' _ _ _
theorem other_false {r s : Rp} {m : Md} (h : other r s m = false) : r.wt m.kd = s.wt m.kd ∧ (r.wt m.kd = 0 ∨ m.at_ (r.wh m.kd) = m.at_ (s.wh m.kd)) := by
  unfold other at h
  split at h
  · rename_i e
    refine ⟨e, ?_⟩
    simp only [Bool.and_eq_false_iff, Bool.not_eq_false', decide_eq_true_eq] at h
    exact h
  · cases h
theorem otherwise_false {r s : Rp} {st : Stp} (h : otherwise r s st = false) : ∀ m ∈ st.made, other r s m = false := by
  unfold otherwise at h
  intro m hm
  have := List.any_eq_false.mp h m hm
  simpa using this
/-- alike reports: the same changes, the same wrong totals, as soon -/
theorem alike_changed {h : Hm} {r s : Rp} (e : search h (otherwise r s) = none) : soon h (changed r) = soon h (changed s) := by
  unfold soon
  rw [search_apart (p := changed r) (q := changed s) (fun st hst => ?_) e]
  rw [changed_eq, changed_eq]
  refine any_congr fun m hm => ?_
  obtain ⟨e1, e2⟩ := other_false (otherwise_false hst m hm)
  rw [← e1]
  rcases e2 with e2 | e2
  · simp [e2]
  · rw [e2]
theorem alike_wrong {h : Hm} {r s : Rp} (e : search h (otherwise r s) = none) : soon h (wrong r) = soon h (wrong s) := by
  unfold soon
  rw [search_apart (p := wrong r) (q := wrong s) (fun st hst => ?_) e]
  unfold wrong
  refine any_congr fun m hm => ?_
  rw [(other_false (otherwise_false hst m hm)).1]
/-- contrary weights -/
theorem contrary_changed {h : Hm} {r s : Rp} (hw : ∀ k, s.wt k = - r.wt k) (ho : ∀ k, s.wh k = r.wh k) : soon h (changed s) = soon h (changed r) := by
  have key : ∀ st, changed s st = changed r st := fun st => by
    rw [changed_eq, changed_eq]
    refine any_congr fun m _ => ?_
    rw [hw, ho]
    congr 2
    exact decide_eq_decide.mpr ⟨fun z => by omega, fun z => by omega⟩
  exact soon_congr (key _) fun _ st _ => key st
/-- all weights 1: never wrong -/
theorem never_wrong {h : Hm} {r : Rp} (hw : ∀ k, r.wt k = 1) : search h (wrong r) = none := by
  have key : ∀ st, wrong r st = false := fun st => by
    unfold wrong
    refine List.any_eq_false.mpr fun m _ => ?_
    simp [hw]
  exact search_never (key _) fun _ st _ => key st
theorem moved_iff (h : Hm) (s : Sg) (st : Stp) (hst : st ∈ stepsM h s) : st.moved = st.made.any fun m => decide (m.own < st.lt) := by
  unfold stepsM at hst
  rcases List.mem_cons.mp hst with e | hst
  · subst e; rfl
  · rcases List.mem_append.mp hst with hst | hst
    · unfold takes at hst
      have tk : ∀ d, st ∈ takeOf h s d → st.moved = st.made.any fun m => decide (m.own < st.lt) := fun d hd => by
        unfold takeOf at hd
        split at hd
        · cases hd
        · rw [List.mem_singleton.mp hd]
          simp [takeStp, oppMd]
      rcases List.mem_append.mp hst with h1 | h1
      · exact tk _ h1
      · exact tk _ h1
    · unfold rights at hst
      split at hst
      · cases hst
      · rw [List.mem_singleton.mp hst]
        simp [rightStp, oppMd]
/-- all count in their own months: changes where an entry is put into a shut month -/
theorem own_changed {h : Hm} {r : Rp} (hw : ∀ k, r.wt k = 1) (ho : ∀ k, r.wh k = .own) : soon h (changed r) = soon h moved := by
  have key : ∀ st, changed r st = st.made.any fun m => decide (m.own < st.lt) := fun st => by
    rw [changed_eq]
    refine any_congr fun m _ => ?_
    rw [hw, ho]
    show (!decide ((1 : Int) = 0) && decide (m.own < st.lt)) = decide (m.own < st.lt)
    rw [show (!decide ((1 : Int) = 0)) = true from rfl, Bool.true_and]
  refine soon_congr ?_ fun s st hst => ?_
  · rw [key]; rfl
  · rw [key, ← moved_iff h s st hst]; rfl
theorem putInto_now {h : Hm} (hp : ∀ k t d, h.pl k t d ≠ some .there) {s : Sg} {dp : Nat} {d : Dd} {m : Int} (e : putInto h s dp d = some m) : m = s.lt := by
  unfold putInto at e
  cases q : h.pl (kindAt s dp) (if s.ms.getD dp 0 = s.lt then .opn else .shut) d with
  | none => rw [q] at e; cases e
  | some z =>
    cases z with
    | now => rw [q] at e; exact (Option.some.inj e).symm
    | there => exact absurd q (hp _ _ _)
/-- where nothing is put there, nothing is moved -/
theorem never_moved {h : Hm} (hp : ∀ k t d, h.pl k t d ≠ some .there) : search h moved = none := by
  refine search_never rfl fun s st hst => ?_
  unfold stepsM at hst
  rcases List.mem_cons.mp hst with e | hst
  · subst e; rfl
  · rcases List.mem_append.mp hst with hst | hst
    · have tk : ∀ d, st ∈ takeOf h s d → moved st = false := fun d hd => by
        unfold takeOf at hd
        split at hd
        · cases hd
        · rename_i m hm
          rw [List.mem_singleton.mp hd]
          split at hm
          · have := putInto_now hp hm
            subst this
            simp [takeStp, moved]
          · cases hm
      rcases List.mem_append.mp hst with h1 | h1
      · exact tk _ h1
      · exact tk _ h1
    · unfold rights at hst
      split at hst
      · cases hst
      · rename_i m hm
        rw [List.mem_singleton.mp hst]
        split at hm
        · have := putInto_now hp hm
          subst this
          simp [rightStp, moved]
        · cases hm
end K97
set_option maxHeartbeats 4000000
/-! The search's sizes: how many standings there are, how long a way, how great an amount. -/
namespace K97
theorem nodup_bound : ∀ (N : Nat) (l : List Nat), l.Nodup → (∀ x ∈ l, x < N) → l.length ≤ N
  | 0, l, _, h => by
    cases l with
    | nil => simp
    | cons a r => exact absurd (h a List.mem_cons_self) (Nat.not_lt_zero _)
  | N + 1, l, hn, h => by
    by_cases hm : N ∈ l
    · have h1 := nodup_bound N (l.erase N) (hn.erase N) fun x hx => by
        have q := (List.Nodup.mem_erase_iff hn).mp hx
        have := h x q.2
        have := q.1
        omega
      have h2 := List.length_erase_of_mem hm
      have := List.length_pos_of_mem hm
      omega
    · have h1 := nodup_bound N l hn fun x hx => by
        have := h x hx
        have : x ≠ N := fun e => hm (e ▸ hx)
        omega
      omega
def Wf (s : Sg) : Prop := 1 ≤ s.ms.length ∧ s.ms.length ≤ 5 ∧ ∀ x ∈ s.deed :: (s.ms ++ [s.lt]), 0 ≤ x ∧ x < (s.ms.length : Int) + 2
theorem wf_ranked {d l : Int} {ms : List Int} {nw rt : Bool} (h1 : 1 ≤ ms.length) (h5 : ms.length ≤ 5) : Wf (ranked d ms nw rt l) := by
  have hl : ((sset (d :: (ms ++ [l]))).length : Int) ≤ (ms.length : Int) + 2 := by
    have := len_sset (d :: (ms ++ [l]))
    simp only [List.length_cons, List.length_append, List.length_nil] at this
    omega
  have key : ∀ z ∈ d :: (ms ++ [l]), 0 ≤ idx (sset (d :: (ms ++ [l]))) z ∧ idx (sset (d :: (ms ++ [l]))) z < (ms.length : Int) + 2 := fun z hz => by
    refine ⟨idx_nonneg _ _, ?_⟩
    have := idx_lt ((mem_sset z _).mpr hz)
    omega
  refine ⟨by simpa [ranked] using h1, by simpa [ranked] using h5, fun x hx => ?_⟩
  have e : ((ranked d ms nw rt l).ms.length : Int) = (ms.length : Int) := by simp [ranked]
  rw [e]
  simp only [ranked, List.mem_cons, List.mem_append, List.mem_map, List.mem_singleton, List.not_mem_nil, or_false] at hx
  rcases hx with hx | ⟨z, hz, hx⟩ | hx
  · rw [hx]; exact key d List.mem_cons_self
  · rw [← hx]; exact key z (List.mem_cons_of_mem _ (List.mem_append_left _ hz))
  · rw [hx]; exact key l (List.mem_cons_of_mem _ (List.mem_append_right _ (List.mem_singleton.mpr rfl)))
theorem wf_beg : Wf BEG := by
  refine ⟨by decide, by decide, fun x hx => ?_⟩
  simp [BEG] at hx
  subst hx
  exact ⟨by decide, by decide⟩
/-! ### a number for each standing -/
def digs : Nat → List Int → Nat
  | acc, [] => acc
  | acc, x :: r => digs (acc * 8 + (x.toNat + 1)) r
theorem digs_lt : ∀ (l : List Int) (acc : Nat), (∀ x ∈ l, 0 ≤ x ∧ x < 7) → digs acc l < (acc + 1) * 8 ^ l.length
  | [], acc, _ => by simp [digs]
  | x :: r, acc, h => by
    have h1 := digs_lt r (acc * 8 + (x.toNat + 1)) fun y hy => h y (List.mem_cons_of_mem _ hy)
    have hx := h x List.mem_cons_self
    have h2 : acc * 8 + (x.toNat + 1) + 1 ≤ (acc + 1) * 8 := by omega
    have h3 : (acc * 8 + (x.toNat + 1) + 1) * 8 ^ r.length ≤ ((acc + 1) * 8) * 8 ^ r.length := Nat.mul_le_mul_right _ h2
    simp only [digs, List.length_cons, Nat.pow_succ]
    have e : (acc + 1) * (8 ^ r.length * 8) = ((acc + 1) * 8) * 8 ^ r.length := by
      rw [Nat.mul_comm (8 ^ r.length) 8, Nat.mul_assoc]
    omega
theorem digs_ge : ∀ (l : List Int) (acc : Nat), acc * 8 ^ l.length ≤ digs acc l
  | [], acc => by simp [digs]
  | x :: r, acc => by
    have h1 := digs_ge r (acc * 8 + (x.toNat + 1))
    simp only [digs, List.length_cons, Nat.pow_succ]
    have e : acc * (8 ^ r.length * 8) = (acc * 8) * 8 ^ r.length := by
      rw [Nat.mul_comm (8 ^ r.length) 8, Nat.mul_assoc]
    have h2 : (acc * 8) * 8 ^ r.length ≤ (acc * 8 + (x.toNat + 1)) * 8 ^ r.length := Nat.mul_le_mul_right _ (by omega)
    omega
theorem digs_snoc : ∀ (l : List Int) (acc : Nat) (x : Int), digs acc (l ++ [x]) = digs acc l * 8 + (x.toNat + 1)
  | [], _, _ => rfl
  | y :: r, acc, x => by
    simp only [List.cons_append, digs]
    exact digs_snoc r _ x
theorem dropLast_last {α : Type} : ∀ {l : List α} (h : l ≠ []), l.dropLast ++ [l.getLast h] = l
  | [], h => absurd rfl h
  | [a], _ => rfl
  | a :: b :: r, h => by
    rw [List.dropLast_cons₂, List.getLast_cons (by simp), List.cons_append, dropLast_last (l := b :: r) (by simp)]
theorem digs_pos {l : List Int} (h : l ≠ []) : 0 < digs 0 l := by
  obtain ⟨m, x, e⟩ : ∃ m x, l = m ++ [x] := ⟨l.dropLast, l.getLast h, (dropLast_last h).symm⟩
  rw [e, digs_snoc]
  omega
theorem rev_ind {p : List Int → List Int → Prop} (h : ∀ l m, (∀ l' m', l'.length < l.length → p l' m') → p l m) : ∀ l m, p l m := by
  intro l
  induction hn : l.length using Nat.strongRecOn generalizing l with
  | ind n ih => intro m; exact h l m fun l' m' hl => ih l'.length (hn ▸ hl) l' rfl m'
theorem digs_inj : ∀ l m : List Int, (∀ x ∈ l, 0 ≤ x ∧ x < 7) → (∀ x ∈ m, 0 ≤ x ∧ x < 7) → digs 0 l = digs 0 m → l = m := by
  refine rev_ind fun l m ih hl hm e => ?_
  by_cases h1 : l = []
  · subst h1
    by_cases h2 : m = []
    · exact h2.symm
    · have := digs_pos h2
      simp only [digs] at e
      omega
  · by_cases h2 : m = []
    · subst h2
      have := digs_pos h1
      simp only [digs] at e
      omega
    · obtain ⟨l', x, e1⟩ : ∃ l' x, l = l' ++ [x] := ⟨l.dropLast, l.getLast h1, (dropLast_last h1).symm⟩
      obtain ⟨m', y, e2⟩ : ∃ m' y, m = m' ++ [y] := ⟨m.dropLast, m.getLast h2, (dropLast_last h2).symm⟩
      subst e1 e2
      rw [digs_snoc, digs_snoc] at e
      have hx := hl x (List.mem_append_right _ (List.mem_singleton.mpr rfl))
      have hy := hm y (List.mem_append_right _ (List.mem_singleton.mpr rfl))
      have e3 : x = y := by omega
      have e4 : digs 0 l' = digs 0 m' := by omega
      have := ih l' m' (by rw [List.length_append, List.length_singleton]; omega) (fun z hz => hl z (List.mem_append_left _ hz)) (fun z hz => hm z (List.mem_append_left _ hz)) e4
      rw [this, e3]
def bt : Bool → Nat
  | true => 1
  | false => 0
theorem bt_le : ∀ b, bt b ≤ 1
  | true => by decide
  | false => by decide
theorem bt_inj : ∀ a b, bt a = bt b → a = b := by decide
def code (s : Sg) : Nat := digs 0 (s.deed :: (s.ms ++ [s.lt])) * 4 + (2 * bt s.nw + bt s.rt)
theorem wf7 {s : Sg} (h : Wf s) : ∀ x ∈ s.deed :: (s.ms ++ [s.lt]), 0 ≤ x ∧ x < 7 := fun x hx => by
  have := h.2.2 x hx
  have := h.2.1
  omega
theorem code_lt {s : Sg} (h : Wf s) : code s < UU := by
  have h1 := digs_lt _ 0 (wf7 h)
  have h2 : 8 ^ (s.deed :: (s.ms ++ [s.lt])).length ≤ 8 ^ 7 := Nat.pow_le_pow_right (by decide) (by
    have := h.2.1
    simp only [List.length_cons, List.length_append, List.length_nil]
    omega)
  have h3 : (8 : Nat) ^ 7 = 2097152 := by decide
  have := bt_le s.nw
  have := bt_le s.rt
  unfold code UU
  omega
theorem code_inj {s t : Sg} (hs : Wf s) (ht : Wf t) (e : code s = code t) : s = t := by
  unfold code at e
  have e1 : digs 0 (s.deed :: (s.ms ++ [s.lt])) = digs 0 (t.deed :: (t.ms ++ [t.lt])) ∧ s.nw = t.nw ∧ s.rt = t.rt := by
    have a1 := bt_le s.nw
    have a2 := bt_le s.rt
    have a3 := bt_le t.nw
    have a4 := bt_le t.rt
    exact ⟨by omega, bt_inj _ _ (by omega), bt_inj _ _ (by omega)⟩
  have e2 := digs_inj _ _ (wf7 hs) (wf7 ht) e1.1
  obtain ⟨d, ms, nw, rt, lt⟩ := s
  obtain ⟨d', ms', nw', rt', lt'⟩ := t
  simp only [List.cons.injEq] at e2
  have e3 := List.append_inj' e2.2 rfl
  simp only [List.cons.injEq, and_true] at e3
  obtain ⟨_, e4, e5⟩ := e1
  simp only at e4 e5
  rw [e2.1, e3.1, e3.2, e4, e5]
theorem code_single {s : Sg} (h : Wf s) (h1 : s.ms.length = 1) : code s < 880 := by
  obtain ⟨d, ms, nw, rt, lt⟩ := s
  simp only at h1
  match ms, h1 with
  | [m], _ =>
    have hd := h.2.2 d (by simp)
    have hm := h.2.2 m (by simp)
    have hl := h.2.2 lt (by simp)
    simp only [List.length_cons, List.length_nil] at hd hm hl
    have := bt_le nw
    have := bt_le rt
    unfold code
    simp only [List.cons_append, List.nil_append, digs]
    omega
theorem map_nodup_on {α β : Type} {f : α → β} : ∀ {l : List α}, l.Nodup → (∀ a ∈ l, ∀ b ∈ l, f a = f b → a = b) → (l.map f).Nodup
  | [], _, _ => by simp
  | a :: r, h, hf => by
    have h1 := List.nodup_cons.mp h
    rw [List.map_cons, List.nodup_cons]
    refine ⟨fun hm => ?_, map_nodup_on h1.2 fun x hx y hy => hf x (List.mem_cons_of_mem _ hx) y (List.mem_cons_of_mem _ hy)⟩
    obtain ⟨b, hb, e⟩ := List.mem_map.mp hm
    have := hf b (List.mem_cons_of_mem _ hb) a List.mem_cons_self e
    exact h1.1 (this ▸ hb)
theorem few {l : List Sg} (hn : l.Nodup) (hw : ∀ s ∈ l, Wf s) : l.length ≤ UU := by
  have := nodup_bound UU (l.map code) (map_nodup_on hn fun a ha b hb => code_inj (hw a ha) (hw b hb)) fun x hx => by
    obtain ⟨s, hs, e⟩ := List.mem_map.mp hx
    rw [← e]
    exact code_lt (hw s hs)
  simpa using this
def single (s : Sg) : Bool := decide (s.ms.length = 1)
theorem few1 {l : List Sg} (hn : l.Nodup) (hw : ∀ s ∈ l, Wf s) : (l.filter single).length ≤ 880 := by
  have h1 : (l.filter single).Nodup := hn.sublist List.filter_sublist
  have := nodup_bound 880 ((l.filter single).map code) (map_nodup_on h1 fun a ha b hb => code_inj (hw a (List.mem_filter.mp ha).1) (hw b (List.mem_filter.mp hb).1)) fun x hx => by
    obtain ⟨s, hs, e⟩ := List.mem_map.mp hx
    rw [← e]
    have q := List.mem_filter.mp hs
    exact code_single (hw s q.1) (of_decide_eq_true q.2)
  simpa using this
/-! ### what holds of the ways -/
def r1 (way : Way) : Nat := (way.filter fun e => decide (e.1.name = .right) && !decide (e.2 = 0)).length
def sings (W : Ways) : Nat := ((W.map (·.1)).filter single).length
/-- the shape of a way, whatever was met -/
def Shape (way : Way) : Prop := ∃ rest, way = (firstStp, 0) :: rest ∧ ∀ e ∈ rest, e.1.name ≠ .beg
structure OkWay (W : Ways) (way : Way) : Prop where
  shape : Shape way
  few : r1 way ≤ sings W
  short : way.length ≤ W.length
structure Good (W : Ways) : Prop where
  nd : (W.map (·.1)).Nodup
  wf : ∀ e ∈ W, Wf e.1
  way : ∀ e ∈ W, OkWay W e.2
theorem Good.size {W : Ways} (g : Good W) : W.length ≤ UU := by
  have := few g.nd fun s hs => by
    obtain ⟨e, he, q⟩ := List.mem_map.mp hs
    rw [← q]
    exact g.wf e he
  simpa using this
theorem Good.sings {W : Ways} (g : Good W) : sings W ≤ 880 := few1 g.nd fun s hs => by
    obtain ⟨e, he, q⟩ := List.mem_map.mp hs
    rw [← q]
    exact g.wf e he
theorem good0 : Good [(BEG, [(firstStp, 0)])] := by
  refine ⟨by simp, fun e he => ?_, fun e he => ?_⟩
  · rw [List.mem_singleton.mp he]
    exact wf_beg
  · rw [List.mem_singleton.mp he]
    exact ⟨⟨[], rfl, by simp⟩, by decide, by simp⟩
/-- what a step's standings are: small enough, and what makes an amount grow is single -/
structure OkStp (st : Stp) : Prop where
  nb : st.name ≠ .beg
  wf : ∀ b ∈ st.behind, Wf b
  one : st.name = .right → ∀ b ∈ st.behind.drop 1, b.ms.length = 1
theorem ok_steps {h : Hm} (hd : h.depth ≤ 4) {s : Sg} (hs : Wf s) : ∀ st ∈ stepsM h s, OkStp st := by
  have h1 := hs.1
  have h5 := hs.2.1
  intro st hst
  unfold stepsM at hst
  rcases List.mem_cons.mp hst with e | hst
  · subst e
    exact ⟨(fun q => nomatch q), fun b hb => by rw [List.mem_singleton.mp hb]; exact wf_ranked h1 h5, (fun e => nomatch e)⟩
  · have tk : ∀ d, st ∈ takeOf h s d → OkStp st := fun d hd' => by
      unfold takeOf at hd'
      split at hd'
      · cases hd'
      · rename_i m hm
        rw [List.mem_singleton.mp hd']
        split at hm
        · rename_i hlt
          exact ⟨(fun q => nomatch q), fun b hb => by
            rw [List.mem_singleton.mp hb]
            exact wf_ranked (by simp) (by rw [List.length_append, List.length_singleton]; omega), (fun e => nomatch e)⟩
        · cases hm
    rcases List.mem_append.mp hst with hst | hst
    · rcases List.mem_append.mp hst with q | q
      · exact tk _ q
      · exact tk _ q
    · unfold rights at hst
      split at hst
      · cases hst
      · rename_i m hm
        rw [List.mem_singleton.mp hst]
        split at hm
        · rename_i hlt
          refine ⟨(fun q => nomatch q), fun b hb => ?_, fun _ b hb => ?_⟩
          · rcases List.mem_cons.mp hb with e | hb
            · rw [e]
              exact wf_ranked (by simp) (by rw [List.length_append, List.length_singleton]; omega)
            · rw [List.mem_singleton.mp hb]
              exact wf_ranked (by simp) (by simp)
          · have e : b = ranked s.deed [m] true false s.lt := by simpa [rightStp] using hb
            rw [e]
            simp [ranked]
        · cases hm
theorem has_iff {W : Ways} {b : Sg} : has W b = true ↔ b ∈ W.map (·.1) := by
  unfold has
  rw [List.any_eq_true]
  constructor
  · rintro ⟨e, he, q⟩
    exact List.mem_map.mpr ⟨e, he, of_decide_eq_true q⟩
  · intro h
    obtain ⟨e, he, q⟩ := List.mem_map.mp h
    exact ⟨e, he, decide_eq_true q⟩
theorem shape_snoc {way : Way} {st : Stp} {i : Int} (h : Shape way) (hn : st.name ≠ .beg) : Shape (way ++ [(st, i)]) := by
  obtain ⟨rest, e, hr⟩ := h
  refine ⟨rest ++ [(st, i)], by rw [e]; rfl, fun x hx => ?_⟩
  rcases List.mem_append.mp hx with hx | hx
  · exact hr x hx
  · rw [List.mem_singleton.mp hx]
    exact hn
theorem r1_snoc (way : Way) (st : Stp) (i : Int) : r1 (way ++ [(st, i)]) = r1 way + if st.name = .right ∧ i ≠ 0 then 1 else 0 := by
  unfold r1
  rw [List.filter_append, List.length_append]
  congr 1
  by_cases h1 : st.name = .right <;> by_cases h2 : i = 0 <;> simp [h1, h2]
theorem sings_snoc (W : Ways) (b : Sg) (way : Way) : sings (W ++ [(b, way)]) = sings W + if b.ms.length = 1 then 1 else 0 := by
  unfold sings
  rw [List.map_append, List.filter_append, List.length_append]
  congr 1
  by_cases h1 : b.ms.length = 1 <;> simp [single, h1]
theorem okWay_mono {W V : Ways} {way : Way} (h : OkWay W way) : OkWay (W ++ V) way := by
  refine ⟨h.shape, Nat.le_trans h.few ?_, Nat.le_trans h.short (by rw [List.length_append]; omega)⟩
  unfold sings
  rw [List.map_append, List.filter_append, List.length_append]
  omega
theorem good_addOne {W : Ways} {way : Way} {st : Stp} {b : Sg} {i : Int} (g : Good W) (ow : OkWay W way) (hb : Wf b) (hn : st.name ≠ .beg) (h1 : st.name = .right → i ≠ 0 → b.ms.length = 1) : Good (addOne way st W b i) := by
  unfold addOne
  split
  · exact g
  · rename_i nh
    have nm : b ∉ W.map (·.1) := fun q => nh (has_iff.mpr q)
    refine ⟨?_, fun e he => ?_, fun e he => ?_⟩
    · rw [List.map_append, List.nodup_append]
      refine ⟨g.nd, by simp, fun a ha c hc => ?_⟩
      have : c = b := by simpa using hc
      subst this
      exact fun q => nm (q ▸ ha)
    · rcases List.mem_append.mp he with he | he
      · exact g.wf e he
      · rw [List.mem_singleton.mp he]
        exact hb
    · rcases List.mem_append.mp he with he | he
      · exact okWay_mono (g.way e he)
      · rw [List.mem_singleton.mp he]
        refine ⟨shape_snoc ow.shape hn, ?_, ?_⟩
        · rw [r1_snoc, sings_snoc]
          have := ow.few
          by_cases hr : st.name = .right ∧ i ≠ 0
          · rw [if_pos hr, if_pos (h1 hr.1 hr.2)]
            omega
          · rw [if_neg hr]
            omega
        · have := ow.short
          simp only [List.length_append, List.length_singleton]
          omega
theorem addOne_pre (way : Way) (st : Stp) (W : Ways) (b : Sg) (i : Int) : ∃ V, addOne way st W b i = W ++ V := by
  unfold addOne
  split
  · exact ⟨[], by simp⟩
  · exact ⟨_, rfl⟩
theorem okWay_addOne {W : Ways} {way way' : Way} {st : Stp} {b : Sg} {i : Int} (h : OkWay W way') : OkWay (addOne way st W b i) way' := by
  obtain ⟨V, e⟩ := addOne_pre way st W b i
  rw [e]
  exact okWay_mono h
theorem addAll_pre (way : Way) (st : Stp) : ∀ (l : List Sg) (i : Int) (W : Ways), ∃ V, addAll way st i l W = W ++ V
  | [], i, W => ⟨[], by simp [addAll]⟩
  | b :: r, i, W => by
    obtain ⟨V, e⟩ := addOne_pre way st W b i
    obtain ⟨V', e'⟩ := addAll_pre way st r (i + 1) (addOne way st W b i)
    exact ⟨V ++ V', by simp only [addAll]; rw [e', e, List.append_assoc]⟩
theorem expand_pre (way : Way) : ∀ (l : List Stp) (W : Ways), ∃ V, expand way l W = W ++ V
  | [], W => ⟨[], by simp [expand]⟩
  | st :: r, W => by
    obtain ⟨V, e⟩ := addAll_pre way st st.behind 0 W
    obtain ⟨V', e'⟩ := expand_pre way r (addAll way st 0 st.behind W)
    exact ⟨V ++ V', by simp only [expand]; rw [e', e, List.append_assoc]⟩
/-- what is asked of the standings from the i-th spot on -/
def Tail (st : Stp) (i : Int) (l : List Sg) : Prop := (∀ b ∈ l, Wf b) ∧ (st.name = .right → ∀ b ∈ (if i = 0 then l.drop 1 else l), b.ms.length = 1)
theorem Tail.next {st : Stp} {i : Int} {b : Sg} {r : List Sg} (hi : 0 ≤ i) (t : Tail st i (b :: r)) : Tail st (i + 1) r := by
  refine ⟨fun c hc => t.1 c (List.mem_cons_of_mem _ hc), fun e c hc => ?_⟩
  rw [if_neg (by omega)] at hc
  refine t.2 e c ?_
  split
  · exact hc
  · exact List.mem_cons_of_mem _ hc
theorem Tail.here {st : Stp} {i : Int} {b : Sg} {r : List Sg} (t : Tail st i (b :: r)) : Wf b ∧ (st.name = .right → i ≠ 0 → b.ms.length = 1) :=
  ⟨t.1 b List.mem_cons_self, fun e h => t.2 e b (by rw [if_neg h]; exact List.mem_cons_self)⟩
theorem OkStp.tail {st : Stp} (o : OkStp st) : Tail st 0 st.behind := ⟨o.wf, fun e b hb => o.one e b (by simpa using hb)⟩
theorem good_addAll {way : Way} {st : Stp} (hn : st.name ≠ .beg) : ∀ (l : List Sg) (i : Int) (W : Ways), 0 ≤ i → Tail st i l → Good W → OkWay W way → Good (addAll way st i l W) ∧ OkWay (addAll way st i l W) way
  | [], _, W, _, _, g, o => ⟨g, o⟩
  | b :: r, i, W, hi, t, g, o => by
    simp only [addAll]
    exact good_addAll hn r (i + 1) _ (by omega) (t.next hi) (good_addOne g o t.here.1 hn t.here.2) (okWay_addOne o)
theorem good_expand {way : Way} : ∀ (l : List Stp) (W : Ways), (∀ st ∈ l, OkStp st) → Good W → OkWay W way → Good (expand way l W) ∧ OkWay (expand way l W) way
  | [], W, _, g, o => ⟨g, o⟩
  | st :: r, W, hl, g, o => by
    simp only [expand]
    have ok := hl st List.mem_cons_self
    obtain ⟨g1, o1⟩ := good_addAll ok.nb st.behind 0 W (by omega) ok.tail g o
    exact good_expand r _ (fun x hx => hl x (List.mem_cons_of_mem _ hx)) g1 o1
theorem good_bst {h : Hm} (hd : h.depth ≤ 4) : ∀ n, Good (bst h n)
  | 0 => good0
  | n + 1 => by
    have g := good_bst hd n
    unfold bst
    cases e : (bst h n)[n]? with
    | none => exact g
    | some x =>
      have hx := List.mem_of_getElem? e
      exact (good_expand _ _ (ok_steps hd (g.wf x hx)) g (g.way x hx)).1
/-- a way that was found, as the history asks it -/
structure OkFound (way : Way) : Prop where
  shape : Shape way
  few : r1 way ≤ 880
  short : way.length ≤ 8388609
theorem srch_ok {h : Hm} (hd : h.depth ≤ 4) {p : Stp → Bool} : ∀ k n way, srch h p k n = some way → OkFound way
  | 0, _, _, e => by cases e
  | k + 1, n, way, e => by
    simp only [srch] at e
    cases ew : (bst h n)[n]? with
    | none => rw [ew] at e; cases e
    | some x =>
      rw [ew] at e
      simp only at e
      cases ef : (stepsM h x.1).find? p with
      | none => rw [ef] at e; exact srch_ok hd k (n + 1) way e
      | some st =>
        rw [ef] at e
        have g := good_bst hd n
        have hx := List.mem_of_getElem? ew
        have ow := g.way x hx
        have os := ok_steps hd (g.wf x hx) st (List.mem_of_find?_eq_some ef)
        have e' := Option.some.inj e
        subst e'
        refine ⟨shape_snoc ow.shape os.nb, ?_, ?_⟩
        · rw [r1_snoc]
          have := ow.few
          have := g.sings
          simp only [ne_eq, not_true_eq_false, and_false, if_false]
          omega
        · have := ow.short
          have := g.size
          unfold UU at this
          simp only [List.length_append, List.length_singleton]
          omega
theorem search_ok {h : Hm} (hd : h.depth ≤ 4) {p : Stp → Bool} {way : Way} (e : search h p = some way) : OkFound way := by
  unfold search at e
  split at e
  · have e' := Option.some.inj e
    subst e'
    exact ⟨⟨[], rfl, by simp⟩, by decide, by decide⟩
  · exact srch_ok hd _ _ _ e
end K97
set_option maxHeartbeats 4000000
namespace K97
open PySem PySem.Spec PyProof.Rows L2
/-- built-in names that the module leaves alone -/
structure Free (mg : Str → Option Value) : Prop where
  len : mg "len" = none
  sorted : mg "sorted" = none
  set : mg "set" = none
  int : mg "int" = none
  tuple : mg "tuple" = none
  list : mg "list" = none
  bool : mg "bool" = none
  isinstance : mg "isinstance" = none
  any : mg "any" = none
  all : mg "all" = none
  abs : mg "abs" = none
  str : mg "str" = none
  enumerate : mg "enumerate" = none
  range : mg "range" = none
  min : mg "min" = none
  max : mg "max" = none
  super : mg "super" = none
/-- a def of the module under the name x -/
structure DefT (K : PySem.W.Frag) (mg : Str → Option Value) (x nm qual : Str) (st : Stmt) (dvs : List V) : Prop where
  ex : ∃ (f : Addr) (fd : FuncData), FunD K nm qual (defArgs st) (defBody st) (defScope st) dvs [] f fd ∧ mg x = some (.ref f)
/-- a method of the class at C -/
structure MetT (K : PySem.W.Frag) (C : Addr) (m qual : Str) (st : Stmt) (dvs : List V) : Prop where
  ex : ∃ (f : Addr) (fd : FuncData), FunD K m qual (defArgs st) (defBody st) (defScope st) dvs [] f fd ∧ Meth K C m f
/-- a class that is made by an __init__ of its own -/
structure ClsT (K : PySem.W.Frag) (mg : Str → Option Value) (x qual : Str) (C : Addr) (st : Stmt) (dvs : List V) : Prop where
  cl : Cls K C
  gl : mg x = some (.ref C)
  ex : ∃ (f : Addr) (fd : FuncData), FunD K "__init__" qual (defArgs st) (defBody st) (defScope st) dvs [] f fd ∧ Mk K C f
section
variable {P : Program} {w : World} {K : PySem.W.Frag} {mg : Str → Option Value} {base : Heap} {x nm qual m : Str} {C : Addr} {st : Stmt} {N ps : List Str} {k : Nat} {sp : Sp}
/-- what a def's body has to show -/
abbrev BodyOk (P : Program) (w : World) (K : PySem.W.Frag) (mg : Str → Option Value) (base : Heap) (N : List Str) (qual : Str) (st : Stmt) (k : Nat) (sp : Sp) : Prop :=
  ∀ (f : Addr) (cdv : Value) (A : Around) (outer : List Env) (s : Shared) (H : Hp) (vs : List V) (Q : VK) (E : XK), Room k (A.deeper (envOfC qual (defScope st) s.heap.objs.size f cdv)) → sp vs H Q E →
      ∃ t, PSs (cxOf C8.CX0 P w K mg base N qual (defScope st) f cdv A outer s H E).nox (defBody st) t ∧ t { nx := fun _ H' => Q .non H', rt := Q } (start N vs) H
abbrev BindN (nm qual : Str) (st : Stmt) (ps : List Str) : Prop :=
  ∀ (kV doc pm : Value) (an : Option Addr) (cdv ct : Value) (us : List Value), us.length = ps.length → bindArgs (PySem.W.fnOf nm qual (defArgs st) (defBody st) (defScope st) .none kV doc pm an cdv ct) ⟨us, []⟩ = pure (ps.zip us)
theorem fn_mk {f : Addr} {fd : FuncData} {dvs : List V} (F : FunD K nm qual (defArgs st) (defBody st) (defScope st) dvs [] f fd) (S : FnScope N ps (defScope st)) (len : ∀ vs H Q E, sp vs H Q E → vs.length = ps.length) (hb : BodyOk P w K mg base N qual st k sp) :
    FnOk P w K mg base C8.CX0 (k + 1) f fd ps sp := by
  refine F.ok S len fun cdv A outer s H vs Q E hr hsp => ?_
  obtain ⟨t, h, q⟩ := hb f cdv A outer s H vs Q E hr hsp
  exact ⟨t, h.nox, q⟩
theorem cal_of (D : DefT K mg x nm qual st []) (S : FnScope N ps (defScope st)) (b : BindN nm qual st ps) (len : ∀ vs H Q E, sp vs H Q E → vs.length = ps.length) (hb : BodyOk P w K mg base N qual st k sp) : C8.Cal P w K mg base (k + 1) x sp [] := by
  obtain ⟨f, fd, F, g⟩ := D.ex
  exact ⟨f, fd, ps, [], fn_mk F S len hb, g, F.kp, F.bindsN b, .nil⟩
theorem met_of (c : Cls K C) (D : MetT K C m qual st []) (S : FnScope N ps (defScope st)) (b : BindN m qual st ps) (len : ∀ vs H Q E, sp vs H Q E → vs.length = ps.length) (hb : BodyOk P w K mg base N qual st k sp) : C8.Met P w K mg base (k + 1) C m sp [] := by
  obtain ⟨f, fd, F, g⟩ := D.ex
  exact ⟨f, fd, ps, [], c, g, fn_mk F S len hb, F.bindsN b, .nil⟩
theorem mak_of (D : ClsT K mg x qual C st []) (S : FnScope N ps (defScope st)) (b : BindN "__init__" qual st ps) (len : ∀ vs H Q E, sp vs H Q E → vs.length = ps.length) (hb : BodyOk P w K mg base N qual st k sp) : C8.Mak P w K mg base (k + 1) x C sp [] := by
  obtain ⟨f, fd, F, g⟩ := D.ex
  exact ⟨f, fd, ps, [], g, fn_mk F S len hb, D.gl, F.bindsN b, .nil⟩
theorem Cal_mono {j : Nat} {dvs : List V} (c : C8.Cal P w K mg base j x sp dvs) (h : j ≤ k) : C8.Cal P w K mg base k x sp dvs := by
  obtain ⟨f, fd, ps, ds, F, r⟩ := c.ex
  exact ⟨f, fd, ps, ds, F.mono h, r⟩
end
/-! ### is_integer, is_number, is_amount, is_sequence, is_one_of -/
section
variable {P : Program} {w : World} {K : PySem.W.Frag} {mg : Str → Option Value} {base : Heap}
def spInt : Sp := fun vs H Q _ => ∃ n : Int, vs = [.int n] ∧ Q (.bl true) H
theorem sc_is_integer : FnScope ["value"] ["value"] (defScope (top 18)) := ⟨rfl, rfl, rfl, by decide +kernel, rfl, by decide +kernel, by decide +kernel⟩
theorem kit_int : PySem.W.kitOne K (.type "int") (.type "int") = some true := rfl
theorem kit_int_bool : PySem.W.kitOne K (.type "int") (.type "bool") = some false := by first | rfl | kernel_rfl
theorem c_is_integer (fr : Free mg) (D : DefT K mg "is_integer" "is_integer" "is_integer" (top 18) []) : C8.Cal P w K mg base 1 "is_integer" spInt [] := by
  refine cal_of D sc_is_integer (fun _ _ _ _ _ _ us hl => match us, hl with | [_], _ => rfl) (fun vs H Q E h => ?_) fun f cdv A outer s H vs Q E hr h => ?_
  · obtain ⟨n, rfl, _⟩ := h
    rfl
  · obtain ⟨n, rfl, q⟩ := h
    refine ⟨_, pss_one (ps_ret (pe_and (pe_callB call_isi (by rfl) fr.isinstance (by decide +kernel) (pa_cons (pv 0) (pa_cons (pe_bltn (v := .ty "int") (by rfl) fr.int (by decide +kernel) rfl) pa_nil)))
      (pe_one (pe_not (pe_callB call_isi (by rfl) fr.isinstance (by decide +kernel) (pa_cons (pv 0) (pa_cons (pe_bltn (v := .ty "bool") (by rfl) fr.bool (by decide +kernel) rfl) pa_nil))))))), ?_⟩
    refine ⟨_, rfl, _, _, _, _, _, rfl, .ty _, .base (.int n), kit_int, true, rfl, iteT ?_⟩
    exact ⟨_, rfl, _, _, _, _, _, rfl, .ty _, .base (.int n), kit_int_bool, false, rfl, q⟩
end
end K97
set_option maxHeartbeats 4000000
namespace K97
open PySem PySem.Spec PyProof.Rows L2
/-! ### words -/
def kS : Kd → Str
  | .first => "first"
  | .new => "new"
  | .minus => "minus"
  | .plus => "plus"
def tS : Stt → Str
  | .opn => "open"
  | .shut => "shut"
def dS : Dd → Str
  | .whole => "whole"
  | .part => "part"
  | .right => "right"
def pS : Pl → Str
  | .now => "now"
  | .there => "there"
def oS : Ow → Str
  | .own => "own"
  | .target => "target"
  | .top => "top"
  | .deed => "deed"
def pV (p : Pl) : V := .str (pS p)
/-! ### what stands where -/
abbrev sgV (s : Sg) (m : Addr) : List V := [V.int s.deed, V.ref m, V.bl s.nw, V.bl s.rt, V.bl false, V.int s.lt]
def SgAt (K : PySem.W.Frag) (H : Hp) (a : Addr) (s : Sg) : Prop := ∃ m, SqT K H a (sgV s m) ∧ SqT K H m (s.ms.map V.int)
theorem Same.seqT {K : PySem.W.Frag} {H H' : Hp} {a : Addr} {xs : List V} (e : Same H H') (h : SqT K H a xs) : SqT K H' a xs := by
  rcases h with (h | ⟨o, h⟩) | h
  · exact .inl (.inl (e _ _ h))
  · exact .inl (.inr ⟨o, e _ _ h⟩)
  · exact .inr h
theorem SgAt.same {K : PySem.W.Frag} {H H' : Hp} {a : Addr} {s : Sg} (e : Same H H') (h : SgAt K H a s) : SgAt K H' a s := by
  obtain ⟨m, h1, h2⟩ := h
  exact ⟨m, Same.seqT e h1, Same.seqT e h2⟩
theorem Same.new {H : Hp} {p : Addr} {o : HO} (h : H p = none) : Same H (upd H p o) := fun b u e => by
  rw [upd_ne (ne_of_none e h)]
  exact e
theorem Same.newR {H H1 : Hp} {p : Addr} {o : HO} (e : Same H H1) (h : H1 p = none) : Same H (upd H1 p o) := e.trans (Same.new h)
/-- a house -/
def HouseAt (C : Addr) (H : Hp) (a : Addr) (h : Hm) : Prop := ∃ (dx d : Addr) (fs : List (Str × V)) (kvs : List (List Key × V)), H a = some (.ins C dx fs) ∧ fs.lookup ("depth" : Str) = some (V.int (h.depth : Int)) ∧ fs.lookup ("places" : Str) = some (V.ref d) ∧ fs.lookup ("placed" : Str) = none ∧
  H d = some (.dT kvs) ∧ ∀ k t dd, valV kvs [Sum.inr (kS k), Sum.inr (tS t), Sum.inr (dS dd)] = (h.pl k t dd).map pV
theorem HouseAt.same {C : Addr} {H H' : Hp} {a : Addr} {h : Hm} (e : Same H H') (x : HouseAt C H a h) : HouseAt C H' a h := by
  obtain ⟨dx, d, fs, kvs, h1, h2, h3, h4, h5, h6⟩ := x
  exact ⟨dx, d, fs, kvs, e _ _ h1, h2, h3, h4, e _ _ h5, h6⟩
section
variable {P : Program} {w : World} {K : PySem.W.Frag} {mg : Str → Option Value} {base : Heap}
def spNum : Sp := fun vs H Q _ => ∃ n : Int, vs = [.int n] ∧ 0 ≤ n ∧ Q (.bl true) H
theorem sc_is_number : FnScope ["value"] ["value"] (defScope (top 19)) := ⟨rfl, rfl, rfl, by decide +kernel, rfl, by decide +kernel, by decide +kernel⟩
theorem c_is_number (c1 : C8.Cal P w K mg base 1 "is_integer" spInt []) (D : DefT K mg "is_number" "is_number" "is_number" (top 19) []) : C8.Cal P w K mg base 2 "is_number" spNum [] := by
  refine cal_of D sc_is_number (fun _ _ _ _ _ _ us hl => match us, hl with | [_], _ => rfl) (fun vs H Q E h => ?_) fun f cdv A outer s H vs Q E hr h => ?_
  · obtain ⟨n, rfl, _⟩ := h
    rfl
  · obtain ⟨n, rfl, hn, q⟩ := h
    refine ⟨_, pss_one (ps_ret (pe_and (C8.pe_c c1 hr (by decide) (by rfl) (pa_cons (pv 0) pa_nil)) (pe_one (pe_cmp (pc_ge (pv 0) pe_int))))), ?_⟩
    refine ⟨_, rfl, n, rfl, true, rfl, iteT ?_⟩
    refine ⟨_, rfl, n, 0, rfl, rfl, ?_⟩
    show Q (.bl (decide ((0 : Int) ≤ n))) H
    rw [decide_eq_true hn]
    exact q
def spAmt : Sp := fun vs H Q _ => ∃ n : Int, vs = [.int n] ∧ 1 ≤ n ∧ Q (.bl true) H
theorem sc_is_amount : FnScope ["value"] ["value"] (defScope (top 20)) := ⟨rfl, rfl, rfl, by decide +kernel, rfl, by decide +kernel, by decide +kernel⟩
theorem c_is_amount (c1 : C8.Cal P w K mg base 1 "is_integer" spInt []) (D : DefT K mg "is_amount" "is_amount" "is_amount" (top 20) []) : C8.Cal P w K mg base 2 "is_amount" spAmt [] := by
  refine cal_of D sc_is_amount (fun _ _ _ _ _ _ us hl => match us, hl with | [_], _ => rfl) (fun vs H Q E h => ?_) fun f cdv A outer s H vs Q E hr h => ?_
  · obtain ⟨n, rfl, _⟩ := h
    rfl
  · obtain ⟨n, rfl, hn, q⟩ := h
    refine ⟨_, pss_one (ps_ret (pe_and (C8.pe_c c1 hr (by decide) (by rfl) (pa_cons (pv 0) pa_nil)) (pe_one (pe_cmp (pc_ge (pv 0) pe_int))))), ?_⟩
    refine ⟨_, rfl, n, rfl, true, rfl, iteT ?_⟩
    refine ⟨_, rfl, n, 1, rfl, rfl, ?_⟩
    show Q (.bl (decide ((1 : Int) ≤ n))) H
    rw [decide_eq_true hn]
    exact q
/-- a list or a tuple -/
def spSeq : Sp := fun vs H Q _ => ∃ (a : Addr) (xs : List V), vs = [.ref a] ∧ (H a = some (.lst xs) ∨ H a = some (.tup xs)) ∧ ∀ H', Same H H' → Q (.bl true) H'
theorem sc_is_sequence : FnScope ["value"] ["value"] (defScope (top 21)) := ⟨rfl, rfl, rfl, by decide +kernel, rfl, by decide +kernel, by decide +kernel⟩
theorem kit_list : PySem.W.kitAny K (.type "list") [.type "list", .type "tuple"] = some true := rfl
theorem kit_tuple : PySem.W.kitAny K (.type "tuple") [.type "list", .type "tuple"] = some true := by first | rfl | kernel_rfl
theorem c_is_sequence (fr : Free mg) (D : DefT K mg "is_sequence" "is_sequence" "is_sequence" (top 21) []) : C8.Cal P w K mg base 1 "is_sequence" spSeq [] := by
  refine cal_of D sc_is_sequence (fun _ _ _ _ _ _ us hl => match us, hl with | [_], _ => rfl) (fun vs H Q E h => ?_) fun f cdv A outer s H vs Q E hr h => ?_
  · obtain ⟨a, xs, rfl, _⟩ := h
    rfl
  · obtain ⟨a, xs, rfl, hx, q⟩ := h
    refine ⟨_, pss_one (ps_ret (pe_callB call_isiT (by rfl) fr.isinstance (by decide +kernel) (pa_cons (pv 0) (pa_cons (pe_tup (pa_cons (pe_bltn (v := .ty "list") (by rfl) fr.list (by decide +kernel) rfl) (pa_cons (pe_bltn (v := .ty "tuple") (by rfl) fr.tuple (by decide +kernel) rfl) pa_nil))) pa_nil)))), ?_⟩
    refine ⟨_, rfl, (by show 2 ≤ sizeLine; decide), fun p hp => ?_⟩
    have nap : a ≠ p := by
      rcases hx with h | h
      · exact ne_of_none h hp
      · exact ne_of_none h hp
    rcases hx with h | h
    · exact ⟨_, p, _, _, _, true, rfl, upd_same, .cons (.ty _) (.cons (.ty _) .nil), .base (.lst (xs := xs) (by rw [upd_ne nap]; exact h)), kit_list, q _ (Same.new hp)⟩
    · exact ⟨_, p, _, _, _, true, rfl, upd_same, .cons (.ty _) (.cons (.ty _) .nil), .base (.tup (xs := xs) (by rw [upd_ne nap]; exact h)), kit_tuple, q _ (Same.new hp)⟩
/-- one of some words -/
def spOneOf (K : PySem.W.Frag) : Sp := fun vs H Q _ => ∃ (x : Str) (a : Addr) (ys : List Str), vs = [.str x, .ref a] ∧ SqT K H a (ys.map V.str) ∧ x ∈ ys ∧ Q (.bl true) H
theorem all_flatS : ∀ ys : List Str, (ys.map V.str).all flatV = true
  | [] => rfl
  | _ :: r => all_flatS r
theorem inV_str (x : Str) : ∀ ys : List Str, inV (.str x) (ys.map V.str) = decide (x ∈ ys)
  | [] => rfl
  | y :: r => by
    have ih := inV_str x r
    unfold inV at ih ⊢
    rw [List.map_cons, List.any_cons, ih]
    have e : eqV (.str y) (.str x) = decide (x = y) := by
      by_cases q : y = x
      · subst q; simp [eqV]
      · rw [decide_eq_false (fun z => q z.symm)]; simp [eqV, q]
    rw [e]
    by_cases q : x = y
    · simp [q]
    · simp [q]
theorem kit_str : PySem.W.kitOne K (.type "str") (.type "str") = some true := rfl
theorem sc_is_one_of : FnScope ["value", "some"] ["value", "some"] (defScope (top 65)) := ⟨rfl, rfl, rfl, by decide +kernel, rfl, by decide +kernel, by decide +kernel⟩
theorem c_is_one_of (fr : Free mg) (D : DefT K mg "is_one_of" "is_one_of" "is_one_of" (top 65) []) : C8.Cal P w K mg base 1 "is_one_of" (spOneOf K) [] := by
  refine cal_of D sc_is_one_of (fun _ _ _ _ _ _ us hl => match us, hl with | [_, _], _ => rfl) (fun vs H Q E h => ?_) fun f cdv A outer s H vs Q E hr h => ?_
  · obtain ⟨x, a, ys, rfl, _⟩ := h
    rfl
  · obtain ⟨x, a, ys, rfl, hs, hx, q⟩ := h
    refine ⟨_, pss_one (ps_ret (pe_and (pe_callB call_isi (by rfl) fr.isinstance (by decide +kernel) (pa_cons (pv 0) (pa_cons (pe_bltn (v := .ty "str") (by rfl) fr.str (by decide +kernel) rfl) pa_nil)))
      (pe_one (pe_cmpR op_in_seq (pv 0) (pv 1) rfl)))), ?_⟩
    refine ⟨_, rfl, _, _, _, _, true, rfl, .ty _, .base (.str x), kit_str, true, rfl, iteT ?_⟩
    refine ⟨_, rfl, _, rfl, a, ys.map V.str, rfl, .inr hs, rfl, all_flatS _, ?_⟩
    show Q (.bl (inV (.str x) (ys.map V.str))) H
    rw [inV_str, decide_eq_true hx]
    exact q
end
end K97
set_option maxHeartbeats 4000000
namespace K97
open PySem PySem.Spec PyProof.Rows L2
/-- all but the object at p stands as it did -/
def But (p : Addr) (H H' : Hp) : Prop := ∀ b o, b ≠ p → H b = some o → H' b = some o
theorem But.refl (p : Addr) (H : Hp) : But p H H := fun _ _ _ h => h
theorem But.trans {p : Addr} {H H1 H2 : Hp} (a : But p H H1) (b : But p H1 H2) : But p H H2 := fun c o hc h => b c o hc (a c o hc h)
theorem But.set {p : Addr} {H H1 : Hp} {o : HO} (e : But p H H1) : But p H (upd H1 p o) := fun b u hb h => by
  rw [upd_ne hb]
  exact e b u hb h
theorem But.new {p q : Addr} {H H1 : Hp} {o : HO} (e : But p H H1) (h : H1 q = none) : But p H (upd H1 q o) := fun b u hb hu => by
  have := e b u hb hu
  rw [upd_ne (ne_of_none this h)]
  exact this
theorem But.mut {p q : Addr} {H H1 : Hp} {o : HO} (e : But p H H1) (h : H q = none) : But p H (upd H1 q o) := fun b u hb hu => by
  rw [upd_ne (ne_of_none hu h)]
  exact e b u hb hu
theorem Same.mut {q : Addr} {H H1 : Hp} {o : HO} (e : Same H H1) (h : H q = none) : Same H (upd H1 q o) := fun b u hu => by
  rw [upd_ne (ne_of_none hu h)]
  exact e b u hu
theorem none_upd {H : Hp} {p q : Addr} {o : HO} (h : upd H p o q = none) : H q = none ∧ q ≠ p := by
  unfold upd at h
  split at h
  · cases h
  · rename_i z
    exact ⟨h, z⟩
theorem But.same {p : Addr} {H H1 H2 : Hp} (e : But p H H1) (f : Same H1 H2) : But p H H2 := fun b u hb h => f _ _ (e b u hb h)
theorem Same.but {p : Addr} {H H1 : Hp} (e : Same H H1) : But p H H1 := fun b u _ h => e b u h
/-- what an __init__ leaves, seen from ahead of the making -/
theorem same_make {H H2 : Hp} {x dx : Addr} {u o : HO} (hx : H x = none) (hd : H dx = none) (e : But x (upd (upd H dx u) x o) H2) : Same H H2 := fun b v h => by
  have nx : b ≠ x := ne_of_none h hx
  have nd : b ≠ dx := ne_of_none h hd
  refine e b v nx ?_
  rw [upd_ne nx, upd_ne nd]
  exact h
theorem Same.of_but {p : Addr} {H H1 : Hp} (e : But p H H1) (h : H p = none) : Same H H1 := fun b u q => e b u (ne_of_none q h) q
/-! ### a made entry, a step -/
def ownKV (m : Md) : List (Key × V) := [(Sum.inr "own", V.int m.own), (Sum.inr "target", V.int m.target), (Sum.inr "top", V.int m.top), (Sum.inr "deed", V.int m.deed)]
def fsMade (k : V) (q : Addr) : List (Str × V) := [("kind", k), ("owners", V.ref q)]
def MdAt (C : Addr) (H : Hp) (a : Addr) (m : Md) : Prop := ∃ dx q, H a = some (.ins C dx (fsMade (.str (kS m.kd)) q)) ∧ H q = some (.dK (ownKV m))
theorem MdAt.same {C : Addr} {H H' : Hp} {a : Addr} {m : Md} (e : Same H H') (h : MdAt C H a m) : MdAt C H' a m := by
  obtain ⟨dx, q, h1, h2⟩ := h
  exact ⟨dx, q, e _ _ h1, e _ _ h2⟩
def nS : Nm → Str
  | .beg => "begin"
  | .shut => "shut"
  | .take => "take"
  | .right => "right"
def ddS : Option Dd → Str
  | none => ""
  | some d => dS d
def movedV (b : Bool) : List V := if b = true then [V.str "moved"] else []
def twiceV (b : Bool) : List V := if b = true then [V.str "twice"] else []
def metV (st : Stp) : List V := movedV st.moved ++ twiceV st.twice
def fsStep (n d : V) (b m t : Addr) (l : V) : List (Str × V) := [("name", n), ("deed", d), ("behind", V.ref b), ("made", V.ref m), ("met", V.ref t), ("latest", l)]
structure StpAt (CS CM : Addr) (K : PySem.W.Frag) (H : Hp) (a : Addr) (st : Stp) (dx b m t : Addr) (bs ms : List Addr) : Prop where
  ob : H a = some (.ins CS dx (fsStep (.str (nS st.name)) (.str (ddS st.dd)) b m t (.int st.lt)))
  bt : SqT K H b (bs.map V.ref)
  bh : Paired (SgAt K H) bs st.behind
  mt : SqT K H m (ms.map V.ref)
  md : Paired (MdAt CM H) ms st.made
  tt : SqT K H t (metV st)
def StAt (CS CM : Addr) (K : PySem.W.Frag) (H : Hp) (a : Addr) (st : Stp) : Prop := ∃ dx b m t bs ms, StpAt CS CM K H a st dx b m t bs ms
theorem StAt.same {CS CM : Addr} {K : PySem.W.Frag} {H H' : Hp} {a : Addr} {st : Stp} (e : Same H H') (h : StAt CS CM K H a st) : StAt CS CM K H' a st := by
  obtain ⟨dx, b, m, t, bs, ms, h⟩ := h
  exact ⟨dx, b, m, t, bs, ms, e _ _ h.ob, Same.seqT e h.bt, Paired.mapP h.bh fun _ _ z => z.same e, Same.seqT e h.mt, Paired.mapP h.md fun _ _ z => z.same e, Same.seqT e h.tt⟩
section
variable {P : Program} {w : World} {K : PySem.W.Frag} {mg : Str → Option Value} {base : Heap}
/-! ### Made -/
def spMade (C : Addr) : Sp := fun vs H Q _ => ∃ (p dx : Addr) (m : Md), vs = [.ref p, .str (kS m.kd), .int m.own, .int m.target, .int m.top, .int m.deed] ∧ H p = some (.ins C dx []) ∧
  ∀ H' q, But p H H' → H q = none → H' p = some (.ins C dx (fsMade (.str (kS m.kd)) q)) → H' q = some (.dK (ownKV m)) → Q .non H'
theorem sc_Made : FnScope ["self", "kind", "own", "target", "top", "deed"] ["self", "kind", "own", "target", "top", "deed"] (defScope (inClass (top 34) 0)) := ⟨rfl, rfl, rfl, by decide +kernel, rfl, by decide +kernel, by decide +kernel⟩
theorem k_Made {C : Addr} (D : ClsT K mg "Made" "Made.__init__" C (inClass (top 34) 0) []) (n1 : NoAttr K C "kind") (n2 : NoAttr K C "owners") : C8.Mak P w K mg base 1 "Made" C (spMade C) [] := by
  refine mak_of D sc_Made (fun _ _ _ _ _ _ us hl => match us, hl with | [_, _, _, _, _, _], _ => rfl) (fun vs H Q E h => ?_) fun f cdv A outer s H vs Q E hr h => ?_
  · obtain ⟨p, dx, m, rfl, _⟩ := h
    rfl
  · obtain ⟨p, dx, m, rfl, hp, q⟩ := h
    refine ⟨_, pss_cons (ps_fld (pv 0) (pv 1) rfl) (pss_one (ps_fld (pv 0) (pe_disp (pps_cons pe_str (pv 2) (pps_cons pe_str (pv 3) (pps_cons pe_str (pv 4) (pps_cons pe_str (pv 5) pps_nil)))) (by rfl) (by rfl) (fun z => by cases z) (by decide)) rfl)), ?_⟩
    refine ⟨_, rfl, _, rfl, p, C, dx, _, rfl, hp, D.cl, n1, (by show 0 < 1000; decide), ?_⟩
    intro d hd
    have npd : p ≠ d := fun e => by rw [e, upd_same] at hd; cases hd
    have hd0 : H d = none := by rw [upd_ne npd.symm] at hd; exact hd
    refine ⟨_, rfl, _, rfl, _, rfl, _, rfl, upd_same, ownKV m, rfl, (by show 4 ≤ 15; decide), ?_⟩
    refine ⟨_, rfl, p, C, dx, _, rfl, (by rw [upd_ne npd, upd_ne npd, upd_same]), D.cl, n2, (by show 1 < 1000; decide), ?_⟩
    exact q _ d (But.set (But.mut (But.mut (But.set (But.refl _ _)) hd0) hd0)) hd0 upd_same (by rw [upd_ne npd.symm, upd_same]; rfl)
/-! ### Step -/
def spStep (C : Addr) : Sp := fun vs H Q _ => ∃ (p dx b m t : Addr) (n d l : V), vs = [.ref p, n, d, .ref b, .ref m, .ref t, l] ∧ H p = some (.ins C dx []) ∧
  ∀ H', But p H H' → H' p = some (.ins C dx (fsStep n d b m t l)) → Q .non H'
theorem sc_Step : FnScope ["self", "name", "deed", "behind", "made", "met", "latest"] ["self", "name", "deed", "behind", "made", "met", "latest"] (defScope (inClass (top 35) 0)) := ⟨rfl, rfl, rfl, by decide +kernel, rfl, by decide +kernel, by decide +kernel⟩
theorem k_Step {C : Addr} (D : ClsT K mg "Step" "Step.__init__" C (inClass (top 35) 0) []) (n1 : NoAttr K C "name") (n2 : NoAttr K C "deed") (n3 : NoAttr K C "behind") (n4 : NoAttr K C "made") (n5 : NoAttr K C "met") (n6 : NoAttr K C "latest") :
    C8.Mak P w K mg base 1 "Step" C (spStep C) [] := by
  refine mak_of D sc_Step (fun _ _ _ _ _ _ us hl => match us, hl with | [_, _, _, _, _, _, _], _ => rfl) (fun vs H Q E h => ?_) fun f cdv A outer s H vs Q E hr h => ?_
  · obtain ⟨p, dx, b, m, t, n, d, l, rfl, _⟩ := h
    rfl
  · obtain ⟨p, dx, b, m, t, n, d, l, rfl, hp, q⟩ := h
    refine ⟨_, pss_cons (ps_fld (pv 0) (pv 1) rfl) (pss_cons (ps_fld (pv 0) (pv 2) rfl) (pss_cons (ps_fld (pv 0) (pv 3) rfl) (pss_cons (ps_fld (pv 0) (pv 4) rfl) (pss_cons (ps_fld (pv 0) (pv 5) rfl) (pss_one (ps_fld (pv 0) (pv 6) rfl)))))), ?_⟩
    refine ⟨_, rfl, _, rfl, p, C, dx, _, rfl, hp, D.cl, n1, (by show 0 < 1000; decide), ?_⟩
    refine ⟨_, rfl, _, rfl, p, C, dx, _, rfl, upd_same, D.cl, n2, (by show 1 < 1000; decide), ?_⟩
    refine ⟨_, rfl, _, rfl, p, C, dx, _, rfl, upd_same, D.cl, n3, (by show 2 < 1000; decide), ?_⟩
    refine ⟨_, rfl, _, rfl, p, C, dx, _, rfl, upd_same, D.cl, n4, (by show 3 < 1000; decide), ?_⟩
    refine ⟨_, rfl, _, rfl, p, C, dx, _, rfl, upd_same, D.cl, n5, (by show 4 < 1000; decide), ?_⟩
    refine ⟨_, rfl, _, rfl, p, C, dx, _, rfl, upd_same, D.cl, n6, (by show 5 < 1000; decide), ?_⟩
    refine q _ (But.set (But.set (But.set (But.set (But.set (But.set (But.refl _ _))))))) ?_
    rw [upd_same]
    rfl
/-! ### goals_of, kind_at -/
def spGoals : Sp := fun vs H Q _ => ∃ (m l : Int), vs = [.int m, .int l] ∧ ∀ H' a, Same H H' → H a = none → H' a = some (.tup (movedV (decide (m < l)))) → Q (.ref a) H'
theorem sc_goals : FnScope ["month", "latest"] ["month", "latest"] (defScope (top 40)) := ⟨rfl, rfl, rfl, by decide +kernel, rfl, by decide +kernel, by decide +kernel⟩
theorem c_goals_of (D : DefT K mg "goals_of" "goals_of" "goals_of" (top 40) []) : C8.Cal P w K mg base 1 "goals_of" spGoals [] := by
  refine cal_of D sc_goals (fun _ _ _ _ _ _ us hl => match us, hl with | [_, _], _ => rfl) (fun vs H Q E h => ?_) fun f cdv A outer s H vs Q E hr h => ?_
  · obtain ⟨m, l, rfl, _⟩ := h
    rfl
  · obtain ⟨m, l, rfl, q⟩ := h
    refine ⟨_, pss_one (ps_ret (pe_ifExp (pt_cmpR op_lt (pv 0) (pv 1) (nomark _)) (pe_tup (pa_cons pe_str pa_nil)) (pe_tup pa_nil))), ?_⟩
    refine ⟨_, rfl, _, rfl, _, _, rfl, rfl, _, rfl, ?_⟩
    by_cases hml : m < l
    · rw [decide_eq_true hml]
      refine iteT ⟨(by show 1 ≤ sizeLine; decide), fun a ha => q _ a (Same.new ha) ha ?_⟩
      rw [decide_eq_true hml, upd_same]
      rfl
    · rw [decide_eq_false hml]
      refine iteF ⟨Nat.zero_le _, fun a ha => q _ a (Same.new ha) ha ?_⟩
      rw [decide_eq_false hml, upd_same]
      rfl
def spKindAt (K : PySem.W.Frag) : Sp := fun vs H Q _ => ∃ (a : Addr) (s : Sg) (dp : Nat), vs = [.ref a, .int (dp : Int)] ∧ SgAt K H a s ∧ Q (.str (kS (kindAt s dp))) H
theorem sc_kind_at : FnScope ["standing", "depth"] ["standing", "depth"] (defScope (top 38)) := ⟨rfl, rfl, rfl, by decide +kernel, rfl, by decide +kernel, by decide +kernel⟩
theorem c_kind_at (D : DefT K mg "kind_at" "kind_at" "kind_at" (top 38) []) : C8.Cal P w K mg base 1 "kind_at" (spKindAt K) [] := by
  refine cal_of D sc_kind_at (fun _ _ _ _ _ _ us hl => match us, hl with | [_, _], _ => rfl) (fun vs H Q E h => ?_) fun f cdv A outer s H vs Q E hr h => ?_
  · obtain ⟨a, s, dp, rfl, _⟩ := h
    rfl
  · obtain ⟨a, s, dp, rfl, ⟨m, h1, h2⟩, q⟩ := h
    refine ⟨_, pss_cons (ps_if (pt_cmpR op_eq (pv 1) pe_int (nomark _)) (pss_one (ps_ret (pe_ifExp (pt_val (pe_ix ix_tup (pv 0) pe_int (fun _ _ => rfl))) pe_str pe_str))) pss_nil)
      (pss_one (ps_ret (pe_ifExp (pt_cmpR op_eq (pe_op op_mod (pv 1) pe_int) pe_int (nomark _)) pe_str pe_str))), ?_⟩
    refine ⟨_, rfl, rfl, _, rfl, ?_⟩
    by_cases h0 : dp = 0
    · subst h0
      refine iteT ?_
      refine ⟨_, rfl, a, _, _, _, rfl, rfl, h1, rfl, _, rfl, ?_⟩
      unfold kindAt at q
      rw [if_pos rfl] at q
      cases hn : s.nw with
      | true => rw [hn] at q; exact iteT q
      | false => rw [hn] at q; exact iteF q
    · have e : decide (V.int (dp : Int) = V.int 0) = false := decide_eq_false fun z => h0 (by injection z with z; omega)
      rw [e]
      refine iteF ?_
      refine ⟨_, rfl, _, _, rfl, rfl, (by show (0 : Int) < 2; decide), rfl, _, rfl, ?_⟩
      unfold kindAt at q
      rw [if_neg h0] at q
      by_cases h3 : dp % 2 = 1
      · rw [if_pos h3] at q
        have e : decide (V.int ((dp : Int) % 2) = V.int 1) = true := decide_eq_true (by
          have : (dp : Int) % 2 = 1 := by omega
          rw [this])
        rw [e]
        exact iteT q
      · rw [if_neg h3] at q
        have e : decide (V.int ((dp : Int) % 2) = V.int 1) = false := decide_eq_false fun z => h3 (by injection z with z; omega)
        rw [e]
        exact iteF q
/-! ### House.placed, put_into -/
def spPlaced (C : Addr) : Sp := fun vs H Q _ => ∃ (a : Addr) (h : Hm) (k : Kd) (t : Stt) (d : Dd), vs = [.ref a, .str (kS k), .str (tS t), .str (dS d)] ∧ HouseAt C H a h ∧ ∀ H', Same H H' → Q (((h.pl k t d).map pV).getD .non) H'
theorem sc_placed : FnScope ["self", "kind", "state", "deed"] ["self", "kind", "state", "deed"] (defScope (inClass (top 72) 2)) := ⟨rfl, rfl, rfl, by decide +kernel, rfl, by decide +kernel, by decide +kernel⟩
theorem m_placed {C : Addr} (cl : Cls K C) (D : MetT K C "placed" "House.placed" (inClass (top 72) 2) []) (n1 : NoAttr K C "places") : C8.Met P w K mg base 1 C "placed" (spPlaced C) [] := by
  refine met_of cl D sc_placed (fun _ _ _ _ _ _ us hl => match us, hl with | [_, _, _, _], _ => rfl) (fun vs H Q E h => ?_) fun f cdv A outer s H vs Q E hr h => ?_
  · obtain ⟨a, h, k, t, d, rfl, _⟩ := h
    rfl
  · obtain ⟨a, h, k, t, d, rfl, ⟨dx, pl, fs, kvs, h1, h2, h3, h4, h5, h6⟩, q⟩ := h
    refine ⟨_, pss_one (ps_ret (pe_dget1 (hu_of hr) (pe_fld (pv 0) rfl) (pe_tup (pa_cons (pv 1) (pa_cons (pv 2) (pa_cons (pv 3) pa_nil)))) ⟨rfl, rfl, rfl, rfl⟩)), ?_⟩
    refine ⟨_, rfl, a, C, dx, fs, _, rfl, h1, cl, n1, h3, pl, rfl, .inr ⟨kvs, .inl h5⟩, _, rfl, _, rfl, _, rfl, (by show 3 ≤ sizeLine; decide), fun p hp => ?_⟩
    have npl : pl ≠ p := ne_of_none h5 hp
    refine ⟨_, DGet.t (k := [Sum.inr (kS k), Sum.inr (tS t), Sum.inr (dS d)]) (by rw [upd_ne npl]; exact h5) upd_same, ?_⟩
    rw [h6]
    exact q _ (Same.new hp)
theorem map_at {l : List Int} {j : Nat} (h : j < l.length) : (l.map V.int)[j]? = some (V.int (l.getD j 0)) := by
  rw [List.getElem?_map, List.getD_eq_getElem?_getD, List.getElem?_eq_getElem h]
  rfl
theorem int_dec {i j : Int} : decide (V.int i = V.int j) = decide (i = j) := decide_eq_decide.mpr ⟨fun z => by injection z, fun z => by rw [z]⟩
def spPut (C : Addr) (K : PySem.W.Frag) : Sp := fun vs H Q _ => ∃ (a b : Addr) (h : Hm) (s : Sg) (dp : Nat) (d : Dd), vs = [.ref a, .ref b, .int (dp : Int), .str (dS d)] ∧ HouseAt C H a h ∧ SgAt K H b s ∧ dp < s.ms.length ∧
  ∀ H', Same H H' → Q (((putInto h s dp d).map V.int).getD .non) H'
theorem sc_put_into : FnScope ["house", "standing", "depth", "deed", "month", "latest", "place"] ["house", "standing", "depth", "deed"] (defScope (top 39)) := ⟨rfl, rfl, rfl, by decide +kernel, rfl, by decide +kernel, by decide +kernel⟩
theorem c_put_into {C : Addr} (ck : C8.Cal P w K mg base 1 "kind_at" (spKindAt K) []) (mp : C8.Met P w K mg base 1 C "placed" (spPlaced C) []) (D : DefT K mg "put_into" "put_into" "put_into" (top 39) []) : C8.Cal P w K mg base 2 "put_into" (spPut C K) [] := by
  refine cal_of D sc_put_into (fun _ _ _ _ _ _ us hl => match us, hl with | [_, _, _, _], _ => rfl) (fun vs H Q E h => ?_) fun f cdv A outer s H vs Q E hr h => ?_
  · obtain ⟨a, b, h, s, dp, d, rfl, _⟩ := h
    rfl
  · obtain ⟨a, b, h, s, dp, d, rfl, hH, ⟨m, h1, h2⟩, hdp, q⟩ := h
    refine ⟨_, pss_cons (ps_par (i := 4) (j := 5) rfl sc_put_into.nd rfl rfl (by decide) rfl rfl (pa_cons (pe_ix ix_tup (pe_ix ix_tup (pv 1) pe_int (fun _ _ => rfl)) (pv 2) (fun _ _ => rfl)) (pa_cons (pe_ix ix_tup (pv 1) pe_int (fun _ _ => rfl)) pa_nil)) (by rfl))
      (pss_cons (ps_set (i := 6) sc_put_into.nd rfl (Or.inl rfl) (C8.pe_mt mp hr (by decide) (pv 0) (pa_cons (C8.pe_c ck hr (by decide) (by rfl) (pa_cons (pv 1) (pa_cons (pv 2) pa_nil)))
        (pa_cons (pe_ifExp (pt_cmpR op_eq (pv 4) (pv 5) (nomark _)) pe_str pe_str) (pa_cons (pv 3) pa_nil)))))
      (pss_cons (ps_if (pt_cmp (pc_isN (pv 6))) (pss_one (ps_ret pe_non)) pss_nil)
      (pss_one (ps_ret (pe_ifExp (pt_cmpR op_eq (pv 6) pe_str (nomark _)) (pv 5) (pv 4)))))), ?_⟩
    have e1 := atI_nat (map_at hdp)
    refine ⟨_, rfl, b, _, _, _, rfl, rfl, h1, rfl, _, rfl, m, _, _, _, rfl, rfl, h2, e1, _, rfl, b, _, _, _, rfl, rfl, h1, rfl, _, _, rfl, ?_⟩
    obtain ⟨dx, pl, fs, kvs, g1, g2, g3, g4, g5, g6⟩ := id hH
    refine ⟨_, rfl, a, dx, fs, rfl, g1, g4, ?_⟩
    refine ⟨_, rfl, _, rfl, b, s, dp, rfl, ⟨m, h1, h2⟩, ?_⟩
    have st : ∀ (Q' : VK), Q' (.str (tS (if s.ms.getD dp 0 = s.lt then .opn else .shut))) H → tIf (tTest (tOp rEq (tVar 4) (tVar 5))) (tC (.str "open")) (tC (.str "shut")) [some (.ref a), some (.ref b), some (.int (dp : Int)), some (.str (dS d)), some (.int (s.ms.getD dp 0)), some (.int s.lt), none] H Q' := fun Q' hq => by
      refine ⟨_, rfl, _, rfl, rfl, _, rfl, ?_⟩
      rw [int_dec]
      by_cases z : s.ms.getD dp 0 = s.lt
      · rw [if_pos z] at hq
        rw [decide_eq_true z]
        exact iteT hq
      · rw [if_neg z] at hq
        rw [decide_eq_false z]
        exact iteF hq
    refine st _ ⟨_, rfl, ?_⟩
    refine ⟨a, h, kindAt s dp, if s.ms.getD dp 0 = s.lt then .opn else .shut, d, rfl, hH, fun H' e => ?_⟩
    have q2 := q H' e
    unfold putInto at q2
    cases z : h.pl (kindAt s dp) (if s.ms.getD dp 0 = s.lt then .opn else .shut) d with
    | none =>
      rw [z] at q2
      exact ⟨_, rfl, true, rfl, iteT q2⟩
    | some pl =>
      rw [z] at q2
      cases pl with
      | now => exact ⟨_, rfl, false, rfl, iteF ⟨_, rfl, rfl, true, rfl, iteT ⟨_, rfl, q2⟩⟩⟩
      | there => exact ⟨_, rfl, false, rfl, iteF ⟨_, rfl, rfl, false, rfl, iteF ⟨_, rfl, q2⟩⟩⟩
end
end K97
set_option maxHeartbeats 4000000
/-! Rules that the layer lacks: set(list of ints) kept in order; name = {k: v for ..}; enumerate of a tuple. -/
namespace K97
open PySem PySem.Spec PyProof.Rows L2
section
variable {P : Program} {w : World} {A : Around} {E : Value → Shared → Prop} {s : Shared}
abbrev freshSet (w : World) : Obj := { cls := .type "set", dict := none, data := .set #[] 0 (.fresh 0 0 (!w.params.followText "set-order")) }
/-- set.__init__ fed from a list of ints -/
theorem init_set_list {l S : Addr} {items : Array Value} (ns : List Int) {R : Result → Shared → Prop} (hh : A.handled = none) (hl : s.heap.IsList l items) (hit : IntsAre items.toList ns) (hb : ns.length + 1 < scanBound)
    (hS : s.heap.get? S = some (freshSet w)) (hSl : S ≠ l) (hSs : S + 1 = s.heap.objs.size)
    (h : ∀ (h' : Heap) (tk c : Nat), SetR w h' S (fun j => decide (j ∈ ns)) c → c ≤ ns.length → (∀ b o, b ≠ S → s.heap.get? b = some o → h'.get? b = some o) → R (.ok (.ret .none)) { s with heap := h', toks := tk }) :
    codeAny (model P w) A (.call (.builtin "set.__init__") ⟨[.ref S, .ref l], []⟩) R s := by
  have hT : s.TypeIs (.ref S) "set" := ⟨_, hS, rfl⟩
  have hisz : items.size = ns.length := by
    have q := IntsAre.length hit
    rw [Array.length_toList] at q
    exact q
  refine codeAny_call_builtin F.called_set.init.plain F.entry_set_init (check_set_init_1 hT ?_)
  obtain ⟨ol, hol, hcl, nl, hdl⟩ := id hl
  obtain ⟨ocls, odict, odata, oslots⟩ := ol
  simp only at hcl hdl
  subst hcl
  subst hdl
  have hsls := F.sub_list_set
  have hslf := F.sub_list_frozenset
  have hne : (Value.type "list" == Value.type "dict") = false := by decide
  have hl1 : s.heap.IsList l items := ⟨_, hol, rfl, nl, rfl⟩
  have hS0 : s.heap.get? S = some { cls := .type "set", dict := none, data := .set #[] 0 (.fresh 0 0 (!w.params.followText "set-order")) } := hS
  obtain ⟨hp, g, d, tk, os⟩ := s
  unfold Builtin.«set.__init__» noKeywords Builtin.Frozenset.updateFrom
  generalize hPI : pyIter = PI
  wp_walk
  subst hPI
  refine wpAny_pyIter_list hl1 ?_
  refine wpAny_bind (wpAny_runValue ?_)
  have hlS : l < hp.objs.size := Heap.lt_size hol
  have hSS : S < hp.objs.size := Heap.lt_size hS
  have hh3 : A.in1.in1.handled = none := by simp [hh]
  have hneI : l ≠ hp.objs.size := Nat.ne_of_lt hlS
  have hSf : S ∉ [hp.objs.size, l] := by
    simp only [List.mem_cons, List.mem_singleton, List.not_mem_nil, or_false, not_or]
    exact ⟨Nat.ne_of_lt hSS, hSl⟩
  have hval : ∀ (i : Nat) (v : Value), items[i]? = some v → ∃ k t, ns[i]? = some k ∧ v = .int k t := fun i v hv => by
    have hi : i < ns.length := by rw [← hisz]; exact (Array.getElem?_eq_some_iff.mp hv).1
    obtain ⟨t, e⟩ := PyProof.Rows.IntsAre.int_at hit i v (by rw [Array.getElem?_toList]; exact hv)
    exact ⟨ns[i], t, List.getElem?_eq_getElem hi, by rw [e, List.getD_eq_getElem?_getD, List.getElem?_eq_getElem hi] <;> rfl⟩
  refine set_update_ints ((Walks.list hh3 _ l hneI items).toS) S hSf ns hisz hb hval (items.size - 0) 0 _ (by omega) (Nat.zero_le _)
    ⟨⟨_, Heap.get?_push_size _ rfl, rfl, rfl⟩, (hl1.push _)⟩ ⟨0, Nat.le_refl 0, setR_new_at (Heap.get?_push_of_some _ hS)⟩ fun s' c' hm hc' hS' => ?_
  obtain ⟨h', g2, d', tk', os'⟩ := s'
  have eg : g2 = g := hm.gens
  have ed : d' = d := hm.drawn
  have eo : os' = os := hm.os
  subst eg
  subst ed
  subst eo
  show wpAny _ _ _ _ _ _
  refine wpAny_pure ?_
  show wpAny _ _ (ret Value.none) _ _ _
  rw [hisz] at hc'
  refine wpAny_pure (h h' tk' c' hS' hc' fun b o hbS e => ?_)
  refine hm.heap b o ?_ (Heap.get?_push_of_some _ e)
  simp only [List.mem_cons, List.mem_singleton, List.not_mem_nil, or_false, not_or]
  exact ⟨hbS, Nat.ne_of_lt (Heap.lt_size e)⟩
/-- set(l), l a list of ints -/
theorem call_set_lstI {l : Addr} {items : Array Value} (ns : List Int) {Q : Value → Shared → Prop} (hh : A.handled = none) (hl : s.heap.IsList l items) (hit : IntsAre items.toList ns) (hb : ns.length + 1 < scanBound)
    (h : ∀ (h' : Heap) (tk c : Nat), SetR w h' s.heap.objs.size (fun j => decide (j ∈ ns)) c → c ≤ ns.length → (∀ b o, s.heap.get? b = some o → h'.get? b = some o) → Q (.ref s.heap.objs.size) { s with heap := h', toks := tk }) :
    wpAny (model P w) A (call (.type "set") [.ref l]) Q E s := by
  obtain ⟨c, tl, hmro⟩ := F.called_set.mro
  have hmade := F.called_set.made
  have hsub := F.called_set.sub
  refine wpAny_call (codeAny_of_tree ?_)
  show wpAny _ _ (callAny (.type "set") _) _ _ _
  refine wpAny_pure ⟨Code.quiet_builtin _ (by decide +kernel), codeAny_builtin F.entry_type_call ?_⟩
  rw [Around.under_plain (weight_type_call_type "set" [.ref l] []) rfl]
  have h1 := F.called_set.notType
  have h2 := F.called_set.canCreate
  have hct := F.typeCall_set_1 (.ref l)
  repeat (any_goals (first | assumption | wp_step))
  refine codeAny_mono (code_set_led1 (.ref l) (E := E) (Q₁ := fun obj s₁ => obj = .ref s.heap.objs.size ∧ s₁ = { s with heap := s.heap.push (freshSet w) }) ⟨rfl, rfl⟩) fun r s₁ hr => ?_
  have hlS : l < s.heap.objs.size := by
    obtain ⟨o, ho, _⟩ := id hl
    exact Heap.lt_size ho
  cases r with
  | error e => exact hr
  | ok fl =>
    cases fl with
    | ret obj =>
      obtain ⟨rfl, rfl⟩ := hr
      have hS : (s.heap.push (freshSet w)).get? s.heap.objs.size = some (freshSet w) := Heap.get?_push_size _ rfl
      have hT : Shared.TypeIs { s with heap := s.heap.push (freshSet w) } (.ref s.heap.objs.size) "set" := ⟨_, hS, rfl⟩
      have hli := F.called_set.init.lookup
      have hbi := F.called_set.init.bind (.ref s.heap.objs.size)
      repeat (any_goals (first | assumption | wp_step))
      refine codeAny_mono (init_set_list (R := wants (fun r s₂ => r = .none ∧ ∃ h' tk c, s₂ = { s with heap := h', toks := tk } ∧ SetR w h' s.heap.objs.size (fun j => decide (j ∈ ns)) c ∧ c ≤ ns.length ∧ (∀ b o, s.heap.get? b = some o → h'.get? b = some o)) E)
        ns (by simp [hh]) (hl.push _) hit hb hS (Nat.ne_of_gt hlS) (Heap.size_push _ _).symm fun h' tk c hR hc k => ⟨rfl, h', tk, c, rfl, hR, hc, fun b o e => k b o (Nat.ne_of_lt (Heap.lt_size e)) (Heap.get?_push_of_some _ e)⟩) fun r₂ s₂ hr₂ => ?_
      cases r₂ with
      | error e => exact hr₂
      | ok fl₂ =>
        cases fl₂ with
        | ret r =>
          obtain ⟨rfl, h', tk, c', rfl, hS', hc', hk'⟩ := hr₂
          repeat (any_goals (first | assumption | wp_step))
          exact h _ _ _ hS' hc' hk'
        | _ => exact hr₂.elim
    | _ => exact hr.elim
end
/-- set(xs), xs a list of ints -/
def rSetL (K : PySem.W.Frag) (w : World) : List V → Hp → VK → Prop := fun vs H Q => ∃ (a : Addr) (ns : List Int), vs = [V.ref a] ∧ SqL K H a (ns.map V.int) ∧ ns.length + 1 < scanBound ∧
  ∀ (p : Addr) (c : Nat), H p = none → c ≤ ns.length → Q (.ref p) (upd H p (SetO w p (fun j => decide (j ∈ ns)) c))
theorem cr_setL {X : Cx} (hc : X.calm = true) : CallR X (.type "set") (rSetL X.K X.w) := by
  intro pins s σ H vs us Q I r h
  obtain ⟨a, ns, rfl, hq, hb, q⟩ := h
  rw [Vals.ref1 r]
  obtain ⟨its, rv, pl, hz⟩ := I.list hq
  refine call_set_lstI ns (I.ok.hd hc) pl.isList (by simpa using rv.ints) hb fun h' tk c hR hc' k => ?_
  have hn : H s.heap.objs.size = none := I.hok.fresh (Nat.le_refl _)
  exact ⟨.ref _, _, I.laid (a := s.heap.objs.size) (t' := tk) k (Nat.le_refl _) (setO_new hR), rfl, q _ c hn hc'⟩
/-! ### name = {k: v for ..} -/
section
variable {X : Cx}
theorem ps_setDc {i : Nat} {y : Str} {py : Pos} {kx vx tg iter : Expr} {ifs : List Expr} {scope : Scope} {own : List (Str × Nat)} {pos spos : Pos} {wi : TI} {g : TG} {tt : TT} {tk tv : TE} (hc : X.calm = true) (hN : X.N.Nodup) (hy : X.N[i]? = some y) (hyl : X.env.scope.names.lookup y = some .local)
    (hsw : swapsWith (.DictComp kx vx [⟨tg, iter, ifs, 0⟩] scope pos) (some (.Name y py)) spos.line X.env = pure true) (hi : PI X tg iter wi) (ok : BlkOk X.N X.env.scope scope own)
    (hg : ∀ (s : Shared) (H : Hp) (C : Addr) (cl : List (Str × Addr)) (fp : List Addr), PG (X.blk s H scope (compEnvC scope cl C X.env) fp) tg g) (ht : ∀ (s : Shared) (H : Hp) (C : Addr) (cl : List (Str × Addr)) (fp : List Addr), PTs (X.blk s H scope (compEnvC scope cl C X.env) fp) ifs tt)
    (hk : ∀ (s : Shared) (H : Hp) (C : Addr) (cl : List (Str × Addr)) (fp : List Addr), PE (X.blk s H scope (compEnvC scope cl C X.env) fp) kx tk)
    (he : ∀ (s : Shared) (H : Hp) (C : Addr) (cl : List (Str × Addr)) (fp : List Addr), PE (X.blk s H scope (compEnvC scope cl C X.env) fp) vx tv) (hs : ∀ x, foldedSetIterable iter X.env x = pure x := by intro _; rfl) :
    PS X (.Assign [.Name y py] (.DictComp kx vx [⟨tg, iter, ifs, 0⟩] scope pos) spos) (tAsg (tDc wi g tt tk tv (own.map (·.2))) (gName i)) := by
  refine ⟨fun pins s σ H D I h => ?_⟩
  rw [exec_Assign_Name_used _ _ _ _ hsw]
  have h : tDc wi g tt tk tv (own.map (·.2)) σ H (fun x H1 => gName i x σ H1 D.nx) := h
  refine wpAny_bind (wpAny_standAt (wpAny_bind ?_))
  show wpAny _ X.A (do let _ ← comprehension (.DictComp kx vx [⟨tg, iter, ifs, 0⟩] scope pos) scope X.env (firstIterPos [⟨tg, iter, ifs, 0⟩] pos) newDict false (eval iter X.env) (some (assign (.Name y py) X.env))) _ _ s
  refine wpAny_bind (thn (dc_core (Qf := fun _ s' => SP X pins D .next s') hc hN I hi ok hg ht hk he hs h fun L C s' m H' I' q hn f => ?_) fun _ s' hq => wpAny_pure (wpAny_pure hq))
  show wpAny _ _ (assign (.Name y py) X.env (.ref L)) _ _ _
  refine wpAny_assign_Name (store_ok2 (v := V.ref L) I' hN hy (.inl hyl) rfl (fun s2 I2 ⟨a, sb, ha⟩ => ?_) (.inr hyl))
  obtain ⟨f0, f1, f2, f3, f4, f5⟩ := f
  have haC : C ≠ a := by
    rcases ha with z | z
    · rw [z]; exact f1
    · exact fun e => f4 y a z e.symm
  exact ⟨m, hn.sameBut sb haC, fun h3 sb3 => ⟨_, H', I2.turned (t' := s2.toks) (fun b o hb e => (sb3.2 b hb).trans e) f0 f1 f3 f4 f5, q⟩⟩
theorem sw_dc {kx vx : Expr} {gs : List Comprehension} {scope : Scope} {pos py : Pos} {y : Str} {l : Nat} {env : Env} (hk : env.scope.kind = .function) (hy : env.scope.names.lookup y = some .local) (hl : (py.line == pos.line) = true)
    (ha : (scope.names.any fun (n, k) => n == y && (k == .local || k == .cell)) = false) : swapsWith (.DictComp kx vx gs scope pos) (some (.Name y py)) l env = pure true := by
  have ky : env.kindOf y = some .local := hy
  have hb : env.blockKind = .function := by unfold Env.blockKind; rw [hk]; rfl
  unfold swapsWith
  simp only [hb, ky, ha, Expr.pos, hl]
  rfl
/-- over enumerate(list) -/
theorem dc_enum {K : PySem.W.Frag} {a : Addr} {xs : List V} {g : TG} {tt : TT} {tk tv : TE} {vs : List Nat} {σ : L2.St} {H1 : Hp} {D : Addr} {Qd : Hp → Prop} (Pv : Nat → Hp → Prop) (h0 : Pv 0 (upd H1 D (.dK []))) (hl : ∀ i H, i ≤ xs.length → Pv i H → SqL K H a xs)
    (hs : ∀ i x H T, xs[i]? = some x → Pv i H → H T = none → g (.ref T) (wipe σ vs) (upd H T (.tup [.int (i : Nat), x])) fun σ2 H2 => wipe σ2 vs = wipe σ vs ∧ tt σ2 H2 fun b H3 =>
      if b = true then tk σ2 H3 fun y H4 => tv σ2 H4 fun z H5 => ∃ kvs k, y = kV k ∧ H5 D = some (.dK kvs) ∧ kvs.length < sizeLine ∧ Pv (i + 1) (upd H5 D (.dK (putK kvs k z))) else Pv (i + 1) H3) (hd : ∀ H, Pv xs.length H → Qd H) :
    ∃ W : Nat → Nat → Hp → Prop, (∃ m, W 0 m (upd H1 D (.dK []))) ∧ ∀ i m H, W i m H →
      ((Ite K a).stop i H ∧ Qd H) ∨ ((Ite K a).go i H ∧ ∃ Nx : Hp → Prop, (∀ H', Nx H' → ∃ m', m' < m ∧ W (i + 1) m' H') ∧ ∀ x H', (Ite K a).yld i H x H' → g x (wipe σ vs) H' fun σ2 H2 => wipe σ2 vs = wipe σ vs ∧ tt σ2 H2 fun b H3 =>
        if b = true then tk σ2 H3 fun y H4 => tv σ2 H4 fun z H5 => ∃ kvs k, y = kV k ∧ H5 D = some (.dK kvs) ∧ kvs.length < sizeLine ∧ Nx (upd H5 D (.dK (putK kvs k z))) else Nx H3) := by
  refine ⟨fun i m H => m = xs.length - i ∧ i ≤ xs.length ∧ Pv i H, ⟨xs.length, by simp, Nat.zero_le _, h0⟩, ?_⟩
  rintro i m H ⟨rfl, hi, p⟩
  have q := hl i H hi p
  by_cases hlt : i < xs.length
  · refine .inr ⟨⟨xs, xs[i], q, by simp [hlt]⟩, Pv (i + 1), fun H' p' => ⟨xs.length - (i + 1), by omega, rfl, hlt, p'⟩, fun v H' y => ?_⟩
    obtain ⟨T, x, rfl, hT, rfl, y⟩ := y
    exact hs i x _ T (y xs q) p hT
  · have e : i = xs.length := by omega
    subst e
    exact .inl ⟨⟨xs, q, Nat.le_refl _⟩, hd H p⟩
end
/-! ### enumerate(tuple) -/
theorem meets_enum1 {v : Value} {o : Obj} {H : Heap → Prop} (B : Begins v o H) :
    Meets (Builtin.«enumerate.__new__» ⟨[.type "enumerate", v], []⟩) (fun _ R s => H s.heap ∧
      R (.ok (.ret (.ref (s.heap.push o).objs.size))) { s with heap := (s.heap.push o).push { cls := .type "enumerate", data := .fields #[.none, .bool false, .ref s.heap.objs.size, rawInt 0, .none, .none] } }) :=
  .of_wp fun prog w A R s h => by
    obtain ⟨hp, g, d, tk, os⟩ := s
    obtain ⟨h1, h⟩ := h
    have hsub := sub_enumerate
    have hi : ∀ {A : Around} {E : Value → Shared → Prop} {Q : Value → Shared → Prop}, Q (.ref hp.objs.size) ⟨hp.push o, g, d, tk, os⟩ → wpAny (model prog w) A (pyIter v) Q E ⟨hp, g, d, tk, os⟩ := fun {A E Q} q => B.iter prog w A E _ Q h1 q
    wp_walk
    refine wpAny_stack_any fun st => wpAny_pure ?_
    split
    · rename_i c _ _ _ _ _
      cases (c == Value.type "enumerate")
      · wp_walk using hi
        exact ⟨_, rfl, h⟩
      · wp_walk using hi
        exact ⟨_, rfl, h⟩
    · wp_walk using hi
      exact ⟨_, rfl, h⟩
theorem call_enum1 {prog : Program} {w : World} {A : Around} {E : Value → Shared → Prop} {s : Shared} {v : Value} {o : Obj} {H : Heap → Prop} {Q : Value → Shared → Prop} (B : Begins v o H) (h1 : H s.heap)
    (h : ∀ h', IsEnum h' (s.heap.objs.size + 1) s.heap.objs.size 0 .none → h'.get? s.heap.objs.size = some o → (∀ b o, s.heap.get? b = some o → h'.get? b = some o) → Q (.ref (s.heap.objs.size + 1)) { s with heap := h' }) :
    wpAny (model prog w) A (call (.type "enumerate") [v]) Q E s := by
  have hz : (s.heap.push o).objs.size = s.heap.objs.size + 1 := Heap.size_push ..
  have he : IsEnum ((s.heap.push o).push { cls := .type "enumerate", data := .fields #[.none, .bool false, .ref s.heap.objs.size, rawInt 0, .none, .none] }) (s.heap.objs.size + 1) s.heap.objs.size 0 .none := by
    have := Heap.get?_push_size (s.heap.push o) (o := { cls := .type "enumerate", data := .fields #[.none, .bool false, .ref s.heap.objs.size, rawInt 0, .none, .none] }) rfl
    rw [hz] at this
    exact this
  refine callType_new F.called_enumerate (by decide) (F.typeCall_enumerate_1 _) (F.newCall_enumerate_1 _) (fun obj => F.args_object_init_2 obj _) F.entry_enumerate_new (meets_enum1 B) ⟨h1, ?_⟩
  show _ ∧ _
  rw [hz]
  exact ⟨⟨_, he, rfl⟩, h _ he (Heap.get?_push_of_some _ (Heap.get?_push_size _ B.free)) fun b o x => Heap.get?_push_of_some _ (Heap.get?_push_of_some _ x)⟩
/-- the tuple at a, each item in a new pair with its number -/
def Itet (K : PySem.W.Frag) (a : Addr) : It :=
  ⟨fun i H => ∃ (xs : List V) (x : V), SqT K H a xs ∧ xs[i]? = some x, fun i H v H' => ∃ T x, v = .ref T ∧ H T = none ∧ H' = upd H T (.tup [.int (i : Nat), x]) ∧ ∀ xs, SqT K H a xs → xs[i]? = some x, fun i H => ∃ xs : List V, SqT K H a xs ∧ xs.length = i⟩
theorem turn_enumT {P : Program} {w : World} {K : PySem.W.Frag} {elts : List Expr} {kk : Nat} {tpos : Pos} (a e it : Addr) (hei : e ≠ it) (hea : e ≠ a) (hai : a ≠ it) :
    Turn P w K (.Tuple elts kk tpos) (Itet K a) [e, it] e (fun i h => (∃ old, IsEnum h e it ((i : Nat) : Int) old) ∧ h.IsTupleIter it a i) where
  mem := by simp
  obj := fun i h st b hb => by
    obtain ⟨⟨old, he⟩, ⟨o, ho, hc, hd⟩⟩ := st
    have e' : b = e ∨ b = it := by simpa using hb
    rcases e' with z | z
    · rw [z]; exact ⟨_, he, fun v q => nomatch q⟩
    · rw [z]; exact ⟨o, ho, fun v q => by rw [hd] at q; cases q⟩
  keep := fun i h h' st k => let ⟨⟨old, he⟩, hi⟩ := st; ⟨⟨old, k e (by simp) _ he⟩, hi.at fun o q => k it (by simp) o q⟩
  item := by
    intro X hP hw hK hc i pins s σ H E I hf st hg
    subst hP hw hK
    obtain ⟨⟨old, he⟩, hit⟩ := st
    obtain ⟨xs, x, hq, hx⟩ := hg
    obtain ⟨its, rv, p, hz⟩ := I.tuple hq
    obtain ⟨u, hu, ru⟩ := rv.get hx
    have hel : e < s.heap.objs.size := Heap.lt_size he
    have hil : it < s.heap.objs.size := by obtain ⟨_, q, _⟩ := hit; exact Heap.lt_size q
    have hlt : i < its.toArray.size := by
      rw [List.size_toArray]
      exact (List.getElem?_eq_some_iff.mp hu).1
    refine wpAny_pyNext_enum_itemD (Draws.tuple (A := X.A.in1) (by simpa using I.ok.hd hc) it a hai its.toArray) he ⟨hit, p⟩ hlt hei (by simp [hei, hea]) fun y h' tk hy ho hst' hT hsz hk => ?_
    obtain ⟨hit', ht'⟩ := hst'
    have eyu : y = u := by
      have q : its[i]? = some y := by simpa using hy
      rw [hu] at q
      exact (Option.some.inj q).symm
    subst eyu
    refine ⟨_, rfl, wpAny_letOwnedTupleGo_enum (s := { s with heap := h', toks := tk + 1 }) ho fun h'' he' sb => ?_⟩
    have hT2 : h''.get? s.heap.objs.size = some { cls := .type "tuple", data := .seq #[.int i tk, y] } := (sb.2 _ (Nat.ne_of_gt hel)).trans hT
    have new : ObjOk X.prog X.w (upd H s.heap.objs.size (.tup [.int (i : Nat), x])) h'' s.heap.objs.size (.tup [.int (i : Nat), x]) :=
      ⟨by show 2 ≤ sizeLine; decide, [.int i tk, y], .cons ⟨_, rfl⟩ (.cons ru .nil), ⟨_, hT2, rfl, _, rfl⟩⟩
    have I1 : Inv X pins σ (upd H s.heap.objs.size (.tup [.int (i : Nat), x])) { s with heap := h'', toks := tk + 1 } :=
      I.turnedNew (ch := [e, it]) (fun b ob hb q => (sb.2 b (fun z => hb (by simp [z]))).trans (hk b ob (fun z => hb (by simp [z])) (fun z => hb (by simp [z])) q)) hf (Nat.le_refl _) new
    refine ⟨.ref s.heap.objs.size, _, I1, rfl, ⟨_, x, rfl, I.hok.fresh (Nat.le_refl _), rfl, fun ys hy => by rw [I.tuple_inj hy hq]; exact hx⟩, ⟨⟨y, ?_⟩, hit'.at fun o q => (sb.2 it (Ne.symm hei)).trans q⟩, fun b hb => ?_⟩
    · have e1 : ((i + 1 : Nat) : Int) = (i : Int) + 1 := by omega
      rw [e1]; exact he'
    · have hb' : b < s.heap.objs.size := by
        have e' : b = e ∨ b = it := by simpa using hb
        rcases e' with z | z
        · rw [z]; exact hel
        · rw [z]; exact hil
      rw [upd_ne (Nat.ne_of_lt hb')]
      exact (hf b hb).1
  done := by
    intro X hP hw hK hc i pins s σ H E I hf st hg
    subst hP hw hK
    obtain ⟨⟨old, he⟩, hit⟩ := st
    obtain ⟨xs, hq, hx⟩ := hg
    obtain ⟨its, rv, p, hz⟩ := I.tuple hq
    obtain ⟨f0, f1, f2, f3, f4, f5⟩ := hf it (by simp)
    have e : its.toArray.size = i := by rw [List.size_toArray, ← rv.length, hx]
    exact wpAny_pyNext_enum_endD (Draws.tuple (A := X.A.in1) (by simpa using I.ok.hd hc) it a hai its.toArray) he ⟨by rw [e]; exact hit, p⟩ fun h' eb => ⟨rfl, I.turned (t' := s.toks) (fun b o hb q => eb b o hb q) f0 f1 f3 f4 f5⟩
  self := fun A i s Q E st h => let ⟨⟨_, he⟩, _⟩ := st; wpAny_pyIter_enum he h
def iEnumT (K : PySem.W.Frag) (ta : TA) : TI := fun σ H R => ta σ H fun vs H1 => ∃ a xs, vs = [.ref a] ∧ SqT K H1 a xs ∧ R (Itet K a) H1
theorem pi_enumT {X : Cx} {e : Expr} {ta : TA} {p pos tpos : Pos} {elts : List Expr} {kk : Nat} (hg : Gl X "enumerate") (hm : X.mg "enumerate" = none) (ha : PA X [e] ta) (hs : starEach [e] X.env = [(false, eval e X.env)] := by rfl) :
    PI X (.Tuple elts kk tpos) (.Call (.Name "enumerate" p) [e] [] pos) (iEnumT X.K ta) := by
  refine ⟨fun pins s σ H R I h => ?_⟩
  refine Call_ (ld_blt I hg hm boot_enumerate (PyProof.Rows.callWith_type1 (thn (ha.run pos pins s σ H _ I h) fun us s1 ⟨vs, H1, I1, r1, q1⟩ => ?_) hs rfl))
  obtain ⟨a, xs, ex, hq, q⟩ := q1
  subst ex
  rw [Vals.ref1 r1]
  obtain ⟨its, rv, p', hz⟩ := I1.tuple hq
  have ha1 : a < s1.heap.objs.size := by
    obtain ⟨o, ho, _⟩ := id p'
    exact Heap.lt_size ho
  refine call_enum1 (begins_tuple a its.toArray) p' fun h' he hit hk => wpAny_pyIter_enum he ?_
  have I2 : Inv X pins σ H1 { s1 with heap := h' } := I1.kept (t' := s1.toks) hk
  refine ⟨s1.heap.objs.size + 1, [s1.heap.objs.size + 1, s1.heap.objs.size], _, _, H1, rfl, I2, turn_enumT a (s1.heap.objs.size + 1) s1.heap.objs.size (Nat.succ_ne_self _) (Nat.ne_of_gt (Nat.lt_succ_of_lt ha1)) (Nat.ne_of_lt ha1), ⟨⟨.none, he⟩, ⟨_, hit, rfl, rfl⟩⟩, fun b hb => ?_, q⟩
  have e' : b = s1.heap.objs.size + 1 ∨ b = s1.heap.objs.size := by simpa using hb
  have hle : s1.heap.objs.size ≤ b := by
    rcases e' with z | z
    · rw [z]; exact Nat.le_add_right _ _
    · rw [z]; exact Nat.le_refl _
  exact I1.fpOk hle (I1.hok.fresh hle)
end K97
set_option maxHeartbeats 4000000
namespace K97
open PySem PySem.Spec PyProof.Rows L2
theorem walk_enumT {K : PySem.W.Frag} {a : Addr} {xs : List V} : Walk (Itet K a) xs.length (fun H => SqT K H a xs) (fun i H v H' => ∃ T x, v = .ref T ∧ H T = none ∧ H' = upd H T (.tup [.int (i : Nat), x]) ∧ xs[i]? = some x) :=
  ⟨fun i _ hi q => ⟨xs, xs[i], q, by simp [hi]⟩, fun _ q => ⟨xs, q, rfl⟩, fun i H v H' _ q y => by
    obtain ⟨T, x, e1, e2, e3, e4⟩ := y
    exact ⟨T, x, e1, e2, e3, e4 xs q⟩⟩
/-- all but lists and what is told by a wish stands as it did -/
def Kin (H H' : Hp) : Prop := ∀ b o, (∀ l, o ≠ .lst l) → (∀ φ, o ≠ .ext φ) → H b = some o → H' b = some o
theorem Kin.upd {H : Hp} {D : Addr} {l l' : List V} (h : H D = some (.lst l)) : Kin H (upd H D (.lst l')) := fun b o ho _ e => by
  rw [upd_ne fun z => ?_]
  · exact e
  · rw [z, h] at e
    exact ho l (Option.some.inj e).symm
theorem Same.kin {H H' : Hp} (e : Same H H') : Kin H H' := fun b o _ _ h => e b o h
/-- all but what stands at two places is as it was -/
def B2 (f d : Addr) (H H' : Hp) : Prop := ∀ b o, b ≠ f → b ≠ d → H b = some o → H' b = some o
theorem B2.refl (f d : Addr) (H : Hp) : B2 f d H H := fun _ _ _ _ h => h
theorem B2.trans {f d : Addr} {H H1 H2 : Hp} (a : B2 f d H H1) (b : B2 f d H1 H2) : B2 f d H H2 := fun c o h1 h2 h => b c o h1 h2 (a c o h1 h2 h)
theorem Same.b2 {f d : Addr} {H H' : Hp} (e : Same H H') : B2 f d H H' := fun b o _ _ h => e b o h
theorem B2.setF {f d : Addr} {H : Hp} {o : HO} : B2 f d H (upd H f o) := fun b u hb _ h => by rw [upd_ne hb]; exact h
theorem B2.setD {f d : Addr} {H : Hp} {o : HO} : B2 f d H (upd H d o) := fun b u _ hb h => by rw [upd_ne hb]; exact h
theorem B2.kin {f d : Addr} {H H' : Hp} {l : List V} {φ : Heap → Prop} (e : B2 f d H H') (hf : H f = some (.lst l)) (hd : H d = some (.ext φ)) : Kin H H' := fun b o h1 h2 h => by
  refine e b o (fun z => ?_) (fun z => ?_) h
  · rw [z, hf] at h
    exact h1 _ (Option.some.inj h).symm
  · rw [z, hd] at h
    exact h2 _ (Option.some.inj h).symm
/-- nothing that stood ahead of the two is touched -/
theorem B2.same {f d : Addr} {H0 H H' : Hp} (e : B2 f d H H') (s : Same H0 H) (hf : H0 f = none) (hd : H0 d = none) : Same H0 H' := fun b o h => e b o (ne_of_none h hf) (ne_of_none h hd) (s b o h)
/-- a comprehension without test that makes, at each turn, a value of its own; what stood stands -/
theorem lc_keep {J : It} {G : Hp → Prop} {xs : List V} (w : Walk J xs.length G (YAt xs)) {g : TG} {tt : TT} {te : TE} {vs : List Nat} {σ : L2.St} {H1 : Hp} {D : Addr} {Qd : Hp → Prop} (R : Nat → V → Hp → Prop) (hR : ∀ i y H H', Kin H H' → R i y H → R i y H')
    (hG : ∀ H, Same H1 H → G H) (hz : xs.length ≤ sizeLine) (hD : H1 D = none)
    (hs : ∀ i x H (C : VK), xs[i]? = some x → Same H1 H → (∀ y H4, Same H H4 → R i y H4 → C y H4) → g x (wipe σ vs) H fun σ2 H2 => wipe σ2 vs = wipe σ vs ∧ tt σ2 H2 fun b H3 => b = true ∧ te σ2 H3 C)
    (mono : ∀ σ H Q Q', (∀ b H1, Q b H1 → Q' b H1) → tt σ H Q → tt σ H Q') (mg : ∀ x σ H Q Q', (∀ σ1 H1, Q σ1 H1 → Q' σ1 H1) → g x σ H Q → g x σ H Q')
    (hd : ∀ H ys, Same H1 H → H D = some (.lst ys) → ys.length = xs.length → (∀ i y, ys[i]? = some y → R i y H) → Qd H) :
    ∃ W : Nat → Nat → Hp → Prop, (∃ m, W 0 m (upd H1 D (.lst []))) ∧ ∀ i m H, W i m H →
      (J.stop i H ∧ Qd H) ∨ (J.go i H ∧ ∃ Nx : Hp → Prop, (∀ H', Nx H' → ∃ m', m' < m ∧ W (i + 1) m' H') ∧ ∀ x H', J.yld i H x H' → g x (wipe σ vs) H' fun σ2 H2 => wipe σ2 vs = wipe σ vs ∧ tt σ2 H2 fun b H3 =>
        if b = true then te σ2 H3 fun y H4 => ∃ acc, H4 D = some (.lst acc) ∧ acc.length < sizeLine ∧ Nx (upd H4 D (.lst (acc ++ [y]))) else Nx H3) := by
  refine lc_it w (fun i H => Same H1 H ∧ ∃ ys, H D = some (.lst ys) ∧ ys.length = i ∧ ∀ j y, ys[j]? = some y → R j y H) ⟨Same.new hD, [], upd_same, rfl, fun j y e => by simp at e⟩ (fun i H _ p => hG H p.1) (fun i x H H' hi p y => ?_) (fun H p => ?_)
  · obtain ⟨e, q⟩ := p
    obtain ⟨ys, h1, h2, h3⟩ := q
    obtain ⟨rfl, hx⟩ := y
    refine mg _ _ _ _ _ (fun σ1 H2 z => ⟨z.1, mono _ _ _ _ (fun b H3 z2 => ?_) z.2⟩) (hs i x H' (fun y H4 => ∃ acc, H4 D = some (.lst acc) ∧ acc.length < sizeLine ∧ Same H1 (upd H4 D (.lst (acc ++ [y]))) ∧ ∃ ys, upd H4 D (.lst (acc ++ [y])) D = some (.lst ys) ∧ ys.length = i + 1 ∧ ∀ j y', ys[j]? = some y' → R j y' (upd H4 D (.lst (acc ++ [y])))) hx e fun y H4 e4 r => ?_)
    · obtain ⟨rfl, z2⟩ := z2
      exact iteT z2
    · have e5 : ∀ j y', R j y' H4 → R j y' (upd H4 D (.lst (ys ++ [y]))) := fun j y' r' => hR _ _ _ _ (Kin.upd (e4 _ _ h1)) r'
      refine ⟨ys, e4 _ _ h1, by omega, Same.mut (e.trans e4) hD, ys ++ [y], upd_same, by simp [h2], fun j y' hj => ?_⟩
      rw [List.getElem?_append] at hj
      split at hj
      · exact e5 _ _ (hR _ _ _ _ (Same.kin e4) (h3 j y' hj))
      · rename_i hlt
        have e6 : j - ys.length = 0 := by
          cases hjz : j - ys.length with
          | zero => rfl
          | succ n => rw [hjz] at hj; simp at hj
        rw [e6] at hj
        have e7 : y' = y := by simpa using hj.symm
        have e8 : j = i := by omega
        rw [e7, e8]
        exact e5 _ _ r
  · obtain ⟨e, ys, h1, h2, h3⟩ := p
    exact hd H ys e h1 h2 h3
end K97
set_option maxHeartbeats 4000000
namespace K97
open PySem PySem.Spec PyProof.Rows L2
section
variable {P : Program} {w : World} {K : PySem.W.Frag} {mg : Str → Option Value} {base : Heap}
theorem idx_at {k : List Int} {i : Nat} {x : Int} (pw : k.Pairwise (· < ·)) (h : k[i]? = some x) : idx k x = (i : Int) := by
  obtain ⟨hi, hx⟩ := List.getElem?_eq_some_iff.mp h
  unfold idx
  rw [(List.findIdx_eq hi).mpr ⟨by simp [hx], fun j hj => ?_⟩]
  have := List.pairwise_iff_getElem.mp pw j i (by omega) hi hj
  rw [hx] at this
  simp
  omega
theorem not_mem_take {k : List Int} {i : Nat} {x : Int} (pw : k.Pairwise (· < ·)) (h : k[i]? = some x) : ¬ x ∈ k.take i := fun m => by
  obtain ⟨hi, hx⟩ := List.getElem?_eq_some_iff.mp h
  obtain ⟨j, hj, e⟩ := List.mem_take_iff_getElem.mp m
  have := List.pairwise_iff_getElem.mp pw j i (by omega) hi (by omega)
  rw [hx, e] at this
  omega
theorem none_of_same {H H' : Hp} {p : Addr} (e : Same H H') (h : H' p = none) : H p = none := by
  cases x : H p with
  | none => rfl
  | some o => rw [e _ _ x] at h; cases h
abbrev nRanked : List Str := ["standing", "deed", "months", "is_new", "is_righted", "is_hit", "latest", "known", "ranks", "month", "rank"]
theorem sc_ranked : FnScope nRanked ["standing"] (defScope (top 37)) := ⟨rfl, rfl, rfl, by decide +kernel, rfl, by decide +kernel, by decide +kernel⟩
def spRanked (K : PySem.W.Frag) : Sp := fun vs H Q _ => ∃ (a m : Addr) (d l : Int) (ms : List Int) (nw rt : Bool), vs = [.ref a] ∧ SqT K H a [.int d, .ref m, .bl nw, .bl rt, .bl false, .int l] ∧ SqT K H m (ms.map V.int) ∧ ms.length ≤ 6 ∧
  ∀ H' p, Same H H' → H p = none → SgAt K H' p (ranked d ms nw rt l) → Q (.ref p) H'
theorem c_ranked (fr : Free mg) (D : DefT K mg "ranked" "ranked" "ranked" (top 37) []) : C8.Cal P w K mg base 1 "ranked" (spRanked K) [] := by
  refine cal_of D sc_ranked (fun _ _ _ _ _ _ us hl => match us, hl with | [_], _ => rfl) (fun vs H Q E h => ?_) fun f cdv A outer s H vs Q E hr h => ?_
  · obtain ⟨a, m, d, l, ms, nw, rt, rfl, _⟩ := h
    rfl
  · obtain ⟨a, m, d, l, ms, nw, rt, rfl, h1, h2, h6, q⟩ := h
    have nd := sc_ranked.nd
    refine ⟨_, (pss_cons (ps_asg (pv 0) (pg_tup (by rfl) (pgs_cons (pg_name (i := 1) nd rfl (.inl rfl)) (pgs_cons (pg_name (i := 2) nd rfl (.inl rfl)) (pgs_cons (pg_name (i := 3) nd rfl (.inl rfl)) (pgs_cons (pg_name (i := 4) nd rfl (.inl rfl)) (pgs_cons (pg_name (i := 5) nd rfl (.inl rfl)) (pgs_cons (pg_name (i := 6) nd rfl (.inl rfl)) pgs_nil))))))))
      (pss_cons (ps_set (i := 7) nd rfl (.inl rfl) (pe_callB (cr_sortedSet rfl) (by rfl) fr.sorted (by decide +kernel) (pa_cons (pe_callTy (cr_setL rfl) (by rfl) fr.set (by decide +kernel) (pa_cons (pe_lc (own := [("month", 9)]) (g := gName 9) (by rfl) nd (pi_tup (pe_tup (pa_cons (pv 1) (StX.pa_star (pv 2) (pa_cons (pv 6) pa_nil))))) (blkOk_by (own := [("month", 9)]) (N := nRanked) (sc := defScope (top 37)) (by decide +kernel)) (fun _ _ _ _ _ => (pg_name (i := 9) nd rfl (.inl rfl))) (fun _ _ _ _ _ => pts_nil) (fun _ _ _ _ _ => (pe_callTy call_int1 (by rfl) fr.int (by decide +kernel) (pa_cons (pv 9) pa_nil)))) pa_nil)) pa_nil)))
      (pss_cons (ps_set (i := 8) nd rfl (.inr rfl) (pe_dc (own := [("rank", 10), ("month", 9)]) (g := gTup K 2 (gCons (gName 10) (gCons (gName 9) gNil))) (by rfl) nd (pi_enum (by rfl) fr.enumerate (pa_cons (pv 7) pa_nil)) (blkOk_by (own := [("rank", 10), ("month", 9)]) (N := nRanked) (sc := defScope (top 37)) (by decide +kernel)) (fun _ _ _ _ _ => (pg_tup (by rfl) (pgs_cons (pg_name (i := 10) nd rfl (.inl rfl)) (pgs_cons (pg_name (i := 9) nd rfl (.inl rfl)) pgs_nil)))) (fun _ _ _ _ _ => pts_nil) (fun _ _ _ _ _ => (pv 9)) (fun _ _ _ _ _ => (pv 10))))
      (pss_one (ps_ret (pe_tup (pa_cons (pe_dget (hu_of hr) (pv 8) (pv 1) (fun _ _ => rfl)) (pa_cons (pe_callTy call_tuple_of (by rfl) fr.tuple (by decide +kernel) (pa_cons (pe_lc (own := [("month", 9)]) (g := gName 9) (by rfl) nd (pi_tup (pv 2)) (blkOk_by (own := [("month", 9)]) (N := nRanked) (sc := defScope (top 37)) (by decide +kernel)) (fun _ _ _ _ _ => (pg_name (i := 9) nd rfl (.inl rfl))) (fun _ _ _ _ _ => pts_nil) (fun _ _ _ _ _ => (pe_dget (hu_of hr) (pv 8) (pv 9) (fun _ _ => rfl)))) pa_nil)) (pa_cons (pv 3) (pa_cons (pv 4) (pa_cons (pv 5) (pa_cons (pe_dget (hu_of hr) (pv 8) (pv 6) (fun _ _ => rfl)) pa_nil)))))))))))), ?_⟩
    refine ⟨_, rfl, a, _, rfl, h1, rfl, _, _, rfl, _, _, rfl, _, _, rfl, _, _, rfl, _, _, rfl, _, _, rfl, rfl, ?_⟩
    let L : List Int := d :: (ms ++ [l])
    have hL : L.length = ms.length + 2 := by simp [L]
    have eL : V.int d :: (ms.map V.int ++ [V.int l]) = L.map V.int := by simp [L]
    have hsz : L.length ≤ 8 := by omega
    refine ⟨_, rfl, _, rfl, m, _, rfl, .inl h2, _, rfl, (by simp only [List.length_cons, List.length_append, List.length_map, List.length_nil]; have : sizeLine = 16777216 := rfl; omega), fun t ht => ⟨t, rfl, ⟨_, SqT.of upd_same⟩, fun D hD => ?_⟩⟩
    have s1 : Same H (upd H t (.tup (L.map V.int))) := Same.new ht
    refine lc_keep (xs := L.map V.int) walk_tup (fun i y _ => (L.map V.int)[i]? = some y) (fun _ _ _ _ _ h => h) (fun H' e => SqT.of (e _ _ (by rw [← eL]; exact upd_same))) (by rw [List.length_map]; have : sizeLine = 16777216 := rfl; omega) hD
      (fun i x H' C hx e hC => ?_) (fun σ H' Q Q' h t => h _ _ t) (fun x σ H' Q Q' h t => h _ _ t) (fun H2 ys e2 hys hyl hyy => ?_)
    · obtain ⟨z, rfl⟩ : ∃ z, x = V.int z := by
        rw [List.getElem?_map] at hx
        cases e : L[i]? with
        | none => rw [e] at hx; cases hx
        | some z => rw [e] at hx; exact ⟨z, (Option.some.inj hx).symm⟩
      exact ⟨rfl, rfl, _, rfl, .inl ⟨_, rfl, hC _ _ (fun _ _ h => h) hx⟩⟩
    · have ey : ys = L.map V.int := List.ext_getElem? fun i => by
        by_cases hi : i < ys.length
        · rw [List.getElem?_eq_getElem hi]
          exact (hyy i _ (List.getElem?_eq_getElem hi)).symm
        · rw [List.getElem?_eq_none (by omega), List.getElem?_eq_none (by omega)]
      subst ey
      refine ⟨D, L, rfl, SqL.of hys, (by show L.length + 1 < _; have : scanBound > 100 := by decide
                                         omega), fun p c hp hc => ⟨p, _, c, rfl, upd_same, by omega, fun ns q' pw mem len hq => ?_⟩⟩
      have ens : ns = sset L := sset_unique pw fun z => by rw [mem]; simp
      subst ens
      have hu := hu_of hr
      let H3 : Hp := upd (upd H2 p (SetO w p (fun j => decide (j ∈ L)) c)) q' (.lst ((sset L).map V.int))
      have hk3 : H3 q' = some (.lst ((sset L).map V.int)) := upd_same
      have e3 : Same H H3 := Same.newR (Same.newR (s1.trans (eL ▸ e2)) hp) hq
      refine ⟨_, rfl, q', _, rfl, SqL.of hk3, fun D2 hD2 => ?_⟩
      refine dc_enum (xs := (sset L).map V.int) (fun i H' => Same H3 H' ∧ ∃ kvs : List (Key × V), H' D2 = some (.dK kvs) ∧ kvs.length = i ∧ ∀ x : Int, valV kvs (Sum.inl x) = if x ∈ (sset L).take i then some (V.int (idx (sset L) x)) else none)
        ⟨Same.new hD2, [], upd_same, rfl, fun x => by simp [valV_nil]⟩ (fun i H' _ p => SqL.of (p.1 _ _ hk3)) (fun i x H' T hx p hT => ?_) (fun H5 p5 => ?_)
      · obtain ⟨f1, kvs, f2, f3, f4⟩ := p
        obtain ⟨z, hz, rfl⟩ : ∃ z, (sset L)[i]? = some z ∧ x = V.int z := by
          rw [List.getElem?_map] at hx
          cases e : (sset L)[i]? with
          | none => rw [e] at hx; cases hx
          | some z => rw [e] at hx; exact ⟨z, rfl, (Option.some.inj hx).symm⟩
        have hil : i < (sset L).length := (List.getElem?_eq_some_iff.mp hz).1
        have hv : valV kvs (Sum.inl z) = none := by rw [f4, if_neg (not_mem_take (pw_sset L) hz)]
        refine ⟨T, _, rfl, SqT.of upd_same, rfl, _, _, rfl, _, _, rfl, rfl, rfl, ?_⟩
        refine ⟨_, rfl, _, rfl, kvs, Sum.inl z, rfl, (by rw [upd_ne (ne_of_none f2 hT)]; exact f2), (by have : sizeLine = 16777216 := rfl; omega), ?_⟩
        refine ⟨fun b o ho => ?_, _, upd_same, ?_, fun x => ?_⟩
        · have hb := f1 b o ho
          rw [upd_ne (ne_of_none ho hD2), upd_ne (ne_of_none hb hT)]
          exact hb
        · rw [putK_new _ hv]; simp [f3]
        · rw [valV_put, f4, List.take_add_one, hz]
          by_cases ex : x = z
          · subst ex
            rw [if_pos rfl, if_pos (by simp), idx_at (pw_sset L) hz]
          · rw [if_neg (fun e => ex (by injection e))]
            simp [ex]
      · obtain ⟨f1, kvs, f2, f3, f4⟩ := p5
        rw [List.length_map, List.take_length] at f4
        have dg : ∀ H' x, Same H5 H' → x ∈ L → DGet H' D2 (.int x) (some (.int (idx (sset L) x))) := fun H' x e hx => by
          have := DGet.k (k := Sum.inl x) (e _ _ f2)
          rw [f4, if_pos ((mem_sset x L).mpr hx)] at this
          exact this
        have e5 : Same H H5 := e3.trans f1
        refine ⟨_, rfl, _, rfl, D2, _, rfl, dg _ d (fun _ _ h => h) (by simp [L]), ?_⟩
        refine ⟨_, rfl, m, rfl, ⟨_, Same.seqT e5 h2⟩, fun D3 hD3 => ?_⟩
        refine lc_keep (xs := ms.map V.int) walk_tup (fun i y _ => (ms.map fun z => V.int (idx (sset L) z))[i]? = some y) (fun _ _ _ _ _ h => h) (fun H' e => Same.seqT e (Same.seqT e5 h2)) (by rw [List.length_map]; have : sizeLine = 16777216 := rfl; omega) hD3
          (fun i x H' C hx e hC => ?_) (fun σ H' Q Q' h t => h _ _ t) (fun x σ H' Q Q' h t => h _ _ t) (fun H6 ys6 e6 hys6 hyl6 hyy6 => ?_)
        · rw [List.getElem?_map] at hx
          cases ez : ms[i]? with
          | none => rw [ez] at hx; cases hx
          | some z =>
            rw [ez] at hx
            obtain rfl := (Option.some.inj hx).symm
            refine ⟨rfl, rfl, _, rfl, _, rfl, D2, _, rfl, dg _ z e (by simp [L]; exact .inr (.inl (List.mem_of_getElem? ez))), hC _ _ (fun _ _ h => h) ?_⟩
            rw [List.getElem?_map, ez]; rfl
        · have ey : ys6 = ms.map fun z => V.int (idx (sset L) z) := List.ext_getElem? fun i => by
            by_cases hi : i < ys6.length
            · rw [List.getElem?_eq_getElem hi]
              exact (hyy6 i _ (List.getElem?_eq_getElem hi)).symm
            · rw [List.getElem?_eq_none (by omega), List.getElem?_eq_none (by rw [List.length_map] at hyl6 ⊢; omega)]
          subst ey
          refine ⟨D3, _, rfl, .inl ⟨SqL.of hys6, fun t6 ht6 => ?_⟩⟩
          have e7 : Same H5 (upd H6 t6 (.tup (ms.map fun z => V.int (idx (sset L) z)))) := Same.newR e6 ht6
          refine ⟨_, rfl, _, rfl, _, rfl, _, rfl, _, rfl, D2, _, rfl, dg _ l e7 (by simp [L]), (by have : sizeLine = 16777216 := rfl; simp only [List.length_cons, List.length_nil]; omega), fun p8 hp8 => ?_⟩
          refine q _ p8 (Same.newR (e5.trans e7) hp8) ?_ ⟨t6, SqT.of upd_same, SqT.of ?_⟩
          · exact (none_of_same e5 (none_of_same e7 hp8))
          · rw [upd_ne (fun z => by rw [z, upd_same] at hp8; cases hp8), upd_same]
            simp [ranked, L]
end
end K97
set_option maxHeartbeats 4000000
namespace K97
open PySem PySem.Spec PyProof.Rows L2
theorem szl {n : Nat} (h : n ≤ 1000000) : n ≤ sizeLine := by have : sizeLine = 16777216 := rfl; omega
theorem szlt {n : Nat} (h : n ≤ 1000000) : n < sizeLine := by have : sizeLine = 16777216 := rfl; omega
theorem map_last {l : List Int} (h : 1 ≤ l.length) : atI (l.map V.int) (-1) = some (V.int (l.getD (l.length - 1) 0)) := by
  obtain ⟨r, x, rfl⟩ : ∃ r x, l = r ++ [x] := ⟨l.dropLast, l.getLast (by intro z; rw [z] at h; simp at h), (dropLast_last _).symm⟩
  have := atI_last (r.map V.int) (V.int x)
  rw [List.map_append]
  show atI (r.map V.int ++ [V.int x]) (-1) = _
  rw [this]
  simp
theorem Kin.trans {H H1 H2 : Hp} (a : Kin H H1) (b : Kin H1 H2) : Kin H H2 := fun c o ho hp h => b c o ho hp (a c o ho hp h)
theorem Kin.seqT {K : PySem.W.Frag} {H H' : Hp} {a : Addr} {xs : List V} (e : Kin H H') (h : SqT K H a xs) : SqT K H' a xs := by
  rcases h with (h | ⟨o, h⟩) | h
  · exact .inl (.inl (e _ _ (fun _ z => by cases z) (fun _ z => by cases z) h))
  · exact .inl (.inr ⟨o, e _ _ (fun _ z => by cases z) (fun _ z => by cases z) h⟩)
  · exact .inr h
theorem SgAt.kin {K : PySem.W.Frag} {H H' : Hp} {a : Addr} {s : Sg} (e : Kin H H') (h : SgAt K H a s) : SgAt K H' a s := by
  obtain ⟨m, h1, h2⟩ := h
  exact ⟨m, e.seqT h1, e.seqT h2⟩
theorem MdAt.kin {C : Addr} {H H' : Hp} {a : Addr} {m : Md} (e : Kin H H') (h : MdAt C H a m) : MdAt C H' a m := by
  obtain ⟨dx, q, h1, h2⟩ := h
  exact ⟨dx, q, e _ _ (fun _ z => by cases z) (fun _ z => by cases z) h1, e _ _ (fun _ z => by cases z) (fun _ z => by cases z) h2⟩
theorem StAt.kin {CS CM : Addr} {K : PySem.W.Frag} {H H' : Hp} {a : Addr} {st : Stp} (e : Kin H H') (h : StAt CS CM K H a st) : StAt CS CM K H' a st := by
  obtain ⟨dx, b, m, t, bs, ms, h⟩ := h
  exact ⟨dx, b, m, t, bs, ms, e _ _ (fun _ z => by cases z) (fun _ z => by cases z) h.ob, e.seqT h.bt, Paired.mapP h.bh fun _ _ z => z.kin e, e.seqT h.mt, Paired.mapP h.md fun _ _ z => z.kin e, e.seqT h.tt⟩
theorem HouseAt.kin {C : Addr} {H H' : Hp} {a : Addr} {h : Hm} (e : Kin H H') (x : HouseAt C H a h) : HouseAt C H' a h := by
  obtain ⟨dx, d, fs, kvs, h1, h2, h3, h4, h5, h6⟩ := x
  exact ⟨dx, d, fs, kvs, e _ _ (fun _ z => by cases z) (fun _ z => by cases z) h1, h2, h3, h4, e _ _ (fun _ z => by cases z) (fun _ z => by cases z) h5, h6⟩
theorem tif_keep {c : TT} {t1 t2 : TE} {σ : L2.St} {H : Hp} {Q : VK} (R : V → Hp → Prop) (h : ∀ Q' : VK, (∀ v H', Same H H' → R v H' → Q' v H') → tIf c t1 t2 σ H Q') (q : ∀ v H', Same H H' → R v H' → Q v H') : tIf c t1 t2 σ H Q := h Q q
theorem takes_eq (h : Hm) (s : Sg) : takes h s = [Dd.whole, .part].flatMap (takeOf h s) := by simp [takes]
section
variable {P : Program} {w : World} {K : PySem.W.Frag} {mg : Str → Option Value} {base : Heap}
/-! ### opposed -/
theorem sc_opposed : FnScope ["standing", "month", "is_righted", "deed", "months", "is_new", "was_righted", "is_hit", "latest", "behind"] ["standing", "month", "is_righted"] (defScope (top 41)) := ⟨rfl, rfl, rfl, by decide +kernel, rfl, by decide +kernel, by decide +kernel⟩
def spOpp (CM : Addr) (K : PySem.W.Frag) : Sp := fun vs H Q _ => ∃ (a : Addr) (s : Sg) (m : Int) (r : Bool), vs = [.ref a, .int m, .bl r] ∧ SgAt K H a s ∧ 1 ≤ s.ms.length ∧ s.ms.length ≤ 5 ∧
  ∀ H' t b md, Same H H' → H' t = some (.tup [.ref b, .ref md]) → SgAt K H' b (oppSg s m r) → MdAt CM H' md (oppMd s m) → Q (.ref t) H'
theorem c_opposed {CM : Addr} (fr : Free mg) (cr : C8.Cal P w K mg base 1 "ranked" (spRanked K) []) (ck : C8.Cal P w K mg base 1 "kind_at" (spKindAt K) []) (km : C8.Mak P w K mg base 1 "Made" CM (spMade CM) [])
    (D : DefT K mg "opposed" "opposed" "opposed" (top 41) []) : C8.Cal P w K mg base 3 "opposed" (spOpp CM K) [] := by
  refine cal_of D sc_opposed (fun _ _ _ _ _ _ us hl => match us, hl with | [_, _, _], _ => rfl) (fun vs H Q E h => ?_) fun f cdv A outer s H vs Q E hr h => ?_
  · obtain ⟨a, s, m, r, rfl, _⟩ := h
    rfl
  · obtain ⟨a, s, m, r, rfl, ⟨mm, h1, h2⟩, hl1, hl5, q⟩ := h
    have nd := sc_opposed.nd
    refine ⟨_, (pss_cons (ps_asg (pv 0) (pg_tup (by rfl) (pgs_cons (pg_name (i := 3) nd rfl (.inl rfl)) (pgs_cons (pg_name (i := 4) nd rfl (.inl rfl)) (pgs_cons (pg_name (i := 5) nd rfl (.inl rfl)) (pgs_cons (pg_name (i := 6) nd rfl (.inl rfl)) (pgs_cons (pg_name (i := 7) nd rfl (.inl rfl)) (pgs_cons (pg_name (i := 8) nd rfl (.inl rfl)) pgs_nil))))))))
      (pss_cons (ps_set (i := 9) nd rfl (.inl rfl) (C8.pe_c cr hr (by decide) (by rfl) (pa_cons (pe_tup (pa_cons (pv 3) (pa_cons (pe_tup (StX.pa_star (pv 4) (pa_cons (pv 1) pa_nil))) (pa_cons (pv 5) (pa_cons (pv 2) (pa_cons pe_bl (pa_cons (pv 8) pa_nil))))))) pa_nil)))
      (pss_one (ps_ret (pe_tup (pa_cons (pv 9) (pa_cons (C8.pe_mk km hr (by decide) (by rfl) (pa_cons (C8.pe_c ck hr (by decide) (by rfl) (pa_cons (pv 0) (pa_cons (pe_callB call_len_seq (by rfl) fr.len PySem.boot_len (pa_cons (pv 4) pa_nil)) pa_nil))) (pa_cons (pv 1) (pa_cons (pe_ix ix_tup (pv 4) (pe_un un_neg pe_int) (fun _ _ => rfl)) (pa_cons (pe_ix ix_tup (pv 4) pe_int (fun _ _ => rfl)) (pa_cons (pv 3) pa_nil)))))) pa_nil))))))), ?_⟩
    refine ⟨_, rfl, a, _, rfl, h1, rfl, _, _, rfl, _, _, rfl, _, _, rfl, _, _, rfl, _, _, rfl, _, _, rfl, rfl, ?_⟩
    refine ⟨_, rfl, _, rfl, mm, _, rfl, .inl h2, _, rfl, szl (by simp; omega), fun p hp => ?_⟩
    refine ⟨_, rfl, _, rfl, _, rfl, szl (by simp), fun p2 hp2 => ?_⟩
    have e1 : Same H (upd H p (.tup (s.ms.map V.int ++ [.int m]))) := Same.new hp
    have e2 : Same H (upd (upd H p (.tup (s.ms.map V.int ++ [.int m]))) p2 (.tup [.int s.deed, .ref p, .bl s.nw, .bl r, .bl false, .int s.lt])) := Same.newR e1 hp2
    refine ⟨p2, p, s.deed, s.lt, s.ms ++ [m], s.nw, r, rfl, SqT.of upd_same, SqT.of (by rw [upd_ne (fun z => by rw [z, upd_same] at hp2; cases hp2), upd_same]; simp), by simp; omega, fun H3 b e3 hb sb => ?_⟩
    have e4 : Same H H3 := e2.trans e3
    refine ⟨_, rfl, _, rfl, _, rfl, mm, _, rfl, .inr (Same.seqT e4 h2), a, s, s.ms.length, by simp, SgAt.same e4 ⟨mm, h1, h2⟩, ?_⟩
    refine ⟨_, rfl, _, rfl, 1, rfl, mm, _, _, _, rfl, rfl, Same.seqT e4 h2, map_last hl1, ?_⟩
    have z0 := atI_nat (map_at (l := s.ms) (j := 0) (by omega))
    refine ⟨_, rfl, mm, _, _, _, rfl, rfl, Same.seqT e4 h2, z0, _, rfl, fun x dx hx hdx hne => ?_⟩
    refine ⟨x, dx, oppMd s m, rfl, upd_same, fun H5 qo e5 hqo o1 o2 => ⟨rfl, ?_⟩⟩
    have e6 : Same H3 H5 := same_make hx hdx e5
    refine ⟨szl (by simp), fun t ht => ?_⟩
    refine q _ t b x (Same.newR (e4.trans e6) ht) upd_same (SgAt.same (Same.newR e6 ht) sb) (MdAt.same (Same.new ht) ⟨dx, qo, o1, o2⟩)
/-! ### takes -/
theorem sc_takes : FnScope ["house", "standing", "found", "depth", "deed", "month", "behind", "made", "met"] ["house", "standing"] (defScope (top 42)) := ⟨rfl, rfl, rfl, by decide +kernel, rfl, by decide +kernel, by decide +kernel⟩
/-- a list of new steps -/
def StsAt (CS CM : Addr) (K : PySem.W.Frag) (H : Hp) (as : List Addr) (sts : List Stp) : Prop := Paired (StAt CS CM K H) as sts
def spTakes (CS CM CH : Addr) (K : PySem.W.Frag) : Sp := fun vs H Q _ => ∃ (a b : Addr) (h : Hm) (s : Sg), vs = [.ref a, .ref b] ∧ HouseAt CH H a h ∧ SgAt K H b s ∧ 1 ≤ s.ms.length ∧ s.ms.length ≤ 5 ∧ h.depth ≤ 4 ∧
  ∀ H' p as, Same H H' → H p = none → H' p = some (.lst (as.map V.ref)) → StsAt CS CM K H' as (takes h s) → Q (.ref p) H'
theorem c_takes {CS CM CH : Addr} (fr : Free mg) (cp : C8.Cal P w K mg base 2 "put_into" (spPut CH K) []) (co : C8.Cal P w K mg base 3 "opposed" (spOpp CM K) []) (cg : C8.Cal P w K mg base 1 "goals_of" spGoals []) (ks : C8.Mak P w K mg base 1 "Step" CS (spStep CS) [])
    (n1 : NoAttr K CH "depth") (cl : Cls K CH) (D : DefT K mg "takes" "takes" "takes" (top 42) []) : C8.Cal P w K mg base 4 "takes" (spTakes CS CM CH K) [] := by
  refine cal_of D sc_takes (fun _ _ _ _ _ _ us hl => match us, hl with | [_, _], _ => rfl) (fun vs H Q E h => ?_) fun f cdv A outer s H vs Q E hr h => ?_
  · obtain ⟨a, b, h, s, rfl, _⟩ := h
    rfl
  · obtain ⟨a, b, h, s, rfl, hH, ⟨mm, h1, h2⟩, hl1, hl5, hd4, q⟩ := h
    have nd := sc_takes.nd
    refine ⟨_, (pss_cons (ps_par (i := 2) (j := 3) rfl nd rfl rfl (by decide) rfl rfl (pa_cons (pe_lst pa_nil) (pa_cons (pe_op op_sub (pe_callB call_len_seq (by rfl) fr.len PySem.boot_len (pa_cons (pe_ix ix_tup (pv 1) pe_int (fun _ _ => rfl)) pa_nil)) pe_int) pa_nil)) (by rfl))
      (pss_cons (ps_for PassesOwn.never rfl (pi_tup (pe_tup (pa_cons pe_str (pa_cons pe_str pa_nil)))) (pg_name (i := 4) nd rfl (.inl rfl))
      (pss_cons (ps_set (i := 5) nd rfl (.inl rfl) (pe_ifExp (pt_cmpR op_lt (pv 3) (pe_fld (pv 0) rfl) (nomark _)) (C8.pe_c cp hr (by decide) (by rfl) (pa_cons (pv 0) (pa_cons (pv 1) (pa_cons (pv 3) (pa_cons (pv 4) pa_nil))))) pe_non))
      (pss_one (ps_if (pt_cmp (pc_notN (pv 5))) (pss_cons (ps_asg (C8.pe_c co hr (by decide) (by rfl) (pa_cons (pv 1) (pa_cons (pv 5) (pa_cons pe_bl pa_nil)))) (pg_tup (by rfl) (pgs_cons (pg_name (i := 6) nd rfl (.inl rfl)) (pgs_cons (pg_name (i := 7) nd rfl (.inl rfl)) pgs_nil))))
      (pss_cons (ps_set (i := 8) nd rfl (.inl rfl) (pe_tup (StX.pa_star (C8.pe_c cg hr (by decide) (by rfl) (pa_cons (pv 5) (pa_cons (pe_ix ix_tup (pv 1) pe_int (fun _ _ => rfl)) pa_nil))) (StX.pa_star (pe_ifExp (pt_val (pe_ix ix_tup (pv 1) pe_int (fun _ _ => rfl))) (pe_tup (pa_cons pe_str pa_nil)) (pe_tup pa_nil)) pa_nil))))
      (pss_one (ps_expr (pe_bm PySem.F.plainAttrs_list PySem.F.slot_list_append PySem.F.type_list_append mt_append (pv 2) (pa_cons (C8.pe_mk ks hr (by decide) (by rfl) (pa_cons pe_str (pa_cons (pv 4) (pa_cons (pe_tup (pa_cons (pv 6) pa_nil)) (pa_cons (pe_tup (pa_cons (pv 7) pa_nil)) (pa_cons (pv 8) (pa_cons (pe_ix ix_tup (pv 1) pe_int (fun _ _ => rfl)) pa_nil))))))) pa_nil)))))) pss_nil))))
      (pss_one (ps_ret (pv 2))))), ?_⟩
    let dpI : Int := ((sgV s mm).length : Int)
    obtain ⟨dx, pl, fs, kvs, g1, g2, g3, g4, g5, g6⟩ := id hH
    refine ⟨Nat.zero_le _, fun fnd hfnd => ?_⟩
    have e1 : Same H (upd H fnd (.lst [])) := Same.new hfnd
    refine ⟨_, rfl, b, _, _, _, rfl, rfl, Same.seqT e1 h1, rfl, mm, _, rfl, .inr (Same.seqT e1 h2), _, _, rfl, rfl, _, _, rfl, ?_⟩
    refine ⟨szl (by simp), fun tt htt => ⟨tt, rfl, ⟨_, SqT.of upd_same⟩, ?_⟩⟩
    have ed : ((s.ms.map V.int).length : Int) - 1 = ((s.ms.length - 1 : Nat) : Int) := by rw [List.length_map]; omega
    have ex : upd (upd H fnd (.lst [])) tt (.tup [.str "whole", .str "part"]) tt = some (.tup [.str "whole", .str "part"]) := upd_same
    have ef : upd (upd H fnd (.lst [])) tt (.tup [.str "whole", .str "part"]) fnd = some (.lst []) := by rw [upd_ne (fun z => by rw [z] at hfnd; rw [← z, upd_same] at htt; cases htt), upd_same]
    have e2 : Same H (upd (upd H fnd (.lst [])) tt (.tup [.str "whole", .str "part"])) := Same.newR e1 htt
    refine for_it (walk_tup (xs := [V.str "whole", .str "part"])) (fun i σ H' => (∃ z v4 v5 v6 v7 v8, z = ((s.ms.length - 1 : Nat) : Int) ∧ σ = [some (.ref a), some (.ref b), some (.ref fnd), some (.int z), v4, v5, v6, v7, v8]) ∧ Same H H' ∧ H' tt = some (.tup [.str "whole", .str "part"]) ∧
      ∃ as, H' fnd = some (.lst (as.map V.ref)) ∧ as.length ≤ i ∧ StsAt CS CM K H' as (([Dd.whole, .part].take i).flatMap (takeOf h s))) ⟨⟨_, _, _, _, _, _, ed, rfl⟩, e2, ex, [], ef, Nat.le_refl _, .nil⟩ (fun i σ H' _ p => SqT.of p.2.2.1) (fun i x σ H1 H' hi p y => ?_) (fun σ H' p => ?_)
    · obtain ⟨⟨z, v4, v5, v6, v7, v8, rfl, rfl⟩, f1, f2, as, f3, fl, f4⟩ := p
      obtain ⟨rfl, hx⟩ := y
      obtain ⟨d, hd, rfl⟩ : ∃ d : Dd, [Dd.whole, .part][i]? = some d ∧ x = .str (dS d) := by
        match i, hi with
        | 0, _ => exact ⟨.whole, rfl, by injection hx with hx; exact hx.symm⟩
        | 1, _ => exact ⟨.part, rfl, by injection hx with hx; exact hx.symm⟩
      have tk : ([Dd.whole, .part].take (i + 1)).flatMap (takeOf h s) = ([Dd.whole, .part].take i).flatMap (takeOf h s) ++ takeOf h s d := by
        rw [List.take_add_one, hd, List.flatMap_append]
        simp
      rw [tk]
      unfold takeOf
      refine ⟨_, rfl, _, rfl, a, CH, dx, fs, _, rfl, f1 _ _ g1, cl, n1, g2, _, _, rfl, rfl, _, rfl, ?_⟩
      have hdl : s.ms.length - 1 < s.ms.length := by omega
      by_cases hlt : s.ms.length - 1 < h.depth
      · rw [decide_eq_true (by omega : ((s.ms.length - 1 : Nat) : Int) < (h.depth : Int)), if_pos hlt]
        refine iteT ⟨_, rfl, _, rfl, _, rfl, _, rfl, a, b, h, s, s.ms.length - 1, d, rfl, HouseAt.same f1 hH, SgAt.same f1 ⟨mm, h1, h2⟩, hdl, fun H2 e3 => ?_⟩
        have e4 : Same H H2 := f1.trans e3
        cases hpi : putInto h s (s.ms.length - 1) d with
        | none =>
          refine ⟨_, rfl, false, rfl, iteF ⟨⟨_, _, _, _, _, _, rfl, rfl⟩, e4, e3 _ _ f2, as, e3 _ _ f3, by omega, ?_⟩⟩
          rw [List.append_nil]
          exact Paired.mapP f4 fun _ _ z => z.same e3
        | some m =>
          refine ⟨_, rfl, true, rfl, iteT ?_⟩
          refine ⟨_, rfl, _, rfl, b, s, m, false, rfl, SgAt.same e4 ⟨mm, h1, h2⟩, hl1, hl5, fun H3 t bb md e5 ht sb sm => ?_⟩
          have e6 : Same H H3 := e4.trans e5
          refine ⟨t, _, rfl, SqT.of ht, rfl, _, _, rfl, _, _, rfl, rfl, ?_⟩
          refine ⟨_, rfl, _, rfl, b, _, _, _, rfl, rfl, Same.seqT e6 h1, rfl, m, s.lt, rfl, fun H4 gt e7 hgt0 hgt => ?_⟩
          refine ⟨gt, _, rfl, .inl (SqT.of hgt), ?_⟩
          have e8 : Same H H4 := e6.trans e7
          refine tif_keep (R := fun v H' => ∃ t', v = .ref t' ∧ SqT K H' t' (twiceV s.rt)) (fun Q' hQ => ?_) (fun v H5 e9 r => ?_)
          · refine ⟨_, rfl, b, _, _, _, rfl, rfl, Same.seqT e8 h1, rfl, _, rfl, ?_⟩
            cases hrt : s.rt with
            | true => exact iteT ⟨szl (by simp), fun p hp => hQ _ _ (Same.new hp) ⟨p, rfl, SqT.of (by rw [hrt]; exact upd_same)⟩⟩
            | false => exact iteF ⟨szl (by simp), fun p hp => hQ _ _ (Same.new hp) ⟨p, rfl, SqT.of (by rw [hrt]; exact upd_same)⟩⟩
          · obtain ⟨t', rfl, ht'⟩ := r
            refine ⟨t', _, rfl, .inl ht', szl ?_, fun t6 ht6 => ?_⟩
            · unfold movedV twiceV; split <;> split <;> simp
            have e10 : Same H3 (upd H5 t6 (.tup (movedV (decide (m < s.lt)) ++ (twiceV s.rt ++ [])))) := Same.newR (e7.trans e9) ht6
            have e11 : Same H (upd H5 t6 (.tup (movedV (decide (m < s.lt)) ++ (twiceV s.rt ++ [])))) := e6.trans e10
            have e12 : Same H' (upd H5 t6 (.tup (movedV (decide (m < s.lt)) ++ (twiceV s.rt ++ [])))) := e3.trans (e5.trans e10)
            refine ⟨_, rfl, .inl ⟨rfl, _, SqL.of (e12 _ _ f3)⟩, ?_⟩
            refine ⟨_, rfl, _, rfl, szl (by simp), fun t7 ht7 => ⟨_, rfl, szl (by simp), fun t8 ht8 => ?_⟩⟩
            generalize hG : upd H5 t6 (.tup (movedV (decide (m < s.lt)) ++ (twiceV s.rt ++ []))) = G at e10 e11 e12 ht7 ht8 ⊢
            have hmet : G t6 = some (.tup (movedV (decide (m < s.lt)) ++ (twiceV s.rt ++ []))) := by rw [← hG, upd_same]
            have e13 : Same G (upd (upd G t7 (.tup [.ref bb])) t8 (.tup [.ref md])) := Same.newR (Same.new ht7) ht8
            have n78 : t7 ≠ t8 := fun z => by rw [z, upd_same] at ht8; cases ht8
            have b7 : upd (upd G t7 (.tup [.ref bb])) t8 (.tup [.ref md]) t7 = some (.tup [.ref bb]) := by rw [upd_ne n78, upd_same]
            have b8 : upd (upd G t7 (.tup [.ref bb])) t8 (.tup [.ref md]) t8 = some (.tup [.ref md]) := upd_same
            refine ⟨_, rfl, _, rfl, b, _, _, _, rfl, rfl, Same.seqT (e11.trans e13) h1, rfl, fun x dx hx hdx hne => ?_⟩
            refine ⟨x, dx, t7, t8, t6, _, _, _, rfl, upd_same, fun H7 e14 hob => ⟨rfl, ?_⟩⟩
            have e15 : Same (upd (upd G t7 (.tup [.ref bb])) t8 (.tup [.ref md])) H7 := same_make hx hdx e14
            have e16 : Same G H7 := e13.trans e15
            have e17 : Same H' H7 := e12.trans e16
            refine ⟨fnd, _, _, rfl, rfl, e17 _ _ f3, szlt (by rw [List.length_map]; have : i < 2 := hi; omega), ?_⟩
            have e18 : Same H (upd H7 fnd (.lst (as.map V.ref ++ [.ref x]))) := Same.mut (e11.trans e16) hfnd
            have nf : ∀ {Hx : Hp} {o : HO} {p : Addr}, Hx p = some o → Hx fnd = some (.lst (as.map V.ref)) → (∀ l, o ≠ .lst l) → p ≠ fnd := fun ho hf hn z => by
              rw [z, hf] at ho
              exact hn _ (Option.some.inj ho).symm
            have kin : Kin H7 (upd H7 fnd (.lst (as.map V.ref ++ [.ref x]))) := Kin.upd (e17 _ _ f3)
            refine ⟨⟨_, _, _, _, _, _, rfl, rfl⟩, e18, kin _ _ (fun _ z => by cases z) (fun _ z => by cases z) (e17 _ _ f2), as ++ [x], by rw [upd_same, List.map_append]; rfl, by simp; omega, ?_⟩
            refine Paired.snoc (Paired.mapP f4 fun _ _ z => StAt.kin kin (StAt.same e17 z)) (StAt.kin kin ?_)
            refine ⟨dx, t7, t8, t6, [bb], [md], hob, SqT.of (e15 _ _ b7), .cons (SgAt.same (e10.trans e16) sb) .nil, SqT.of (e15 _ _ b8), .cons (MdAt.same (e10.trans e16) sm) .nil, SqT.of (e16 _ _ ?_)⟩
            rw [hmet, List.append_nil]
            rfl
      · rw [decide_eq_false (by omega : ¬ ((s.ms.length - 1 : Nat) : Int) < (h.depth : Int)), if_neg hlt]
        refine iteF ⟨_, rfl, false, rfl, iteF ⟨⟨_, _, _, _, _, _, rfl, rfl⟩, f1, f2, as, f3, by omega, ?_⟩⟩
        rw [List.append_nil]
        exact f4
    · obtain ⟨⟨z, v4, v5, v6, v7, v8, rfl, rfl⟩, f1, f2, as, f3, fl, f4⟩ := p
      refine ⟨_, rfl, q _ fnd as f1 hfnd f3 ?_⟩
      rw [takes_eq]
      exact f4
end
end K97
set_option maxHeartbeats 4000000
namespace K97
open PySem PySem.Spec PyProof.Rows L2
theorem Paired.app {α β : Type} {F : α → β → Prop} : ∀ {l1 : List α} {l2 : List β} {m1 : List α} {m2 : List β}, Paired F l1 l2 → Paired F m1 m2 → Paired F (l1 ++ m1) (l2 ++ m2)
  | _, _, _, _, .nil, h => h
  | _, _, _, _, .cons a t, h => .cons a (Paired.app t h)
theorem pe_never {X : Cx} {e : Expr} : PE X e (fun _ _ _ => False) := ⟨fun _ _ _ _ _ _ h => h.elim⟩
section
variable {P : Program} {w : World} {K : PySem.W.Frag} {mg : Str → Option Value} {base : Heap}
/-! ### rights -/
theorem sc_rights : FnScope ["house", "standing", "deed", "months", "is_new", "was_righted", "is_hit", "latest", "month", "behind", "made", "fresh", "both"] ["house", "standing"] (defScope (top 43)) := ⟨rfl, rfl, rfl, by decide +kernel, rfl, by decide +kernel, by decide +kernel⟩
def spRights (CS CM CH : Addr) (K : PySem.W.Frag) : Sp := fun vs H Q _ => ∃ (a b : Addr) (h : Hm) (s : Sg), vs = [.ref a, .ref b] ∧ HouseAt CH H a h ∧ SgAt K H b s ∧ 1 ≤ s.ms.length ∧ s.ms.length ≤ 5 ∧ h.depth ≤ 4 ∧
  ∀ H' p as, Same H H' → H p = none → H' p = some (.lst (as.map V.ref)) → StsAt CS CM K H' as (rights h s) → Q (.ref p) H'
theorem c_rights {CS CM CH : Addr} (fr : Free mg) (cp : C8.Cal P w K mg base 2 "put_into" (spPut CH K) []) (co : C8.Cal P w K mg base 3 "opposed" (spOpp CM K) []) (cr : C8.Cal P w K mg base 1 "ranked" (spRanked K) []) (cg : C8.Cal P w K mg base 1 "goals_of" spGoals []) (ks : C8.Mak P w K mg base 1 "Step" CS (spStep CS) []) (km : C8.Mak P w K mg base 1 "Made" CM (spMade CM) [])
    (n1 : NoAttr K CH "depth") (cl : Cls K CH) (D : DefT K mg "rights" "rights" "rights" (top 43) []) : C8.Cal P w K mg base 4 "rights" (spRights CS CM CH K) [] := by
  refine cal_of D sc_rights (fun _ _ _ _ _ _ us hl => match us, hl with | [_, _], _ => rfl) (fun vs H Q E h => ?_) fun f cdv A outer s H vs Q E hr h => ?_
  · obtain ⟨a, b, h, s, rfl, _⟩ := h
    rfl
  · obtain ⟨a, b, h, s, rfl, hH, ⟨mm, h1, h2⟩, hl1, hl5, hd4, q⟩ := h
    have nd := sc_rights.nd
    refine ⟨_, (pss_cons (ps_asg (pv 1) (pg_tup (by rfl) (pgs_cons (pg_name (i := 2) nd rfl (.inl rfl)) (pgs_cons (pg_name (i := 3) nd rfl (.inl rfl)) (pgs_cons (pg_name (i := 4) nd rfl (.inl rfl)) (pgs_cons (pg_name (i := 5) nd rfl (.inl rfl)) (pgs_cons (pg_name (i := 6) nd rfl (.inl rfl)) (pgs_cons (pg_name (i := 7) nd rfl (.inl rfl)) pgs_nil))))))))
      (pss_cons (ps_set (i := 8) nd rfl (.inl rfl) (pe_ifExp (PW.pt (pw_and (pt_cmpR op_eq (pe_callB call_len_seq (by rfl) fr.len PySem.boot_len (pa_cons (pv 3) pa_nil)) pe_int (nomark _)) (pw_and1 (pt_cmpR op_gt (pe_fld (pv 0) rfl) pe_int (nomark _))))) (C8.pe_c cp hr (by decide) (by rfl) (pa_cons (pv 0) (pa_cons (pv 1) (pa_cons pe_int (pa_cons pe_str pa_nil))))) pe_non))
      (pss_cons (ps_if (pt_cmp (pc_isN (pv 8))) (pss_one (ps_ret (pe_lst pa_nil))) pss_nil)
      (pss_cons (ps_asg (C8.pe_c co hr (by decide) (by rfl) (pa_cons (pv 1) (pa_cons (pv 8) (pa_cons pe_bl pa_nil)))) (pg_tup (by rfl) (pgs_cons (pg_name (i := 9) nd rfl (.inl rfl)) (pgs_cons (pg_name (i := 10) nd rfl (.inl rfl)) pgs_nil))))
      (pss_cons (ps_set (i := 11) nd rfl (.inl rfl) (C8.pe_c cr hr (by decide) (by rfl) (pa_cons (pe_tup (pa_cons (pv 2) (pa_cons (pe_tup (pa_cons (pv 8) pa_nil)) (pa_cons pe_bl (pa_cons pe_bl (pa_cons pe_bl (pa_cons (pv 7) pa_nil))))))) pa_nil)))
      (pss_cons (ps_set (i := 12) nd rfl (.inl rfl) (pe_tup (pa_cons (pv 10) (pa_cons (C8.pe_mk km hr (by decide) (by rfl) (pa_cons pe_str (pa_cons (pv 8) (pa_cons (pv 8) (pa_cons (pv 8) (pa_cons (pv 2) pa_nil)))))) pa_nil))))
      (pss_one (ps_ret (pe_lst (pa_cons (C8.pe_mk ks hr (by decide) (by rfl) (pa_cons pe_str (pa_cons pe_str (pa_cons (pe_tup (pa_cons (pv 9) (pa_cons (pv 11) pa_nil))) (pa_cons (pv 12) (pa_cons (C8.pe_c cg hr (by decide) (by rfl) (pa_cons (pv 8) (pa_cons (pv 7) pa_nil))) (pa_cons (pv 7) pa_nil))))))) pa_nil)))))))))), ?_⟩
    obtain ⟨dx, pl, fs, kvs, g1, g2, g3, g4, g5, g6⟩ := id hH
    refine ⟨_, rfl, b, _, rfl, h1, rfl, _, _, rfl, _, _, rfl, _, _, rfl, _, _, rfl, _, _, rfl, _, _, rfl, rfl, ?_⟩
    have nil : rights h s = [] → ∀ p H1, H p = none → Same H H1 → H1 p = some (.lst []) → Q (.ref p) H1 := fun e p H1 hp e1 h1 => q H1 p [] e1 hp h1 (by rw [e]; exact .nil)
    refine ⟨_, rfl, mm, _, rfl, .inr h2, rfl, _, rfl, ?_⟩
    rw [int_dec, List.length_map]
    by_cases c1 : s.ms.length = 1
    · rw [decide_eq_true (by omega : (s.ms.length : Int) = 1)]
      refine iteT ⟨_, rfl, a, CH, dx, fs, _, rfl, g1, cl, n1, g2, _, _, rfl, rfl, _, rfl, ?_⟩
      by_cases c2 : 0 < h.depth
      · rw [decide_eq_true (by omega : (0 : Int) < (h.depth : Int))]
        refine iteT ⟨_, rfl, _, rfl, a, b, h, s, 0, .right, rfl, hH, ⟨mm, h1, h2⟩, by omega, fun H2 e3 => ?_⟩
        cases hpi : putInto h s 0 .right with
        | none =>
          have er : rights h s = [] := by
            unfold rights
            rw [if_pos ⟨c1, c2⟩, hpi]
          exact ⟨_, rfl, true, rfl, iteT ⟨Nat.zero_le _, fun p hp => nil er p _ (none_of_same e3 hp) (Same.newR e3 hp) upd_same⟩⟩
        | some m =>
          have er : rights h s = [rightStp s m] := by
            unfold rights
            rw [if_pos ⟨c1, c2⟩, hpi]
          refine ⟨_, rfl, false, rfl, iteF ?_⟩
          refine ⟨_, rfl, _, rfl, b, s, m, true, rfl, SgAt.same e3 ⟨mm, h1, h2⟩, hl1, hl5, fun H3 t bb md e5 ht sb sm => ?_⟩
          have e6 : Same H H3 := e3.trans e5
          refine ⟨t, _, rfl, SqT.of ht, rfl, _, _, rfl, _, _, rfl, rfl, ?_⟩
          refine ⟨_, rfl, _, rfl, szl (by simp), fun t2 ht2 => ⟨_, rfl, szl (by simp), fun t3 ht3 => ?_⟩⟩
          have n23 : t2 ≠ t3 := fun z => by rw [z, upd_same] at ht3; cases ht3
          refine ⟨t3, t2, s.deed, s.lt, [m], true, false, rfl, SqT.of upd_same, SqT.of (by rw [upd_ne n23, upd_same]; rfl), by simp, fun H4 fr1 e7 hfr sfr => ?_⟩
          have e8 : Same H3 H4 := (Same.newR (Same.new ht2) ht3).trans e7
          refine ⟨_, rfl, _, rfl, _, rfl, _, rfl, _, rfl, fun x dx2 hx hdx hne => ?_⟩
          refine ⟨x, dx2, ⟨.new, m, m, m, s.deed⟩, rfl, upd_same, fun H5 qo e9 hqo o1 o2 => ⟨rfl, ?_⟩⟩
          have e10 : Same H4 H5 := same_make hx hdx e9
          refine ⟨szl (by simp), fun t5 ht5 => ?_⟩
          refine ⟨_, rfl, _, rfl, szl (by simp), fun t6 ht6 => ⟨_, rfl, ?_⟩⟩
          generalize hG : upd (upd H5 t5 (.tup [.ref md, .ref x])) t6 (.tup [.ref bb, .ref fr1]) = G
          have e11 : Same H5 G := by rw [← hG]; exact Same.newR (Same.new ht5) ht6
          have n56 : t5 ≠ t6 := fun z => by rw [z, upd_same] at ht6; cases ht6
          have b5 : G t5 = some (.tup [.ref md, .ref x]) := by rw [← hG, upd_ne n56, upd_same]
          have b6 : G t6 = some (.tup [.ref bb, .ref fr1]) := by rw [← hG, upd_same]
          refine ⟨_, rfl, _, rfl, m, s.lt, rfl, fun H7 gt e12 hgt0 hgt => ⟨_, rfl, ?_⟩⟩
          intro x2 dx3 hx2 hdx2 hne2
          refine ⟨x2, dx3, t6, t5, gt, _, _, _, rfl, upd_same, fun H8 e13 hob => ⟨rfl, szl (by simp), fun p hp => ?_⟩⟩
          have e14 : Same H7 H8 := same_make hx2 hdx2 e13
          have e15 : Same G (upd H8 p (.lst [.ref x2])) := Same.newR (e12.trans e14) hp
          have e16 : Same H5 (upd H8 p (.lst [.ref x2])) := e11.trans e15
          have e17 : Same H4 (upd H8 p (.lst [.ref x2])) := e10.trans e16
          have e18 : Same H3 (upd H8 p (.lst [.ref x2])) := e8.trans e17
          have e19 : Same H7 (upd H8 p (.lst [.ref x2])) := Same.newR e14 hp
          refine q _ p [x2] (e6.trans e18) ?_ upd_same ?_
          · exact none_of_same (((e6.trans e8).trans e10).trans ((e11.trans e12).trans e14)) hp
          · rw [er]
            refine .cons ⟨dx3, t6, t5, gt, [bb, fr1], [md, x], (Same.new hp) _ _ hob, SqT.of (e15 _ _ b6), .cons (SgAt.same e18 sb) (.cons (SgAt.same e17 sfr) .nil), SqT.of (e15 _ _ b5), .cons (MdAt.same e18 sm) (.cons (MdAt.same e16 ⟨dx2, qo, o1, o2⟩) .nil), SqT.of (e19 _ _ ?_)⟩ .nil
            rw [hgt]
            unfold metV twiceV rightStp
            rw [if_neg Bool.false_ne_true, List.append_nil]
      · rw [decide_eq_false (by omega : ¬ (0 : Int) < (h.depth : Int))]
        refine iteF ⟨_, rfl, true, rfl, iteT ⟨Nat.zero_le _, fun p hp => nil ?_ p _ hp (Same.new hp) upd_same⟩⟩
        unfold rights
        rw [if_neg fun z => c2 z.2]
    · rw [decide_eq_false (by omega : ¬ (s.ms.length : Int) = 1)]
      refine iteF ⟨_, rfl, true, rfl, iteT ⟨Nat.zero_le _, fun p hp => nil ?_ p _ hp (Same.new hp) upd_same⟩⟩
      unfold rights
      rw [if_neg fun z => c1 z.1]
/-! ### steps -/
theorem sc_steps : FnScope ["house", "standing", "has_hits", "deed", "months", "is_new", "is_righted", "is_hit", "latest", "later", "found"] ["house", "standing", "has_hits"] (defScope (top 46)) := ⟨rfl, rfl, rfl, by decide +kernel, rfl, by decide +kernel, by decide +kernel⟩
def spSteps (CS CM CH : Addr) (K : PySem.W.Frag) : Sp := fun vs H Q _ => ∃ (a b : Addr) (h : Hm) (s : Sg), vs = [.ref a, .ref b, .bl false] ∧ HouseAt CH H a h ∧ SgAt K H b s ∧ 1 ≤ s.ms.length ∧ s.ms.length ≤ 5 ∧ h.depth ≤ 4 ∧
  ∀ H' p as, Same H H' → H p = none → H' p = some (.lst (as.map V.ref)) → StsAt CS CM K H' as (stepsM h s) → Q (.ref p) H'
theorem c_steps {CS CM CH : Addr} (fr : Free mg) (ct : C8.Cal P w K mg base 4 "takes" (spTakes CS CM CH K) []) (cri : C8.Cal P w K mg base 4 "rights" (spRights CS CM CH K) []) (cr : C8.Cal P w K mg base 1 "ranked" (spRanked K) []) (ks : C8.Mak P w K mg base 1 "Step" CS (spStep CS) [])
    (D : DefT K mg "steps" "steps" "steps" (top 46) []) : C8.Cal P w K mg base 5 "steps" (spSteps CS CM CH K) [] := by
  refine cal_of D sc_steps (fun _ _ _ _ _ _ us hl => match us, hl with | [_, _, _], _ => rfl) (fun vs H Q E h => ?_) fun f cdv A outer s H vs Q E hr h => ?_
  · obtain ⟨a, b, h, s, rfl, _⟩ := h
    rfl
  · obtain ⟨a, b, h, s, rfl, hH, ⟨mm, h1, h2⟩, hl1, hl5, hd4, q⟩ := h
    have nd := sc_steps.nd
    refine ⟨_, (pss_cons (ps_asg (pv 1) (pg_tup (by rfl) (pgs_cons (pg_name (i := 3) nd rfl (.inl rfl)) (pgs_cons (pg_name (i := 4) nd rfl (.inl rfl)) (pgs_cons (pg_name (i := 5) nd rfl (.inl rfl)) (pgs_cons (pg_name (i := 6) nd rfl (.inl rfl)) (pgs_cons (pg_name (i := 7) nd rfl (.inl rfl)) (pgs_cons (pg_name (i := 8) nd rfl (.inl rfl)) pgs_nil))))))))
      (pss_cons (ps_set (i := 9) nd rfl (.inl rfl) (C8.pe_c cr hr (by decide) (by rfl) (pa_cons (pe_tup (pa_cons (pv 3) (pa_cons (pv 4) (pa_cons (pv 5) (pa_cons (pv 6) (pa_cons (pv 7) (pa_cons (pe_op op_add (pv 8) pe_int) pa_nil))))))) pa_nil)))
      (pss_cons (ps_set (i := 10) nd rfl (.inl rfl) (pe_lst (pa_cons (C8.pe_mk ks hr (by decide) (by rfl) (pa_cons pe_str (pa_cons pe_str (pa_cons (pe_tup (pa_cons (pv 9) pa_nil)) (pa_cons (pe_tup pa_nil) (pa_cons (pe_tup pa_nil) (pa_cons (pv 8) pa_nil))))))) pa_nil)))
      (pss_cons (ps_if (pt_val (pv 7)) (pss_one ps_never) pss_nil)
      (pss_cons (ps_set (i := 10) nd rfl (.inl rfl) (pe_op op_cat (pe_op op_cat (pv 10) (C8.pe_c ct hr (by decide) (by rfl) (pa_cons (pv 0) (pa_cons (pv 1) pa_nil)))) (C8.pe_c cri hr (by decide) (by rfl) (pa_cons (pv 0) (pa_cons (pv 1) pa_nil)))))
      (pss_one (ps_ret (pe_ifExp (pt_val (pv 2)) pe_never (pv 10))))))))), ?_⟩
    refine ⟨_, rfl, b, _, rfl, h1, rfl, _, _, rfl, _, _, rfl, _, _, rfl, _, _, rfl, _, _, rfl, _, _, rfl, rfl, ?_⟩
    refine ⟨_, rfl, _, rfl, _, rfl, _, rfl, _, rfl, _, rfl, _, _, rfl, rfl, szl (by simp), fun t1 ht1 => ?_⟩
    have e1 : Same H (upd H t1 (.tup [.int s.deed, .ref mm, .bl s.nw, .bl s.rt, .bl false, .int (s.lt + 1)])) := Same.new ht1
    refine ⟨t1, mm, s.deed, s.lt + 1, s.ms, s.nw, s.rt, rfl, SqT.of upd_same, Same.seqT e1 h2, by omega, fun H2 lt e2 hlt slt => ?_⟩
    have e3 : Same H H2 := e1.trans e2
    refine ⟨_, rfl, szl (by simp), fun t3 ht3 => ⟨Nat.zero_le _, fun t4 ht4 => ⟨Nat.zero_le _, fun t5 ht5 => ⟨_, rfl, ?_⟩⟩⟩⟩
    intro x dx hx hdx hne
    generalize hG : upd (upd (upd H2 t3 (.tup [.ref lt])) t4 (.tup [])) t5 (.tup []) = G at hx hdx
    have e4 : Same H2 G := by rw [← hG]; exact Same.newR (Same.newR (Same.new ht3) ht4) ht5
    have n45 : t4 ≠ t5 := fun z => by rw [z, upd_same] at ht5; cases ht5
    have n34 : t3 ≠ t4 := fun z => by rw [z, upd_same] at ht4; cases ht4
    have b3 : G t3 = some (.tup [.ref lt]) := by rw [← hG]; exact (Same.new ht5) _ _ (by rw [upd_ne n34, upd_same])
    have b4 : G t4 = some (.tup []) := by rw [← hG, upd_ne n45, upd_same]
    have b5 : G t5 = some (.tup []) := by rw [← hG, upd_same]
    refine ⟨x, dx, t3, t4, t5, _, _, _, rfl, upd_same, fun H5 e5 hob => ⟨rfl, szl (by simp), fun p1 hp1 => ⟨_, rfl, _, rfl, ?_⟩⟩⟩
    have e6 : Same G H5 := same_make hx hdx e5
    have e7 : Same G (upd H5 p1 (.lst [.ref x])) := Same.newR e6 hp1
    have e8 : Same H (upd H5 p1 (.lst [.ref x])) := (e3.trans e4).trans e7
    have ob1 : StAt CS CM K (upd H5 p1 (.lst [.ref x])) x (shutStp s) := ⟨dx, t3, t4, t5, [lt], [], (Same.new hp1) _ _ hob, SqT.of (e7 _ _ b3), .cons (SgAt.same (e4.trans e7) slt) .nil, SqT.of (e7 _ _ b4), .nil, SqT.of (e7 _ _ b5)⟩
    have hL1 : upd H5 p1 (.lst [.ref x]) p1 = some (.lst [.ref x]) := upd_same
    generalize upd H5 p1 (.lst [.ref x]) = H6 at e8 ob1 hL1 ⊢
    refine iteF ⟨_, rfl, _, rfl, _, rfl, a, b, h, s, rfl, HouseAt.same e8 hH, SgAt.same e8 ⟨mm, h1, h2⟩, hl1, hl5, hd4, fun H7 p2 as2 e9 hp2 hL2 hs2 => ?_⟩
    have e10 : Same H H7 := e8.trans e9
    have ln2 : as2.length = (takes h s).length := Paired.length hs2
    have lt2 : (takes h s).length ≤ 2 := by
      unfold takes takeOf
      rw [List.length_append]
      split <;> split <;> simp
    refine ⟨p1, p2, _, _, rfl, rfl, e9 _ _ hL1, hL2, szl (by simp; omega), fun p3 hp3 => ?_⟩
    have e11 : Same H7 (upd H7 p3 (.lst ([.ref x] ++ as2.map V.ref))) := Same.new hp3
    have hL3 : upd H7 p3 (.lst ([.ref x] ++ as2.map V.ref)) p3 = some (.lst ([.ref x] ++ as2.map V.ref)) := upd_same
    generalize upd H7 p3 (.lst ([.ref x] ++ as2.map V.ref)) = H8 at e11 hL3 ⊢
    have e12 : Same H H8 := e10.trans e11
    refine ⟨_, rfl, _, rfl, a, b, h, s, rfl, HouseAt.same e12 hH, SgAt.same e12 ⟨mm, h1, h2⟩, hl1, hl5, hd4, fun H9 p4 as4 e13 hp4 hL4 hs4 => ?_⟩
    have ln4 : as4.length = (rights h s).length := Paired.length hs4
    have lt4 : (rights h s).length ≤ 1 := by
      unfold rights
      split <;> simp
    refine ⟨p3, p4, _, _, rfl, rfl, e13 _ _ hL3, hL4, szl (by simp; omega), fun p5 hp5 => ⟨_, rfl, _, rfl, iteF ⟨_, rfl, ?_⟩⟩⟩
    have e14 : Same H9 (upd H9 p5 (.lst ([.ref x] ++ as2.map V.ref ++ as4.map V.ref))) := Same.new hp5
    refine q _ p5 (x :: (as2 ++ as4)) (e12.trans (e13.trans e14)) (none_of_same (e12.trans e13) hp5) (by rw [upd_same]; simp) ?_
    exact .cons (StAt.same (e9.trans (e11.trans (e13.trans e14))) ob1) (Paired.app (Paired.mapP hs2 fun _ _ z => StAt.same (e11.trans (e13.trans e14)) z) (Paired.mapP hs4 fun _ _ z => StAt.same e14 z))
end
end K97
set_option maxHeartbeats 4000000
/-! A dict whose keys are standings (tuples that hold a tuple), its values lists. -/
namespace K97
open PySem PySem.Spec PyProof.Rows L2
def bI (b : Bool) : Int := if b = true then 1 else 0
theorem bI_inj : ∀ a b, bI a = bI b → a = b := by decide
def sgK (s : Sg) : NestedKey := .tup [.num s.deed, .tup (s.ms.map .num), .num (bI s.nw), .num (bI s.rt), .num 0, .num s.lt]
theorem map_num_inj : ∀ {l m : List Int}, l.map NestedKey.num = m.map NestedKey.num → l = m
  | [], [], _ => rfl
  | [], _ :: _, h => by simp at h
  | _ :: _, [], h => by simp at h
  | a :: l, b :: m, h => by
    rw [List.map_cons, List.map_cons] at h
    injection h with h1 h2
    injection h1 with h1
    rw [h1, map_num_inj h2]
theorem sgK_inj {s t : Sg} (h : sgK s = sgK t) : s = t := by
  unfold sgK at h
  injection h with h
  injection h with h1 h
  injection h with h2 h
  injection h with h3 h
  injection h with h4 h
  injection h with h5 h
  injection h with h6 h
  injection h1 with h1
  injection h2 with h2
  injection h3 with h3
  injection h4 with h4
  injection h6 with h6
  obtain ⟨a, b, c, d, e⟩ := s
  obtain ⟨a', b', c', d', e'⟩ := t
  simp only at h1 h2 h3 h4 h6
  rw [h1, map_num_inj h2, bI_inj _ _ h3, bI_inj _ _ h4, h6]
theorem depthAll_num : ∀ l : List Int, NestedKey.depthAll (l.map .num) = 0
  | [] => rfl
  | a :: r => by
    rw [List.map_cons, NestedKey.depthAll, depthAll_num r]
    rfl
theorem sgK_depth (s : Sg) : (sgK s).depth ≤ 8 := by
  unfold sgK
  simp only [NestedKey.depth, NestedKey.depthAll, depthAll_num]
  decide
/-- an entry: the standing, where its key's tuple stands, where its list stands -/
abbrev WE := Sg × Addr × Addr
def wkV (e : WE) : NestedKey × Addr × Value := (sgK e.1, e.2.1, .ref e.2.2)
def DNo (P : Program) (w : World) (d : Addr) (xs : List WE) : HO := .ext fun h => (d == sysModules) = false ∧ ∃ o es ep, h.get? d = some o ∧ o.ExactDict ∧ o.data = .dict es ep ∧ es.toList = (xs.map wkV).map (entryOfKey (nestedKind P w))
theorem nums_of {its : List Value} : ∀ {l : List Int} {h : Heap}, Vals (l.map V.int) its → NestedAll h (l.map .num) its := by
  induction its with
  | nil => intro l h r; cases l with
    | nil => exact .nil
    | cons a r' => cases r
  | cons v r ih => intro l h rv; cases l with
    | nil => cases rv
    | cons a l =>
      cases rv with
      | cons h1 h2 =>
        obtain ⟨t, rfl⟩ := (show ∃ t, v = Value.int a t from h1)
        exact .cons (.int a t) (ih h2)
section
variable {X : Cx} {pins : List (Addr × Obj)} {σ : L2.St} {H : Hp} {s : Shared}
theorem sg_key {a : Addr} {g : Sg} (I : Inv X pins σ H s) (h : SgAt X.K H a g) : (nestedKind X.prog X.w).is s.heap (sgK g) a := by
  obtain ⟨m, h1, h2⟩ := h
  obtain ⟨i1, r1, ⟨o1, ho1, hc1, n1, hd1⟩, _⟩ := I.tuple h1
  obtain ⟨i2, r2, ⟨o2, ho2, hc2, n2, hd2⟩, _⟩ := I.tuple h2
  refine ⟨?_, sgK_depth g⟩
  cases r1 with
  | cons a1 r1 => cases r1 with
    | cons a2 r1 => cases r1 with
      | cons a3 r1 => cases r1 with
        | cons a4 r1 => cases r1 with
          | cons a5 r1 => cases r1 with
            | cons a6 r1 =>
              cases r1
              rename_i v1 v2 v3 v4 v5 v6
              obtain ⟨t1, rfl⟩ := (show ∃ t, v1 = Value.int g.deed t from a1)
              obtain rfl := (show v2 = Value.ref m from a2)
              obtain rfl := (show v3 = Value.bool g.nw from a3)
              obtain rfl := (show v4 = Value.bool g.rt from a4)
              obtain rfl := (show v5 = Value.bool false from a5)
              obtain ⟨t6, rfl⟩ := (show ∃ t, v6 = Value.int g.lt t from a6)
              exact .tup ho1 hc1 hd1 (.cons (.int _ _) (.cons (.tup ho2 hc2 hd2 (by simpa using nums_of r2)) (.cons (.bool rfl) (.cons (.bool rfl) (.cons (.bool rfl) (.cons (.int _ _) .nil))))))
/-- what stands behind the standing g -/
def atS (xs : List WE) (g : Sg) : Option (Addr × Addr) := (xs.find? fun e => decide (e.1 = g)).map (·.2)
theorem atKey_wk (g : Sg) : ∀ xs : List WE, atKey (xs.map wkV) (sgK g) = (atS xs g).map fun p => (p.1, Value.ref p.2)
  | [] => rfl
  | e :: r => by
    have ih := atKey_wk g r
    unfold atS at ih ⊢
    rw [List.map_cons, List.find?_cons]
    by_cases h : e.1 = g
    · rw [decide_eq_true h]
      simp [atKey, wkV, h]
    · rw [decide_eq_false h]
      have h2 : ¬ sgK e.1 = sgK g := fun z => h (sgK_inj z)
      simpa [atKey, wkV, h2] using ih
/-- the dict as the model tells it -/
theorem dn_of {d : Addr} {xs : List WE} (I : Inv X pins σ H s) (h : H d = some (DNo X.prog X.w d xs)) (hk : ∀ e ∈ xs, SgAt X.K H e.2.1 e.1) (nd : (xs.map (·.1)).Nodup) : (d == sysModules) = false ∧ s.heap.DictOfH (nestedKind X.prog X.w) d (xs.map wkV) := by
  obtain ⟨⟨hd, o, es, ep, h1, h2, h3, h4⟩, _, _⟩ := I.hok d _ h
  refine ⟨hd, o, es, ep, h1, h2, h3, h4, fun x hx => ?_, ?_⟩
  · obtain ⟨e, he, rfl⟩ := List.mem_map.mp hx
    exact sg_key I (hk e he)
  · rw [List.map_map]
    have : ((fun x : NestedKey × Addr × Value => x.1) ∘ wkV) = sgK ∘ (fun e : WE => e.1) := rfl
    rw [this, ← List.map_map]
    exact map_nodup_on nd fun a _ b _ e => sgK_inj e
theorem dn_ok {H' : Hp} {h' : Heap} {d : Addr} {xs : List WE} (hd : (d == sysModules) = false) (dd : h'.DictOfH (nestedKind X.prog X.w) d (xs.map wkV)) : ObjOk X.prog X.w H' h' d (DNo X.prog X.w d xs) := by
  obtain ⟨o, es, ep, h1, h2, h3, h4, _, _⟩ := dd
  exact ⟨⟨hd, o, es, ep, h1, h2, h3, h4⟩, ⟨o, h1⟩, fun a b ⟨q, o', es', ep', g1, g2, g3, g4⟩ st => ⟨q, o', es', ep', st _ g1, g2, g3, g4⟩⟩
end
/-- ways[k] -/
def tNGet (P : Program) (w : World) (K : PySem.W.Frag) (td ty : TE) : TE := fun σ H Q => td σ H fun x H1 => ty σ H1 fun y H2 => ∃ d kp g xs p, x = .ref d ∧ y = .ref kp ∧ H2 d = some (DNo P w d xs) ∧ (∀ e ∈ xs, SgAt K H2 e.2.1 e.1) ∧ (xs.map (·.1)).Nodup ∧ SgAt K H2 kp g ∧ atS xs g = some p ∧ Q (.ref p.2) H2
/-- k not in ways -/
def tNNot (P : Program) (w : World) (K : PySem.W.Frag) (ty td : TE) : TE := fun σ H Q => ty σ H fun y H1 => td σ H1 fun x H2 => ∃ d kp g xs, x = .ref d ∧ y = .ref kp ∧ H2 d = some (DNo P w d xs) ∧ (∀ e ∈ xs, SgAt K H2 e.2.1 e.1) ∧ (xs.map (·.1)).Nodup ∧ SgAt K H2 kp g ∧ Q (.bl (!(atS xs g).isSome)) H2
/-- ways[k] = list, the key new -/
def sNPut (P : Program) (w : World) (K : PySem.W.Frag) (td ty tv : TE) : TS := fun D σ H => tv σ H fun v H1 => td σ H1 fun x H2 => ty σ H2 fun y H3 => ∃ d kp g xs l, v = .ref l ∧ x = .ref d ∧ y = .ref kp ∧ H3 d = some (DNo P w d xs) ∧ (∀ e ∈ xs, SgAt K H3 e.2.1 e.1) ∧ (xs.map (·.1)).Nodup ∧ SgAt K H3 kp g ∧ atS xs g = none ∧ xs.length ≤ sizeLine ∧
  D.nx σ (upd H3 d (DNo P w d (xs ++ [(g, kp, l)])))
section
variable {X : Cx} {o i value : Expr} {pos pos' : Pos} {td ty tv : TE}
theorem pe_nget (hu : X.A.units + 64 < cLine) (ho : PE X o td) (hi : PE X i ty) (hs : NoSl i) : PE X (.Subscript o i pos) (tNGet X.prog X.w X.K td ty) := by
  refine ⟨fun pins s σ H Q I h => ?_⟩
  refine subD_of PySem.F.slot_dict_getitem.lookup hs (thn (ho.run pins s σ H _ I h) fun u s1 ⟨x, H1, I1, rx, q1⟩ => thn (hi.run pins s1 σ H1 _ I1 q1) fun iv s2 ⟨y, H2, I2, ry, d, kp, g, xs, p, ex, ey, hd, hk, nd, hg, hat, q2⟩ => ?_)
  subst ex ey
  obtain rfl : u = Value.ref d := rx
  obtain rfl : iv = Value.ref kp := ry
  obtain ⟨hb, dd⟩ := dn_of I2 hd hk nd
  refine ⟨dd.typeIs, wpAny_getItem_heap (knd := nestedKind X.prog X.w) (by show X.A.units + 1 + 8 < cLine; omega) (sg_key I2 hg) dd (by rw [atKey_wk, hat]; rfl) ?_⟩
  exact ⟨.ref p.2, H2, I2.tok _, rfl, q2⟩
theorem pc_nnot (hu : X.A.units + 64 < cLine) (hi : PE X i ty) (ho : PE X o td) : PC X .NotIn i o (tNNot X.prog X.w X.K ty td) := by
  refine ⟨fun pins s σ H Q I h => ?_⟩
  refine thn (hi.run pins s σ H _ I h) fun iv s1 ⟨y, H1, I1, ry, q1⟩ => thn (ho.run pins s1 σ H1 _ I1 q1) fun u s2 ⟨x, H2, I2, rx, d, kp, g, xs, ex, ey, hd, hk, nd, hg, q2⟩ => ?_
  subst ex ey
  obtain rfl : u = Value.ref d := rx
  obtain rfl : iv = Value.ref kp := ry
  obtain ⟨hb, dd⟩ := dn_of I2 hd hk nd
  refine notIn_keyed (knd := nestedKind X.prog X.w) (by show X.A.units + 1 + 8 < cLine; omega) (sg_key I2 hg) hb ⟨_, dd, rfl⟩ ?_
  rw [valueAt_pairsH, atKey_wk, Option.isSome_map, Option.isSome_map]
  exact ⟨.bl (!(atS xs g).isSome), H2, I2.tok _, rfl, q2⟩
theorem ps_nput (hu : X.A.units + 64 < cLine) (ho : PE X o td) (hi : PE X i ty) (hv : PE X value tv) (hs : swapsWith value (some (.Subscript o i pos')) pos.line X.env = pure false) :
    PS X (.Assign [.Subscript o i pos'] value pos) (sNPut X.prog X.w X.K td ty tv) := by
  refine ⟨fun pins s σ H D I h => ?_⟩
  refine wpAny_Assign_Subscript (thn (hv.run pins s σ H _ I h) fun r s1 ⟨v, H1, I1, rv, q1⟩ => thn (ho.run pins s1 σ H1 _ I1 q1) fun u s2 ⟨x, H2, I2, rx, q2⟩ => thn (hi.run pins s2 σ H2 _ I2 q2) fun iv s3 ⟨y, H3, I3, ry, d, kp, g, xs, l, ev, ex, ey, hd, hk, nd, hg, hat, hz, q3⟩ => ?_) hs
  subst ev ex ey
  obtain rfl : u = Value.ref d := rx
  obtain rfl : iv = Value.ref kp := ry
  obtain rfl : r = Value.ref l := rv
  obtain ⟨hb, dd⟩ := dn_of I3 hd hk nd
  have hs : storedH (xs.map wkV) (sgK g) kp (.ref l) = (xs ++ [(g, kp, l)]).map wkV := by
    rw [storedH_new (by rw [atKey_wk, hat]; rfl)]
    simp [wkV]
  refine wpAny_setItem_heap (knd := nestedKind X.prog X.w) (by show X.A.units + 1 + 8 < cLine; omega) (sg_key I3 hg) dd (fun h' dd' hb' => ?_) (by rw [List.length_map]; exact hz)
  rw [hs] at dd'
  have he : ∃ q, h'.get? d = some q := let ⟨q, _, _, hq, _⟩ := dd'; ⟨q, hq⟩
  exact ⟨σ, _, d_write I3 (by rw [hd]; exact True.intro) hb' he (dn_ok hb dd'), q3⟩
/-- {k: list} -/
def tNDisp (P : Program) (w : World) (K : PySem.W.Frag) (tk tv : TE) : TE := fun σ H Q => ∀ d, H d = none → tk σ (upd H d (DNo P w d [])) fun x H1 => tv σ H1 fun y H2 => ∃ kp g l, x = .ref kp ∧ y = .ref l ∧ H2 d = some (DNo P w d []) ∧ SgAt K H2 kp g ∧
  Q (.ref d) (upd H2 d (DNo P w d [(g, kp, l)]))
theorem pe_ndisp {tk : TE} {k v : Expr} (hu : X.A.units + 64 < cLine) (hk : PE X k tk) (hv : PE X v tv) : PE X (.Dict [some k] [v] pos) (tNDisp X.prog X.w X.K tk tv) := by
  refine ⟨fun pins s σ H Q I q => ?_⟩
  have hn := I.hok.fresh (Nat.le_refl s.heap.objs.size)
  have hd : (s.heap.objs.size == sysModules) = false := beq_eq_false_iff_ne.mpr (Ne.symm (Nat.ne_of_lt I.big))
  have I1 := I.laid (a := s.heap.objs.size) (o := DNo X.prog X.w s.heap.objs.size []) (h' := s.heap.push { cls := .type "dict", data := .dict #[] }) (t' := s.toks) (fun _ _ q => Heap.get?_push_of_some _ q) (Nat.le_refl _)
    (dn_ok hd (Heap.DictOfH.new s.heap))
  have hlen : (pairTrees [some k] [v] X.env pos).length ≤ 15 := by
    rw [pairTrees_length _ _ _ _ rfl rfl]
    show 1 ≤ 15
    decide
  have h0 : pairTrees [some k] [v] X.env pos ≠ [] := by intro z; cases z
  rw [arm_eval_Dict, zip_pairTrees [some k] [v] X.env pos rfl rfl, dictDisplay_pairs _ h0 (by omega)]
  refine wpAny_bind (wpAny_standAt (wpAny_bind (wpAny_subDictH (knd := nestedKind X.prog X.w) (Q := fun d s' => wpAny (model X.prog X.w) X.A (pure (Value.ref d)) (EP X pins σ Q) X.xe s') (by show X.A.units + 8 < cLine; omega) hlen ?_)))
  refine pairTrees_cons_walk (thn (hk.run pins _ σ _ _ I1 (q _ hn)) fun u s1 ⟨x, H1, I2, rx, q1⟩ => thn (hv.run pins s1 σ H1 _ I2 q1) fun u2 s2 ⟨y, H2, I3, ry, kp, g, l, ex, ey, h1, h2, q2⟩ => pairTrees_nil_walk ?_)
  subst ex ey
  obtain rfl : u = Value.ref kp := rx
  obtain rfl : u2 = Value.ref l := ry
  obtain ⟨hb, dd⟩ := dn_of I3 h1 (fun e he => by cases he) List.nodup_nil
  refine ⟨[(sgK g, kp, .ref l)], ⟨rfl, rfl, sg_key I3 h2, trivial⟩, dd, fun h' tk' dd' hs => wpAny_pure ?_⟩
  have he : ∃ q, h'.get? s.heap.objs.size = some q := let ⟨q, _, _, hq, _⟩ := dd'; ⟨q, hq⟩
  exact ⟨.ref s.heap.objs.size, _, d_write I3 (by rw [h1]; exact True.intro) hs he (dn_ok (xs := [(g, kp, l)]) hd dd'), rfl, q2⟩
end
end K97
set_option maxHeartbeats 4000000
namespace K97
open PySem PySem.Spec PyProof.Rows L2
/-- where the classes stand -/
structure Cs where
  S : Addr
  M : Addr
  H : Addr
  R : Addr
  C : Addr
/-- what their attributes leave alone -/
structure CsOk (K : PySem.W.Frag) (c : Cs) : Prop where
  clS : Cls K c.S
  clM : Cls K c.M
  clH : Cls K c.H
  clR : Cls K c.R
  clC : Cls K c.C
  s_name : NoAttr K c.S "name"
  s_deed : NoAttr K c.S "deed"
  s_behind : NoAttr K c.S "behind"
  s_made : NoAttr K c.S "made"
  s_met : NoAttr K c.S "met"
  s_latest : NoAttr K c.S "latest"
  m_kind : NoAttr K c.M "kind"
  m_owners : NoAttr K c.M "owners"
  h_depth : NoAttr K c.H "depth"
  h_check : NoAttr K c.H "check"
  h_rows : NoAttr K c.H "rows"
  h_places : NoAttr K c.H "places"
  r_rows : NoAttr K c.R "rows"
  r_by : NoAttr K c.R "by_kind"
  c_kind : NoAttr K c.C "kind"
  c_weight : NoAttr K c.C "weight"
  c_whose : NoAttr K c.C "whose"
abbrev Row := Kd × Int × Ow
def rowOf (rows : List Row) (k : Kd) : Option Row := rows.find? fun r => decide (r.1 = k)
def rpOf (rows : List Row) : Rp := ⟨fun k => ((rowOf rows k).map (·.2.1)).getD 0, fun k => ((rowOf rows k).map (·.2.2)).getD .own⟩
def CntAt (C : Addr) (H : Hp) (c : Addr) (r : Row) : Prop := ∃ dx, H c = some (.ins C dx [("kind", V.str (kS r.1)), ("weight", V.int r.2.1), ("whose", V.str (oS r.2.2))])
def byAt (C : Addr) (H : Hp) (kvs : List (Key × V)) (k : Kd) : Option Row → Prop
  | none => valV kvs (Sum.inr (kS k)) = none
  | some r => ∃ c, valV kvs (Sum.inr (kS k)) = some (.ref c) ∧ CntAt C H c r
structure RpAt (c : Cs) (K : PySem.W.Frag) (H : Hp) (a : Addr) (rows : List Row) (dx t d : Addr) (cs : List Addr) (kvs : List (Key × V)) : Prop where
  ob : H a = some (.ins c.R dx [("rows", V.ref t), ("by_kind", V.ref d)])
  tt : SqT K H t (cs.map V.ref)
  cn : Paired (CntAt c.C H) cs rows
  dd : H d = some (.dK kvs)
  by_ : ∀ k, byAt c.C H kvs k (rowOf rows k)
def RepAt (c : Cs) (K : PySem.W.Frag) (H : Hp) (a : Addr) (rows : List Row) : Prop := ∃ dx t d cs kvs, RpAt c K H a rows dx t d cs kvs
theorem CntAt.same {C : Addr} {H H' : Hp} {a : Addr} {r : Row} (e : Same H H') (h : CntAt C H a r) : CntAt C H' a r := by
  obtain ⟨dx, h⟩ := h
  exact ⟨dx, e _ _ h⟩
theorem byAt.same {C : Addr} {H H' : Hp} {kvs : List (Key × V)} {k : Kd} (e : Same H H') : ∀ {o : Option Row}, byAt C H kvs k o → byAt C H' kvs k o
  | none, h => h
  | some r, h => by
    obtain ⟨c, h1, h2⟩ := h
    exact ⟨c, h1, h2.same e⟩
theorem RepAt.same {c : Cs} {K : PySem.W.Frag} {H H' : Hp} {a : Addr} {rows : List Row} (e : Same H H') (h : RepAt c K H a rows) : RepAt c K H' a rows := by
  obtain ⟨dx, t, d, cs, kvs, h⟩ := h
  exact ⟨dx, t, d, cs, kvs, e _ _ h.ob, Same.seqT e h.tt, Paired.mapP h.cn fun _ _ z => z.same e, e _ _ h.dd, fun k => (h.by_ k).same e⟩
theorem own_at (m : Md) (w : Ow) : valV (ownKV m) (Sum.inr (oS w)) = some (V.int (m.at_ w)) := by cases w <;> rfl
section
variable {P : Program} {w : World} {K : PySem.W.Frag} {mg : Str → Option Value} {base : Heap} {c : Cs}
/-! ### beginning -/
structure BegT (K : PySem.W.Frag) (mg : Str → Option Value) : Prop where
  ex : ∃ b, mg "BEGIN" = some (.ref b) ∧ ∀ H, SgAt K H b BEG
theorem sc_beginning : FnScope [] [] (defScope (top 36)) := ⟨rfl, rfl, rfl, by decide +kernel, rfl, by decide +kernel, by decide +kernel⟩
def spBeg (c : Cs) (K : PySem.W.Frag) : Sp := fun vs H Q _ => vs = [] ∧ ∀ H' a, Same H H' → StAt c.S c.M K H' a firstStp → Q (.ref a) H'
theorem c_beginning (B : BegT K mg) (km : C8.Mak P w K mg base 1 "Made" c.M (spMade c.M) []) (ks : C8.Mak P w K mg base 1 "Step" c.S (spStep c.S) []) (D : DefT K mg "beginning" "beginning" "beginning" (top 36) []) : C8.Cal P w K mg base 3 "beginning" (spBeg c K) [] := by
  obtain ⟨bg, hbg, hB⟩ := B.ex
  refine cal_of D sc_beginning (fun _ _ _ _ _ _ us hl => match us, hl with | [], _ => rfl) (fun vs H Q E h => by obtain ⟨rfl, _⟩ := h; rfl) fun f cdv A outer s H vs Q E hr h => ?_
  obtain ⟨rfl, q⟩ := h
  refine ⟨_, (pss_one (ps_ret (C8.pe_mk ks hr (by decide) (by rfl) (pa_cons pe_str (pa_cons pe_str (pa_cons (pe_tup (pa_cons (pe_glob (v := .ref bg) (by rfl) hbg rfl) pa_nil)) (pa_cons (pe_tup (pa_cons (C8.pe_mk km hr (by decide) (by rfl) (pa_cons pe_str (pa_cons pe_int (pa_cons pe_int (pa_cons pe_int (pa_cons pe_int pa_nil)))))) pa_nil)) (pa_cons (pe_tup pa_nil) (pa_cons pe_int pa_nil))))))))), ?_⟩
  refine ⟨szl (by simp), fun t1 ht1 x dx hx hdx hne => ?_⟩
  refine ⟨x, dx, ⟨.first, 0, 0, 0, 0⟩, rfl, upd_same, fun H2 qo e2 hqo o1 o2 => ⟨rfl, szl (by simp), fun t2 ht2 => ⟨szl (by simp), fun t3 ht3 => ?_⟩⟩⟩
  have e1 : Same H (upd H t1 (.tup [.ref bg])) := Same.new ht1
  have e3 : Same (upd H t1 (.tup [.ref bg])) H2 := same_make hx hdx e2
  intro x2 dx2 hx2 hdx2 hne2
  generalize hG : upd (upd H2 t2 (.tup [.ref x])) t3 (.tup []) = G at hx2 hdx2
  have e4 : Same H2 G := by rw [← hG]; exact Same.newR (Same.new ht2) ht3
  have n23 : t2 ≠ t3 := fun z => by rw [z, upd_same] at ht3; cases ht3
  have b2 : G t2 = some (.tup [.ref x]) := by rw [← hG, upd_ne n23, upd_same]
  have b3 : G t3 = some (.tup []) := by rw [← hG, upd_same]
  have b1 : G t1 = some (.tup [.ref bg]) := e4 _ _ (e3 _ _ upd_same)
  refine ⟨x2, dx2, t1, t2, t3, _, _, _, rfl, upd_same, fun H5 e5 hob => ⟨rfl, ?_⟩⟩
  have e6 : Same G H5 := same_make hx2 hdx2 e5
  exact q H5 x2 (((e1.trans e3).trans e4).trans e6) ⟨dx2, t1, t2, t3, [bg], [x], hob, SqT.of (e6 _ _ b1), .cons (hB _) .nil, SqT.of (e6 _ _ b2), .cons (MdAt.same (e4.trans e6) ⟨dx, qo, o1, o2⟩) .nil, SqT.of (e6 _ _ b3)⟩
/-! ### Report.weight_of, month_of -/
def spWeight (c : Cs) (K : PySem.W.Frag) : Sp := fun vs H Q _ => ∃ (a : Addr) (rows : List Row) (k : Kd), vs = [.ref a, .str (kS k)] ∧ RepAt c K H a rows ∧ Q (.int ((rpOf rows).wt k)) H
theorem sc_weight : FnScope ["self", "kind"] ["self", "kind"] (defScope (inClass (top 80) 2)) := ⟨rfl, rfl, rfl, by decide +kernel, rfl, by decide +kernel, by decide +kernel⟩
theorem m_weight (ok : CsOk K c) (D : MetT K c.R "weight_of" "Report.weight_of" (inClass (top 80) 2) []) : C8.Met P w K mg base 1 c.R "weight_of" (spWeight c K) [] := by
  refine met_of ok.clR D sc_weight (fun _ _ _ _ _ _ us hl => match us, hl with | [_, _], _ => rfl) (fun vs H Q E h => ?_) fun f cdv A outer s H vs Q E hr h => ?_
  · obtain ⟨a, rows, k, rfl, _⟩ := h
    rfl
  · obtain ⟨a, rows, k, rfl, ⟨dx, t, d, cs, kvs, h⟩, q⟩ := h
    refine ⟨_, (pss_one (ps_ret (pe_ifExp (pt_cmp (pc_din (hu_of hr) (pv 1) (pe_fld (pv 0) rfl))) (pe_fld (pe_dget (hu_of hr) (pe_fld (pv 0) rfl) (pv 1) (fun _ _ => rfl)) rfl) pe_int))), ?_⟩
    refine ⟨_, rfl, _, rfl, a, c.R, dx, _, _, rfl, h.ob, ok.clR, ok.r_by, rfl, d, _, rfl, DGet.k (k := Sum.inr (kS k)) h.dd, _, rfl, ?_⟩
    have hb := h.by_ k
    unfold rpOf at q
    cases hr' : rowOf rows k with
    | none =>
      rw [hr'] at hb
      simp only [hr', Option.map_none, Option.getD_none] at q
      rw [show valV kvs (Sum.inr (kS k)) = none from hb]
      exact iteF q
    | some r =>
      rw [hr'] at hb
      simp only [hr', Option.map_some, Option.getD_some] at q
      obtain ⟨cc, h1, dxc, h2⟩ := hb
      rw [h1]
      refine iteT ⟨_, rfl, a, c.R, dx, _, _, rfl, h.ob, ok.clR, ok.r_by, rfl, _, rfl, d, .ref cc, rfl, by rw [← h1]; exact DGet.k (k := Sum.inr (kS k)) h.dd, cc, c.C, dxc, _, _, rfl, h2, ok.clC, ok.c_weight, rfl, q⟩
def spMonth (c : Cs) (K : PySem.W.Frag) : Sp := fun vs H Q _ => ∃ (a : Addr) (rows : List Row) (k : Kd), vs = [.ref a, .str (kS k)] ∧ RepAt c K H a rows ∧ Q (.str (oS ((rpOf rows).wh k))) H
theorem sc_month : FnScope ["self", "kind"] ["self", "kind"] (defScope (inClass (top 80) 3)) := ⟨rfl, rfl, rfl, by decide +kernel, rfl, by decide +kernel, by decide +kernel⟩
theorem m_month (ok : CsOk K c) (D : MetT K c.R "month_of" "Report.month_of" (inClass (top 80) 3) []) : C8.Met P w K mg base 1 c.R "month_of" (spMonth c K) [] := by
  refine met_of ok.clR D sc_month (fun _ _ _ _ _ _ us hl => match us, hl with | [_, _], _ => rfl) (fun vs H Q E h => ?_) fun f cdv A outer s H vs Q E hr h => ?_
  · obtain ⟨a, rows, k, rfl, _⟩ := h
    rfl
  · obtain ⟨a, rows, k, rfl, ⟨dx, t, d, cs, kvs, h⟩, q⟩ := h
    refine ⟨_, (pss_one (ps_ret (pe_ifExp (pt_cmp (pc_din (hu_of hr) (pv 1) (pe_fld (pv 0) rfl))) (pe_fld (pe_dget (hu_of hr) (pe_fld (pv 0) rfl) (pv 1) (fun _ _ => rfl)) rfl) pe_str))), ?_⟩
    refine ⟨_, rfl, _, rfl, a, c.R, dx, _, _, rfl, h.ob, ok.clR, ok.r_by, rfl, d, _, rfl, DGet.k (k := Sum.inr (kS k)) h.dd, _, rfl, ?_⟩
    have hb := h.by_ k
    unfold rpOf at q
    cases hr' : rowOf rows k with
    | none =>
      rw [hr'] at hb
      simp only [hr', Option.map_none, Option.getD_none] at q
      rw [show valV kvs (Sum.inr (kS k)) = none from hb]
      exact iteF q
    | some r =>
      rw [hr'] at hb
      simp only [hr', Option.map_some, Option.getD_some] at q
      obtain ⟨cc, h1, dxc, h2⟩ := hb
      rw [h1]
      refine iteT ⟨_, rfl, a, c.R, dx, _, _, rfl, h.ob, ok.clR, ok.r_by, rfl, _, rfl, d, .ref cc, rfl, by rw [← h1]; exact DGet.k (k := Sum.inr (kS k)) h.dd, cc, c.C, dxc, _, _, rfl, h2, ok.clC, ok.c_whose, rfl, q⟩
end
end K97
set_option maxHeartbeats 4000000
namespace K97
open PySem PySem.Spec PyProof.Rows L2
section
variable {X : Cx} {K : PySem.W.Frag} {e : Expr} {ta : TE} {f : Str} {pos : Pos}
theorem pe_fldK (hK : X.K = K) (he : PE X e ta) (hb : attributeBase e f X.env (eval e X.env) = eval e X.env) : PE X (.Attribute e f pos) (tFld K ta f) := by
  subst hK
  exact pe_fld he hb
theorem ix_tupK (hK : X.K = K) : IxR X (rIxT K) := by
  subst hK
  exact ix_tup
theorem ix_listK (hK : X.K = K) : IxR X (rIxL K) := by
  subst hK
  exact ix_list
end
/-- a comprehension whose values are known ahead -/
theorem lc_vals {J : It} {G : Hp → Prop} {xs : List V} (w : Walk J xs.length G (YAt xs)) {g : TG} {tt : TT} {te : TE} {vs : List Nat} {σ : L2.St} {H1 : Hp} {D : Addr} {Qd : Hp → Prop} (L : List V) (hL : L.length = xs.length)
    (hG : ∀ H, Same H1 H → G H) (hz : xs.length ≤ sizeLine) (hD : H1 D = none)
    (hs : ∀ (i : Nat) (x y : V) (H : Hp) (C : VK), xs[i]? = some x → L[i]? = some y → Same H1 H → (∀ H4, Same H H4 → C y H4) → g x (wipe σ vs) H fun σ2 H2 => wipe σ2 vs = wipe σ vs ∧ tt σ2 H2 fun b H3 => b = true ∧ te σ2 H3 C)
    (mono : ∀ σ H Q Q', (∀ b H1, Q b H1 → Q' b H1) → tt σ H Q → tt σ H Q') (mg : ∀ x σ H Q Q', (∀ σ1 H1, Q σ1 H1 → Q' σ1 H1) → g x σ H Q → g x σ H Q')
    (hd : ∀ H, Same H1 H → H D = some (.lst L) → Qd H) :
    ∃ W : Nat → Nat → Hp → Prop, (∃ m, W 0 m (upd H1 D (.lst []))) ∧ ∀ i m H, W i m H →
      (J.stop i H ∧ Qd H) ∨ (J.go i H ∧ ∃ Nx : Hp → Prop, (∀ H', Nx H' → ∃ m', m' < m ∧ W (i + 1) m' H') ∧ ∀ x H', J.yld i H x H' → g x (wipe σ vs) H' fun σ2 H2 => wipe σ2 vs = wipe σ vs ∧ tt σ2 H2 fun b H3 =>
        if b = true then te σ2 H3 fun y H4 => ∃ acc, H4 D = some (.lst acc) ∧ acc.length < sizeLine ∧ Nx (upd H4 D (.lst (acc ++ [y]))) else Nx H3) := by
  refine lc_keep w (fun i y _ => L[i]? = some y) (fun _ _ _ _ _ h => h) hG hz hD (fun i x H C hx e hC => ?_) mono mg (fun H ys e hys hyl hyy => ?_)
  · have hi : i < xs.length := (List.getElem?_eq_some_iff.mp hx).1
    have hy : L[i]? = some (L[i]'(by omega)) := List.getElem?_eq_getElem (by omega)
    exact hs i x _ H C hx hy e fun H4 e4 => hC _ H4 e4 hy
  · have ey : ys = L := List.ext_getElem? fun i => by
      by_cases hi : i < ys.length
      · rw [List.getElem?_eq_getElem hi]
        exact (hyy i _ (List.getElem?_eq_getElem hi)).symm
      · rw [List.getElem?_eq_none (by omega), List.getElem?_eq_none (by omega)]
    rw [ey] at hys
    exact hd H e hys
theorem Paired.unzip {α β : Type} {F : α → β → Prop} : ∀ {l : List α} {m : List β}, Paired F l m → ∃ ps : List (α × β), l = ps.map (·.1) ∧ m = ps.map (·.2) ∧ ∀ p ∈ ps, F p.1 p.2
  | _, _, .nil => ⟨[], rfl, rfl, fun _ h => by cases h⟩
  | _, _, .cons (a := a) (b := b) h t => by
    obtain ⟨ps, e1, e2, e3⟩ := Paired.unzip t
    refine ⟨(a, b) :: ps, by rw [List.map_cons, ← e1], by rw [List.map_cons, ← e2], fun p hp => ?_⟩
    rcases List.mem_cons.mp hp with e | hp
    · rw [e]; exact h
    · exact e3 p hp
theorem str_ne {a b : Str} (h : (a == b) = false) : decide (V.str a = V.str b) = false := decide_eq_false fun z => by
  injection z with z
  rw [z] at h
  simp at h
theorem any_bls : ∀ l : List Bool, (l.map V.bl).length = l.length := fun l => by simp
section
variable {P : Program} {w : World} {K : PySem.W.Frag} {mg : Str → Option Value} {base : Heap} {c : Cs}
/-! ### counts_otherwise -/
def spOther (c : Cs) (K : PySem.W.Frag) : Sp := fun vs H Q _ => ∃ (m a b : Addr) (md : Md) (r s : List Row), vs = [.ref m, .ref a, .ref b] ∧ MdAt c.M H m md ∧ RepAt c K H a r ∧ RepAt c K H b s ∧ Q (.bl (other (rpOf r) (rpOf s) md)) H
theorem sc_other : FnScope ["made", "r", "s", "weight"] ["made", "r", "s"] (defScope (top 59)) := ⟨rfl, rfl, rfl, by decide +kernel, rfl, by decide +kernel, by decide +kernel⟩
theorem c_other (ok : CsOk K c) (mw : C8.Met P w K mg base 1 c.R "weight_of" (spWeight c K) []) (mm : C8.Met P w K mg base 1 c.R "month_of" (spMonth c K) []) (D : DefT K mg "counts_otherwise" "counts_otherwise" "counts_otherwise" (top 59) []) : C8.Cal P w K mg base 2 "counts_otherwise" (spOther c K) [] := by
  refine cal_of D sc_other (fun _ _ _ _ _ _ us hl => match us, hl with | [_, _, _], _ => rfl) (fun vs H Q E h => ?_) fun f cdv A outer s H vs Q E hr h => ?_
  · obtain ⟨m, a, b, md, r, s, rfl, _⟩ := h
    rfl
  · obtain ⟨m, a, b, md, r, s, rfl, ⟨dm, qm, h1, h2⟩, hA, hB, q⟩ := h
    have nd := sc_other.nd
    obtain ⟨dxa, ta, da, csa, kva, gA⟩ := id hA
    obtain ⟨dxb, tb, db, csb, kvb, gB⟩ := id hB
    refine ⟨_, (pss_cons (ps_set (i := 3) nd rfl (.inl rfl) (C8.pe_mt mw hr (by decide) (pv 1) (pa_cons (pe_fld (pv 0) rfl) pa_nil)))
      (pss_cons (ps_if (pt_cmpR op_ne (pv 3) (C8.pe_mt mw hr (by decide) (pv 2) (pa_cons (pe_fld (pv 0) rfl) pa_nil)) (nomark _)) (pss_one (ps_ret pe_bl)) pss_nil)
      (pss_one (ps_ret (pe_and (pe_cmpR op_ne (pv 3) pe_int (nomark _)) (pe_one (pe_cmpR op_ne (pe_dget (hu_of hr) (pe_fld (pv 0) rfl) (C8.pe_mt mm hr (by decide) (pv 1) (pa_cons (pe_fld (pv 0) rfl) pa_nil)) (fun _ _ => rfl)) (pe_dget (hu_of hr) (pe_fld (pv 0) rfl) (C8.pe_mt mm hr (by decide) (pv 2) (pa_cons (pe_fld (pv 0) rfl) pa_nil)) (fun _ _ => rfl)) (nomark _)))))))), ?_⟩
    refine ⟨_, rfl, a, dxa, _, rfl, gA.ob, rfl, _, rfl, m, c.M, dm, _, _, rfl, h1, ok.clM, ok.m_kind, rfl, a, r, md.kd, rfl, hA, ?_⟩
    refine ⟨_, rfl, _, rfl, b, dxb, _, rfl, gB.ob, rfl, _, rfl, m, c.M, dm, _, _, rfl, h1, ok.clM, ok.m_kind, rfl, b, s, md.kd, rfl, hB, rfl, _, rfl, ?_⟩
    rw [int_dec]
    unfold other at q
    by_cases hw : (rpOf r).wt md.kd = (rpOf s).wt md.kd
    · rw [if_pos hw] at q
      rw [decide_eq_true hw]
      refine iteF ?_
      refine ⟨_, rfl, rfl, _, rfl, ?_⟩
      rw [int_dec]
      by_cases h0 : (rpOf r).wt md.kd = 0
      · rw [decide_eq_true h0] at q ⊢
        exact iteF q
      · rw [decide_eq_false h0] at q ⊢
        refine iteT ⟨_, rfl, m, c.M, dm, _, _, rfl, h1, ok.clM, ok.m_owners, rfl, _, rfl, a, dxa, _, rfl, gA.ob, rfl, _, rfl, m, c.M, dm, _, _, rfl, h1, ok.clM, ok.m_kind, rfl, a, r, md.kd, rfl, hA, ?_⟩
        have o1 := own_at md ((rpOf r).wh md.kd)
        have o2 := own_at md ((rpOf s).wh md.kd)
        refine ⟨qm, _, rfl, by rw [← o1]; exact DGet.k (k := Sum.inr (oS ((rpOf r).wh md.kd))) h2, ?_⟩
        refine ⟨_, rfl, m, c.M, dm, _, _, rfl, h1, ok.clM, ok.m_owners, rfl, _, rfl, b, dxb, _, rfl, gB.ob, rfl, _, rfl, m, c.M, dm, _, _, rfl, h1, ok.clM, ok.m_kind, rfl, b, s, md.kd, rfl, hB, ?_⟩
        refine ⟨qm, _, rfl, by rw [← o2]; exact DGet.k (k := Sum.inr (oS ((rpOf s).wh md.kd))) h2, rfl, ?_⟩
        rw [int_dec]
        exact q
    · rw [if_neg hw] at q
      rw [decide_eq_false hw]
      exact iteT q
/-! ### meets -/
def GoalAt (c : Cs) (K : PySem.W.Frag) (H : Hp) (gs : Str) (rv : V) (p : Stp → Bool) : Prop :=
  (∃ a rows, gs = "changed" ∧ rv = .ref a ∧ RepAt c K H a rows ∧ p = changed (rpOf rows)) ∨ (∃ a rows, gs = "wrong" ∧ rv = .ref a ∧ RepAt c K H a rows ∧ p = wrong (rpOf rows)) ∨ (gs = "moved" ∧ p = moved)
theorem GoalAt.same {K : PySem.W.Frag} {H H' : Hp} {gs : Str} {rv : V} {p : Stp → Bool} (e : Same H H') (h : GoalAt c K H gs rv p) : GoalAt c K H' gs rv p := by
  rcases h with ⟨a, rows, h1, h2, h3, h4⟩ | ⟨a, rows, h1, h2, h3, h4⟩ | h
  · exact .inl ⟨a, rows, h1, h2, h3.same e, h4⟩
  · exact .inr (.inl ⟨a, rows, h1, h2, h3.same e, h4⟩)
  · exact .inr (.inr h)
def spMeets (c : Cs) (K : PySem.W.Frag) : Sp := fun vs H Q _ => ∃ (a : Addr) (st : Stp) (gs : Str) (rv : V) (p : Stp → Bool), vs = [.ref a, .str gs, rv] ∧ StAt c.S c.M K H a st ∧ GoalAt c K H gs rv p ∧ st.made.length ≤ 2 ∧ ∀ H', Same H H' → Q (.bl (p st)) H'
theorem sc_meets : FnScope ["step", "goal", "report", "counted", "made"] ["step", "goal", "report"] (defScope (top 47)) := ⟨rfl, rfl, rfl, by decide +kernel, rfl, by decide +kernel, by decide +kernel⟩
theorem c_meets (fr : Free mg) (ok : CsOk K c) (mw : C8.Met P w K mg base 1 c.R "weight_of" (spWeight c K) []) (mm : C8.Met P w K mg base 1 c.R "month_of" (spMonth c K) []) (D : DefT K mg "meets" "meets" "meets" (top 47) []) : C8.Cal P w K mg base 2 "meets" (spMeets c K) [] := by
  refine cal_of D sc_meets (fun _ _ _ _ _ _ us hl => match us, hl with | [_, _, _], _ => rfl) (fun vs H Q E h => ?_) fun f cdv A outer s H vs Q E hr h => ?_
  · obtain ⟨a, st, gs, rv, p, rfl, _⟩ := h
    rfl
  · obtain ⟨a, st, gs, rv, p, rfl, ⟨dx, b, m, t, bs, ms, hS⟩, hg, hn2, q⟩ := h
    have nd := sc_meets.nd
    refine ⟨_, (pss_cons (ps_if (pt_cmpR op_eq (pv 1) pe_str (nomark _)) (pss_cons (ps_setLc (i := 3) (own := [("made", 4)]) (g := gName 4) (by rfl) nd rfl rfl (sw_true rfl rfl rfl (by decide +kernel)) (pi_tup (pe_fld (pv 0) rfl)) (blkOk_by (own := [("made", 4)]) (N := ["step", "goal", "report", "counted", "made"]) (sc := defScope (top 47)) (by decide +kernel)) (fun _ _ _ _ _ => (pg_name (i := 4) nd rfl (.inl rfl))) (fun _ _ _ _ _ => (pts_one (pt_cmpR op_ne (C8.pe_mt mw hr (by decide) (pv 2) (pa_cons (pe_fldK (K := K) rfl (pv 4) rfl) pa_nil)) pe_int (nomark _)))) (fun _ _ _ _ _ => (pv 4)))
      (pss_one (ps_ret (pe_callB (cr_any rfl) (by rfl) fr.any (by decide +kernel) (pa_cons (pe_lc (own := [("made", 4)]) (g := gName 4) (by rfl) nd (pi_list (pv 3)) (blkOk_by (own := [("made", 4)]) (N := ["step", "goal", "report", "counted", "made"]) (sc := defScope (top 47)) (by decide +kernel)) (fun _ _ _ _ _ => (pg_name (i := 4) nd rfl (.inl rfl))) (fun _ _ _ _ _ => pts_nil) (fun _ _ _ _ _ => (pe_cmpR op_lt (pe_dget (hu_of hr) (pe_fldK (K := K) rfl (pv 4) rfl) (C8.pe_mt mm hr (by decide) (pv 2) (pa_cons (pe_fldK (K := K) rfl (pv 4) rfl) pa_nil)) (fun _ _ => rfl)) (pe_fldK (K := K) rfl (pv 0) rfl) (nomark _)))) pa_nil))))) pss_nil)
      (pss_cons (ps_if (pt_cmpR op_eq (pv 1) pe_str (nomark _)) (pss_one (ps_ret (pe_callB (cr_any rfl) (by rfl) fr.any (by decide +kernel) (pa_cons (pe_lc (own := [("made", 4)]) (g := gName 4) (by rfl) nd (pi_tup (pe_fld (pv 0) rfl)) (blkOk_by (own := [("made", 4)]) (N := ["step", "goal", "report", "counted", "made"]) (sc := defScope (top 47)) (by decide +kernel)) (fun _ _ _ _ _ => (pg_name (i := 4) nd rfl (.inl rfl))) (fun _ _ _ _ _ => pts_nil) (fun _ _ _ _ _ => (pe_cmpR op_ne (C8.pe_mt mw hr (by decide) (pv 2) (pa_cons (pe_fldK (K := K) rfl (pv 4) rfl) pa_nil)) pe_int (nomark _)))) pa_nil)))) pss_nil)
      (pss_one (ps_ret (pe_cmpR op_in_seq (pv 1) (pe_fld (pv 0) rfl) rfl))))), ?_⟩
    refine ⟨_, rfl, rfl, _, rfl, ?_⟩
    rcases hg with ⟨ra, rows, rfl, rfl, hR, rfl⟩ | ⟨ra, rows, rfl, rfl, hR, rfl⟩ | ⟨rfl, rfl⟩
    · rw [decide_eq_true rfl]
      refine iteT ?_
      obtain ⟨ps, rfl, epm, hps⟩ := Paired.unzip hS.md
      have hlen : ps.length ≤ 2 := by rw [epm, List.length_map] at hn2; exact hn2
      obtain ⟨dxa, ta, da, csa, kva, gA⟩ := id hR
      let keep : Addr × Md → Bool := fun e => !decide ((rpOf rows).wt e.2.kd = 0)
      refine ⟨_, rfl, a, c.S, dx, _, _, rfl, hS.ob, ok.clS, ok.s_made, rfl, m, rfl, ⟨_, hS.mt⟩, fun D hD => ?_⟩
      refine lc_it (walk_tup (xs := (ps.map Prod.fst).map V.ref)) (fun i H' => Same H H' ∧ H' D = some (.lst (((ps.take i).filter keep).map fun e => V.ref e.1))) ⟨Same.new hD, upd_same⟩ (fun i H' _ e => Same.seqT e.1 hS.mt) (fun i x H1 H' hi p y => ?_) (fun H2 p => ?_)
      · obtain ⟨rfl, hx⟩ := y
        rw [List.length_map, List.length_map] at hi
        obtain ⟨e1, e2⟩ := p
        obtain ⟨e, he, rfl⟩ : ∃ e, ps[i]? = some e ∧ x = V.ref e.1 := by
          rw [List.map_map, List.getElem?_map] at hx
          cases z : ps[i]? with
          | none => rw [z] at hx; cases hx
          | some e => rw [z] at hx; exact ⟨e, rfl, (Option.some.inj hx).symm⟩
        obtain ⟨dm, qm, g1, g2⟩ := hps e (List.mem_of_getElem? he)
        refine ⟨rfl, _, rfl, ra, dxa, _, rfl, e1 _ _ gA.ob, rfl, _, rfl, e.1, c.M, dm, _, _, rfl, e1 _ _ g1, ok.clM, ok.m_kind, rfl, ra, rows, e.2.kd, rfl, hR.same e1, rfl, _, rfl, ?_⟩
        rw [int_dec, List.take_add_one, he, List.filter_append, List.map_append]
        cases hk : keep e with
        | true =>
          have hk2 : (!decide ((rpOf rows).wt e.2.kd = 0)) = true := hk
          rw [hk2]
          refine iteT ⟨_, rfl, _, e2, szlt (by rw [List.length_map]; have := List.length_filter_le keep (ps.take i); have := List.length_take_le i ps; omega), Same.mut e1 hD, ?_⟩
          rw [upd_same]
          simp [hk]
        | false =>
          have hk2 : (!decide ((rpOf rows).wt e.2.kd = 0)) = false := hk
          rw [hk2]
          refine iteF ⟨e1, ?_⟩
          rw [e2]
          simp [hk]
      · obtain ⟨e1, e2⟩ := p
        rw [List.length_map, List.length_map, List.take_length] at e2
        refine ⟨_, rfl, D, rfl, ⟨_, SqL.of e2⟩, fun D2 hD2 => ?_⟩
        refine lc_vals (xs := (ps.filter keep).map fun e => V.ref e.1) walk_list ((ps.filter keep).map fun e => V.bl (decide (e.2.at_ ((rpOf rows).wh e.2.kd) < st.lt))) (by simp) (fun H' e => SqL.of (e _ _ e2)) (szl (by rw [List.length_map]; have := List.length_filter_le keep ps; omega)) hD2
          (fun i x y H' C hx hy e hC => ?_) (fun σ H' Q Q' h t => h _ _ t) (fun x σ H' Q Q' h t => h _ _ t) (fun H3 e3 h3 => ?_)
        · rw [List.getElem?_map] at hx hy
          cases z : (ps.filter keep)[i]? with
          | none => rw [z] at hx; cases hx
          | some en =>
            rw [z] at hx hy
            obtain rfl := (Option.some.inj hx).symm
            obtain rfl := (Option.some.inj hy).symm
            obtain ⟨dm, qm, g1, g2⟩ := hps en (List.mem_filter.mp (List.mem_of_getElem? z)).1
            have e4 := e1.trans e
            have oa := own_at en.2 ((rpOf rows).wh en.2.kd)
            refine ⟨rfl, rfl, _, rfl, en.1, c.M, dm, _, _, rfl, e4 _ _ g1, ok.clM, ok.m_owners, rfl, _, rfl, ra, dxa, _, rfl, e4 _ _ gA.ob, rfl, _, rfl, en.1, c.M, dm, _, _, rfl, e4 _ _ g1, ok.clM, ok.m_kind, rfl, ra, rows, en.2.kd, rfl, hR.same e4, ?_⟩
            refine ⟨qm, _, rfl, by rw [← oa]; exact DGet.k (k := Sum.inr (oS ((rpOf rows).wh en.2.kd))) (e4 _ _ g2), _, rfl, a, c.S, dx, _, _, rfl, e4 _ _ hS.ob, ok.clS, ok.s_latest, rfl, _, _, rfl, rfl, hC _ (fun _ _ h => h)⟩
        · refine ⟨D2, (ps.filter keep).map fun e => decide (e.2.at_ ((rpOf rows).wh e.2.kd) < st.lt), rfl, SqL.of (by rw [h3, List.map_map]; rfl), ?_⟩
          have ev : (((ps.filter keep).map fun e => decide (e.2.at_ ((rpOf rows).wh e.2.kd) < st.lt)).any id) = changed (rpOf rows) st := by
            unfold changed
            rw [epm, List.filter_map, List.any_map, List.any_map]
            rfl
          rw [ev]
          exact q _ (e1.trans e3)
    · rw [str_ne (by decide)]
      refine iteF ⟨_, rfl, rfl, _, rfl, ?_⟩
      rw [decide_eq_true rfl]
      refine iteT ?_
      obtain ⟨ps, rfl, epm, hps⟩ := Paired.unzip hS.md
      have hlen : ps.length ≤ 2 := by rw [epm, List.length_map] at hn2; exact hn2
      obtain ⟨dxa, ta, da, csa, kva, gA⟩ := id hR
      refine ⟨_, rfl, a, c.S, dx, _, _, rfl, hS.ob, ok.clS, ok.s_made, rfl, m, rfl, ⟨_, hS.mt⟩, fun D hD => ?_⟩
      refine lc_vals (xs := (ps.map Prod.fst).map V.ref) walk_tup (ps.map fun e => V.bl (!decide ((rpOf rows).wt e.2.kd = 1))) (by simp) (fun H' e => Same.seqT e hS.mt) (szl (by simp; omega)) hD
          (fun i x y H' C hx hy e hC => ?_) (fun σ H' Q Q' h t => h _ _ t) (fun x σ H' Q Q' h t => h _ _ t) (fun H3 e3 h3 => ?_)
      · rw [List.map_map, List.getElem?_map] at hx
        rw [List.getElem?_map] at hy
        cases z : ps[i]? with
        | none => rw [z] at hx; cases hx
        | some en =>
          rw [z] at hx hy
          obtain rfl := (Option.some.inj hx).symm
          obtain rfl := (Option.some.inj hy).symm
          obtain ⟨dm, qm, g1, g2⟩ := hps en (List.mem_of_getElem? z)
          refine ⟨rfl, rfl, _, rfl, ra, dxa, _, rfl, e _ _ gA.ob, rfl, _, rfl, en.1, c.M, dm, _, _, rfl, e _ _ g1, ok.clM, ok.m_kind, rfl, ra, rows, en.2.kd, rfl, hR.same e, rfl, ?_⟩
          rw [int_dec]
          exact hC _ (fun _ _ h => h)
      · refine ⟨D, ps.map fun e => !decide ((rpOf rows).wt e.2.kd = 1), rfl, SqL.of (by rw [h3, List.map_map]; rfl), ?_⟩
        have ev : ((ps.map fun e => !decide ((rpOf rows).wt e.2.kd = 1)).any id) = wrong (rpOf rows) st := by
          unfold wrong
          rw [epm, List.any_map, List.any_map]
          rfl
        rw [ev]
        exact q _ e3
    · rw [str_ne (by decide)]
      refine iteF ⟨_, rfl, rfl, _, rfl, ?_⟩
      rw [str_ne (by decide)]
      refine iteF ?_
      refine ⟨_, rfl, _, rfl, a, c.S, dx, _, _, rfl, hS.ob, ok.clS, ok.s_met, rfl, t, metV st, rfl, .inr hS.tt, rfl, ?_, ?_⟩
      · unfold metV movedV twiceV
        split <;> split <;> rfl
      · have e : inV (.str "moved") (metV st) = moved st := by
          unfold metV movedV twiceV moved
          cases st.moved <;> cases st.twice <;> rfl
        rw [e]
        exact q H (fun _ _ h => h)
end
end K97
set_option maxHeartbeats 4000000
namespace K97
open PySem PySem.Spec PyProof.Rows L2
/-! ### the mirror's search, turn by turn -/
theorem addAll_snoc (way : Way) (st : Stp) : ∀ (l : List Sg) (b : Sg) (i : Int) (W : Ways), addAll way st i (l ++ [b]) W = addOne way st (addAll way st i l W) b (i + (l.length : Int))
  | [], b, i, W => by simp [addAll]
  | a :: r, b, i, W => by
    simp only [List.cons_append, addAll, List.length_cons]
    rw [addAll_snoc way st r b (i + 1)]
    congr 1
    omega
theorem expand_snoc (way : Way) : ∀ (l : List Stp) (st : Stp) (W : Ways), expand way (l ++ [st]) W = addAll way st 0 st.behind (expand way l W)
  | [], st, W => by simp [expand]
  | a :: r, st, W => by
    simp only [List.cons_append, expand]
    rw [expand_snoc way r st]
theorem take_snoc {α : Type} {l : List α} {i : Nat} {x : α} (h : l[i]? = some x) : l.take (i + 1) = l.take i ++ [x] := by rw [List.take_add_one, h]; rfl
theorem Tail.take {st : Stp} {l : List Sg} (i : Nat) (t : Tail st 0 l) : Tail st 0 (l.take i) := by
  refine ⟨fun b hb => t.1 b (List.mem_of_mem_take hb), fun e b hb => t.2 e b ?_⟩
  rw [if_pos rfl] at hb ⊢
  rw [List.drop_take] at hb
  exact List.mem_of_mem_take hb
theorem find_first {α : Type} {p : α → Bool} : ∀ {l : List α} {j : Nat} {x : α}, l[j]? = some x → (∀ y ∈ l.take j, p y = false) → p x = true → l.find? p = some x
  | [], _, _, h, _, _ => by simp at h
  | a :: r, 0, x, h, _, hp => by
    simp at h
    subst h
    rw [List.find?_cons, hp]
  | a :: r, j + 1, x, h, hn, hp => by
    rw [List.find?_cons, hn a (by simp)]
    exact find_first (l := r) (j := j) (by simpa using h) (fun y hy => hn y (by simp [hy])) hp
theorem srch_found {h : Hm} {p : Stp → Bool} {k n : Nat} {w0 : Sg × Way} {st : Stp} (e : (bst h n)[n]? = some w0) (f : (stepsM h w0.1).find? p = some st) : srch h p (k + 1) n = some (w0.2 ++ [(st, 0)]) := by
  simp only [srch, e, f]
theorem srch_on {h : Hm} {p : Stp → Bool} {k n : Nat} {w0 : Sg × Way} (e : (bst h n)[n]? = some w0) (f : (stepsM h w0.1).find? p = none) : srch h p (k + 1) n = srch h p k (n + 1) := by
  simp only [srch, e, f]
/-! ### ways on the heap -/
section
variable {K : PySem.W.Frag} {c : Cs}
def PairAt (c : Cs) (K : PySem.W.Frag) (H : Hp) (t : Addr) (x : Stp × Int) : Prop := ∃ a, H t = some (.tup [V.ref a, V.int x.2]) ∧ StAt c.S c.M K H a x.1
def WayAt (c : Cs) (K : PySem.W.Frag) (H : Hp) (l : Addr) (way : Way) : Prop := ∃ ts : List Addr, H l = some (.lst (ts.map V.ref)) ∧ Paired (PairAt c K H) ts way
theorem PairAt.kin {H H' : Hp} {t : Addr} {x : Stp × Int} (e : Kin H H') (h : PairAt c K H t x) : PairAt c K H' t x := by
  obtain ⟨a, h1, h2⟩ := h
  exact ⟨a, e _ _ (fun _ z => by cases z) (fun _ z => by cases z) h1, h2.kin e⟩
theorem WayAt.same {H H' : Hp} {l : Addr} {way : Way} (e : Same H H') (h : WayAt c K H l way) : WayAt c K H' l way := by
  obtain ⟨ts, h1, h2⟩ := h
  exact ⟨ts, e _ _ h1, Paired.mapP h2 fun _ _ z => z.kin (Same.kin e)⟩
structure EntAt (c : Cs) (K : PySem.W.Frag) (fnd : Addr) (H : Hp) (e : WE) (x : Sg × Way) : Prop where
  eq : e.1 = x.1
  key : SgAt K H e.2.1 e.1
  ne : e.2.2 ≠ fnd
  way : WayAt c K H e.2.2 x.2
theorem EntAt.b2 {fnd wd : Addr} {H H' : Hp} {e : WE} {x : Sg × Way} {l : List V} {φ : Heap → Prop} (b : B2 fnd wd H H') (hf : H fnd = some (.lst l)) (hd : H wd = some (.ext φ)) (h : EntAt c K fnd H e x) : EntAt c K fnd H' e x := by
  have k := b.kin hf hd
  obtain ⟨ts, h1, h2⟩ := h.way
  refine ⟨h.eq, h.key.kin k, h.ne, ts, b _ _ h.ne (fun z => ?_) h1, Paired.mapP h2 fun _ _ z => z.kin k⟩
  rw [z, hd] at h1
  cases h1
/-- the found list and the dict of ways -/
structure Core (P : Program) (w : World) (c : Cs) (K : PySem.W.Frag) (fnd wd : Addr) (H : Hp) (xs : List WE) (W : Ways) : Prop where
  f : H fnd = some (.lst (xs.map fun e => V.ref e.2.1))
  d : H wd = some (DNo P w wd xs)
  en : Paired (EntAt c K fnd H) xs W
  good : Good W
theorem Core.b2 {P : Program} {w : World} {fnd wd : Addr} {H H' : Hp} {xs : List WE} {W : Ways} (h : Core P w c K fnd wd H xs W) (e : Same H H') : Core P w c K fnd wd H' xs W :=
  ⟨e _ _ h.f, e _ _ h.d, Paired.mapP h.en fun _ _ z => z.b2 (Same.b2 e) h.f h.d, h.good⟩
theorem ents_keys {fnd : Addr} {H : Hp} : ∀ {l : List WE} {m : Ways}, Paired (EntAt c K fnd H) l m → ∀ e ∈ l, SgAt K H e.2.1 e.1
  | _, _, .nil, e, he => by cases he
  | _, _, .cons a t, e, he => by
    rcases List.mem_cons.mp he with z | z
    · rw [z]; exact a.key
    · exact ents_keys t e z
theorem ents_names {fnd : Addr} {H : Hp} : ∀ {l : List WE} {m : Ways}, Paired (EntAt c K fnd H) l m → l.map (·.1) = m.map (·.1)
  | _, _, .nil => rfl
  | _, _, .cons a t => by rw [List.map_cons, List.map_cons, a.eq, ents_names t]
theorem ents_has {fnd : Addr} {H : Hp} (b : Sg) : ∀ {l : List WE} {m : Ways}, Paired (EntAt c K fnd H) l m → (atS l b).isSome = has m b
  | _, _, .nil => rfl
  | _, _, .cons (a := x) (b := y) a t => by
    have ih := ents_has b t
    unfold atS has at ih ⊢
    rw [List.find?_cons, List.any_cons, ← a.eq]
    by_cases z : x.1 = b
    · simp [z]
    · rw [decide_eq_false z, Bool.false_or]
      exact ih
theorem Core.keys {P : Program} {w : World} {fnd wd : Addr} {H : Hp} {xs : List WE} {W : Ways} (h : Core P w c K fnd wd H xs W) : ∀ e ∈ xs, SgAt K H e.2.1 e.1 := ents_keys h.en
theorem Core.names {P : Program} {w : World} {fnd wd : Addr} {H : Hp} {xs : List WE} {W : Ways} (h : Core P w c K fnd wd H xs W) : xs.map (·.1) = W.map (·.1) := ents_names h.en
theorem Core.nd {P : Program} {w : World} {fnd wd : Addr} {H : Hp} {xs : List WE} {W : Ways} (h : Core P w c K fnd wd H xs W) : (xs.map (·.1)).Nodup := by
  rw [h.names]
  exact h.good.nd
theorem Core.len {P : Program} {w : World} {fnd wd : Addr} {H : Hp} {xs : List WE} {W : Ways} (h : Core P w c K fnd wd H xs W) : xs.length = W.length := Paired.length h.en
theorem atS_at : ∀ {xs : List WE} {n : Nat} {e : WE}, (xs.map (·.1)).Nodup → xs[n]? = some e → atS xs e.1 = some e.2
  | [], _, _, _, h => by simp at h
  | a :: r, 0, e, _, h => by
    simp at h
    subst h
    simp [atS]
  | a :: r, n + 1, e, hn, h => by
    rw [List.map_cons, List.nodup_cons] at hn
    have h' : r[n]? = some e := by simpa using h
    have hne : ¬ a.1 = e.1 := fun z => hn.1 (z ▸ List.mem_map.mpr ⟨e, List.mem_of_getElem? h', rfl⟩)
    have ih := atS_at hn.2 h'
    unfold atS at ih ⊢
    rw [List.find?_cons, decide_eq_false hne]
    exact ih
theorem atS_has {P : Program} {w : World} {fnd wd : Addr} {H : Hp} {xs : List WE} {W : Ways} (h : Core P w c K fnd wd H xs W) (b : Sg) : (atS xs b).isSome = has W b := ents_has b h.en
theorem Paired.at {α β : Type} {F : α → β → Prop} : ∀ {l : List α} {m : List β} {i : Nat} {b : β}, Paired F l m → m[i]? = some b → ∃ a, l[i]? = some a ∧ F a b
  | _, _, _, _, .nil, h => by simp at h
  | _, _, 0, _, .cons h t, e => by
    simp at e
    subst e
    exact ⟨_, rfl, h⟩
  | _, _, i + 1, _, .cons h t, e => by
    obtain ⟨a, h1, h2⟩ := Paired.at (i := i) t (by simpa using e)
    exact ⟨a, by simpa using h1, h2⟩
/-- a standing that is new -/
theorem Core.add {P : Program} {w : World} {fnd wd : Addr} {H : Hp} {xs : List WE} {W : Ways} (h : Core P w c K fnd wd H xs W) (hne : fnd ≠ wd) {g : Sg} {kp l : Addr} {way : Way} (hg : SgAt K H kp g) (hl : l ≠ fnd) (hw : WayAt c K H l way) (gd : Good (W ++ [(g, way)])) :
    Core P w c K fnd wd (upd (upd H wd (DNo P w wd (xs ++ [(g, kp, l)]))) fnd (.lst ((xs.map fun e => V.ref e.2.1) ++ [V.ref kp]))) (xs ++ [(g, kp, l)]) (W ++ [(g, way)]) ∧
    B2 fnd wd H (upd (upd H wd (DNo P w wd (xs ++ [(g, kp, l)]))) fnd (.lst ((xs.map fun e => V.ref e.2.1) ++ [V.ref kp]))) := by
  have b : B2 fnd wd H (upd (upd H wd (DNo P w wd (xs ++ [(g, kp, l)]))) fnd (.lst ((xs.map fun e => V.ref e.2.1) ++ [V.ref kp]))) := B2.setD.trans B2.setF
  refine ⟨⟨by rw [upd_same, List.map_append]; rfl, by rw [upd_ne hne.symm, upd_same], ?_, gd⟩, b⟩
  refine Paired.snoc (Paired.mapP h.en fun _ _ z => z.b2 b h.f h.d) ?_
  exact EntAt.b2 b h.f h.d ⟨rfl, hg, hl, hw⟩
end
section
variable {P : Program} {w : World} {K : PySem.W.Frag} {mg : Str → Option Value} {base : Heap} {c : Cs}
section
variable {X : Cx} {P : Program} {w : World} {K : PySem.W.Frag} {o i value k v : Expr} {pos pos' : Pos} {td ty tv tk : TE}
theorem pe_ngetK (e : X.prog = P ∧ X.w = w ∧ X.K = K) (hu : X.A.units + 64 < cLine) (ho : PE X o td) (hi : PE X i ty) (hs : NoSl i) : PE X (.Subscript o i pos) (tNGet P w K td ty) := by
  obtain ⟨rfl, rfl, rfl⟩ := e
  exact pe_nget hu ho hi hs
theorem pc_nnotK (e : X.prog = P ∧ X.w = w ∧ X.K = K) (hu : X.A.units + 64 < cLine) (hi : PE X i ty) (ho : PE X o td) : PC X .NotIn i o (tNNot P w K ty td) := by
  obtain ⟨rfl, rfl, rfl⟩ := e
  exact pc_nnot hu hi ho
theorem ps_nputK (e : X.prog = P ∧ X.w = w ∧ X.K = K) (hu : X.A.units + 64 < cLine) (ho : PE X o td) (hi : PE X i ty) (hv : PE X value tv) (hs : swapsWith value (some (.Subscript o i pos')) pos.line X.env = pure false) :
    PS X (.Assign [.Subscript o i pos'] value pos) (sNPut P w K td ty tv) := by
  obtain ⟨rfl, rfl, rfl⟩ := e
  exact ps_nput hu ho hi hv hs
theorem pe_ndispK (e : X.prog = P ∧ X.w = w ∧ X.K = K) (hu : X.A.units + 64 < cLine) (hk : PE X k tk) (hv : PE X v tv) : PE X (.Dict [some k] [v] pos) (tNDisp P w K tk tv) := by
  obtain ⟨rfl, rfl, rfl⟩ := e
  exact pe_ndisp hu hk hv
end
theorem pe_c0 {X : Cx} {k j : Nat} {x : Str} {sp : Sp} {dvs : List V} {p pos : Pos} (cc : C8.Cal X.prog X.w X.K X.mg X.base k x sp dvs) (hr : Room j X.A) (hk : k ≤ j) (hg : Gl X x) (hdb : (x == ("__debug__" : Str)) = false := by decide) : PE X (.Call (.Name x p) [] [] pos) (tCall sp dvs C8.E0 tNil) := by
  obtain ⟨f, fd, ps, ds, F, hm, kp, b, d⟩ := cc.ex
  exact pe_call0 F (hr.mono hk) hg hm kp b d C8.pass0 hdb
/-- is_met(step): what the walk of followed is told of it -/
def tMet (c : Cs) (K : PySem.W.Frag) (p : Stp → Bool) (fl : Addr) (H0 : Hp) (te : TE) : TE := fun σ H1 Q => σ[1]? = some (some (.ref fl)) ∧ te σ H1 fun v H2 => ∃ a st, v = .ref a ∧ StAt c.S c.M K H2 a st ∧ st.made.length ≤ 2 ∧ Same H0 H2 ∧ ∀ H3, Same H2 H3 → Q (.bl (p st)) H3
abbrev nF : List Str := ["house", "is_met", "has_hits", "first", "found", "at", "ways", "step", "way", "spot", "behind"]
theorem sc_followed : FnScope nF ["house", "is_met", "has_hits"] (defScope (top 48)) := ⟨rfl, rfl, rfl, by decide +kernel, rfl, by decide +kernel, by decide +kernel⟩
def WayRes (c : Cs) (K : PySem.W.Frag) (H : Hp) (v : V) : Option Way → Prop
  | none => v = .non
  | some way => ∃ l, v = .ref l ∧ WayAt c K H l way
abbrev cxF (P : Program) (w : World) (K : PySem.W.Frag) (mg : Str → Option Value) (base : Heap) (f : Addr) (cdv : Value) (A : Around) (outer : List Env) (s : Shared) (H : Hp) : Cx := (cxOf C8.CX0 P w K mg base nF "followed" (defScope (top 48)) f cdv A outer s H C8.E0).nox
theorem made2 {h : Hm} {s : Sg} : ∀ st ∈ stepsM h s, st.made.length ≤ 2 := by
  intro st hst
  unfold stepsM at hst
  rcases List.mem_cons.mp hst with e | hst
  · subst e; simp [shutStp]
  · rcases List.mem_append.mp hst with hst | hst
    · unfold takes at hst
      have tk : ∀ d, st ∈ takeOf h s d → st.made.length ≤ 2 := fun d hd => by
        unfold takeOf at hd
        split at hd
        · cases hd
        · rw [List.mem_singleton.mp hd]
          simp [takeStp]
      rcases List.mem_append.mp hst with h1 | h1
      · exact tk _ h1
      · exact tk _ h1
    · unfold rights at hst
      split at hst
      · cases hst
      · rw [List.mem_singleton.mp hst]
        simp [rightStp]
theorem body_followed (fr : Free mg) (ok : CsOk K c) (B : BegT K mg) (cb : C8.Cal P w K mg base 3 "beginning" (spBeg c K) []) (cs : C8.Cal P w K mg base 5 "steps" (spSteps c.S c.M c.H K) [])
    {f : Addr} {cdv : Value} {A : Around} {outer : List Env} {s : Shared} {H : Hp} {Q : VK} {a fl : Addr} {h : Hm} {p : Stp → Bool} (hr : Room 5 (cxF P w K mg base f cdv A outer s H).A)
    (act : ∀ (e : Expr) (te : TE) (p1 p2 : Pos), PE (cxF P w K mg base f cdv A outer s H) e te → starEach [e] (cxF P w K mg base f cdv A outer s H).env = [(false, eval e (cxF P w K mg base f cdv A outer s H).env)] → PE (cxF P w K mg base f cdv A outer s H) (.Call (.Name "is_met" p1) [e] [] p2) (tMet c K p fl H te))
    (hH : HouseAt c.H H a h) (hd4 : h.depth ≤ 4) (q : ∀ H' t fa v, Same H H' → H' t = some (.tup [.ref fa, v]) → WayRes c K H' v (search h p) → Q (.ref t) H') :
    ∃ t, PSs (cxF P w K mg base f cdv A outer s H) (defBody (top 48)) t ∧ t { nx := fun _ H' => Q .non H', rt := Q } (L2.start nF [.ref a, .ref fl, .bl false]) H := by
  obtain ⟨bg, hbg, hB⟩ := B.ex
  have nd := sc_followed.nd
  have hu64 : (cxF P w K mg base f cdv A outer s H).A.units + 64 < cLine := by have := hr.un; omega
  refine ⟨_, (pss_cons (ps_set (i := 3) nd rfl (.inl rfl) (pe_c0 cb hr (by decide) (by rfl)))
      (pss_cons (ps_if (pt_val (act _ _ _ _ (pv 3) rfl)) (pss_one (ps_ret (pe_tup (pa_cons (pe_lst pa_nil) (pa_cons (pe_lst (pa_cons (pe_tup (pa_cons (pv 3) (pa_cons pe_int pa_nil))) pa_nil)) pa_nil))))) pss_nil)
      (pss_cons (ps_par (i := 4) (j := 5) rfl nd rfl rfl (by decide) rfl rfl (pa_cons (pe_lst (pa_cons (pe_glob (v := .ref bg) (by rfl) hbg rfl) pa_nil)) (pa_cons pe_int pa_nil)) (by rfl))
      (pss_cons (ps_set (i := 6) nd rfl (.inl rfl) (pe_ndispK (P := P) (w := w) (K := K) ⟨rfl, rfl, rfl⟩ hu64 (pe_glob (v := .ref bg) (by rfl) hbg rfl) (pe_lst (pa_cons (pe_tup (pa_cons (pv 3) (pa_cons pe_int pa_nil))) pa_nil))))
      (pss_cons (ps_while PassesOwn.never (pt_cmpR op_lt (pv 5) (pe_callB call_len_seq (by rfl) fr.len PySem.boot_len (pa_cons (pv 4) pa_nil)) (nomark _))
      (pss_cons (ps_for PassesOwn.never rfl (pi_list (C8.pe_c cs hr (by decide) (by rfl) (pa_cons (pv 0) (pa_cons (pe_ix ix_list (pv 4) (pv 5) (fun _ _ => rfl)) (pa_cons (pv 2) pa_nil))))) (pg_name (i := 7) nd rfl (.inl rfl))
      (pss_cons (ps_set (i := 8) nd rfl (.inl rfl) (pe_ngetK (P := P) (w := w) (K := K) ⟨rfl, rfl, rfl⟩ hu64 (pv 6) (pe_ix ix_list (pv 4) (pv 5) (fun _ _ => rfl)) (fun _ _ => rfl)))
      (pss_cons (ps_if (pt_val (act _ _ _ _ (pv 7) rfl)) (pss_one (ps_ret (pe_tup (pa_cons (pv 4) (pa_cons (pe_lst (StX.pa_star (pv 8) (pa_cons (pe_tup (pa_cons (pv 7) (pa_cons pe_int pa_nil))) pa_nil))) pa_nil))))) pss_nil)
      (pss_one (ps_for PassesOwn.never rfl (pi_enumT (by rfl) fr.enumerate (pa_cons (pe_fld (pv 7) rfl) pa_nil)) (pg_tup (by rfl) (pgs_cons (pg_name (i := 9) nd rfl (.inl rfl)) (pgs_cons (pg_name (i := 10) nd rfl (.inl rfl)) pgs_nil)))
      (pss_one (ps_if (pt_cmp (pc_nnotK (P := P) (w := w) (K := K) ⟨rfl, rfl, rfl⟩ hu64 (pv 10) (pv 6))) (pss_cons (ps_nputK (P := P) (w := w) (K := K) ⟨rfl, rfl, rfl⟩ hu64 (pv 6) (pv 10) (pe_lst (StX.pa_star (pv 8) (pa_cons (pe_tup (pa_cons (pv 7) (pa_cons (pv 9) pa_nil))) pa_nil))) rfl)
      (pss_one (ps_expr (pe_bm PySem.F.plainAttrs_list PySem.F.slot_list_append PySem.F.type_list_append mt_append (pv 4) (pa_cons (pv 10) pa_nil))))) pss_nil)))))))
      (pss_one (ps_aug (i := 5) nd rfl (.inl rfl) pe_int ip_add))))
      (pss_one (ps_ret (pe_tup (pa_cons (pv 4) (pa_cons pe_non pa_nil)))))))))), ?_⟩
  refine ⟨rfl, fun H1 fi e1 s1 => ?_⟩
  refine ⟨rfl, _, rfl, fi, firstStp, rfl, s1, by decide, e1, fun H2 e2 => ⟨_, rfl, ?_⟩⟩
  have e3 : Same H H2 := e1.trans e2
  have s2 := s1.same e2
  cases hp0 : p firstStp with
  | true =>
    refine iteT ⟨szl (by simp), fun fa hfa => ⟨_, rfl, szl (by simp), fun t1 ht1 => ⟨szl (by simp), fun l hl => ⟨szl (by simp), fun t ht => ?_⟩⟩⟩⟩
    refine q _ t fa (.ref l) (Same.newR (Same.newR (Same.newR (Same.newR e3 hfa) ht1) hl) ht) upd_same ?_
    have hs : search h p = some [(firstStp, 0)] := by unfold search; rw [if_pos hp0]
    rw [hs]
    have k1 : Same (upd (upd H2 fa (.lst [])) t1 (.tup [.ref fi, .int 0])) (upd (upd (upd (upd H2 fa (.lst [])) t1 (.tup [.ref fi, .int 0])) l (.lst [.ref t1])) t (.tup [.ref fa, .ref l])) := Same.newR (Same.new hl) ht
    have k0 : Same H2 (upd (upd H2 fa (.lst [])) t1 (.tup [.ref fi, .int 0])) := Same.newR (Same.new hfa) ht1
    exact ⟨l, rfl, [t1], (Same.new ht) _ _ upd_same, .cons ⟨fi, k1 _ _ upd_same, s2.same (k0.trans k1)⟩ .nil⟩
  | false =>
    refine iteF ⟨szl (by simp), fun fnd hfnd => ⟨_, _, rfl, fun wd hwd => ⟨_, rfl, szl (by simp), fun t1 ht1 => ⟨szl (by simp), fun l1 hl1 => ?_⟩⟩⟩⟩
    have hsrch : search h p = srch h p UU 0 := by unfold search; rw [if_neg (by rw [hp0]; decide)]
    have hnf : H fnd = none := none_of_same e3 hfnd
    have e4 : Same H2 (upd H2 fnd (.lst [.ref bg])) := Same.new hfnd
    have hnw : H wd = none := none_of_same (e3.trans e4) hwd
    have hne : fnd ≠ wd := fun z => by rw [← z, upd_same] at hwd; cases hwd
    generalize hA : upd (upd (upd (upd H2 fnd (.lst [.ref bg])) wd (DNo P w wd [])) t1 (.tup [.ref fi, .int 0])) l1 (.lst [.ref t1]) = HA
    have kw : Same (upd (upd H2 fnd (.lst [.ref bg])) wd (DNo P w wd [])) HA := by rw [← hA]; exact Same.newR (Same.new ht1) hl1
    have kA : Same H2 HA := ((e4.trans (Same.new hwd)).trans kw)
    have t1A : HA t1 = some (.tup [.ref fi, .int 0]) := by rw [← hA]; exact (Same.new hl1) _ _ upd_same
    have l1A : HA l1 = some (.lst [.ref t1]) := by rw [← hA, upd_same]
    have fA : HA fnd = some (.lst [.ref bg]) := kw _ _ ((Same.new hwd) _ _ upd_same)
    have wA : HA wd = some (DNo P w wd []) := kw _ _ upd_same
    have nl1 : l1 ≠ fnd := fun z => by
      have := kw fnd _ ((Same.new hwd) _ _ upd_same)
      rw [z] at hl1
      have h5 : Same (upd (upd H2 fnd (.lst [.ref bg])) wd (DNo P w wd [])) (upd (upd (upd H2 fnd (.lst [.ref bg])) wd (DNo P w wd [])) t1 (.tup [.ref fi, .int 0])) := Same.new ht1
      rw [h5 _ _ ((Same.new hwd) _ _ upd_same)] at hl1
      cases hl1
    refine ⟨bg, BEG, l1, rfl, rfl, wA, hB _, ?_⟩
    have hb0 : B2 fnd wd HA (upd HA wd (DNo P w wd [(BEG, bg, l1)])) := B2.setD
    have core0 : Core P w c K fnd wd (upd HA wd (DNo P w wd [(BEG, bg, l1)])) [(BEG, bg, l1)] (bst h 0) :=
      ⟨by rw [upd_ne hne]; exact fA, upd_same, .cons (EntAt.b2 hb0 fA wA ⟨rfl, hB _, nl1, [t1], l1A, .cons ⟨fi, t1A, s2.same kA⟩ .nil⟩) .nil, good0⟩
    have sm0 : Same H (upd HA wd (DNo P w wd [(BEG, bg, l1)])) := hb0.same (e3.trans kA) hnf hnw
    generalize upd HA wd (DNo P w wd [(BEG, bg, l1)]) = HB at core0 sm0 ⊢
    refine ⟨fun m σ H' => ∃ (n : Nat) (v7 v8 v9 v10 : Option V) (xs : List WE), m = UU - n ∧ σ = [some (.ref a), some (.ref fl), some (.bl false), some (.ref fi), some (.ref fnd), some (.int (n : Int)), some (.ref wd), v7, v8, v9, v10] ∧ Same H H' ∧ Core P w c K fnd wd H' xs (bst h n) ∧ search h p = srch h p (UU - n) n,
      ⟨UU, 0, none, none, none, none, _, rfl, rfl, sm0, core0, hsrch⟩, ?_⟩
    rintro m σ H3 ⟨n, v7, v8, v9, v10, xs0, rfl, rfl, sm, core, hse⟩
    refine ⟨_, rfl, _, rfl, fnd, _, rfl, .inl (SqL.of core.f), _, _, rfl, rfl, _, rfl, ?_⟩
    rw [List.length_map, core.len]
    by_cases hn : n < (bst h n).length
    · rw [decide_eq_true (by omega : (n : Int) < ((bst h n).length : Int))]
      refine iteT ?_
      have hgood : Good (bst h n) := core.good
      have hsz : (bst h n).length ≤ 8388608 := hgood.size
      have hk1 : UU - n = (UU - (n + 1)) + 1 := by have : UU = 8388608 := rfl; omega
      obtain ⟨w0, hw0⟩ : ∃ w0, (bst h n)[n]? = some w0 := ⟨_, List.getElem?_eq_getElem hn⟩
      obtain ⟨⟨sg, kb, l0⟩, he0, ent0⟩ := Paired.at core.en hw0
      have esg : sg = w0.1 := ent0.eq
      have wf0 : Wf sg := by rw [esg]; exact hgood.wf w0 (List.mem_of_getElem? hw0)
      have okst := ok_steps hd4 wf0
      refine ⟨fun σ' H' => ∃ (v7 v8 v9 v10 : Option V) (xs : List WE), σ' = [some (.ref a), some (.ref fl), some (.bl false), some (.ref fi), some (.ref fnd), some (.int ((n + 1 : Nat) : Int)), some (.ref wd), v7, v8, v9, v10] ∧ Same H H' ∧ Core P w c K fnd wd H' xs (bst h (n + 1)) ∧ search h p = srch h p (UU - (n + 1)) (n + 1),
        fun σ' H' ⟨v7, v8, v9, v10, xs, z1, z2, z3, z4⟩ => ⟨UU - (n + 1), by omega, n + 1, v7, v8, v9, v10, xs, rfl, z1, z2, z3, z4⟩, ?_⟩
      have hbs : bst h (n + 1) = expand w0.2 (stepsM h w0.1) (bst h n) := by
        show (match (bst h n)[n]? with | none => bst h n | some e => expand e.2 (stepsM h e.1) (bst h n)) = _
        rw [hw0]
      have ixn : (xs0.map fun e => V.ref e.2.1)[n]? = some (.ref kb) := by rw [List.getElem?_map, he0]; rfl
      refine ⟨_, rfl, _, rfl, _, rfl, fnd, _, _, _, rfl, rfl, SqL.of core.f, atI_nat ixn, _, rfl, a, kb, h, sg, rfl, HouseAt.same sm hH, ent0.key, wf0.1, wf0.2.1, hd4, fun Hs L as e5 hL0 hL hsts => ?_⟩
      have hLf : L ≠ fnd := fun z => by rw [z, core.f] at hL0; cases hL0
      have coreS := core.b2 e5
      have smS : Same H Hs := sm.trans e5
      have hLd : L ≠ wd := fun z => by rw [z, coreS.d] at hL; cases hL
      refine ⟨L, rfl, ⟨_, SqL.of hL⟩, ?_⟩
      refine for_it (walk_list (xs := as.map V.ref)) (fun j σ' H' => ∃ (v7 v8 v9 v10 : Option V) (xs ys : List WE), σ' = [some (.ref a), some (.ref fl), some (.bl false), some (.ref fi), some (.ref fnd), some (.int (n : Int)), some (.ref wd), v7, v8, v9, v10] ∧ xs = xs0 ++ ys ∧ B2 fnd wd Hs H' ∧
          Core P w c K fnd wd H' xs (expand w0.2 ((stepsM h sg).take j) (bst h n)) ∧ ∀ st ∈ (stepsM h sg).take j, p st = false)
        ⟨_, _, _, _, xs0, [], rfl, by simp, B2.refl _ _ _, coreS, fun st hst => by simp at hst⟩ (fun j σ' H' _ ⟨_, _, _, _, _, _, _, _, b, _⟩ => SqL.of (b _ _ hLf hLd hL)) (fun j x σ' H4 H4' hj ⟨v7, v8, v9, v10, xs, ys, hσ, hxs, b4, core4, hno⟩ y => ?_) (fun σ' H4 ⟨v7, v8, v9, v10, xs, ys, hσ, hxs, b4, core4, hno⟩ => ?_)
      · obtain ⟨rfl, hx⟩ := y
        subst hσ
        rw [List.length_map] at hj
        have hjs : j < (stepsM h sg).length := by rw [← Paired.length hsts]; exact hj
        obtain ⟨st, hst⟩ : ∃ st, (stepsM h sg)[j]? = some st := ⟨_, List.getElem?_eq_getElem hjs⟩
        obtain ⟨sa, hsa, hStS⟩ := Paired.at hsts hst
        have hmem := List.mem_of_getElem? hst
        obtain rfl : x = .ref sa := by
          rw [List.getElem?_map, hsa] at hx
          exact (Option.some.inj hx).symm
        have kin4 := b4.kin coreS.f coreS.d
        have sm4 := b4.same smS hnf hnw
        have hxn : xs[n]? = some (sg, kb, l0) := by
          rw [hxs, List.getElem?_append_left (List.getElem?_eq_some_iff.mp he0).1]
          exact he0
        have hwn : (expand w0.2 ((stepsM h sg).take j) (bst h n))[n]? = some w0 := by
          obtain ⟨V, eV⟩ := expand_pre w0.2 ((stepsM h sg).take j) (bst h n)
          rw [eV, List.getElem?_append_left hn]
          exact hw0
        obtain ⟨⟨sg', kb', l0'⟩, hx2, ent4⟩ := Paired.at core4.en hwn
        rw [hxn] at hx2
        cases hx2
        have ixn4 : (xs.map fun e => V.ref e.2.1)[n]? = some (.ref kb) := by rw [List.getElem?_map, hxn]; rfl
        have ow4 : OkWay (expand w0.2 ((stepsM h sg).take j) (bst h n)) w0.2 := core4.good.way w0 (List.mem_of_getElem? hwn)
        have gsz4 : (expand w0.2 ((stepsM h sg).take j) (bst h n)).length ≤ 8388608 := core4.good.size
        have wsz : w0.2.length ≤ 8388608 := Nat.le_trans ow4.short gsz4
        refine ⟨_, rfl, _, rfl, _, rfl, fnd, _, _, _, rfl, rfl, SqL.of core4.f, atI_nat ixn4, wd, kb, sg, xs, (kb, l0), rfl, rfl, core4.d, core4.keys, core4.nd, ent4.key, atS_at core4.nd hxn, ?_⟩
        have hSt4 := hStS.kin kin4
        refine ⟨rfl, _, rfl, sa, st, rfl, hSt4, made2 st hmem, sm4, fun H5 e6 => ⟨_, rfl, ?_⟩⟩
        have core5 := core4.b2 e6
        have sm5 := sm4.trans e6
        cases hp : p st with
        | true =>
          obtain ⟨ts, hts, hpts⟩ := ent4.way
          have hlen := Paired.length hpts
          refine iteT ⟨_, rfl, _, rfl, l0, _, rfl, .inr (SqL.of (e6 _ _ hts)), _, rfl, szl (by simp), fun t7 ht7 => ?_⟩
          refine ⟨by have : sizeLine = 16777216 := rfl; simp; omega, fun l8 hl8 => ⟨szl (by simp), fun t9 ht9 => ?_⟩⟩
          have k1 : Same (upd H5 t7 (.tup [.ref sa, .int 0])) (upd (upd (upd H5 t7 (.tup [.ref sa, .int 0])) l8 (.lst (ts.map V.ref ++ [.ref t7]))) t9 (.tup [.ref fnd, .ref l8])) := Same.newR (Same.new hl8) ht9
          have k0 : Same H5 (upd H5 t7 (.tup [.ref sa, .int 0])) := Same.new ht7
          refine q _ t9 fnd (.ref l8) (sm5.trans (k0.trans k1)) upd_same ?_
          have hfd : (stepsM h w0.1).find? p = some st := by rw [← esg]; exact find_first hst hno hp
          rw [hse, hk1, srch_found hw0 hfd]
          refine ⟨l8, rfl, ts ++ [t7], by rw [(Same.new ht9) _ _ upd_same, List.map_append]; rfl, ?_⟩
          exact Paired.snoc (Paired.mapP hpts fun _ _ z => z.kin (Same.kin (e6.trans (k0.trans k1)))) ⟨sa, k1 _ _ upd_same, (hSt4.same e6).same (k0.trans k1)⟩
        | false =>
          refine iteF ?_
          have ost := okst st hmem
          obtain ⟨dxs, bb, mm, tt, bs, ms, S5⟩ := hSt4.same e6
          have bS5 : B2 fnd wd Hs H5 := b4.trans (Same.b2 e6)
          have hbl := Paired.length S5.bh
          refine ⟨_, rfl, sa, c.S, dxs, _, _, rfl, S5.ob, ok.clS, ok.s_behind, rfl, bb, _, rfl, S5.bt, ?_⟩
          refine for_it (walk_enumT (xs := bs.map V.ref)) (fun i σ' H' => ∃ (v9 v10 : Option V) (xs' ys' : List WE), σ' = [some (.ref a), some (.ref fl), some (.bl false), some (.ref fi), some (.ref fnd), some (.int (n : Int)), some (.ref wd), some (.ref sa), some (.ref l0), v9, v10] ∧ xs' = xs0 ++ ys' ∧ B2 fnd wd H5 H' ∧
              Core P w c K fnd wd H' xs' (addAll w0.2 st 0 (st.behind.take i) (expand w0.2 ((stepsM h sg).take j) (bst h n))))
            ⟨_, _, xs, ys, rfl, hxs, B2.refl _ _ _, core5⟩ (fun i σ' H' _ ⟨_, _, _, _, _, _, b, _⟩ => (b.kin core5.f core5.d).seqT S5.bt) (fun i x σ' H6 H6' hi ⟨v9, v10, xs', ys', hσ, hxs', b6, core6⟩ y => ?_) (fun σ' H6 ⟨v9, v10, xs', ys', hσ, hxs', b6, core6⟩ => ?_)
          · subst hσ
            obtain ⟨T, xx, rfl, hT, rfl, hx⟩ := y
            rw [List.length_map] at hi
            have hib : i < st.behind.length := by omega
            obtain ⟨b, hb⟩ : ∃ b, st.behind[i]? = some b := ⟨_, List.getElem?_eq_getElem hib⟩
            obtain ⟨ba, hba, hbS⟩ := Paired.at S5.bh hb
            obtain rfl : xx = .ref ba := by
              rw [List.getElem?_map, hba] at hx
              exact (Option.some.inj hx).symm
            have e7 : Same H6 (upd H6 T (.tup [.int (i : Nat), .ref ba])) := Same.new hT
            refine ⟨T, _, rfl, SqT.of upd_same, rfl, _, _, rfl, _, _, rfl, rfl, ?_⟩
            have core7 := core6.b2 e7
            have b7 : B2 fnd wd H5 (upd H6 T (.tup [.int (i : Nat), .ref ba])) := b6.trans (Same.b2 e7)
            generalize upd H6 T (.tup [.int (i : Nat), .ref ba]) = H7 at core7 b7 ⊢
            have kin7 := b7.kin core5.f core5.d
            refine ⟨_, rfl, _, rfl, wd, ba, b, xs', rfl, rfl, core7.d, core7.keys, core7.nd, hbS.kin kin7, _, rfl, ?_⟩
            have gd := good_addAll (way := w0.2) ost.nb (st.behind.take (i + 1)) 0 _ (by omega) (ost.tail.take (i + 1)) core4.good ow4
            have gi := good_addAll (way := w0.2) ost.nb (st.behind.take i) 0 _ (by omega) (ost.tail.take i) core4.good ow4
            rw [take_snoc hb] at gd
            rw [addAll_snoc] at gd
            have hli : (0 : Int) + ((st.behind.take i).length : Int) = (i : Int) := by rw [List.length_take]; omega
            rw [hli] at gd
            have etk : addAll w0.2 st 0 (st.behind.take (i + 1)) (expand w0.2 ((stepsM h sg).take j) (bst h n)) = addOne w0.2 st (addAll w0.2 st 0 (st.behind.take i) (expand w0.2 ((stepsM h sg).take j) (bst h n))) b (i : Int) := by
              rw [take_snoc hb, addAll_snoc, hli]
            rw [etk]
            generalize hWi : addAll w0.2 st 0 (st.behind.take i) (expand w0.2 ((stepsM h sg).take j) (bst h n)) = Wi at core7 gd gi ⊢
            have hat := atS_has core7 b
            rw [hat]
            cases hh : has Wi b with
            | true =>
              refine iteF ⟨_, _, xs', ys', rfl, hxs', b7, ?_⟩
              unfold addOne
              rw [if_pos hh]
              exact core7
            | false =>
              have ea : addOne w0.2 st Wi b (i : Int) = Wi ++ [(b, w0.2 ++ [(st, (i : Int))])] := by unfold addOne; rw [if_neg (by rw [hh]; decide)]
              rw [ea] at gd ⊢
              have hxsn : xs'[n]? = some (sg, kb, l0) := by
                rw [hxs', List.getElem?_append_left (List.getElem?_eq_some_iff.mp he0).1]
                exact he0
              have hwin : Wi[n]? = some w0 := by
                obtain ⟨V, eV⟩ := addAll_pre w0.2 st (st.behind.take i) 0 (expand w0.2 ((stepsM h sg).take j) (bst h n))
                rw [← hWi, eV, List.getElem?_append_left (List.getElem?_eq_some_iff.mp hwn).1]
                exact hwn
              obtain ⟨eq, hx3, ent7⟩ := Paired.at core7.en hwin
              rw [hxsn] at hx3
              cases hx3
              obtain ⟨ts, hts, hpts⟩ := ent7.way
              have hlen := Paired.length hpts
              have gszi : Wi.length ≤ 8388608 := gi.1.size
              refine iteT ⟨_, rfl, l0, _, rfl, .inr (SqL.of hts), _, rfl, _, rfl, szl (by simp), fun t7 ht7 => ?_⟩
              refine ⟨by have : sizeLine = 16777216 := rfl; simp; omega, fun l8 hl8 => ?_⟩
              have k0 : Same H7 (upd H7 t7 (.tup [.ref sa, .int (i : Int)])) := Same.new ht7
              have k1 : Same (upd H7 t7 (.tup [.ref sa, .int (i : Int)])) (upd (upd H7 t7 (.tup [.ref sa, .int (i : Int)])) l8 (.lst (ts.map V.ref ++ [.ref t7]))) := Same.new hl8
              have core8 := core7.b2 (k0.trans k1)
              have nl8 : l8 ≠ fnd := fun z => by rw [z, k0 _ _ core7.f] at hl8; cases hl8
              have way8 : WayAt c K (upd (upd H7 t7 (.tup [.ref sa, .int (i : Int)])) l8 (.lst (ts.map V.ref ++ [.ref t7]))) l8 (w0.2 ++ [(st, (i : Int))]) :=
                ⟨ts ++ [t7], by rw [upd_same, List.map_append]; rfl, Paired.snoc (Paired.mapP hpts fun _ _ z => z.kin (Same.kin (k0.trans k1))) ⟨sa, k1 _ _ upd_same, StAt.same (k0.trans k1) (StAt.kin kin7 ⟨dxs, bb, mm, tt, bs, ms, S5⟩)⟩⟩
              have bS8 := SgAt.same (k0.trans k1) (hbS.kin kin7)
              have b8 : B2 fnd wd H5 (upd (upd H7 t7 (.tup [.ref sa, .int (i : Int)])) l8 (.lst (ts.map V.ref ++ [.ref t7]))) := b7.trans (Same.b2 (k0.trans k1))
              generalize upd (upd H7 t7 (.tup [.ref sa, .int (i : Int)])) l8 (.lst (ts.map V.ref ++ [.ref t7])) = H8 at core8 way8 bS8 b8 ⊢
              have cl8 := core8.len
              obtain ⟨core9, b9⟩ := core8.add hne bS8 nl8 way8 gd.1
              refine ⟨_, rfl, _, rfl, wd, ba, b, xs', l8, rfl, rfl, rfl, core8.d, core8.keys, core8.nd, bS8, ?_, by have : sizeLine = 16777216 := rfl; omega, ?_⟩
              · cases hz : atS xs' b with
                | none => rfl
                | some z => rw [hz] at hat; rw [hh] at hat; cases hat
              refine ⟨_, rfl, .inl ⟨rfl, _, SqL.of (by rw [upd_ne hne]; exact core8.f)⟩, _, rfl, fnd, _, _, rfl, rfl, (by rw [upd_ne hne]; exact core8.f), by have : sizeLine = 16777216 := rfl; rw [List.length_map]; omega, ?_⟩
              exact ⟨_, _, xs' ++ [(b, ba, l8)], ys' ++ [(b, ba, l8)], rfl, by rw [hxs', List.append_assoc], b8.trans b9, core9⟩
          · subst hσ
            rw [List.length_map, show st.behind.take bs.length = st.behind by rw [hbl, List.take_length]] at core6
            refine ⟨_, _, _, _, xs', ys', rfl, hxs', bS5.trans b6, ?_, fun st' hst' => ?_⟩
            · rw [take_snoc hst, expand_snoc]
              exact core6
            · rw [take_snoc hst] at hst'
              rcases List.mem_append.mp hst' with z | z
              · exact hno st' z
              · rw [List.mem_singleton.mp z]
                exact hp
      · subst hσ
        have htk : (stepsM h sg).take (as.map V.ref).length = stepsM h sg := by rw [List.length_map, Paired.length hsts, List.take_length]
        rw [htk] at core4 hno
        have sm4 := b4.same smS hnf hnw
        refine ⟨_, rfl, _, _, rfl, rfl, v7, v8, v9, v10, xs, ?_, sm4, ?_, ?_⟩
        · rfl
        · rw [hbs, ← esg]
          exact core4
        · have : (stepsM h w0.1).find? p = none := List.find?_eq_none.mpr fun st hst => by
            rw [← esg] at hst
            rw [hno st hst]
            decide
          rw [hse, hk1, srch_on hw0 this]
    · rw [decide_eq_false (by omega : ¬ (n : Int) < ((bst h n).length : Int))]
      refine iteF ⟨_, rfl, szl (by simp), fun t ht => ?_⟩
      refine q _ t fnd .non (Same.newR sm ht) upd_same ?_
      have he : (bst h n)[n]? = none := List.getElem?_eq_none (by omega)
      have : srch h p (UU - n) n = none := by
        cases UU - n with
        | zero => rfl
        | succ k => simp only [srch]; rw [he]
      rw [hse, this]
      rfl
end
end K97
set_option maxHeartbeats 4000000
/-! A lambda of one parameter that is handed on and called there. -/
namespace K97
open PySem PySem.Spec PyProof.Rows L2 LamX NdefX
section
variable {cl : List (Str × Addr)} {fr : List Str} {ws : List (Option V)} {fs : List Addr} {H H' : Hp} {h h' : Heap}
theorem cells_un (C : CellsAt cl fr ws h H) (u : Un fs [] H H' h h') : CellsAt cl fr ws h' H' := by
  have kp : ∀ y c, cl.lookup y = some c → ∀ v, h.IsCell c v → h'.IsCell c v := fun y c e v ⟨o, ho, hd⟩ => by
    obtain ⟨sl, q⟩ := u.any ho (C.all y c e).1 (by simp)
    exact ⟨_, q, hd⟩
  refine ⟨C.len, fun y c e => ?_, C.inj, fun i y e => ?_⟩
  · obtain ⟨n, v, z⟩ := C.all y c e
    refine ⟨?_, v, kp y c e v z⟩
    obtain ⟨o, ho, _⟩ := z
    exact u.free c o ho n (by simp)
  · obtain ⟨c, hc, hv⟩ := C.has i y e
    refine ⟨c, hc, fun v ev => ?_⟩
    obtain ⟨u', r, z⟩ := hv v ev
    exact ⟨u', r, kp y c hc _ z⟩
end
/-- the lambda's words, as a nested def's -/
abbrev lamF (q : Str) (params : Arguments) (scope : Scope) (cl : List (Str × Addr)) (c : Addr) : NF := ⟨"<lambda>", q, params, [], scope, cl, c⟩
section
variable {P : Program} {w : World} {K : PySem.W.Frag} {mg : Str → Option Value} {base : Heap} {Ng Nl : List Str} {qg : Str} {sg : Scope} {g : Addr} {cdg : Value} {A0 : Around} {outer0 : List Env} {s : Shared} {H : Hp}
theorem pe_act1 {f c' : Addr} {q a x : Str} {i k : Nat} {params : Arguments} {body : Expr} {scope : Scope} {cl : List (Str × Addr)} {pm ctv : Value} {fr : List Str} {ws : List (Option V)} {tb te : TE} {e : Expr} {p1 p2 : Pos}
    (hf : s.heap.get? f = some (PySem.W.kla_obj "<lambda>" q params body scope cl pm c' ctv)) (hfn : H f = none) (hfr : f ∉ frs outer0) (C : CellsAt cl fr ws s.heap H) (hc : H c' = some (CodeO c' q)) (S : NScope Nl [x] fr scope)
    (hbind : ∀ u : Value, bindArgs (PySem.W.kla_fn "<lambda>" q params body scope cl pm (.ref c') ctv) ⟨[u], []⟩ = pure [(x, u)]) (hr : Room (k + 1) (cxOf C8.CX0 P w K mg base Ng qg sg g cdg A0 outer0 s H C8.E0).nox.A)
    (hbody : ∀ (A : Around) (outer : List Env) (s1 : Shared) (H1 : Hp), Room k (A.deeper (envF (lamF q params scope cl c') f s1.heap.objs.size)) → PE (ncx C8.CX0 P w K mg base Nl (lamF q params scope cl c') f A outer s1 H1 C8.E0) body tb)
    (hN : Ng[i]? = some a) (hv : Vis sg a) (ha : PE (cxOf C8.CX0 P w K mg base Ng qg sg g cdg A0 outer0 s H C8.E0).nox e te) (hd : (a == ("__debug__" : Str)) = false := by decide) (hcd : (a == ("__classdict__" : Str)) = false := by decide)
    (he : starEach [e] (cxOf C8.CX0 P w K mg base Ng qg sg g cdg A0 outer0 s H C8.E0).nox.env = [(false, eval e (cxOf C8.CX0 P w K mg base Ng qg sg g cdg A0 outer0 s H C8.E0).nox.env)]) :
    PE (cxOf C8.CX0 P w K mg base Ng qg sg g cdg A0 outer0 s H C8.E0).nox (.Call (.Name a p1) [e] [] p2) (fun σ H1 Q => σ[i]? = some (some (.ref f)) ∧ ∃ R : V → Hp → Prop, te σ H1 R ∧ ∀ v H2, R v H2 → Same H H2 ∧ tb (startF Nl [v] ws) H2 Q) := by
  refine ⟨fun pinsZ sZ σZ HZ Q IZ h => ?_⟩
  obtain ⟨hs, R, ht, hR⟩ := h
  have keepF : ∀ {t : Shared} {σ' : L2.St} {H' : Hp}, Inv (cxOf C8.CX0 P w K mg base Ng qg sg g cdg A0 outer0 s H C8.E0).nox pinsZ σ' H' t → t.heap.get? f = some (PySem.W.kla_obj "<lambda>" q params body scope cl pm c' ctv) := fun I => I.base.keep f _ hf hfn hfr (fun z => nomatch (show f ∈ ([] : List Addr) from z))
  refine wpAny_Call_Name_kw (thn ((pe_var (pos := p1) (i := i) hN hv hd hcd).run pinsZ sZ σZ HZ (fun v H1 => v = .ref f ∧ H1 = HZ) IZ ⟨.ref f, hs, rfl, rfl⟩) fun u s1 ⟨v, H1, I1, r1, q1⟩ => ?_)
  obtain ⟨ev, eH⟩ := q1
  subst ev
  rw [eH] at I1
  obtain rfl : u = Value.ref f := r1
  refine PySem.W.callWith_F (first := []) ⟨_, _, _, _, keepF I1⟩ (thn ((pa_cons (hs := he) ha pa_nil).run p2 pinsZ s1 σZ HZ (fun vs H2 => match vs with | [v] => R v H2 | _ => False) I1 ht) fun us s2 ⟨vs, H2, I2, r, hm⟩ => ⟨⟨_, _, _, _, keepF I2⟩, ?_⟩) he rfl
  show wpAny _ _ (call (.ref f) us) _ _ _
  obtain ⟨v1, rfl, hr1⟩ : ∃ v1, vs = [v1] ∧ R v1 H2 := by
    match vs, hm with
    | [v1], h => exact ⟨v1, rfl, h⟩
  obtain ⟨e2, q2⟩ := hR v1 H2 hr1
  obtain ⟨u1, rfl⟩ : ∃ u1, us = [u1] := by
    cases r with
    | cons a b => cases b; exact ⟨_, rfl⟩
  have C2 : CellsAt cl fr ws s2.heap H2 := cells_un C I2.base
  have lim := I2.nolimit
  have rc : codeAny (model P w) (cxOf C8.CX0 P w K mg base Ng qg sg g cdg A0 outer0 s H C8.E0).nox.A (.call (.ref f) ⟨[u1], []⟩) (CR C8.CX0 (cxOf C8.CX0 P w K mg base Ng qg sg g cdg A0 outer0 s H C8.E0).nox.stack P w H2 s2 Q C8.E0) s2 := by
    refine PySem.W.kla_callFunE hr.depth (keepF I2) rfl S.co S.gen rfl (codeO_at I2.hok (e2 _ _ hc)) ?_
    rw [hbind]
    refine wpAny_pure (wpAny_newFunctionEnv S.nocell (fun y hy => ?_) (fun h₁ hns hsb => ⟨lim.fresh _ hsb, ?_⟩) S.kind)
    · rw [List.mem_singleton.mp hy]
      exact S.par x (by simp)
    show codeAny _ _ (.expr body (envF (lamF q params scope cl c') f s2.heap.objs.size)) _ _
    have kp : ∀ b o, s2.heap.get? b = some o → h₁.get? b = some o := fun b o e => hsb.extBut b o (Nat.ne_of_lt (Heap.lt_size e)) (Heap.get?_push_of_some _ e)
    have J : Inv (ncx C8.CX0 P w K mg base Nl (lamF q params scope cl c') f (cxOf C8.CX0 P w K mg base Ng qg sg g cdg A0 outer0 s H C8.E0).nox.A (cxOf C8.CX0 P w K mg base Ng qg sg g cdg A0 outer0 s H C8.E0).nox.stack s2 H2 C8.E0) [] (startF Nl [v1] ws) H2 { s2 with heap := h₁, toks := s2.toks + ([(x, u1)] : List (Str × Value)).length } :=
      inv_startN (ps := [x]) (us := [u1]) S hr.hd I2.env0 rfl r C2 hns kp
    refine PySem.W.kla_codeExpr (wpAny_mono ((hbody _ _ s2 H2 (hr.deeper _)).run [] _ _ H2 Q J q2) (fun v s' hq => ?_) fun e s' hq => hq)
    obtain ⟨w', H', J', rv, q⟩ := hq
    exact ⟨w', H', J'.os, J'.bare, J'.base, J'.hok, rv, q⟩
  refine wpAny_call (codeAny_mono rc fun r s' hq => ?_)
  cases r with
  | error e => exact (show False from hq).elim
  | ok fl =>
    cases fl with
    | ret u => exact I2.after hq
    | next => exact False.elim hq
    | brk => exact False.elim hq
    | cont => exact False.elim hq
end
end K97
set_option maxHeartbeats 4000000
/-! followed(house, lambda step: .., flag) -/
namespace K97
open PySem PySem.Spec PyProof.Rows L2 LamX NdefX
def tFoll (c : Cs) (K : PySem.W.Frag) (T : List (Addr × Str)) (Nl : List Str) (js : List Nat) (tb t1 t3 : TE) : TE := fun σ H Q => t1 σ H fun v1 H1 => Tabs T H1 ∧ ∀ H2, ExtN H1 H2 → Tabs T H2 → t3 σ H2 fun v3 H3 => H3 = H2 ∧ v3 = .bl false ∧ ∃ a h p, v1 = .ref a ∧ HouseAt c.H H2 a h ∧ h.depth ≤ 4 ∧
  (∀ (H4 : Hp) (sa : Addr) (st : Stp) (Q' : VK), Same H2 H4 → StAt c.S c.M K H4 sa st → st.made.length ≤ 2 → (∀ H5, Same H4 H5 → Q' (.bl (p st)) H5) → tb (startF Nl [.ref sa] (js.map (slotAt σ))) H4 Q') ∧
  (∀ H4 t fa v, Same H2 H4 → Tabs T H4 → H4 t = some (.tup [.ref fa, v]) → WayRes c K H4 v (search h p) → Q (.ref t) H4)
theorem nox_of {X : Cx} {b : List Stmt} {D : Ends} {σ : L2.St} {H : Hp} (h : ∃ t, PSs X.nox b t ∧ t D σ H) : ∃ t, PSs X b t ∧ t D σ H := by
  obtain ⟨t, h1, h2⟩ := h
  exact ⟨t, h1.nox, h2⟩
theorem pe_imp {X : Cx} {e : Expr} {t t' : TE} (h : PE X e t) (i : ∀ σ H Q, t' σ H Q → t σ H Q) : PE X e t' := ⟨fun pins s σ H Q I q => h.run pins s σ H Q I (i σ H Q q)⟩
section
variable {X : Cx} {c : Cs}
theorem pe_fcall {T : List (Addr × Str)} {Nl fr : List Str} {js : List Nat} {cc Pt : Addr} {params : Arguments} {body e1 e3 : Expr} {scope : Scope} {tb t1 t3 : TE} {p lpos pos : Pos}
    (fre : Free X.mg) (ok : CsOk X.K c) (B : BegT X.K X.mg) (cb : C8.Cal X.prog X.w X.K X.mg X.base 3 "beginning" (spBeg c X.K) []) (cs : C8.Cal X.prog X.w X.K X.mg X.base 5 "steps" (spSteps c.S c.M c.H X.K) [])
    (D : DefT X.K X.mg "followed" "followed" "followed" (top 48) []) (hg : Gl X "followed") (TB : TabB X.base X.mg cc Pt) (hcode : X.env.code = .ref cc) (hmT : (Pt, X.env.qual ++ "<lambda>") ∈ T) (hu : ∀ q ∈ T, q.1 = Pt → q.2 = X.env.qual ++ "<lambda>")
    (hr : Room 6 X.A) (hdef : defaultsOf params X.env = ([], [])) (hB : ndefB X.env.scope scope fr = true) (S : NScope Nl ["step"] fr scope)
    (hbind : ∀ (q : Str) (cl : List (Str × Addr)) (pm cv ctv u : Value), bindArgs (PySem.W.kla_fn "<lambda>" q params body scope cl pm cv ctv) ⟨[u], []⟩ = pure [(("step" : Str), u)]) (hjs : js.map (fun j => X.N[j]?) = fr.map some) (hfs : ∀ b ∈ X.fs, b ∈ frs X.stack)
    (hbody : ∀ (c' f : Addr) (A : Around) (outer : List Env) (s1 : Shared) (H1 : Hp), Room 4 (A.deeper (envF (lamF (X.env.qual ++ "<lambda>") params scope (cloFrom X.env.cells scope.names []) c') f s1.heap.objs.size)) →
      PE (ncx C8.CX0 X.prog X.w X.K X.mg X.base Nl (lamF (X.env.qual ++ "<lambda>") params scope (cloFrom X.env.cells scope.names []) c') f A outer s1 H1 C8.E0) body tb)
    (h1 : PE X e1 t1) (h3 : PE X e3 t3) (hs1 : starEach [e1, .Lambda params body scope lpos, e3] X.env = (false, eval e1 X.env) :: starEach [.Lambda params body scope lpos, e3] X.env) (hs3 : starEach [e3] X.env = (false, eval e3 X.env) :: starEach [] X.env) :
    PE X (.Call (.Name "followed" p) [e1, .Lambda params body scope lpos, e3] [] pos) (tFoll c X.K T Nl js tb t1 t3) := by
  obtain ⟨g, fd, F, hm⟩ := D.ex
  have hk := F.kp
  have hbs : Binds X.K fd ["house", "is_met", "has_hits"] [] := F.bindsN (fun _ _ _ _ _ _ us hl => match us, hl with | [_, _, _], _ => rfl)
  obtain ⟨oc, od, dV, kV, doc, pmg, an, cdv, ct, osl, rfl, lk, hcg, _, _⟩ := F.ex
  refine ⟨fun pins s σ H Q I h => ?_⟩
  refine wpAny_Call_Name_kw (ld_glob I hg hm ?_ (by decide))
  refine PySem.W.callWith_K (h₀ := X.base) I.ok.mod.kin hk ?_ hs1 (by rw [show starEach [Expr.Lambda params body scope lpos, e3] X.env = (false, eval (.Lambda params body scope lpos) X.env) :: starEach [e3] X.env from rfl, hs3]; rfl)
  rw [hs1]
  show wpAny _ _ (spliced ((false, eval e1 X.env) :: backTo pos (starEach [.Lambda params body scope lpos, e3] X.env))) _ _ s
  refine Calls.spliced_cons (thn (h1.run pins s σ H _ I h) fun u1 s1 ⟨v1, H1, I1, r1, hT, q1⟩ => ?_)
  show wpAny _ _ (spliced ((false, eval (.Lambda params body scope lpos) X.env) :: backTo pos (starEach [e3] X.env))) _ _ s1
  have hfree : ∀ y ∈ scope.names, y.2 = .free → ∃ c, X.env.cells.lookup y.1 = some c := fun y hy e => (ndef_free hB y hy e).elim (fun z => I.ok.has _ (.inl z)) fun z => I.ok.has _ (.inr z)
  refine Calls.spliced_cons (lam_make2 I1 TB hcode hmT hu hT hdef hfree fun f c' pm ctv H2 s2 I2 eN T2 hf hfn hfr hco => ?_)
  rw [hs3]
  show wpAny _ _ (spliced ((false, eval e3 X.env) :: backTo pos (starEach [] X.env))) _ _ s2
  have I2p : Inv X (pins ++ [(f, PySem.W.kla_obj "<lambda>" (X.env.qual ++ "<lambda>") params body scope (cloFrom X.env.cells scope.names []) pm c' ctv)]) σ H2 s2 := I2.pins_of fun q hq => by
    rcases List.mem_append.mp hq with z | z
    · exact I2.pin q (List.mem_append_right _ z)
    · rw [List.mem_singleton.mp z]
      refine ⟨hf, hfn, fun e => ?_, fun e => hfr (hfs _ e), fun v e => by cases e⟩
      obtain ⟨m, ⟨o, es, ep, e2, e3, _⟩, _⟩ := I2.loc
      have e : f = X.env.locals := e
      rw [← e, hf] at e2
      cases e2
      cases e3
  refine Calls.spliced_cons (thn (h3.run _ s2 σ H2 _ I2p (q1 H2 eN T2)) fun u3 s3 ⟨v3, H3, I3p, r3, e3, ev3, a, hh, pp, e1, hH, hd4, hl, q⟩ => ?_)
  subst e3 ev3 e1
  obtain rfl : u1 = Value.ref a := r1
  obtain rfl : u3 = Value.bool false := r3
  have hpin := I3p.pin (f, _) (List.mem_append_right _ (List.mem_append_right _ (List.mem_singleton.mpr rfl)))
  have I3 : Inv X pins σ H3 s3 := I3p.pins_of fun q hq => I3p.pin q (List.mem_append_right _ (List.mem_append_left _ hq))
  refine Calls.spliced_nil ⟨I3.kIn, ?_⟩
  have C3 := cells_of I3 (Caps.made (fr := fr) (js := js) I3.ok (ndef_free hB) (ndef_fr hB) hjs)
  have rc : codeAny (model X.prog X.w) X.A (.call (.ref g) ⟨[.ref a, .ref f, .bool false], []⟩) (CR C8.CX0 X.stack X.prog X.w H3 s3 Q C8.E0) s3 := by
    refine run_ofS (N := nF) (ps := ["house", "is_met", "has_hits"]) (us := [.ref a, .ref f, .bool false]) (vs := [.ref a, .ref f, .bl false]) lk hcg sc_followed hr I3.env0 (hbs s3 [.ref a, .ref f, .bool false] I3.kIn rfl) (.cons rfl (.cons rfl (.cons rfl .nil))) rfl fun hr' => ?_
    refine nox_of (body_followed (a := a) (fl := f) (p := pp) (Q := Q) fre ok B cb cs hr' (fun e te p1 p2 he hse => ?_) hH hd4 fun H4 t fa v e4 ht hw => q H4 t fa v e4 (T2.ext e4) ht hw)
    have hx := pe_act1 (i := 1) (a := "is_met") (x := "step") (k := 4) (p1 := p1) (p2 := p2) hpin.1 hpin.2.1 hfr C3 hco S (fun u => hbind _ _ _ _ _ u) hr' (fun A outer s1 H1 hr2 => hbody c' f A outer s1 H1 hr2) rfl (.inl rfl) he (by decide) (by decide) hse
    refine pe_imp hx fun σ' H' Q' h' => ?_
    obtain ⟨k1, k2⟩ := h'
    refine ⟨k1, _, k2, fun v H5 k3 => ?_⟩
    obtain ⟨sa, st, rfl, k4, k5, k6, k7⟩ := k3
    exact ⟨k6, hl H5 sa st Q' k6 k4 k5 k7⟩
  refine wpAny_call (codeAny_mono rc fun r s2 hq => ?_)
  cases r with
  | error e => exact (show False from hq).elim
  | ok fl =>
    cases fl with
    | ret u => exact I3.after hq
    | next => exact False.elim hq
    | brk => exact False.elim hq
    | cont => exact False.elim hq
end
end K97
set_option maxHeartbeats 4000000
namespace K97
open PySem PySem.Spec PyProof.Rows L2 LamX NdefX
/-! ### what stays when the tables grow -/
theorem ExtN.seqT {K : PySem.W.Frag} {H H' : Hp} {a : Addr} {xs : List V} (e : ExtN H H') (h : SqT K H a xs) : SqT K H' a xs := by
  rcases h with (h | ⟨o, h⟩) | h
  · exact .inl (.inl (e _ _ h fun _ z => by cases z))
  · exact .inl (.inr ⟨o, e _ _ h fun _ z => by cases z⟩)
  · exact .inr h
theorem HouseAt.extN {C : Addr} {H H' : Hp} {a : Addr} {h : Hm} (e : ExtN H H') (x : HouseAt C H a h) : HouseAt C H' a h := by
  obtain ⟨dx, d, fs, kvs, h1, h2, h3, h4, h5, h6⟩ := x
  exact ⟨dx, d, fs, kvs, e _ _ h1 (fun _ z => by cases z), h2, h3, h4, e _ _ h5 (fun _ z => by cases z), h6⟩
theorem CntAt.extN {C : Addr} {H H' : Hp} {a : Addr} {r : Row} (e : ExtN H H') (h : CntAt C H a r) : CntAt C H' a r := by
  obtain ⟨dx, h⟩ := h
  exact ⟨dx, e _ _ h fun _ z => by cases z⟩
theorem byAt.extN {C : Addr} {H H' : Hp} {kvs : List (Key × V)} {k : Kd} (e : ExtN H H') : ∀ {o : Option Row}, byAt C H kvs k o → byAt C H' kvs k o
  | none, h => h
  | some r, h => by
    obtain ⟨c, h1, h2⟩ := h
    exact ⟨c, h1, h2.extN e⟩
theorem RepAt.extN {c : Cs} {K : PySem.W.Frag} {H H' : Hp} {a : Addr} {rows : List Row} (e : ExtN H H') (h : RepAt c K H a rows) : RepAt c K H' a rows := by
  obtain ⟨dx, t, d, cs, kvs, h⟩ := h
  exact ⟨dx, t, d, cs, kvs, e _ _ h.ob (fun _ z => by cases z), ExtN.seqT e h.tt, Paired.mapP h.cn fun _ _ z => z.extN e, e _ _ h.dd (fun _ z => by cases z), fun k => (h.by_ k).extN e⟩
theorem GoalAt.extN {c : Cs} {K : PySem.W.Frag} {H H' : Hp} {gs : Str} {rv : V} {p : Stp → Bool} (e : ExtN H H') (h : GoalAt c K H gs rv p) : GoalAt c K H' gs rv p := by
  rcases h with ⟨a, rows, h1, h2, h3, h4⟩ | ⟨a, rows, h1, h2, h3, h4⟩ | h
  · exact .inl ⟨a, rows, h1, h2, h3.extN e, h4⟩
  · exact .inr (.inl ⟨a, rows, h1, h2, h3.extN e, h4⟩)
  · exact .inr (.inr h)
theorem Same.extN {H H' : Hp} (e : Same H H') : ExtN H H' := fun b o h _ => e b o h
/-- a tuple of words of the module -/
structure TupT (K : PySem.W.Frag) (mg : Str → Option Value) (x : Str) (ys : List Str) : Prop where
  ex : ∃ a, mg x = some (.ref a) ∧ ∀ H, SqT K H a (ys.map V.str)
structure DefTc (K : PySem.W.Frag) (mg : Str → Option Value) (x nm qual : Str) (st : Stmt) (cc : Addr) : Prop where
  ex : ∃ (f : Addr) (fd : FuncData), FunD K nm qual (defArgs st) (defBody st) (defScope st) [] [] f fd ∧ mg x = some (.ref f) ∧ fd.code = .ref cc
section
variable {P : Program} {w : World} {K : PySem.W.Frag} {mg : Str → Option Value} {base : Heap} {c : Cs}
theorem calc_of {x nm qual : Str} {st : Stmt} {N ps : List Str} {k : Nat} {sp : Sp} {cc : Addr} (D : DefTc K mg x nm qual st cc) (S : FnScope N ps (defScope st)) (b : BindN nm qual st ps) (len : ∀ vs H Q E, sp vs H Q E → vs.length = ps.length)
    (hb : ∀ (f : Addr) (A : Around) (outer : List Env) (s : Shared) (H : Hp) (vs : List V) (Q : VK) (E : XK), Room k (A.deeper (envOfC qual (defScope st) s.heap.objs.size f (.ref cc))) → sp vs H Q E →
      ∃ t, PSs (cxOf C8.CX0 P w K mg base N qual (defScope st) f (.ref cc) A outer s H E).nox (defBody st) t ∧ t { nx := fun _ H' => Q .non H', rt := Q } (start N vs) H) : C8.Cal P w K mg base (k + 1) x sp [] := by
  obtain ⟨f, fd, F, g, hcd⟩ := D.ex
  have hbd := F.bindsN b
  have hk := F.kp
  obtain ⟨oc, od, dV, kV, doc, pm, an, cdv, ct, osl, rfl, lk, hc, _, _⟩ := F.ex
  obtain rfl : cdv = .ref cc := hcd
  refine ⟨f, _, ps, [], fn_of lk hc S len fun A outer s H vs Q E hr hsp => ?_, g, hk, hbd, .nil⟩
  obtain ⟨t, h, q⟩ := hb f A outer s H vs Q E hr hsp
  exact ⟨t, h.nox, q⟩
/-! ### need_goal -/
def spNeed : Sp := fun vs H Q _ => ∃ (gs : Str) (rv : V), vs = [.str gs, rv] ∧ (((gs = "changed" ∨ gs = "wrong") ∧ ∃ a, rv = .ref a) ∨ gs = "moved") ∧ Q .non H
theorem sc_need : FnScope ["goal", "report"] ["goal", "report"] (defScope (top 52)) := ⟨rfl, rfl, rfl, by decide +kernel, rfl, by decide +kernel, by decide +kernel⟩
theorem c_need (fr : Free mg) (T1 : TupT K mg "GOALS" ["changed", "moved", "over", "twice", "wrong"]) (T2 : TupT K mg "OF_REPORTS" ["changed", "wrong"]) (D : DefT K mg "need_goal" "need_goal" "need_goal" (top 52) []) : C8.Cal P w K mg base 1 "need_goal" spNeed [] := by
  obtain ⟨g1, hg1, s1⟩ := T1.ex
  obtain ⟨g2, hg2, s2⟩ := T2.ex
  refine cal_of D sc_need (fun _ _ _ _ _ _ us hl => match us, hl with | [_, _], _ => rfl) (fun vs H Q E h => ?_) fun f cdv A outer s H vs Q E hr h => ?_
  · obtain ⟨gs, rv, rfl, _⟩ := h
    rfl
  · obtain ⟨gs, rv, rfl, hg, q⟩ := h
    refine ⟨_, (pss_one (ps_if (PW.pt (pw_or (pt_not (pt_val (pe_callB call_isi (by rfl) fr.isinstance (by decide +kernel) (pa_cons (pv 0) (pa_cons (pe_bltn (v := .ty "str") (by rfl) fr.str (by decide +kernel) rfl) pa_nil))))) (pw_or (pt_cmpR op_notIn_seq (pv 0) (pe_glob (v := .ref g1) (by rfl) hg1 rfl) rfl) (pw_or1 (PW.pt (pw_and (pt_cmpR op_in_seq (pv 0) (pe_glob (v := .ref g2) (by rfl) hg2 rfl) rfl) (pw_and1 (pt_cmp (pc_isN (pv 1)))))))))) (pss_one ps_never) pss_nil)), ?_⟩
    refine ⟨_, rfl, _, _, _, _, true, rfl, .ty _, .base (.str gs), kit_str, _, rfl, ?_⟩
    have tr : ∀ (x : Str) (ys : List Str), x ∈ ys → (!inV (.str x) (ys.map V.str)) = false := fun x ys hx => by rw [inV_str, decide_eq_true hx]; rfl
    refine ⟨_, rfl, g1, _, rfl, .inr (s1 _), rfl, all_flatS _, _, rfl, ?_⟩
    rcases hg with ⟨hgs, ra, rfl⟩ | rfl
    · have h1 : gs ∈ (["changed", "moved", "over", "twice", "wrong"] : List Str) := by rcases hgs with rfl | rfl <;> simp
      have h2 : gs ∈ (["changed", "wrong"] : List Str) := by rcases hgs with rfl | rfl <;> simp
      simp only [if_true]
      rw [tr _ _ h1]
      refine iteF ⟨_, rfl, g2, _, rfl, .inr (s2 _), rfl, all_flatS _, _, rfl, ?_⟩
      have e2 : inV (.str gs) ((["changed", "wrong"] : List Str).map V.str) = true := by rw [inV_str, decide_eq_true h2]
      simp only [Bool.false_eq_true, if_false]
      rw [e2]
      exact iteT ⟨_, rfl, false, rfl, iteF q⟩
    · have h1 : ("moved" : Str) ∈ (["changed", "moved", "over", "twice", "wrong"] : List Str) := by simp
      have h2 : ("moved" : Str) ∉ (["changed", "wrong"] : List Str) := by decide
      simp only [if_true]
      rw [tr _ _ h1]
      refine iteF ⟨_, rfl, g2, _, rfl, .inr (s2 _), rfl, all_flatS _, _, rfl, ?_⟩
      have e2 : inV (.str "moved") ((["changed", "wrong"] : List Str).map V.str) = false := by rw [inV_str, decide_eq_false h2]
      simp only [Bool.false_eq_true, if_false]
      rw [e2]
      exact iteF q
/-! ### way_to -/
def spWay (c : Cs) (K : PySem.W.Frag) (T : List (Addr × Str)) : Sp := fun vs H Q _ => ∃ (a : Addr) (h : Hm) (gs : Str) (rv : V) (p : Stp → Bool), vs = [.ref a, .str gs, rv] ∧ HouseAt c.H H a h ∧ h.depth ≤ 4 ∧ GoalAt c K H gs rv p ∧ Tabs T H ∧
  ∀ H' t fa v, ExtN H H' → Tabs T H' → H' t = some (.tup [.ref fa, v]) → WayRes c K H' v (search h p) → Q (.ref t) H'
abbrev qW : Str := "way_to.<locals>.<lambda>"
abbrev qA : Str := "way_apart.<locals>.<lambda>"
theorem sc_way : FnScope ["house", "goal", "report"] ["house", "goal", "report"] (defScope (top 55)) := ⟨rfl, rfl, rfl, by decide +kernel, rfl, by decide +kernel, by decide +kernel⟩
theorem c_way {T : List (Addr × Str)} {cc Pt : Addr} (fr : Free mg) (ok : CsOk K c) (B : BegT K mg) (cb : C8.Cal P w K mg base 3 "beginning" (spBeg c K) []) (cs : C8.Cal P w K mg base 5 "steps" (spSteps c.S c.M c.H K) []) (cm : C8.Cal P w K mg base 2 "meets" (spMeets c K) []) (cn : C8.Cal P w K mg base 1 "need_goal" spNeed [])
    (Df : DefT K mg "followed" "followed" "followed" (top 48) []) (TB : TabB base mg cc Pt) (hT : (Pt, qW) ∈ T) (hu : ∀ q ∈ T, q.1 = Pt → q.2 = qW) (D : DefTc K mg "way_to" "way_to" "way_to" (top 55) cc) : C8.Cal P w K mg base 7 "way_to" (spWay c K T) [] := by
  refine calc_of D sc_way (fun _ _ _ _ _ _ us hl => match us, hl with | [_, _, _], _ => rfl) (fun vs H Q E h => ?_) fun f A outer s H vs Q E hr h => ?_
  · obtain ⟨a, h, gs, rv, p, rfl, _⟩ := h
    rfl
  · obtain ⟨a, h, gs, rv, p, rfl, hH, hd4, hg, hTb, q⟩ := h
    have nd := sc_way.nd
    refine ⟨_, pss_cons (ps_expr (C8.pe_c cn hr (by decide) (by rfl) (pa_cons (pv 1) (pa_cons (pv 2) pa_nil)))) (pss_one (ps_ret (pe_fcall (c := c) (T := T) (Nl := ["step", "goal", "report"]) (fr := ["goal", "report"]) (js := [1, 2]) (cc := cc) (Pt := Pt) fr ok B cb cs Df (by rfl) TB rfl hT hu hr rfl (show ndefB (defScope (top 55)) _ ["goal", "report"] = true by decide +kernel)
      (nscope_by (by decide +kernel)) (fun _ _ _ _ _ _ => rfl) rfl (fun b hb => ?_) (fun c' f' A' outer' s1 H1 hr2 => C8.pe_c cm hr2 (by decide) (by rfl) (pa_cons (pv 0) (pa_cons (pv 1) (pa_cons (pv 2) pa_nil)))) (pv 0) (pe_cmpR op_eq (pv 1) pe_str (nomark _)) rfl rfl))), ?_⟩
    · exact List.mem_filterMap.mpr (by obtain ⟨x, hx, e⟩ := List.mem_filterMap.mp hb; exact ⟨x, List.mem_cons_of_mem _ hx, e⟩)
    · have hgs : (gs = "changed" ∨ gs = "wrong") ∧ (∃ a, rv = .ref a) ∨ gs = "moved" := by
        rcases hg with ⟨ra, rows, h1, h2, _⟩ | ⟨ra, rows, h1, h2, _⟩ | ⟨h1, _⟩
        · exact .inl ⟨.inl h1, ra, h2⟩
        · exact .inl ⟨.inr h1, ra, h2⟩
        · exact .inr h1
      have hov : decide (V.str gs = V.str "over") = false := by
        rcases hgs with ⟨rfl | rfl, _⟩ | rfl <;> exact str_ne (by decide)
      refine ⟨_, rfl, _, rfl, gs, rv, rfl, hgs, _, rfl, hTb, fun H2 eN T2 => ⟨_, rfl, rfl, rfl, congrArg V.bl hov, a, h, p, rfl, hH.extN eN, hd4, fun H4 sa st Q' e4 hst hm2 hq => ?_, fun H4 t fa v e4 hT4 ht hw => q H4 t fa v (eN.trans (Same.extN e4)) hT4 ht hw⟩⟩
      exact ⟨_, rfl, _, rfl, _, rfl, sa, st, gs, rv, p, rfl, hst, (hg.extN eN).same e4, hm2, hq⟩
/-! ### way_apart -/
def scA : Scope := match defBody (top 60) with
  | [.Return (some (.Subscript (.Call _ [_, .Lambda _ _ sc _, _] _ _) _ _)) _] => sc
  | _ => ⟨.function, [], false, false, []⟩
theorem cr_anyK {X : Cx} {K : PySem.W.Frag} (hK : X.K = K) (hc : X.calm = true) : CallR X (.builtin "any") (rAny K) := by
  subst hK
  exact cr_any hc
theorem pi_tupK {X : Cx} {K : PySem.W.Frag} {tg l : Expr} {tl : TE} (hK : X.K = K) (hl : PE X l tl) : PI X tg l (iTup K tl) := by
  subst hK
  exact pi_tup hl
def spApart (c : Cs) (K : PySem.W.Frag) (T : List (Addr × Str)) : Sp := fun vs H Q _ => ∃ (a ra sa : Addr) (h : Hm) (r s : List Row), vs = [.ref a, .ref ra, .ref sa] ∧ HouseAt c.H H a h ∧ h.depth ≤ 4 ∧ RepAt c K H ra r ∧ RepAt c K H sa s ∧ Tabs T H ∧
  ∀ H' v, ExtN H H' → Tabs T H' → WayRes c K H' v (search h (otherwise (rpOf r) (rpOf s))) → Q v H'
theorem sc_apart : FnScope ["house", "r", "s"] ["house", "r", "s"] (defScope (top 60)) := ⟨rfl, rfl, rfl, by decide +kernel, rfl, by decide +kernel, by decide +kernel⟩
theorem c_apart {T : List (Addr × Str)} {cc Pt : Addr} (fr : Free mg) (ok : CsOk K c) (B : BegT K mg) (cb : C8.Cal P w K mg base 3 "beginning" (spBeg c K) []) (cs : C8.Cal P w K mg base 5 "steps" (spSteps c.S c.M c.H K) []) (co : C8.Cal P w K mg base 2 "counts_otherwise" (spOther c K) [])
    (Df : DefT K mg "followed" "followed" "followed" (top 48) []) (TB : TabB base mg cc Pt) (hT : (Pt, qA) ∈ T) (hu : ∀ q ∈ T, q.1 = Pt → q.2 = qA) (D : DefTc K mg "way_apart" "way_apart" "way_apart" (top 60) cc) : C8.Cal P w K mg base 7 "way_apart" (spApart c K T) [] := by
  refine calc_of D sc_apart (fun _ _ _ _ _ _ us hl => match us, hl with | [_, _, _], _ => rfl) (fun vs H Q E h => ?_) fun f A outer s H vs Q E hr h => ?_
  · obtain ⟨a, ra, sa, h, r, s, rfl, _⟩ := h
    rfl
  · obtain ⟨a, ra, sa, h, r, s', rfl, hH, hd4, hA, hB, hTb, q⟩ := h
    have nd := sc_apart.nd
    have nd2 : (["step", "r", "s", "made"] : List Str).Nodup := by decide
    refine ⟨_, pss_one (ps_ret (pe_ix ix_tup (pe_fcall (c := c) (T := T) (Nl := ["step", "r", "s", "made"]) (fr := ["r", "s"]) (js := [1, 2]) (cc := cc) (Pt := Pt) fr ok B cb cs Df (by rfl) TB rfl hT hu hr rfl (show ndefB (defScope (top 60)) _ ["r", "s"] = true by decide +kernel)
      (nscope_by (by decide +kernel)) (fun _ _ _ _ _ _ => rfl) rfl (fun b hb => ?_)
      (fun c' f' A' outer' s1 H1 hr2 => pe_callB (cr_anyK (K := K) rfl rfl) (by rfl) fr.any (by decide +kernel) (pa_cons (pe_lc (own := [("made", 3)]) (g := gName 3) (by rfl) nd2 (pi_tupK (K := K) rfl (pe_fldK (K := K) rfl (pv 0) rfl)) (blkOk_by (own := [("made", 3)]) (N := ["step", "r", "s", "made"]) (sc := scA) (by decide +kernel)) (fun _ _ _ _ _ => (pg_name (i := 3) nd2 rfl (.inl rfl))) (fun _ _ _ _ _ => pts_nil)
        (fun _ _ _ _ _ => C8.pe_c co hr2 (by decide) (by rfl) (pa_cons (pv 3) (pa_cons (pv 1) (pa_cons (pv 2) pa_nil))))) pa_nil)) (pv 0) pe_bl rfl rfl) pe_int (fun _ _ => rfl))), ?_⟩
    · exact List.mem_filterMap.mpr (by obtain ⟨x, hx, e⟩ := List.mem_filterMap.mp hb; exact ⟨x, List.mem_cons_of_mem _ hx, e⟩)
    · refine ⟨_, rfl, hTb, fun H2 eN T2 => ⟨rfl, rfl, a, h, otherwise (rpOf r) (rpOf s'), rfl, hH.extN eN, hd4, fun H4 st0 st Q' e4 hst hm2 hq => ?_, fun H4 t fa v e4 hT4 ht hw => ⟨t, _, 1, v, rfl, rfl, SqT.of ht, atI_nat (xs := [V.ref fa, v]) (j := 1) rfl, q H4 v (eN.trans (Same.extN e4)) hT4 hw⟩⟩⟩
      obtain ⟨dx, b, m, tt, bs, ms, hS⟩ := hst
      obtain ⟨ps, rfl, epm, hps⟩ := Paired.unzip hS.md
      have hlen : ps.length ≤ 2 := by rw [epm, List.length_map] at hm2; exact hm2
      have hA4 := (hA.extN eN).same e4
      have hB4 := (hB.extN eN).same e4
      refine ⟨_, rfl, st0, c.S, dx, _, _, rfl, hS.ob, ok.clS, ok.s_made, rfl, m, rfl, ⟨_, hS.mt⟩, fun D hD => ?_⟩
      refine lc_vals (xs := (ps.map Prod.fst).map V.ref) walk_tup (ps.map fun e => V.bl (other (rpOf r) (rpOf s') e.2)) (by simp) (fun H' e => Same.seqT e hS.mt) (szl (by simp; omega)) hD
          (fun i x y H' C hx hy e hC => ?_) (fun σ H' Q Q' h t => h _ _ t) (fun x σ H' Q Q' h t => h _ _ t) (fun H5 e5 h5 => ?_)
      · rw [List.map_map, List.getElem?_map] at hx
        rw [List.getElem?_map] at hy
        cases z : ps[i]? with
        | none => rw [z] at hx; cases hx
        | some en =>
          rw [z] at hx hy
          obtain rfl := (Option.some.inj hx).symm
          obtain rfl := (Option.some.inj hy).symm
          have hmd := (hps en (List.mem_of_getElem? z)).same e
          exact ⟨rfl, rfl, _, rfl, _, rfl, _, rfl, en.1, ra, sa, en.2, r, s', rfl, hmd, hA4.same e, hB4.same e, hC _ (fun _ _ h => h)⟩
      · refine ⟨D, ps.map fun e => other (rpOf r) (rpOf s') e.2, rfl, SqL.of (by rw [h5, List.map_map]; rfl), ?_⟩
        have ev : ((ps.map fun e => other (rpOf r) (rpOf s') e.2).any id) = otherwise (rpOf r) (rpOf s') st := by
          unfold otherwise
          rw [epm, List.any_map, List.any_map]
          rfl
        rw [ev]
        exact hq _ e5
end
end K97
set_option maxHeartbeats 4000000
/-! super().__init__(x) in an __init__ of an own class over an own class. -/
namespace K97
open PySem PySem.Spec PyProof.Rows L2 LamX NdefX ClX
/-- the class at D, its __class__ cell, its __init__ at f with its code object at cda, its base's __init__ at fM -/
structure SupT (P : Program) (K : PySem.W.Frag) (D cc cda f fM : Addr) (qual : Str) (params : Arguments) (body : List Stmt) (scope : Scope) (dvs : List V) : Prop where
  cell : ∃ cl cld csl, K.lookup cc = some ⟨cl, cld, .cell (some (.ref D)), csl⟩
  cd : ∃ cd, PySem.W.clsIn K D = some cd
  sub : PySem.W.mroIn K D (.ref D) = some true
  meth : PySem.W.ks_superIn K D D "__init__" = some (some (.ref fM))
  ty : PySem.W.typeIn K (.ref fM) = some (.type "function")
  fi : PySem.W.fnIn K fM = true
  st : PySem.W.nsIn K cStatics "thirdparty.any" = some none
  fn : ∃ oc od dV kV doc pm an ct osl, K.lookup f = some ⟨oc, od, .func (PySem.W.fnX "__init__" qual params body scope [("__class__", cc)] dV kV doc pm an (.ref cda) ct), osl⟩ ∧ DflV K dV dvs
  code : ∃ ccl cdd vs ccs file tf tq, K.lookup cda = some ⟨ccl, cdd, .fields vs, ccs⟩ ∧ vs[2]? = some (.str file tf) ∧ ((P.main.file : Str) == file) = true ∧ vs[1]? = some (.str qual tq)
  top : (P.main.scope.names.lookup ("super" : Str)).isSome = false
abbrev supF (qual : Str) (params : Arguments) (body : List Stmt) (scope : Scope) (cc cda : Addr) : NF := ⟨"__init__", qual, params, body, scope, [("__class__", cc)], cda⟩
abbrev supCx (P : Program) (w : World) (K : PySem.W.Frag) (mg : Str → Option Value) (base : Heap) (N : List Str) (F : NF) (f : Addr) (A : Around) (outer : List Env) (s : Shared) (H : Hp) : Cx := ncx C8.CX0 P w K mg base N F f A outer s H C8.E0
section
variable {P : Program} {w : World} {K : PySem.W.Frag} {mg : Str → Option Value} {base : Heap} {N : List Str} {D cc cda f fM : Addr} {qual : Str} {params : Arguments} {body : List Stmt} {scope : Scope} {dvs : List V} {A : Around} {outer : List Env} {s0 : Shared} {H0 : Hp}
theorem sup_expr {pins : List (Addr × Obj)} {σ : L2.St} {H : Hp} {s : Shared} {k : Nat} {x dx : Addr} {fs : List (Str × V)} {spM : Sp} {e : Expr} {te : TE} {Rn : Hp → Prop} {ar : Arg} {p0 p1 apos pos pos2 : Pos} {pl : Sem Bool}
    (S : SupT P K D cc cda f fM qual params body scope dvs) (FM : FnR P w K mg base C8.CX0 k fM spM) (hr : Room k (supCx P w K mg base N (supF qual params body scope cc cda) f A outer s0 H0).A)
    (hks : scope.names.lookup ("super" : Str) = some .globalImplicit) (hkc : scope.names.lookup ("__class__" : Str) = some .free) (hk : scope.kind = .function) (hp : (params.posonlyargs ++ params.args).head? = some ar) (hka : scope.names.lookup ar.arg = some .local) (hN : N[0]? = some ar.arg)
    (hsuper : mg "super" = none) (he : PE (supCx P w K mg base N (supF qual params body scope cc cda) f A outer s0 H0) e te)
    (hse : starEach [e] (supCx P w K mg base N (supF qual params body scope cc cda) f A outer s0 H0).env = (false, eval e (supCx P w K mg base N (supF qual params body scope cc cda) f A outer s0 H0).env) :: starEach [] (supCx P w K mg base N (supF qual params body scope cc cda) f A outer s0 H0).env)
    (hev : eval (.Call (.Attribute (.Call (.Name "super" p0) [] [] p1) "__init__" apos) [e] [] pos) (supCx P w K mg base N (supF qual params body scope cc cda) f A outer s0 H0).env = (do
      let ov ← attributeBase (.Call (.Name "super" p0) [] [] p1) "__init__" (supCx P w K mg base N (supF qual params body scope cc cda) f A outer s0 H0).env (eval (.Call (.Name "super" p0) [] [] p1) (supCx P w K mg base N (supF qual params body scope cc cda) f A outer s0 H0).env)
      standAt apos.atName
      let (g1, first) ← holding [ov] (getMethod ov "__init__" pl)
      callWith pos g1 first (backTo pos (starEach [e] (supCx P w K mg base N (supF qual params body scope cc cda) f A outer s0 H0).env)) []))
    (hsw : swapsWith (.Call (.Attribute (.Call (.Name "super" p0) [] [] p1) "__init__" apos) [e] [] pos) none pos2.line (supCx P w K mg base N (supF qual params body scope cc cda) f A outer s0 H0).env = pure false)
    (I : Inv (supCx P w K mg base N (supF qual params body scope cc cda) f A outer s0 H0) pins σ H s) (hx : σ[0]? = some (some (.ref x))) (hi : H x = some (.ins D dx fs)) (ht : te σ H fun v H1 => spM [.ref x, v] H1 (fun _ H2 => Rn H2) C8.E0) :
    _root_.PySem.wpAt (model P w) (supCx P w K mg base N (supF qual params body scope cc cda) f A outer s0 H0).A (.func body (supCx P w K mg base N (supF qual params body scope cc cda) f A outer s0 H0).env)
      (exec (.Expr (.Call (.Attribute (.Call (.Name "super" p0) [] [] p1) "__init__" apos) [e] [] pos) pos2) (supCx P w K mg base N (supF qual params body scope cc cda) f A outer s0 H0).env)
      (fun fl s' => fl = .next ∧ ∃ H2, Inv (supCx P w K mg base N (supF qual params body scope cc cda) f A outer s0 H0) pins σ H2 s' ∧ Rn H2)
      (supCx P w K mg base N (supF qual params body scope cc cda) f A outer s0 H0).xe s := by
  obtain ⟨cl, cld, csl, hcell⟩ := S.cell
  obtain ⟨cdD, hcd⟩ := S.cd
  obtain ⟨oc, od, dV, kV, doc, pm, an, ct, osl, hf, _⟩ := S.fn
  obtain ⟨ccl, cdd, vs, ccs, file, tf, tq, hcode, hvs, hfile, _⟩ := S.code
  have KX : K.In s.heap := I.kIn
  obtain ⟨oD, hD1, hD2⟩ : ∃ oD, s.heap.get? D = some oD ∧ oD.data = .cls cdD := by
    unfold PySem.W.clsIn at hcd
    split at hcd
    · rename_i c d cd' sl ho
      cases hcd
      exact ⟨_, KX _ _ ho, rfl⟩
    · cases hcd
  obtain ⟨mloc, hns, hlk⟩ := I.loc
  obtain ⟨u, ru, hlook⟩ := hlk 0 ar.arg (.ref x) hN hx (.inl hka)
  obtain rfl : u = Value.ref x := ru
  have hmx : mloc ar.arg = some (.ref x) := by
    rcases hlook with ⟨_, h⟩ | ⟨h, _⟩
    · exact h
    · have hka' : (supCx P w K mg base N (supF qual params body scope cc cda) f A outer s0 H0).env.kindOf ar.arg = some .local := hka
      rcases h with h | h <;> rw [hka'] at h <;> cases h
  obtain ⟨hdx, _, _, hix, _⟩ := I.hok x _ hi
  obtain ⟨mb, hb1, hb2⟩ := I.mod.blt
  refine ks_wpAt_Expr_any (ks_wpAt_MethodCall (pl := pl) (ks_wpAt_super_base (of := _) (oc := _) hks hkc rfl rfl (KX _ _ hf) rfl hp rfl (KX _ _ hcode) rfl hvs hfile S.top ?_) hev) I.quiet hsw
  · refine PySem.W.ks_loadName_global hk hks (Calls.loadGlobal_builtin (by rw [I.ok.glob]; exact I.mod.glob.keeps I.bk) hsuper (by rw [I.ok.blt]; exact hb1.keeps I.bk) ((hb2 "super" (by decide)).trans (by rfl)) ⟨rfl, ?_⟩)
    refine wpAny_loadName_free hk hkc rfl ⟨_, KX _ _ hcell, rfl⟩ ?_
    refine wpAny_loadName_local hk hka hns hmx ?_
    refine ks_wpAny_isType_cls hD1 hD2 ⟨rfl, ?_⟩
    refine ks_wpAny_call_super hD1 hD2 hix rfl (fun c z => by cases z) (PySem.W.looks_mroIn KX S.sub) fun h' e k => ?_
    have I1 := pin_new (t' := s.toks) I k (Nat.le_refl _) e (fun v z => nomatch z)
    have KX1 : K.In h' := I1.kIn
    obtain ⟨of, hof, hofc⟩ : ∃ of, h'.get? fM = some of ∧ of.cls = .type "function" := by
      have ht' : (K.lookup fM).map (·.cls) = some (.type "function") := S.ty
      cases z : K.lookup fM with
      | none => rw [z] at ht'; cases ht'
      | some of => rw [z] at ht'; exact ⟨of, KX1 _ _ z, Option.some.inj ht'⟩
    have hm := S.meth
    unfold PySem.W.ks_superIn at hm
    rw [hcd] at hm
    have hxD : x ≠ D := fun z => by
      rw [z, hD1] at hix
      have := congrArg Obj.data (Option.some.inj hix)
      rw [hD2] at this
      cases this
    refine ks_wpAny_getMethod_super (l₀ := cdD.mro) e (PySem.W.looks_opaque KX1 S.st) (fun A Q E s k q => wpAny_bind ((PySem.W.looks_clsIn KX1 hcd) A _ E s k (wpAny_pure q))) rfl KX1 hm hof hofc hxD rfl ?_
    have I2 := met_new (g := fM) (C := x) I1
    have ha := pa_cons he pa_nil hse
    refine callwith_cm (g := fM) (C := x) I2 (base_none I1 (Nat.le_refl _)) S.fi (thn (ha.run pos _ _ σ H (fun vs H1 => spM (.ref x :: vs) H1 (fun _ H2 => Rn H2) C8.E0) I2 ht) fun us s3 ⟨vs, H2, I3, rv, q2⟩ => ⟨⟨pin_at I3, I3.kIn⟩, ?_⟩) hse rfl
    refine thn (run_cm FM hr C8.pass0 I3 rv q2) fun u s4 ⟨v, H4, I4, _, q4⟩ => ⟨rfl, H4, unpin I4, q4⟩
/-- what is left of the body ends in Q -/
def AtB (X : Cx) (body rest : List Stmt) (Q : VK) (s : Shared) : Prop := _root_.PySem.wpAt (model X.prog X.w) X.A (.func body X.env) (execs rest X.env) (fun fl s' => fl = .next ∧ ∃ σ' H', Inv X [] σ' H' s' ∧ Q .non H') X.xe s
theorem at_ps {X : Cx} {body rest : List Stmt} {Q : VK} {s : Shared} {σ : L2.St} {H : Hp} {st : Stmt} {t : TS} {Nx : L2.St → Hp → Prop} (h : PS X st t) (I : Inv X [] σ H s) (ht : t { nx := Nx, bk := fun _ _ => False, ct := fun _ _ => False, rt := fun _ _ => False } σ H) (k : ∀ σ' H' s', Inv X [] σ' H' s' → Nx σ' H' → AtB X body rest Q s') :
    AtB X body (st :: rest) Q s := by
  refine ks_wpAt_execs_cons (wpAt_of_wpAny (thn (h.run [] s σ H _ I ht) fun fl s' hs => ?_))
  cases fl with
  | next =>
    obtain ⟨σ', H', J, q⟩ := hs
    exact k σ' H' s' J q
  | brk =>
    obtain ⟨_, _, _, q⟩ := hs
    exact False.elim q
  | cont =>
    obtain ⟨_, _, _, q⟩ := hs
    exact False.elim q
  | ret u =>
    obtain ⟨_, _, _, _, _, q⟩ := hs
    exact False.elim q
theorem at_end {X : Cx} {body rest : List Stmt} {Q : VK} {s : Shared} {σ : L2.St} {H : Hp} {t : TS} (h : PSs X rest t) (I : Inv X [] σ H s) (ht : t { nx := fun _ H' => Q .non H', bk := fun _ _ => False, ct := fun _ _ => False, rt := fun _ _ => False } σ H) : AtB X body rest Q s := by
  refine wpAt_of_wpAny (thn (h.run [] s σ H _ I ht) fun fl s' hs => ?_)
  cases fl with
  | next =>
    obtain ⟨σ', H', J, q⟩ := hs
    exact ⟨rfl, σ', H', J, q⟩
  | brk =>
    obtain ⟨_, _, _, q⟩ := hs
    exact False.elim q
  | cont =>
    obtain ⟨_, _, _, q⟩ := hs
    exact False.elim q
  | ret u =>
    obtain ⟨_, _, _, _, _, q⟩ := hs
    exact False.elim q
theorem at_sup {σ : L2.St} {H : Hp} {s : Shared} {k : Nat} {x dx : Addr} {fs : List (Str × V)} {spM : Sp} {e : Expr} {te : TE} {Q : VK} {rest : List Stmt} {Rn : Hp → Prop} {ar : Arg} {p0 p1 apos pos pos2 : Pos} {pl : Sem Bool}
    (S : SupT P K D cc cda f fM qual params body scope dvs) (FM : FnR P w K mg base C8.CX0 k fM spM) (hr : Room k (supCx P w K mg base N (supF qual params body scope cc cda) f A outer s0 H0).A)
    (hks : scope.names.lookup ("super" : Str) = some .globalImplicit) (hkc : scope.names.lookup ("__class__" : Str) = some .free) (hk : scope.kind = .function) (hp : (params.posonlyargs ++ params.args).head? = some ar) (hka : scope.names.lookup ar.arg = some .local) (hN : N[0]? = some ar.arg)
    (hsuper : mg "super" = none) (he : PE (supCx P w K mg base N (supF qual params body scope cc cda) f A outer s0 H0) e te)
    (hse : starEach [e] (supCx P w K mg base N (supF qual params body scope cc cda) f A outer s0 H0).env = (false, eval e (supCx P w K mg base N (supF qual params body scope cc cda) f A outer s0 H0).env) :: starEach [] (supCx P w K mg base N (supF qual params body scope cc cda) f A outer s0 H0).env)
    (hev : eval (.Call (.Attribute (.Call (.Name "super" p0) [] [] p1) "__init__" apos) [e] [] pos) (supCx P w K mg base N (supF qual params body scope cc cda) f A outer s0 H0).env = (do
      let ov ← attributeBase (.Call (.Name "super" p0) [] [] p1) "__init__" (supCx P w K mg base N (supF qual params body scope cc cda) f A outer s0 H0).env (eval (.Call (.Name "super" p0) [] [] p1) (supCx P w K mg base N (supF qual params body scope cc cda) f A outer s0 H0).env)
      standAt apos.atName
      let (g1, first) ← holding [ov] (getMethod ov "__init__" pl)
      callWith pos g1 first (backTo pos (starEach [e] (supCx P w K mg base N (supF qual params body scope cc cda) f A outer s0 H0).env)) []))
    (hsw : swapsWith (.Call (.Attribute (.Call (.Name "super" p0) [] [] p1) "__init__" apos) [e] [] pos) none pos2.line (supCx P w K mg base N (supF qual params body scope cc cda) f A outer s0 H0).env = pure false)
    (I : Inv (supCx P w K mg base N (supF qual params body scope cc cda) f A outer s0 H0) [] σ H s) (hx : σ[0]? = some (some (.ref x))) (hi : H x = some (.ins D dx fs)) (ht : te σ H fun v H1 => spM [.ref x, v] H1 (fun _ H2 => Rn H2) C8.E0) (k' : ∀ H2 s', Inv (supCx P w K mg base N (supF qual params body scope cc cda) f A outer s0 H0) [] σ H2 s' → Rn H2 → AtB (supCx P w K mg base N (supF qual params body scope cc cda) f A outer s0 H0) body rest Q s') :
    AtB (supCx P w K mg base N (supF qual params body scope cc cda) f A outer s0 H0) body (.Expr (.Call (.Attribute (.Call (.Name "super" p0) [] [] p1) "__init__" apos) [e] [] pos) pos2 :: rest) Q s := by
  refine ks_wpAt_execs_cons (ks_wpAt_mono (sup_expr S FM hr hks hkc hk hp hka hN hsuper he hse hev hsw I hx hi ht) (fun fl s' hs => ?_) fun _ _ z => z)
  obtain ⟨rfl, H2, J, q⟩ := hs
  exact k' H2 s' J q
theorem sup_b0 {ps : List Str} (hb : ∀ (us : List Value) (kV doc pm : Value) (an : Option Addr) (ct : Value), us.length = ps.length → bindArgs (PySem.W.fnX "__init__" qual params body scope [("__class__", cc)] .none kV doc pm an (.ref cda) ct) ⟨us, []⟩ = pure (ps.zip us)) :
    ∀ (s : Shared) (us : List Value) (dV kV doc pm : Value) (an : Option Addr) (ct : Value), DflV K dV [] → K.In s.heap → us.length + ([] : List V).length = ps.length → ∃ ds, Vals [] ds ∧ BindsTo s (PySem.W.fnX "__init__" qual params body scope [("__class__", cc)] dV kV doc pm an (.ref cda) ct) ⟨us, []⟩ (ps.zip (us ++ ds)) := by
  intro s us dV kV doc pm an ct hD X hl
  rcases hD with ⟨_, rfl⟩ | ⟨e, _⟩
  · refine ⟨[], .nil, .of_eq ?_⟩
    rw [List.append_nil]
    exact hb us kV doc pm an ct hl
  · exact absurd rfl e
theorem sup_bj {ps : List Str} (j : Nat) (hd : dvs ≠ []) (hb : ∀ (T : Addr) (us its : List Value) (kV doc pm : Value) (an : Option Addr) (ct : Value), us.length + (dvs.length - j) = ps.length → its.length = dvs.length →
      ∃ k, bindArgs (PySem.W.fnX "__init__" qual params body scope [("__class__", cc)] (.ref T) kV doc pm an (.ref cda) ct) ⟨us, []⟩ = seqItems? (.ref T) >>= k ∧ k (some its.toArray) = pure (ps.zip (us ++ its.drop j))) :
    ∀ (s : Shared) (us : List Value) (dV kV doc pm : Value) (an : Option Addr) (ct : Value), DflV K dV dvs → K.In s.heap → us.length + (dvs.drop j).length = ps.length → ∃ ds, Vals (dvs.drop j) ds ∧ BindsTo s (PySem.W.fnX "__init__" qual params body scope [("__class__", cc)] dV kV doc pm an (.ref cda) ct) ⟨us, []⟩ (ps.zip (us ++ ds)) := by
  intro s us dV kV doc pm an ct hD X hl
  rcases hD with ⟨e, _⟩ | ⟨_, T, o, its, n, rfl, lT, oT, rT⟩
  · exact absurd e hd
  · refine ⟨its.drop j, rT.drop j, BindsTo.of_looks fun M => ?_⟩
    obtain ⟨k, e1, e2⟩ := hb T us its kV doc pm an ct (by rw [List.length_drop] at hl; exact hl) rT.length.symm
    rw [e1]
    exact looks_items X lT oT (.of_pure e2)
theorem sup_fnR {dv : List V} {ps : List Str} {k : Nat} {sp : Sp} (S : SupT P K D cc cda f fM qual params body scope dvs) (Sc : NScope N ps ["__class__"] scope) (hq : PySem.W.codeIn K (.ref cda) qual = true)
    (hb : ∀ (s : Shared) (us : List Value) (dV kV doc pm : Value) (an : Option Addr) (ct : Value), DflV K dV dvs → K.In s.heap → us.length + dv.length = ps.length → ∃ ds, Vals dv ds ∧ BindsTo s (PySem.W.fnX "__init__" qual params body scope [("__class__", cc)] dV kV doc pm an (.ref cda) ct) ⟨us, []⟩ (ps.zip (us ++ ds)))
    (len : ∀ vs H Q E, sp vs H Q E → vs.length = ps.length)
    (hbody : ∀ (A : Around) (outer : List Env) (s : Shared) (H : Hp) (vs : List V) (Q : VK) (E : XK) (s1 : Shared), Room k (supCx P w K mg base N (supF qual params body scope cc cda) f A outer s H).A → sp vs H Q E → Inv (supCx P w K mg base N (supF qual params body scope cc cda) f A outer s H) [] (startF N vs [none]) H s1 →
      AtB (supCx P w K mg base N (supF qual params body scope cc cda) f A outer s H) body body Q s1) : FnR P w K mg base C8.CX0 (k + 1) f (fun vs H Q E => sp (vs ++ dv) H Q E) := by
  intro A outer s H us vs Q E hr e0 r hsp
  obtain ⟨oc, od, dV, kV, doc, pm, an, ct, osl, hf, hD⟩ := S.fn
  obtain ⟨cl, cld, csl, hcell⟩ := S.cell
  have KX : K.In s.heap := e0.mod.kin.keeps fun b o e => (e0.bs b o e).1
  have lim : s.heap.NoLimit := e0.mod.nolimit.keeps fun b o e => (e0.bs b o e).1
  have hl := len _ _ _ _ hsp
  obtain ⟨ds, rd, hbt⟩ := hb s us dV kV doc pm an ct hD KX (by rw [← r.length, ← List.length_append]; exact hl)
  have r2 := r.append rd
  have C : CellsAt [("__class__", cc)] ["__class__"] [none] s.heap H := by
    refine ⟨rfl, fun y c e => ?_, fun x y c e1 e2 => ?_, fun i y e => ?_⟩
    · have hy : c = cc := by
        have := PySem.mem_of_lookup e
        simp at this
        exact this.2
      subst hy
      exact ⟨(e0.bs _ _ (e0.mod.kin _ _ hcell)).2, _, _, KX _ _ hcell, rfl⟩
    · have h1 := PySem.mem_of_lookup e1
      have h2 := PySem.mem_of_lookup e2
      simp at h1 h2
      rw [h1.1, h2.1]
    · match i, e with
      | 0, e =>
        simp at e
        subst e
        exact ⟨cc, by simp [List.lookup], fun v ev => by simp at ev⟩
  refine ks_codeAny_call_defAt (fd := PySem.W.fnX "__init__" qual params body scope [("__class__", cc)] dV kV doc pm an (.ref cda) ct) (body := body) (binds := ps.zip (us ++ ds)) hr.depth (KX _ _ hf) rfl lim (PySem.W.codeRec_of KX hq) rfl hbt Sc.nocell (fun ⟨n, _⟩ hy => Sc.par n (List.of_mem_zip hy).1) (fun h₀ hns kp => ?_) Sc.co Sc.gen Sc.kind
  have I : Inv (supCx P w K mg base N (supF qual params body scope cc cda) f A outer s H) [] (startF N (vs ++ dv) [none]) H { s with heap := h₀, toks := s.toks + (ps.zip (us ++ ds)).length } := inv_startN (F := supF qual params body scope cc cda) Sc hr.hd e0 hl r2 C hns kp
  refine ks_wpAt_mono (hbody A outer s H (vs ++ dv) Q E _ (hr.deeper _) hsp I) (fun fl s' hs => ?_) (fun e s' hs => ?_)
  · obtain ⟨rfl, σ', H', J, q⟩ := hs
    exact ⟨.non, H', J.os, J.bare, J.base, J.hok, rfl, q⟩
  · exact hs
end
end K97
set_option maxHeartbeats 4000000
namespace K97
open PySem PySem.Spec PyProof.Rows L2 LamX NdefX ClX
/-- instances of the class at C are of the class at D -/
structure IsI (K : PySem.W.Frag) (C D : Addr) : Prop where
  cl : Cls K C
  ha : PySem.W.findIn K (.ref C) "__class__" = some (some (.builtin "object.__class__"))
  hn : PySem.W.specialIn K (.builtin "object.__class__") "__get__" = some (some (.builtin "getset_descriptor.__get__"))
  htk : PySem.W.takesIn K (.builtin "object.__class__") = some true
  hm : PySem.W.mroIn K C (.type "object") = some true
  kit : PySem.W.kitOne K (.ref C) (.ref D) = some true
theorem IsI.ty {K : PySem.W.Frag} {C D : Addr} {H : Hp} {a dx : Addr} {fs : List (Str × V)} (i : IsI K C D) (h : H a = some (.ins C dx fs)) : TyX K H (.ref a) (.ref C) := .base (.ins h i.cl i.ha i.hn i.htk i.hm)
/-- a move -/
def MvAt (K : PySem.W.Frag) (Mv : Addr) (H : Hp) (a : Addr) : Prop := ∃ C dx fs, H a = some (.ins C dx fs) ∧ IsI K C Mv
theorem MvAt.same {K : PySem.W.Frag} {Mv : Addr} {H H' : Hp} {a : Addr} (e : Same H H') (h : MvAt K Mv H a) : MvAt K Mv H' a := by
  obtain ⟨C, dx, fs, h1, h2⟩ := h
  exact ⟨C, dx, fs, e _ _ h1, h2⟩
theorem txt_len {i : Int} (h : i.natAbs.log2 < 1920) : (toString i : Str).length ≤ 1921 := by
  have e := int_text_length_le (k := 1920) (by decide) h
  show (Str.ofString (toString i)).length ≤ 1921
  rw [PySem.ofString_length]
  exact e
theorem cat_len (a b : Str) : (a ++ b).length = a.length + b.length := by
  show (a.cps ++ b.cps).size = _
  rw [Array.size_append]
  rfl
theorem log_small {i : Int} (h0 : 0 ≤ i) {k : Nat} (h : i.natAbs < 2 ^ k) (hk : k ≤ 1920) (h1 : 0 < k) : i.natAbs.log2 < 1920 := by
  have := PySem.Flt.log2_lt_of h1 h
  omega
section
variable {P : Program} {w : World} {K : PySem.W.Frag} {mg : Str → Option Value} {base : Heap}
/-! ### Move -/
def spMv (K : PySem.W.Frag) : Sp := fun vs H Q _ => ∃ (x C dx : Addr) (fs : List (Str × V)) (z : Str), vs = [.ref x, .str z] ∧ H x = some (.ins C dx fs) ∧ Cls K C ∧ NoAttr K C "script" ∧ fs.length < 1000 ∧ Q .non (upd H x (.ins C dx (putF "script" (.str z) fs)))
theorem sc_Mv : FnScope ["self", "script"] ["self", "script"] (defScope (inClass (top 24) 0)) := ⟨rfl, rfl, rfl, by decide +kernel, rfl, by decide +kernel, by decide +kernel⟩
theorem r_Mv {fM : Addr} {fd : FuncData} (F : FunD K "__init__" "Move.__init__" (defArgs (inClass (top 24) 0)) (defBody (inClass (top 24) 0)) (defScope (inClass (top 24) 0)) [] [] fM fd) : FnR P w K mg base C8.CX0 1 fM (spMv K) := by
  have hF : FnOk P w K mg base C8.CX0 1 fM fd ["self", "script"] (spMv K) := by
    refine fn_mk F sc_Mv (fun vs H Q E h => ?_) fun f cdv A outer s H vs Q E hr h => ?_
    · obtain ⟨x, C, dx, fs, z, rfl, _⟩ := h
      rfl
    · obtain ⟨x, C, dx, fs, z, rfl, h1, h2, h3, h4, q⟩ := h
      exact ⟨_, pss_one (ps_fld (pv 0) (pv 1) rfl), _, rfl, _, rfl, x, C, dx, fs, rfl, h1, h2, h3, h4, q⟩
  refine (hF.raw (F.bindsN fun _ _ _ _ _ _ us hl => match us, hl with | [_, _], _ => rfl) .nil).imp fun vs H Q E h => ?_
  rw [List.append_nil]
  exact h
/-- what a move's __init__ leaves -/
def Left (x : Addr) (D dx : Addr) (H : Hp) (H' : Hp) : Prop := But x H H' ∧ ∃ fs, H' x = some (.ins D dx fs)
/-! ### Begin -/
structure SubT (P : Program) (K : PySem.W.Frag) (mg : Str → Option Value) (x : Str) (D Mv : Addr) (qual : Str) (st : Stmt) (dvs : List V) (f : Addr) : Prop where
  ex : ∃ cc cda fM fd, SupT P K D cc cda f fM qual (defArgs st) (defBody st) (defScope st) dvs ∧ PySem.W.codeIn K (.ref cda) qual = true ∧ FunD K "__init__" "Move.__init__" (defArgs (inClass (top 24) 0)) (defBody (inClass (top 24) 0)) (defScope (inClass (top 24) 0)) [] [] fM fd
  mkk : Mk K D f
  gl : mg x = some (.ref D)
  cl : Cls K D
  n1 : NoAttr K D "script"
  is_ : IsI K D Mv
def spBegin (D : Addr) : Sp := fun vs H Q _ => ∃ (x dx : Addr) (n : Int), vs = [.ref x, .int n] ∧ 1 ≤ n ∧ n.natAbs.log2 < 1920 ∧ H x = some (.ins D dx []) ∧ ∀ H', Left x D dx H H' → Q .non H'
theorem ns_Begin : NScope ["self", "amount", "__class__"] ["self", "amount"] ["__class__"] (defScope (inClass (top 25) 0)) := nscope_by (by decide +kernel)
theorem r_Begin {D Mv f : Addr} (S : SubT P K mg "Begin" D Mv "Begin.__init__" (inClass (top 25) 0) [] f) (hsup : mg "super" = none) (n2 : NoAttr K D "amount") (ca : C8.Cal P w K mg base 2 "is_amount" spAmt []) : FnR P w K mg base C8.CX0 3 f (fun vs H Q E => spBegin D (vs ++ []) H Q E) := by
  obtain ⟨cc, cda, fM, fd, St, hq, FM⟩ := S.ex
  refine sup_fnR (N := ["self", "amount", "__class__"]) (k := 2) St ns_Begin hq (sup_b0 (fun us _ _ _ _ _ hl => match us, hl with | [_, _], _ => rfl)) (fun vs H Q E h => by obtain ⟨x, dx, n, rfl, _⟩ := h; rfl) fun A outer s H vs Q E s1 hr h I => ?_
  obtain ⟨x, dx, n, rfl, hn, hlg, hx, q⟩ := h
  refine at_ps (ps_if (pt_not (pt_val (C8.pe_c ca hr (by decide) (by rfl) (pa_cons (pv 1) pa_nil)))) (pss_one ps_never) pss_nil) I (Nx := fun σ' H' => σ' = startF ["self", "amount", "__class__"] [.ref x, .int n] [none] ∧ H' = H) ?_ fun σ' H' s' J hN => ?_
  · exact ⟨_, rfl, n, rfl, hn, _, rfl, rfl, rfl⟩
  obtain ⟨rfl, rfl⟩ := hN
  refine at_sup (Rn := fun H2 => ∃ z, H2 = upd H' x (.ins D dx [("script", .str z)])) (P := P) (w := w) (pl := _) St (r_Mv FM) (hr.mono (by decide)) (by decide +kernel) (by decide +kernel) (by decide +kernel) (by rfl) (by decide +kernel) rfl hsup (pe_joined (.cons pe_str (.cons (pe_fmt (pv 1)) .nil))) rfl rfl rfl J rfl hx ?_ fun H2 s2 J2 hz => ?_
  · refine ⟨_, rfl, szl (by decide), _, rfl, .inr ⟨n, rfl, hlg, _, rfl, szl (by rw [cat_len]; have := txt_len hlg; have : (Str.empty ++ ("begin " : Str)).length = 6 := rfl; omega), ?_⟩⟩
    exact ⟨x, D, dx, [], _, rfl, hx, S.cl, S.n1, by decide, _, rfl⟩
  · obtain ⟨z, rfl⟩ := hz
    refine at_end (pss_one (ps_fld (pv 0) (pv 1) rfl)) J2 ⟨_, rfl, _, rfl, x, D, dx, _, rfl, upd_same, S.cl, n2, Nat.lt_of_lt_of_le (show _ < 10 by first | (show 1 < 10; decide) | (show 2 < 10; decide)) (by decide), ?_⟩
    exact q _ ⟨But.set (But.set (But.refl _ _)), _, upd_same⟩
/-! ### Take -/
def spTake (D : Addr) : Sp := fun vs H Q _ => ∃ (x dx : Addr) (a : Int) (am : V), vs = [.ref x, .int a, am] ∧ 0 ≤ a ∧ a.natAbs.log2 < 1920 ∧ (am = .non ∨ ∃ n : Int, am = .int n ∧ 1 ≤ n ∧ n.natAbs.log2 < 1920) ∧ H x = some (.ins D dx []) ∧ ∀ H', Left x D dx H H' → Q .non H'
theorem ns_Take : NScope ["self", "at", "amount", "__class__"] ["self", "at", "amount"] ["__class__"] (defScope (inClass (top 26) 0)) := nscope_by (by decide +kernel)
/-! ### Right -/
def spRight (D : Addr) : Sp := fun vs H Q _ => ∃ (x dx : Addr) (a n : Int), vs = [.ref x, .int a, .int n] ∧ 0 ≤ a ∧ a.natAbs.log2 < 1920 ∧ 1 ≤ n ∧ n.natAbs.log2 < 1920 ∧ H x = some (.ins D dx []) ∧ ∀ H', Left x D dx H H' → Q .non H'
theorem ns_Right : NScope ["self", "at", "amount", "__class__"] ["self", "at", "amount"] ["__class__"] (defScope (inClass (top 27) 0)) := nscope_by (by decide +kernel)
theorem r_Right {D Mv f : Addr} (S : SubT P K mg "Right" D Mv "Right.__init__" (inClass (top 27) 0) [] f) (hsup : mg "super" = none) (n2 : NoAttr K D "amount") (n3 : NoAttr K D "at") (ca : C8.Cal P w K mg base 2 "is_amount" spAmt []) (cn : C8.Cal P w K mg base 2 "is_number" spNum []) : FnR P w K mg base C8.CX0 3 f (fun vs H Q E => spRight D (vs ++ []) H Q E) := by
  obtain ⟨cc, cda, fM, fd, St, hq, FM⟩ := S.ex
  refine sup_fnR (N := ["self", "at", "amount", "__class__"]) (k := 2) St ns_Right hq (sup_b0 (fun us _ _ _ _ _ hl => match us, hl with | [_, _, _], _ => rfl)) (fun vs H Q E h => by obtain ⟨x, dx, a, n, rfl, _⟩ := h; rfl) fun A outer s H vs Q E s1 hr h I => ?_
  obtain ⟨x, dx, a, n, rfl, ha0, hal, hn, hlg, hx, q⟩ := h
  refine at_ps (ps_if (pt_not (pt_val (C8.pe_c cn hr (by decide) (by rfl) (pa_cons (pv 1) pa_nil)))) (pss_one ps_never) pss_nil) I (Nx := fun σ' H' => σ' = startF ["self", "at", "amount", "__class__"] [.ref x, .int a, .int n] [none] ∧ H' = H) ⟨_, rfl, a, rfl, ha0, _, rfl, rfl, rfl⟩ fun σ' H' s' J hN => ?_
  obtain ⟨rfl, rfl⟩ := hN
  refine at_ps (ps_if (pt_not (pt_val (C8.pe_c ca hr (by decide) (by rfl) (pa_cons (pv 2) pa_nil)))) (pss_one ps_never) pss_nil) J (Nx := fun σ1 H1 => σ1 = startF ["self", "at", "amount", "__class__"] [.ref x, .int a, .int n] [none] ∧ H1 = H') ⟨_, rfl, n, rfl, hn, _, rfl, rfl, rfl⟩ fun σ1 H1 s3 J1 hN => ?_
  obtain ⟨rfl, rfl⟩ := hN
  refine at_sup (Rn := fun H2 => ∃ z, H2 = upd H1 x (.ins D dx [("script", .str z)])) (P := P) (w := w) (pl := _) St (r_Mv FM) (hr.mono (by decide)) (by decide +kernel) (by decide +kernel) (by decide +kernel) (by rfl) (by decide +kernel) rfl hsup (pe_joined (.cons pe_str (.cons (pe_fmt (pv 1)) (.cons pe_str (.cons (pe_fmt (pv 2)) .nil))))) rfl rfl rfl J1 rfl hx ?_ fun H2 s2 J2 hz => ?_
  · have h1 := txt_len hal
    have h2 := txt_len hlg
    have l0 : (Str.empty ++ ("right " : Str)).length = 6 := rfl
    have l1 : (" to " : Str).length = 4 := rfl
    refine ⟨_, rfl, szl (by decide), _, rfl, .inr ⟨a, rfl, hal, _, rfl, szl (by rw [cat_len]; omega), _, rfl, szl (by rw [cat_len, cat_len]; omega), _, rfl, .inr ⟨n, rfl, hlg, _, rfl, szl (by rw [cat_len, cat_len, cat_len]; omega), ?_⟩⟩⟩
    exact ⟨x, D, dx, [], _, rfl, hx, S.cl, S.n1, by decide, _, rfl⟩
  · obtain ⟨z, rfl⟩ := hz
    refine at_end (pss_cons (ps_fld (pv 0) (pv 1) rfl) (pss_one (ps_fld (pv 0) (pv 2) rfl))) J2 ⟨_, rfl, _, rfl, x, D, dx, _, rfl, upd_same, S.cl, n3, (by show 1 < 1000; decide), _, rfl, _, rfl, x, D, dx, _, rfl, upd_same, S.cl, n2, Nat.lt_of_lt_of_le (show _ < 10 by first | (show 1 < 10; decide) | (show 2 < 10; decide)) (by decide), ?_⟩
    exact q _ ⟨But.set (But.set (But.set (But.refl _ _))), _, upd_same⟩
/-! ### Shut -/
def spShut (D : Addr) : Sp := fun vs H Q _ => ∃ (x dx : Addr), vs = [.ref x] ∧ H x = some (.ins D dx []) ∧ ∀ H', Left x D dx H H' → Q .non H'
theorem ns_Shut : NScope ["self", "__class__"] ["self"] ["__class__"] (defScope (inClass (top 28) 0)) := nscope_by (by decide +kernel)
theorem r_Shut {D Mv f : Addr} (S : SubT P K mg "Shut" D Mv "Shut.__init__" (inClass (top 28) 0) [] f) (hsup : mg "super" = none) : FnR P w K mg base C8.CX0 3 f (fun vs H Q E => spShut D (vs ++ []) H Q E) := by
  obtain ⟨cc, cda, fM, fd, St, hq, FM⟩ := S.ex
  refine sup_fnR (N := ["self", "__class__"]) (k := 2) St ns_Shut hq (sup_b0 (fun us _ _ _ _ _ hl => match us, hl with | [_], _ => rfl)) (fun vs H Q E h => by obtain ⟨x, dx, rfl, _⟩ := h; rfl) fun A outer s H vs Q E s1 hr h I => ?_
  obtain ⟨x, dx, rfl, hx, q⟩ := h
  refine at_sup (Rn := fun H2 => ∃ z, H2 = upd H x (.ins D dx [("script", .str z)])) (P := P) (w := w) (pl := _) St (r_Mv FM) (hr.mono (by decide)) (by decide +kernel) (by decide +kernel) (by decide +kernel) (by rfl) (by decide +kernel) rfl hsup pe_str rfl rfl rfl I rfl hx ?_ fun H2 s2 J2 hz => ?_
  · exact ⟨x, D, dx, [], _, rfl, hx, S.cl, S.n1, by decide, _, rfl⟩
  · obtain ⟨z, rfl⟩ := hz
    exact at_end pss_nil J2 (q _ ⟨But.set (But.refl _ _), _, upd_same⟩)
end
end K97
set_option maxHeartbeats 4000000
namespace K97
open PySem PySem.Spec PyProof.Rows L2 LamX NdefX ClX
section
variable {P : Program} {w : World} {K : PySem.W.Frag} {mg : Str → Option Value} {base : Heap}
theorem r_Take (j : Nat) {D Mv f : Addr} (S : SubT P K mg "Take" D Mv "Take.__init__" (inClass (top 26) 0) [V.non] f) (hsup : mg "super" = none) (n2 : NoAttr K D "amount") (n3 : NoAttr K D "at") (ca : C8.Cal P w K mg base 2 "is_amount" spAmt []) (cn : C8.Cal P w K mg base 2 "is_number" spNum []) (hj : j = 0 ∨ j = 1) :
    FnR P w K mg base C8.CX0 3 f (fun vs H Q E => spTake D (vs ++ [V.non].drop j) H Q E) := by
  obtain ⟨cc, cda, fM, fd, St, hq, FM⟩ := S.ex
  refine sup_fnR (N := ["self", "at", "amount", "__class__"]) (k := 2) (ps := ["self", "at", "amount"]) St ns_Take hq (sup_bj j (by simp) fun T us its kV doc pm an ct hl hi => ?_) (fun vs H Q E h => by obtain ⟨x, dx, a, am, rfl, _⟩ := h; rfl) fun A outer s H vs Q E s1 hr h I => ?_
  · rcases hj with rfl | rfl
    · match us, its, hl, hi with
      | [_, _], [_], _, _ => exact ⟨_, rfl, rfl⟩
    · match us, its, hl, hi with
      | [_, _, _], [_], _, _ => exact ⟨_, rfl, rfl⟩
  obtain ⟨x, dx, a, am, rfl, ha0, hal, ham, hx, q⟩ := h
  refine at_ps (ps_if (pt_not (pt_val (C8.pe_c cn hr (by decide) (by rfl) (pa_cons (pv 1) pa_nil)))) (pss_one ps_never) pss_nil) I (Nx := fun σ' H' => σ' = startF ["self", "at", "amount", "__class__"] [.ref x, .int a, am] [none] ∧ H' = H) ⟨_, rfl, a, rfl, ha0, _, rfl, rfl, rfl⟩ fun σ' H' s' J hN => ?_
  obtain ⟨rfl, rfl⟩ := hN
  refine at_ps (ps_if (PW.pt (pw_and (pt_cmp (pc_notN (pv 2))) (pw_and1 (pt_not (pt_val (C8.pe_c ca hr (by decide) (by rfl) (pa_cons (pv 2) pa_nil))))))) (pss_one ps_never) pss_nil) J (Nx := fun σ1 H1 => σ1 = startF ["self", "at", "amount", "__class__"] [.ref x, .int a, am] [none] ∧ H1 = H') ?_ fun σ1 H1 s3 J1 hN => ?_
  · rcases ham with rfl | ⟨n, rfl, hn, hlg⟩
    · exact ⟨_, rfl, false, rfl, rfl, rfl⟩
    · exact ⟨_, rfl, true, rfl, _, rfl, n, rfl, hn, _, rfl, rfl, rfl⟩
  obtain ⟨rfl, rfl⟩ := hN
  refine at_sup (Rn := fun H2 => ∃ z, H2 = upd H1 x (.ins D dx [("script", .str z)])) (P := P) (w := w) (pl := _) St (r_Mv FM) (hr.mono (by decide)) (by decide +kernel) (by decide +kernel) (by decide +kernel) (by rfl) (by decide +kernel) rfl hsup
    (pe_ifExp (pt_cmp (pc_isN (pv 2))) (pe_joined (.cons pe_str (.cons (pe_fmt (pv 1)) .nil))) (pe_joined (.cons pe_str (.cons (pe_fmt (pv 1)) (.cons pe_str (.cons (pe_fmt (pv 2)) .nil)))))) rfl rfl rfl J1 rfl hx ?_ fun H2 s2 J2 hz => ?_
  · have h1 := txt_len hal
    have l0 : (Str.empty ++ ("take " : Str)).length = 5 := rfl
    have l1 : (" by " : Str).length = 4 := rfl
    rcases ham with rfl | ⟨n, rfl, hn, hlg⟩
    · refine ⟨_, rfl, true, rfl, iteT ⟨_, rfl, szl (by decide), _, rfl, .inr ⟨a, rfl, hal, _, rfl, szl (by rw [cat_len]; omega), ?_⟩⟩⟩
      exact ⟨x, D, dx, [], _, rfl, hx, S.cl, S.n1, by decide, _, rfl⟩
    · have h2 := txt_len hlg
      refine ⟨_, rfl, false, rfl, iteF ⟨_, rfl, szl (by decide), _, rfl, .inr ⟨a, rfl, hal, _, rfl, szl (by rw [cat_len]; omega), _, rfl, szl (by rw [cat_len, cat_len]; omega), _, rfl, .inr ⟨n, rfl, hlg, _, rfl, szl (by rw [cat_len, cat_len, cat_len]; omega), ?_⟩⟩⟩⟩
      exact ⟨x, D, dx, [], _, rfl, hx, S.cl, S.n1, by decide, _, rfl⟩
  · obtain ⟨z, rfl⟩ := hz
    refine at_end (pss_cons (ps_fld (pv 0) (pv 1) rfl) (pss_one (ps_fld (pv 0) (pv 2) rfl))) J2 ⟨_, rfl, _, rfl, x, D, dx, _, rfl, upd_same, S.cl, n3, (by show 1 < 1000; decide), _, rfl, _, rfl, x, D, dx, _, rfl, upd_same, S.cl, n2, (by show 2 < 1000; decide), ?_⟩
    exact q _ ⟨But.set (But.set (But.set (But.refl _ _))), _, upd_same⟩
/-! ### Track -/
def fsTr (ml pl : Addr) (many am : Int) : List (Str × V) := [("moves", V.ref ml), ("path", V.ref pl), ("many", V.int many), ("amount", V.int am)]
structure TrOk (K : PySem.W.Frag) (C : Addr) : Prop where
  cl : Cls K C
  n1 : NoAttr K C "moves"
  n2 : NoAttr K C "path"
  n3 : NoAttr K C "many"
  n4 : NoAttr K C "amount"
def spTrack (C : Addr) : Sp := fun vs H Q _ => ∃ (p dx : Addr), vs = [.ref p] ∧ H p = some (.ins C dx []) ∧ ∀ H' ml pl, But p H H' → H ml = none → H pl = none → ml ≠ pl → H' p = some (.ins C dx (fsTr ml pl 0 1)) → H' ml = some (.lst []) → H' pl = some (.lst []) → Q .non H'
theorem sc_Track : FnScope ["self"] ["self"] (defScope (inClass (top 53) 0)) := ⟨rfl, rfl, rfl, by decide +kernel, rfl, by decide +kernel, by decide +kernel⟩
theorem k_Track {C : Addr} (D : ClsT K mg "Track" "Track.__init__" C (inClass (top 53) 0) []) (t : TrOk K C) : C8.Mak P w K mg base 1 "Track" C (spTrack C) [] := by
  refine mak_of D sc_Track (fun _ _ _ _ _ _ us hl => match us, hl with | [_], _ => rfl) (fun vs H Q E h => ?_) fun f cdv A outer s H vs Q E hr h => ?_
  · obtain ⟨p, dx, rfl, _⟩ := h
    rfl
  · obtain ⟨p, dx, rfl, hp, q⟩ := h
    refine ⟨_, (pss_cons (ps_fld (pv 0) (pe_lst pa_nil) rfl)
      (pss_cons (ps_fld (pv 0) (pe_lst pa_nil) rfl)
      (pss_cons (ps_fld (pv 0) pe_int rfl)
      (pss_one (ps_fld (pv 0) pe_int rfl))))), ?_⟩
    refine ⟨Nat.zero_le _, fun ml hml => ⟨_, rfl, p, C, dx, [], rfl, ?_, D.cl, t.n1, (by show 0 < 1000; decide), Nat.zero_le _, fun pl hpl => ?_⟩⟩
    · rw [upd_ne (ne_of_none hp hml)]; exact hp
    have npm : p ≠ ml := ne_of_none hp hml
    have npl : p ≠ pl := fun z => by rw [← z, upd_same] at hpl; cases hpl
    have hpl1 : H pl = none := (none_upd ((none_upd hpl).1)).1
    have nml : ml ≠ pl := fun z => by
      rw [← z, upd_ne npm.symm, upd_same] at hpl
      cases hpl
    refine ⟨_, rfl, p, C, dx, _, rfl, (by rw [upd_ne npl, upd_same]), D.cl, t.n2, (by show 1 < 1000; decide), ?_⟩
    refine ⟨_, rfl, p, C, dx, _, rfl, upd_same, D.cl, t.n3, (by show 2 < 1000; decide), ?_⟩
    refine ⟨_, rfl, p, C, dx, _, rfl, upd_same, D.cl, t.n4, (by show 3 < 1000; decide), ?_⟩
    refine q _ ml pl (But.set (But.set (But.set (But.mut (But.set (But.mut (But.refl _ _) hml)) hpl1)))) hml hpl1 nml upd_same ?_ ?_
    · rw [upd_ne npm.symm, upd_ne npm.symm, upd_ne npm.symm, upd_ne nml, upd_ne npm.symm, upd_same]
    · rw [upd_ne npl.symm, upd_ne npl.symm, upd_ne npl.symm, upd_same]
/-! ### put -/
def spPutM (C : Addr) : Sp := fun vs H Q _ => ∃ (t mv dx ml pl : Addr) (many am k : Int) (ms : List V), vs = [.ref t, .ref mv, .int k] ∧ H t = some (.ins C dx (fsTr ml pl many am)) ∧ H ml = some (.lst ms) ∧ ms.length < sizeLine ∧ t ≠ ml ∧
  Q .non (upd (upd H ml (.lst (ms ++ [.ref mv]))) t (.ins C dx (fsTr ml pl (many + k) am)))
theorem sc_put : FnScope ["self", "move", "many"] ["self", "move", "many"] (defScope (inClass (top 53) 1)) := ⟨rfl, rfl, rfl, by decide +kernel, rfl, by decide +kernel, by decide +kernel⟩
theorem m_put {C : Addr} (t : TrOk K C) (D : MetT K C "put" "Track.put" (inClass (top 53) 1) []) : C8.Met P w K mg base 1 C "put" (spPutM C) [] := by
  refine met_of t.cl D sc_put (fun _ _ _ _ _ _ us hl => match us, hl with | [_, _, _], _ => rfl) (fun vs H Q E h => ?_) fun f cdv A outer s H vs Q E hr h => ?_
  · obtain ⟨t, mv, dx, ml, pl, many, am, k, ms, rfl, _⟩ := h
    rfl
  · obtain ⟨ta, mv, dx, ml, pl, many, am, k, ms, rfl, h1, h2, h3, h4, q⟩ := h
    refine ⟨_, (pss_cons (ps_expr (pe_bm PySem.F.plainAttrs_list PySem.F.slot_list_append PySem.F.type_list_append mt_append (pe_fld (pv 0) rfl) (pa_cons (pv 1) pa_nil)))
      (pss_one (ps_fldaug (pv 0) (pv 2) in_add))), ?_⟩
    refine ⟨_, rfl, ta, C, dx, _, _, rfl, h1, t.cl, t.n1, rfl, .inl ⟨rfl, _, SqL.of h2⟩, _, rfl, ml, ms, _, rfl, rfl, h2, h3, ?_⟩
    refine ⟨_, rfl, ta, C, dx, _, _, rfl, by rw [upd_ne h4]; exact h1, t.cl, t.n3, rfl, _, rfl, many, k, rfl, rfl, dx, _, (by rw [upd_ne h4]; exact h1), (by show 4 < 1000; decide), ?_⟩
    exact q
end
end K97
set_option maxHeartbeats 4000000
namespace K97
open PySem PySem.Spec PyProof.Rows L2 LamX NdefX ClX
theorem pe_makeR0 {X : Cx} {k : Nat} {f C : Addr} {sp : Sp} {x : Str} {p pos : Pos} (M : Mk X.K C f) (F : FnR X.prog X.w X.K X.mg X.base C8.CX0 k f sp) (hr : Room (k + 1) X.A) (hg : Gl X x) (hm : X.mg x = some (.ref C)) (hdb : (x == ("__debug__" : Str)) = false := by decide) :
    PE X (.Call (.Name x p) [] [] pos) (StX.tMakeR C sp C8.E0 tNil) := by
  refine ⟨fun pins s σ H Q I h => ?_⟩
  refine wpAny_Call_Name_kw (ld_glob I hg hm ?_ hdb)
  exact PySem.W.callWith_K0 I.kIn M.kp (StX.run_makeR (us := []) M F hr C8.pass0 I .nil h)
/-- the track at t: n moves, its path, how many entries stand, its amount -/
structure TrS (K : PySem.W.Frag) (CT Mv : Addr) (H : Hp) (t dx ml pl : Addr) (n : Nat) (pth : List Int) (many am : Int) : Prop where
  ob : H t = some (.ins CT dx (fsTr ml pl many am))
  mv : ∃ ms : List Addr, H ml = some (.lst (ms.map V.ref)) ∧ ms.length = n ∧ ∀ m ∈ ms, m ≠ t ∧ MvAt K Mv H m
  pa : H pl = some (.lst (pth.map V.int))
  ne1 : ml ≠ pl
  ne2 : t ≠ ml
  ne3 : t ≠ pl
/-- a new move is put -/
theorem TrS.put {K : PySem.W.Frag} {CT Mv : Addr} {H : Hp} {t dx ml pl : Addr} {n : Nat} {pth : List Int} {many am : Int} (h : TrS K CT Mv H t dx ml pl n pth many am) {x : Addr} (hx : x ≠ t) (hm : MvAt K Mv H x) (k : Int) {ms : List V} (e : H ml = some (.lst ms)) :
    TrS K CT Mv (upd (upd H ml (.lst (ms ++ [.ref x]))) t (.ins CT dx (fsTr ml pl (many + k) am))) t dx ml pl (n + 1) pth (many + k) am ∧ B2 t ml H (upd (upd H ml (.lst (ms ++ [.ref x]))) t (.ins CT dx (fsTr ml pl (many + k) am))) := by
  obtain ⟨ms', h1, h2, h3⟩ := h.mv
  rw [h1] at e
  obtain rfl := (HO.lst.inj (Option.some.inj e))
  have b : B2 t ml H (upd (upd H ml (.lst (ms'.map V.ref ++ [.ref x]))) t (.ins CT dx (fsTr ml pl (many + k) am))) := B2.setD.trans B2.setF
  have mk : ∀ m, m ≠ t → MvAt K Mv H m → MvAt K Mv (upd (upd H ml (.lst (ms'.map V.ref ++ [.ref x]))) t (.ins CT dx (fsTr ml pl (many + k) am))) m := fun m hmt hmv => by
    obtain ⟨C, d, fs, g1, g2⟩ := hmv
    refine ⟨C, d, fs, b _ _ hmt (fun z => ?_) g1, g2⟩
    rw [z, h1] at g1
    cases g1
  refine ⟨⟨upd_same, ⟨ms' ++ [x], by rw [upd_ne h.ne2.symm, upd_same, List.map_append]; rfl, by simp [h2], fun m hm' => ?_⟩, b _ _ h.ne3.symm h.ne1.symm h.pa, h.ne1, h.ne2, h.ne3⟩, b⟩
  rcases List.mem_append.mp hm' with z | z
  · exact ⟨(h3 m z).1, mk m (h3 m z).1 (h3 m z).2⟩
  · rw [List.mem_singleton.mp z]
    exact ⟨hx, mk x hx hm⟩
theorem TrS.same {K : PySem.W.Frag} {CT Mv : Addr} {H H' : Hp} {t dx ml pl : Addr} {n : Nat} {pth : List Int} {many am : Int} (e : Same H H') (h : TrS K CT Mv H t dx ml pl n pth many am) : TrS K CT Mv H' t dx ml pl n pth many am := by
  obtain ⟨ms, h1, h2, h3⟩ := h.mv
  exact ⟨e _ _ h.ob, ⟨ms, e _ _ h1, h2, fun m hm => ⟨(h3 m hm).1, (h3 m hm).2.same e⟩⟩, e _ _ h.pa, h.ne1, h.ne2, h.ne3⟩
/-- another path, another amount -/
theorem TrS.set {K : PySem.W.Frag} {CT Mv : Addr} {H : Hp} {t dx ml pl pl' : Addr} {n : Nat} {pth pth' : List Int} {many am am' : Int} (h : TrS K CT Mv H t dx ml pl n pth many am) (hp : H pl' = some (.lst (pth'.map V.int))) (n1 : ml ≠ pl') (n3 : t ≠ pl') :
    TrS K CT Mv (upd H t (.ins CT dx (fsTr ml pl' many am'))) t dx ml pl' n pth' many am' ∧ B2 t ml H (upd H t (.ins CT dx (fsTr ml pl' many am'))) := by
  obtain ⟨ms, h1, h2, h3⟩ := h.mv
  refine ⟨⟨upd_same, ⟨ms, by rw [upd_ne h.ne2.symm]; exact h1, h2, fun m hm => ⟨(h3 m hm).1, ?_⟩⟩, by rw [upd_ne n3.symm]; exact hp, n1, h.ne2, n3⟩, B2.setF⟩
  obtain ⟨C, d, fs, g1, g2⟩ := (h3 m hm).2
  exact ⟨C, d, fs, by rw [upd_ne (h3 m hm).1]; exact g1, g2⟩
/-- the classes of moves -/
structure MvR (P : Program) (w : World) (K : PySem.W.Frag) (mg : Str → Option Value) (base : Heap) (Mv : Addr) : Prop where
  b : ∃ D f, Mk K D f ∧ mg "Begin" = some (.ref D) ∧ IsI K D Mv ∧ FnR P w K mg base C8.CX0 3 f (fun vs H Q E => spBegin D (vs ++ []) H Q E)
  t : ∃ D f, Mk K D f ∧ mg "Take" = some (.ref D) ∧ IsI K D Mv ∧ ∀ j, j = 0 ∨ j = 1 → FnR P w K mg base C8.CX0 3 f (fun vs H Q E => spTake D (vs ++ [V.non].drop j) H Q E)
  r : ∃ D f, Mk K D f ∧ mg "Right" = some (.ref D) ∧ IsI K D Mv ∧ FnR P w K mg base C8.CX0 3 f (fun vs H Q E => spRight D (vs ++ []) H Q E)
  s : ∃ D f, Mk K D f ∧ mg "Shut" = some (.ref D) ∧ IsI K D Mv ∧ FnR P w K mg base C8.CX0 3 f (fun vs H Q E => spShut D (vs ++ []) H Q E)
theorem Left.same {x D dx : Addr} {H H' : Hp} {u : HO} (hx : H x = none) (hd : H dx = none) (h : Left x D dx (upd (upd H dx u) x (.ins D dx [])) H') : Same H H' := same_make hx hd h.1
section
variable {P : Program} {w : World} {K : PySem.W.Frag} {mg : Str → Option Value} {base : Heap} {CT Mv : Addr}
/-! ### Track.take -/
def spTk (K : PySem.W.Frag) (CT Mv : Addr) : Sp := fun vs H Q _ => ∃ (t dx ml pl : Addr) (n : Nat) (pth : List Int) (many am a : Int) (d : Str), vs = [.ref t, .int a, .str d] ∧ TrS K CT Mv H t dx ml pl n pth many am ∧ n < sizeLine ∧ 0 ≤ a ∧ a.natAbs.log2 < 1920 ∧ 1 ≤ am ∧ am.natAbs.log2 < 1920 ∧
  ∀ H', B2 t ml H H' → TrS K CT Mv H' t dx ml pl (n + 1) pth (many + 1) am → Q .non H'
theorem sc_tk : FnScope ["self", "at", "deed"] ["self", "at", "deed"] (defScope (inClass (top 53) 2)) := ⟨rfl, rfl, rfl, by decide +kernel, rfl, by decide +kernel, by decide +kernel⟩
theorem m_tk (t : TrOk K CT) (M : MvR P w K mg base Mv) (mp : C8.Met P w K mg base 1 CT "put" (spPutM CT) []) (D : MetT K CT "take" "Track.take" (inClass (top 53) 2) []) : C8.Met P w K mg base 5 CT "take" (spTk K CT Mv) [] := by
  obtain ⟨DT, fT, MT, gT, iT, FT⟩ := M.t
  refine met_of t.cl D sc_tk (fun _ _ _ _ _ _ us hl => match us, hl with | [_, _, _], _ => rfl) (fun vs H Q E h => ?_) fun f cdv A outer s H vs Q E hr h => ?_
  · obtain ⟨t, dx, ml, pl, n, pth, many, am, a, d, rfl, _⟩ := h
    rfl
  · obtain ⟨ta, dx, ml, pl, n, pth, many, am, a, d, rfl, hT, hn, ha, hal, ham, haml, q⟩ := h
    refine ⟨_, (pss_one (ps_expr (C8.pe_mt mp hr (by decide) (pv 0) (pa_cons (pe_ifExp (pt_cmpR op_eq (pv 2) pe_str (nomark _)) (StX.pe_makeR (E := C8.E0) MT (FT 0 (.inl rfl)) hr (by rfl) gT C8.pass0 (pa_cons (pv 1) pa_nil)) (StX.pe_makeR (E := C8.E0) MT (FT 1 (.inr rfl)) hr (by rfl) gT C8.pass0 (pa_cons (pv 1) (pa_cons (pe_fld (pv 0) rfl) pa_nil)))) (pa_cons pe_int pa_nil))))), ?_⟩
    refine ⟨_, rfl, ta, dx, _, rfl, hT.ob, rfl, ?_⟩
    have fin : ∀ x d2 H1, Same H H1 → H1 x = none → H1 d2 = none → ∀ H2, Left x DT d2 (upd (upd H1 d2 (.own x)) x (.ins DT d2 [])) H2 → spPutM CT [.ref ta, .ref x, .int 1] H2 Q C8.E0 := fun x d2 H1 e hx hd H2 hL => by
      have e2 := hL.same hx hd
      have T2 := hT.same (e.trans e2)
      obtain ⟨ms, g1, g2, g3⟩ := T2.mv
      obtain ⟨fs, hfs⟩ := hL.2
      have hxt : x ≠ ta := fun z => by rw [z, e _ _ hT.ob] at hx; cases hx
      obtain ⟨T3, b3⟩ := T2.put hxt ⟨DT, d2, fs, hfs, iT⟩ 1 g1
      exact ⟨ta, x, dx, ml, pl, many, am, 1, _, rfl, T2.ob, g1, by rw [List.length_map, g2]; exact hn, T2.ne2, q _ ((Same.b2 (e.trans e2)).trans b3) T3⟩
    refine ⟨_, rfl, rfl, _, rfl, ?_⟩
    by_cases hd : d = "whole"
    · rw [hd, decide_eq_true rfl]
      refine iteT ⟨_, rfl, fun x d2 hx hd2 hne => ?_⟩
      exact ⟨x, d2, a, .non, rfl, ha, hal, .inl rfl, upd_same, fun H2 hL => ⟨rfl, fin x d2 H (fun _ _ h => h) hx hd2 H2 hL⟩⟩
    · rw [decide_eq_false (fun z => hd (by injection z))]
      refine iteF ⟨_, rfl, _, rfl, ta, CT, dx, _, _, rfl, hT.ob, t.cl, t.n4, rfl, fun x d2 hx hd2 hne => ?_⟩
      exact ⟨x, d2, a, .int am, rfl, ha, hal, .inr ⟨am, rfl, ham, haml⟩, upd_same, fun H2 hL => ⟨rfl, fin x d2 H (fun _ _ h => h) hx hd2 H2 hL⟩⟩
end
end K97
set_option maxHeartbeats 4000000
namespace K97
open PySem PySem.Spec PyProof.Rows L2 LamX NdefX ClX
def nxtP (st : Stp) (i : Int) (pth : List Int) (many : Int) : List Int := match st.name with
  | .beg => [0]
  | .shut => pth
  | .right => if i = 0 then pth ++ [many] else [many + 1]
  | .take => pth ++ [many]
def nxtM (st : Stp) (many : Int) : Int := match st.name with
  | .beg => many + 1
  | .shut => many
  | .right => many + 2
  | .take => many + 1
def nxtA (st : Stp) (i : Int) (am : Int) : Int := match st.name with
  | .right => if i = 0 then am else 3 * am
  | _ => am
theorem log1920 {v : Int} {k : Nat} (h : v.natAbs < 2 ^ k) (h0 : 0 < k) (hk : k ≤ 1920) : v.natAbs.log2 < 1920 := Nat.lt_of_lt_of_le (PySem.Flt.log2_lt_of h0 h) hk
theorem three_mul {n k : Nat} (h : n < 2 ^ k) : 3 * n < 2 ^ (k + 2) := by rw [Nat.pow_succ, Nat.pow_succ]; omega
theorem lastOf {l : List Int} (h : l ≠ []) : ∃ r x, l = r ++ [x] := ⟨l.dropLast, l.getLast h, (dropLast_last h).symm⟩
section
variable {P : Program} {w : World} {K : PySem.W.Frag} {mg : Str → Option Value} {base : Heap} {CT Mv : Addr} {c : Cs}
def spFollow (c : Cs) (K : PySem.W.Frag) (CT Mv : Addr) : Sp := fun vs H Q _ => ∃ (t dx ml pl sa : Addr) (st : Stp) (n : Nat) (pth : List Int) (many am i : Int), vs = [.ref t, .ref sa, .int i] ∧ StAt c.S c.M K H sa st ∧ TrS K CT Mv H t dx ml pl n pth many am ∧ n + 1 < sizeLine ∧ sa ≠ t ∧
  pth.length < 16000000 ∧ (st.name ≠ .beg → pth ≠ []) ∧ (∀ v ∈ pth, 0 ≤ v ∧ v.natAbs < 2 ^ 40) ∧ 1 ≤ am ∧ am.natAbs < 2 ^ 1400 ∧
  ∀ H' pl', B2 t ml H H' → TrS K CT Mv H' t dx ml pl' (n + 1) (nxtP st i pth many) (nxtM st many) (nxtA st i am) → Q .non H'
theorem sc_follow : FnScope ["self", "step", "spot", "fresh"] ["self", "step", "spot"] (defScope (inClass (top 53) 3)) := ⟨rfl, rfl, rfl, by decide +kernel, rfl, by decide +kernel, by decide +kernel⟩
theorem m_follow {tk : Tok} (ok : CsOk K c) (t : TrOk K CT) (M : MvR P w K mg base Mv) (mp : C8.Met P w K mg base 1 CT "put" (spPutM CT) []) (mt : C8.Met P w K mg base 5 CT "take" (spTk K CT Mv) []) (hM : mg "MORE" = some (.int 3 tk)) (D : MetT K CT "follow" "Track.follow" (inClass (top 53) 3) []) :
    C8.Met P w K mg base 6 CT "follow" (spFollow c K CT Mv) [] := by
  obtain ⟨DB, fB, MB, gB, iB, FB⟩ := M.b
  obtain ⟨DR, fR, MR, gR, iR, FR⟩ := M.r
  obtain ⟨DS, fS, MS, gS, iS, FS⟩ := M.s
  refine met_of t.cl D sc_follow (fun _ _ _ _ _ _ us hl => match us, hl with | [_, _, _], _ => rfl) (fun vs H Q E h => ?_) fun f cdv A outer s H vs Q E hr h => ?_
  · obtain ⟨t, dx, ml, pl, sa, st, n, pth, many, am, i, rfl, _⟩ := h
    rfl
  · obtain ⟨ta, dx, ml, pl, sa, st, n, pth, many, am, i, rfl, ⟨dxs, bb, mm, tt, bs, ms, hS⟩, hT, hn, hst, hpl, hne, hpv, ham, haml, q⟩ := h
    have nd := sc_follow.nd
    refine ⟨_, (pss_cons (ps_set (i := 3) nd rfl (.inl rfl) (pe_fld (pv 0) rfl))
      (pss_one (ps_if (pt_cmpR op_eq (pe_fld (pv 1) rfl) pe_str (nomark _)) (pss_cons (ps_expr (C8.pe_mt mp hr (by decide) (pv 0) (pa_cons (StX.pe_makeR (E := C8.E0) MB FB (hr.mono (by decide)) (by rfl) gB C8.pass0 (pa_cons pe_int pa_nil)) (pa_cons pe_int pa_nil))))
      (pss_one (ps_fld (pv 0) (pe_lst (pa_cons pe_int pa_nil)) rfl))) (pss_one (ps_if (pt_cmpR op_eq (pe_fld (pv 1) rfl) pe_str (nomark _)) (pss_one (ps_expr (C8.pe_mt mp hr (by decide) (pv 0) (pa_cons (pe_makeR0 MS FS (hr.mono (by decide)) (by rfl) gS) (pa_cons pe_int pa_nil))))) (pss_one (ps_if (pt_cmpR op_eq (pe_fld (pv 1) rfl) pe_str (nomark _)) (pss_cons (ps_expr (C8.pe_mt mp hr (by decide) (pv 0) (pa_cons (StX.pe_makeR (E := C8.E0) MR FR (hr.mono (by decide)) (by rfl) gR C8.pass0 (pa_cons (pe_ix ix_list (pe_fld (pv 0) rfl) pe_int (fun _ _ => rfl)) (pa_cons (pe_op op_mulW (pe_glob (v := .int 3) (by rfl) hM ⟨_, rfl⟩) (pe_fld (pv 0) rfl)) pa_nil))) (pa_cons pe_int pa_nil))))
      (pss_cons (ps_fld (pv 0) (pe_ifExp (pt_cmpR op_eq (pv 2) pe_int (nomark _)) (pe_fld (pv 0) rfl) (pe_op op_mulW (pe_glob (v := .int 3) (by rfl) hM ⟨_, rfl⟩) (pe_fld (pv 0) rfl))) rfl)
      (pss_one (ps_fld (pv 0) (pe_ifExp (pt_cmpR op_eq (pv 2) pe_int (nomark _)) (pe_lst (StX.pa_star (pe_fld (pv 0) rfl) (pa_cons (pv 3) pa_nil))) (pe_lst (pa_cons (pe_op op_add (pv 3) pe_int) pa_nil))) rfl)))) (pss_cons (ps_expr (C8.pe_mt mt hr (by decide) (pv 0) (pa_cons (pe_ifExp (pt_cmpR op_eq (pe_fld (pv 1) rfl) pe_str (nomark _)) (pe_ix ix_list (pe_fld (pv 0) rfl) (pe_un un_neg pe_int) (fun _ _ => rfl)) (pe_ix ix_list (pe_fld (pv 0) rfl) (pe_un un_neg pe_int) (fun _ _ => rfl))) (pa_cons (pe_fld (pv 1) rfl) pa_nil))))
      (pss_one (ps_fld (pv 0) (pe_ifExp (pt_cmpR op_eq (pe_fld (pv 1) rfl) pe_str (nomark _)) (pe_lst (StX.pa_star (pe_fld (pv 0) rfl) (pa_cons (pv 3) pa_nil))) (pe_fld (pv 0) rfl)) rfl)))))))))), ?_⟩
    have mk : ∀ (DX : Addr) (iX : IsI K DX Mv) (k : Int) (x d2 : Addr) (H1 : Hp), Same H H1 → H1 x = none → H1 d2 = none → ∀ H2, Left x DX d2 (upd (upd H1 d2 (.own x)) x (.ins DX d2 [])) H2 → ∀ Q' : VK, (∀ H3, B2 ta ml H H3 → TrS K CT Mv H3 ta dx ml pl (n + 1) pth (many + k) am → Q' .non H3) → spPutM CT [.ref ta, .ref x, .int k] H2 Q' C8.E0 := fun DX iX k x d2 H1 e hx hd H2 hL Q' hq => by
      have e2 := hL.same hx hd
      have T2 := hT.same (e.trans e2)
      obtain ⟨ms, g1, g2, g3⟩ := T2.mv
      obtain ⟨fs, hfs⟩ := hL.2
      have hxt : x ≠ ta := fun z => by rw [z, e _ _ hT.ob] at hx; cases hx
      obtain ⟨T3, b3⟩ := T2.put hxt ⟨DX, d2, fs, hfs, iX⟩ k g1
      exact ⟨ta, x, dx, ml, pl, many, am, k, _, rfl, T2.ob, g1, by rw [List.length_map, g2]; omega, T2.ne2, hq _ ((Same.b2 (e.trans e2)).trans b3) T3⟩
    have fresh : ∀ {Hx : Hp} {a : Addr} {o : HO} {b : Addr}, Hx a = some o → Hx b = none → a ≠ b := fun h1 h2 => ne_of_none h1 h2
    refine ⟨_, rfl, ta, CT, dx, _, _, rfl, hT.ob, t.cl, t.n3, rfl, ?_⟩
    refine ⟨_, rfl, sa, c.S, dxs, _, _, rfl, hS.ob, ok.clS, ok.s_name, rfl, rfl, _, rfl, ?_⟩
    cases hnm : st.name with
    | beg =>
      rw [decide_eq_true (show V.str (nS Nm.beg) = V.str "begin" from rfl)]
      refine iteT ⟨_, rfl, ta, dx, _, rfl, hT.ob, rfl, fun x d2 hx hd hne' => ?_⟩
      refine ⟨x, d2, 1, rfl, by decide, by decide, upd_same, fun H2 hL => ⟨rfl, ?_⟩⟩
      dsimp only [tCons, tC, tNil, List.cons_append, List.nil_append]
      refine mk DB iB 1 x d2 H (fun _ _ h => h) hx hd H2 hL _ fun H3 b3 T3 => ?_
      refine ⟨szl (by decide), fun p2 hp2 => ⟨_, rfl, ta, CT, dx, _, rfl, (Same.new hp2) _ _ T3.ob, t.cl, t.n2, (by show 4 < 1000; decide), ?_⟩⟩
      obtain ⟨T5, b5⟩ := (T3.same (Same.new hp2)).set (pl' := p2) (pth' := [0]) (am' := am) upd_same (fresh T3.mv.choose_spec.1 hp2) (fresh T3.ob hp2)
      refine q _ p2 ((b3.trans (Same.b2 (Same.new hp2))).trans b5) ?_
      unfold nxtP nxtM nxtA
      rw [hnm]
      exact T5
    | shut =>
      rw [str_ne (show (nS Nm.shut == "begin") = false by decide)]
      refine iteF ⟨_, rfl, sa, c.S, dxs, _, _, rfl, hS.ob, ok.clS, ok.s_name, rfl, rfl, _, rfl, ?_⟩
      rw [hnm, decide_eq_true (show V.str (nS Nm.shut) = V.str "shut" from rfl)]
      refine iteT ⟨_, rfl, ta, dx, _, rfl, hT.ob, rfl, fun x d2 hx hd hne' => ?_⟩
      refine ⟨x, d2, rfl, upd_same, fun H2 hL => ⟨rfl, ?_⟩⟩
      dsimp only [tCons, tC, tNil, List.cons_append, List.nil_append]
      refine mk DS iS 0 x d2 H (fun _ _ h => h) hx hd H2 hL _ fun H3 b3 T3 => ?_
      refine q _ pl b3 ?_
      unfold nxtP nxtM nxtA
      rw [hnm]
      rw [Int.add_zero] at T3
      exact T3
    | right =>
      rw [str_ne (show (nS Nm.right == "begin") = false by decide)]
      refine iteF ⟨_, rfl, sa, c.S, dxs, _, _, rfl, hS.ob, ok.clS, ok.s_name, rfl, rfl, _, rfl, ?_⟩
      rw [hnm, str_ne (show (nS Nm.right == "shut") = false by decide)]
      refine iteF ⟨_, rfl, sa, c.S, dxs, _, _, rfl, hS.ob, ok.clS, ok.s_name, rfl, rfl, _, rfl, ?_⟩
      rw [hnm, decide_eq_true (show V.str (nS Nm.right) = V.str "right" from rfl)]
      obtain ⟨v0, rest, hp0⟩ : ∃ v0 rest, pth = v0 :: rest := by
        cases hpp : pth with
        | nil => exact absurd hpp (hne (by rw [hnm]; intro z; cases z))
        | cons a b => exact ⟨a, b, rfl⟩
      have hv0 := hpv v0 (by rw [hp0]; exact List.mem_cons_self)
      have a3 : (3 * am).natAbs < 2 ^ 1402 := by rw [Int.natAbs_mul]; exact three_mul haml
      have hat0 : atI (pth.map V.int) 0 = some (V.int v0) := by rw [hp0]; exact atI_nat (xs := V.int v0 :: rest.map V.int) (j := 0) rfl
      refine iteT ⟨_, rfl, ta, dx, _, rfl, hT.ob, rfl, ?_⟩
      refine ⟨_, rfl, ta, CT, dx, _, _, rfl, hT.ob, t.cl, t.n2, rfl, pl, _, _, _, rfl, rfl, SqL.of hT.pa, hat0, ?_⟩
      refine ⟨_, rfl, ta, CT, dx, _, _, rfl, hT.ob, t.cl, t.n4, rfl, _, _, rfl, rfl, wide_mul (a := 2) (b := 1400) (by decide) haml (by decide) (by decide) (by decide), fun x d2 hx hd hne' => ?_⟩
      refine ⟨x, d2, v0, 3 * am, rfl, hv0.1, log1920 hv0.2 (by decide) (by decide), by omega, log1920 a3 (by decide) (by decide), upd_same, fun H2 hL => ⟨rfl, ?_⟩⟩
      dsimp only [tCons, tC, tNil, List.cons_append, List.nil_append]
      refine mk DR iR 2 x d2 H (fun _ _ h => h) hx hd H2 hL _ fun H3 b3 T3 => ?_
      have szp : pth.length + 1 ≤ sizeLine := by have : sizeLine = 16777216 := rfl; omega
      refine ⟨_, rfl, rfl, _, rfl, ?_⟩
      by_cases h0 : i = 0
      · rw [decide_eq_true (show V.int i = V.int 0 by rw [h0])]
        refine iteT ⟨_, rfl, ta, CT, dx, _, _, rfl, T3.ob, t.cl, t.n4, rfl, _, rfl, ta, CT, dx, _, rfl, T3.ob, t.cl, t.n4, (by show 4 < 1000; decide), ?_⟩
        obtain ⟨T4, b4⟩ := T3.set (pl' := pl) (pth' := pth) (am' := am) T3.pa T3.ne1 T3.ne3
        refine ⟨_, rfl, rfl, _, rfl, ?_⟩
        rw [decide_eq_true (show V.int i = V.int 0 by rw [h0])]
        refine iteT ⟨_, rfl, ta, CT, dx, _, _, rfl, T4.ob, t.cl, t.n2, rfl, pl, _, rfl, .inr (SqL.of T4.pa), _, rfl, (by simp; exact szp), fun p2 hp2 => ⟨_, rfl, ta, CT, dx, _, rfl, (Same.new hp2) _ _ T4.ob, t.cl, t.n2, (by show 4 < 1000; decide), ?_⟩⟩
        obtain ⟨T5, b5⟩ := (T4.same (Same.new hp2)).set (pl' := p2) (pth' := pth ++ [many]) (am' := am) (by rw [List.map_append]; exact upd_same) (fresh T4.mv.choose_spec.1 hp2) (fresh T4.ob hp2)
        refine q _ p2 (((b3.trans b4).trans (Same.b2 (Same.new hp2))).trans b5) ?_
        unfold nxtP nxtM nxtA
        rw [hnm]
        simp only [h0, if_true]
        exact T5
      · rw [decide_eq_false (show ¬ V.int i = V.int 0 from fun z => h0 (by injection z))]
        refine iteF ⟨_, rfl, ta, CT, dx, _, _, rfl, T3.ob, t.cl, t.n4, rfl, _, _, rfl, rfl, wide_mul (a := 2) (b := 1400) (by decide) haml (by decide) (by decide) (by decide), _, rfl, ta, CT, dx, _, rfl, T3.ob, t.cl, t.n4, (by show 4 < 1000; decide), ?_⟩
        obtain ⟨T4, b4⟩ := T3.set (pl' := pl) (pth' := pth) (am' := 3 * am) T3.pa T3.ne1 T3.ne3
        refine ⟨_, rfl, rfl, _, rfl, ?_⟩
        rw [decide_eq_false (show ¬ V.int i = V.int 0 from fun z => h0 (by injection z))]
        refine iteF ⟨_, rfl, _, _, rfl, rfl, szl (by show 1 ≤ 1000000; decide), fun p2 hp2 => ⟨_, rfl, ta, CT, dx, _, rfl, (Same.new hp2) _ _ T4.ob, t.cl, t.n2, (by show 4 < 1000; decide), ?_⟩⟩
        obtain ⟨T5, b5⟩ := (T4.same (Same.new hp2)).set (pl' := p2) (pth' := [many + 1]) (am' := 3 * am) upd_same (fresh T4.mv.choose_spec.1 hp2) (fresh T4.ob hp2)
        refine q _ p2 (((b3.trans b4).trans (Same.b2 (Same.new hp2))).trans b5) ?_
        unfold nxtP nxtM nxtA
        rw [hnm]
        simp only [h0, if_false]
        exact T5
    | take =>
      rw [str_ne (show (nS Nm.take == "begin") = false by decide)]
      refine iteF ⟨_, rfl, sa, c.S, dxs, _, _, rfl, hS.ob, ok.clS, ok.s_name, rfl, rfl, _, rfl, ?_⟩
      rw [hnm, str_ne (show (nS Nm.take == "shut") = false by decide)]
      refine iteF ⟨_, rfl, sa, c.S, dxs, _, _, rfl, hS.ob, ok.clS, ok.s_name, rfl, rfl, _, rfl, ?_⟩
      rw [hnm, str_ne (show (nS Nm.take == "right") = false by decide)]
      refine iteF ⟨_, rfl, ta, dx, _, rfl, hT.ob, rfl, ?_⟩
      refine ⟨_, rfl, sa, c.S, dxs, _, _, rfl, hS.ob, ok.clS, ok.s_name, rfl, rfl, _, rfl, ?_⟩
      rw [hnm, str_ne (show (nS Nm.take == "hit") = false by decide)]
      have szp : pth.length + 1 ≤ sizeLine := by have : sizeLine = 16777216 := rfl; omega
      obtain ⟨rr, lv, hlv⟩ := lastOf (hne (by rw [hnm]; intro z; cases z))
      have hlast : atI (pth.map V.int) (-1) = some (V.int lv) := by rw [hlv, List.map_append]; exact atI_last _ _
      have hlv2 := hpv lv (by rw [hlv]; simp)
      refine iteF ⟨_, rfl, ta, CT, dx, _, _, rfl, hT.ob, t.cl, t.n2, rfl, 1, rfl, pl, _, _, _, rfl, rfl, SqL.of hT.pa, hlast, ?_⟩
      refine ⟨_, rfl, sa, c.S, dxs, _, _, rfl, hS.ob, ok.clS, ok.s_deed, rfl, ?_⟩
      refine ⟨ta, dx, ml, pl, n, pth, many, am, lv, _, rfl, hT, by omega, hlv2.1, log1920 hlv2.2 (by decide) (by decide), ham, log1920 haml (by decide) (by decide), fun H3 b3 T3 => ?_⟩
      have hS3 : H3 sa = some (.ins c.S dxs (fsStep (.str (nS st.name)) (.str (ddS st.dd)) bb mm tt (.int st.lt))) := b3 _ _ hst (fun z => by
        obtain ⟨ms', g1, _⟩ := hT.mv
        have := hS.ob
        rw [z, g1] at this
        cases this) hS.ob
      refine ⟨_, rfl, sa, c.S, dxs, _, _, rfl, hS3, ok.clS, ok.s_name, rfl, rfl, _, rfl, ?_⟩
      rw [hnm, decide_eq_true (show V.str (nS Nm.take) = V.str "take" from rfl)]
      refine iteT ⟨_, rfl, ta, CT, dx, _, _, rfl, T3.ob, t.cl, t.n2, rfl, pl, _, rfl, .inr (SqL.of T3.pa), _, rfl, (by simp; exact szp), fun p2 hp2 => ⟨_, rfl, ta, CT, dx, _, rfl, (Same.new hp2) _ _ T3.ob, t.cl, t.n2, (by show 4 < 1000; decide), ?_⟩⟩
      obtain ⟨T5, b5⟩ := (T3.same (Same.new hp2)).set (pl' := p2) (pth' := pth ++ [many]) (am' := am) (by rw [List.map_append]; exact upd_same) (fresh T3.mv.choose_spec.1 hp2) (fresh T3.ob hp2)
      refine q _ p2 ((b3.trans (Same.b2 (Same.new hp2))).trans b5) ?_
      unfold nxtP nxtM nxtA
      rw [hnm]
      exact T5
end
end K97
set_option maxHeartbeats 4000000
namespace K97
open PySem PySem.Spec PyProof.Rows L2 LamX NdefX ClX
section
variable {X : Cx} {C f : Addr} {k : Nat} {sp : Sp}
theorem inst_of {pins : List (Addr × Obj)} {σ : L2.St} {H : Hp} {s : Shared} {a dx : Addr} {fs : List (Str × V)} (I : Inv X pins σ H s) (h : H a = some (.ins C dx fs)) : ∃ od, PySem.W.InstAt s.heap a (PySem.W.instObj C dx) C od := by
  obtain ⟨_, _, _, hix, mA, ⟨oD, es, ep, e1, e2⟩, _⟩ := I.hok a _ h
  exact ⟨some oD, ⟨hix, rfl, rfl, e1⟩⟩
theorem call_isiK {X : Cx} {K : PySem.W.Frag} (hK : X.K = K) : CallR X (.builtin "isinstance") (rIsi K) := by
  subst hK
  exact call_isi
def rLenO (C : Addr) (sp : Sp) : List V → Hp → VK → Prop := fun xs H Q => ∃ a dx fs, xs = [V.ref a] ∧ H a = some (.ins C dx fs) ∧ sp [.ref a] H (fun v H' => ∃ n : Nat, v = .int n ∧ n < 1000000000 ∧ Q (.int n) H') C8.E0
theorem cr_lenO (hs : PySem.W.findIn X.K (.ref C) "__len__" = some (some (.ref f))) (hf : PySem.W.isFn X.K (.ref f) = true) (F : FnR X.prog X.w X.K X.mg X.base C8.CX0 k f sp) (hr : Room (k + 1) X.A) : CallR X (.builtin "len") (rLenO C sp) := by
  intro pins s σ H xs us Q I r h
  obtain ⟨a, dx, fs, rfl, ha, hsp⟩ := h
  rw [Vals.ref1 r]
  obtain ⟨od, J⟩ := inst_of I ha
  obtain ⟨m, Fm⟩ := I.fr
  refine PySem.W.len_K Fm I.mod.kin J hs hf ?_
  refine wpAny_call (codeAny_mono (F X.A.in1 X.stack s H [.ref a] [.ref a] _ C8.E0 hr.in1 I.env0.in1 (.cons rfl .nil) hsp) fun r s' hq => ?_)
  cases r with
  | error e => exact (show False from hq).elim
  | ok fl =>
    cases fl with
    | ret u =>
      obtain ⟨v, H', I', rv, n, rfl, hn, q⟩ := I.after hq
      obtain ⟨t, rfl⟩ := (show ∃ t, u = Value.int (n : Int) t from rv)
      exact ⟨⟨by omega, by omega⟩, .int n, H', I'.tok _, ⟨_, rfl⟩, q⟩
    | next => exact False.elim hq
    | brk => exact False.elim hq
    | cont => exact False.elim hq
def rInvO (C : Addr) (sp : Sp) : V → Hp → VK → Prop := fun x H Q => ∃ a dx fs, x = V.ref a ∧ H a = some (.ins C dx fs) ∧ sp [.ref a] H Q C8.E0
theorem un_invO (hs : PySem.W.findIn X.K (.ref C) "__invert__" = some (some (.ref f))) (hf : PySem.W.isFn X.K (.ref f) = true) (F : FnR X.prog X.w X.K X.mg X.base C8.CX0 k f sp) (hr : Room k X.A) : UnR X (unaryOp .Invert) (rInvO C sp) := by
  intro pins s σ H x v Q I r h
  obtain ⟨a, dx, fs, rfl, ha, hsp⟩ := h
  obtain rfl : v = Value.ref a := r
  obtain ⟨od, J⟩ := inst_of I ha
  obtain ⟨m, Fm⟩ := I.fr
  refine PySem.W.ksp_inv Fm I.mod.kin J hs hf ?_
  refine wpAny_call (codeAny_mono (run_fnR (us := [.ref a]) (vs := [.ref a]) F hr C8.pass0 I (.cons rfl .nil) hsp) fun r s' hq => ?_)
  cases r with
  | error e => exact hq
  | ok fl =>
    cases fl with
    | ret u => exact hq
    | next => exact False.elim hq
    | brk => exact False.elim hq
    | cont => exact False.elim hq
theorem pe_mk0 {x : Str} {dvs : List V} {j : Nat} {p pos : Pos} (c : C8.Mak X.prog X.w X.K X.mg X.base k x C sp dvs) (hr : Room j X.A) (hk : k + 1 ≤ j) (hg : Gl X x) (hdb : (x == ("__debug__" : Str)) = false := by decide) : PE X (.Call (.Name x p) [] [] pos) (tMake C sp dvs C8.E0 tNil) := by
  obtain ⟨f, fd, ps, ds, M, F, hm, b, d⟩ := c.ex
  exact pe_make0 M F (hr.mono hk) hg hm b d C8.pass0 hdb
end
section
variable {P : Program} {w : World} {K : PySem.W.Frag} {mg : Str → Option Value} {base : Heap} {CT Mv CH : Addr} {c : Cs}
/-! ### History -/
def HistAt (CH : Addr) (K : PySem.W.Frag) (H : Hp) (a : Addr) (n : Nat) : Prop := ∃ dx tp ms, H a = some (.ins CH dx [("moves", V.ref tp)]) ∧ SqT K H tp ms ∧ ms.length = n
def spHist (K : PySem.W.Frag) (Mv CH : Addr) : Sp := fun vs H Q _ => ∃ (p dx ml : Addr) (ms : List Addr), vs = [.ref p, .ref ml] ∧ H p = some (.ins CH dx []) ∧ H ml = some (.lst (ms.map V.ref)) ∧ (∀ m ∈ ms, MvAt K Mv H m) ∧ ms.length ≤ sizeLine ∧
  ∀ H' tp, But p H H' → H' p = some (.ins CH dx [("moves", V.ref tp)]) → H' tp = some (.tup (ms.map V.ref)) → Q .non H'
theorem sc_Hist : FnScope ["self", "moves", "move"] ["self", "moves"] (defScope (inClass (top 31) 0)) := ⟨rfl, rfl, rfl, by decide +kernel, rfl, by decide +kernel, by decide +kernel⟩
theorem b_Hist {dV : List V} {f : Addr} {fd : FuncData} (F : FunD K "__init__" "History.__init__" (defArgs (inClass (top 31) 0)) (defBody (inClass (top 31) 0)) (defScope (inClass (top 31) 0)) dV [] f fd) (hd : dV.length = 1) : ∃ ds, Vals [] ds ∧ Binds K fd ["self", "moves"] ds := by
  obtain ⟨x, rfl⟩ : ∃ x, dV = [x] := by
    match dV, hd with
    | [x], _ => exact ⟨x, rfl⟩
  exact F.binds1 2 1 (by simp) (by rfl) fun T kV doc pm an cdv ct us its hl hi => by
    match us, its, hl, hi with
    | [_, _], [_], _, _ => exact ⟨_, rfl, rfl⟩
/-- a class that is made by an __init__ with one default -/
structure ClsD (K : PySem.W.Frag) (mg : Str → Option Value) (x qual : Str) (C : Addr) (st : Stmt) : Prop where
  cl : Cls K C
  gl : mg x = some (.ref C)
  ex : ∃ (f : Addr) (fd : FuncData) (dV : List V), FunD K "__init__" qual (defArgs st) (defBody st) (defScope st) dV [] f fd ∧ dV.length = 1 ∧ Mk K C f
theorem k_Hist (fr : Free mg) (n1 : NoAttr K CH "moves") (gM : mg "Move" = some (.ref Mv)) (ci : C8.Cal P w K mg base 1 "is_sequence" spSeq []) (D : ClsD K mg "History" "History.__init__" CH (inClass (top 31) 0)) : C8.Mak P w K mg base 2 "History" CH (spHist K Mv CH) [] := by
  obtain ⟨f, fd, dV, F, hd, mk⟩ := D.ex
  obtain ⟨ds, rd, bd⟩ := b_Hist F hd
  refine ⟨f, fd, ["self", "moves"], ds, mk, F.ok sc_Hist (fun vs H Q E h => ?_) (fun cdv A outer s H vs Q E hr h => ?_), D.gl, bd, rd⟩
  · obtain ⟨p, dx, ml, ms, rfl, _⟩ := h
    rfl
  · obtain ⟨p, dx, ml, ms, rfl, hp, hml, hmv, hsz, q⟩ := h
    have nd := sc_Hist.nd
    refine nox_of ⟨_, (pss_cons (ps_if (PW.pt (pw_or (pt_not (pt_val (C8.pe_c ci hr (by decide) (by rfl) (pa_cons (pv 1) pa_nil)))) (pw_or1 (pt_not (pt_val (pe_callB (cr_all rfl) (by rfl) fr.all (by decide +kernel) (pa_cons (pe_lc (own := [("move", 2)]) (g := gName 2) (by rfl) nd (pi_list (pv 1)) (blkOk_by (own := [("move", 2)]) (N := ["self", "moves", "move"]) (sc := defScope (inClass (top 31) 0)) (by decide +kernel)) (fun _ _ _ _ _ => (pg_name (i := 2) nd rfl (.inl rfl))) (fun _ _ _ _ _ => pts_nil) (fun _ _ _ _ _ => (pe_callB (call_isiK (K := K) rfl) (by rfl) fr.isinstance (by decide +kernel) (pa_cons (pv 2) (pa_cons (pe_glob (v := .ref Mv) (by rfl) gM rfl) pa_nil))))) pa_nil))))))) (pss_one ps_never) pss_nil)
      (pss_one (ps_fld (pv 0) (pe_callTy call_tuple_of (by rfl) fr.tuple (by decide +kernel) (pa_cons (pv 1) pa_nil)) rfl))), ?_⟩
    refine ⟨_, rfl, ml, _, rfl, .inl hml, fun H1 e1 => ⟨_, rfl, ?_⟩⟩
    refine ⟨_, rfl, ml, rfl, ⟨_, SqL.of (e1 _ _ hml)⟩, fun D1 hD1 => ?_⟩
    refine lc_vals (xs := ms.map V.ref) walk_list (ms.map fun _ => V.bl true) (by simp) (fun H' e => SqL.of (e _ _ (e1 _ _ hml))) (by rw [List.length_map]; exact hsz) hD1
      (fun i x y H' C hx hy e hC => ?_) (fun σ H' Q Q' h t => h _ _ t) (fun x σ H' Q Q' h t => h _ _ t) (fun H2 e2 h2 => ?_)
    · rw [List.getElem?_map] at hx hy
      cases z : ms[i]? with
      | none => rw [z] at hx; cases hx
      | some m =>
        rw [z] at hx hy
        obtain rfl := (Option.some.inj hx).symm
        obtain rfl := (Option.some.inj hy).symm
        obtain ⟨C', d', fs', g1, g2⟩ := hmv m (List.mem_of_getElem? z)
        exact ⟨rfl, rfl, _, rfl, _, _, _, _, true, rfl, .own _, g2.ty ((e1.trans e) _ _ g1), g2.kit, hC _ (fun _ _ h => h)⟩
    · refine ⟨D1, ms.map fun _ => true, rfl, SqL.of (by rw [h2, List.map_map]; rfl), _, rfl, ?_⟩
      have hall : ((ms.map fun _ => true).all id) = true := by simp
      rw [hall]
      refine iteF ⟨_, rfl, ml, _, rfl, .inl ⟨SqL.of (e2 _ _ (e1 _ _ hml)), fun tp htp => ?_⟩⟩
      have e3 : Same H H2 := e1.trans e2
      refine ⟨_, rfl, p, CH, dx, [], rfl, (Same.new htp) _ _ (e3 _ _ hp), D.cl, n1, (by decide), ?_⟩
      have ptp : p ≠ tp := ne_of_none (e3 _ _ hp) htp
      refine q _ tp ?_ upd_same (by rw [upd_ne ptp.symm, upd_same])
      exact But.set (Same.but (Same.newR e3 htp))
/-! ### History.__len__ -/
def spHLen (K : PySem.W.Frag) (CH : Addr) : Sp := fun vs H Q _ => ∃ (a : Addr) (n : Nat), vs = [.ref a] ∧ HistAt CH K H a n ∧ Q (.int n) H
theorem sc_HLen : FnScope ["self"] ["self"] (defScope (inClass (top 31) 2)) := ⟨rfl, rfl, rfl, by decide +kernel, rfl, by decide +kernel, by decide +kernel⟩
theorem r_HLen {f : Addr} {fd : FuncData} (fr : Free mg) (cl : Cls K CH) (n1 : NoAttr K CH "moves") (F : FunD K "__len__" "History.__len__" (defArgs (inClass (top 31) 2)) (defBody (inClass (top 31) 2)) (defScope (inClass (top 31) 2)) [] [] f fd) : FnR P w K mg base C8.CX0 1 f (spHLen K CH) := by
  have hF : FnOk P w K mg base C8.CX0 1 f fd ["self"] (spHLen K CH) := by
    refine fn_mk F sc_HLen (fun vs H Q E h => ?_) fun f cdv A outer s H vs Q E hr h => ?_
    · obtain ⟨a, n, rfl, _⟩ := h
      rfl
    · obtain ⟨a, n, rfl, ⟨dx, tp, ms, h1, h2, h3⟩, q⟩ := h
      refine ⟨_, (pss_one (ps_ret (pe_callB call_len_seq (by rfl) fr.len PySem.boot_len (pa_cons (pe_fld (pv 0) rfl) pa_nil)))), ?_⟩
      refine ⟨_, rfl, a, CH, dx, _, _, rfl, h1, cl, n1, rfl, tp, _, rfl, .inr h2, ?_⟩
      rw [h3]
      exact q
  refine (hF.raw (F.bindsN fun _ _ _ _ _ _ us hl => match us, hl with | [_], _ => rfl) .nil).imp fun vs H Q E h => ?_
  rw [List.append_nil]
  exact h
/-! ### history_of -/
def HistRes (CH : Addr) (K : PySem.W.Frag) (H : Hp) (v : V) : Option Way → Prop
  | none => v = .non
  | some way => ∃ a, v = .ref a ∧ HistAt CH K H a way.length
def spHof (c : Cs) (K : PySem.W.Frag) (CH : Addr) : Sp := fun vs H Q _ => ∃ (v : V) (r : Option Way), vs = [v] ∧ WayRes c K H v r ∧ (∀ way, r = some way → OkFound way) ∧ ∀ H' u, Same H H' → HistRes CH K H' u r → Q u H'
structure OkTr (way : Way) (i : Nat) (pth : List Int) (many am : Int) : Prop where
  ne : 1 ≤ i → pth ≠ []
  pv : ∀ v ∈ pth, 0 ≤ v ∧ v ≤ many
  m0 : 0 ≤ many
  m1 : many ≤ 2 * (i : Int)
  pl : pth.length ≤ i
  am : am = 3 ^ r1 (way.take i)
theorem r1_take (way : Way) (i : Nat) : r1 (way.take i) ≤ r1 way := by
  unfold r1
  exact ((List.take_sublist i way).filter _).length_le
theorem OkTr.next {way : Way} {i : Nat} {pth : List Int} {many am : Int} (h : OkTr way i pth many am) {st : Stp} {sp : Int} (hi : way[i]? = some (st, sp)) (hs : i = 0 → st.name = .beg) (hs1 : 1 ≤ i → st.name ≠ .beg) : OkTr way (i + 1) (nxtP st sp pth many) (nxtM st many) (nxtA st sp am) := by
  obtain ⟨h1, h2, h3, h4, h5, h6⟩ := h
  have hr : r1 (way.take (i + 1)) = r1 (way.take i) + if st.name = .right ∧ sp ≠ 0 then 1 else 0 := by rw [take_snoc hi, r1_snoc]
  unfold nxtP nxtM nxtA
  cases hn : st.name with
  | beg =>
    have hi0 : i = 0 := by
      by_cases z : 1 ≤ i
      · exact absurd hn (hs1 z)
      · omega
    refine ⟨fun _ => by simp, fun v hv => by simp at hv; subst hv; exact ⟨by omega, by simp only; omega⟩, by simp only; omega, by simp only; omega, by simp, ?_⟩
    rw [hr, hn]
    simpa using h6
  | shut =>
    have hi1 : 1 ≤ i := by
      by_cases z : i = 0
      · have := hs z; rw [hn] at this; cases this
      · omega
    refine ⟨fun _ => h1 hi1, h2, h3, by simp only; omega, by simp only; omega, ?_⟩
    rw [hr, hn]
    simpa using h6
  | right =>
    have hi1 : 1 ≤ i := by
      by_cases z : i = 0
      · have := hs z; rw [hn] at this; cases this
      · omega
    by_cases h0 : sp = 0
    · simp only [h0, if_true]
      refine ⟨fun _ => by simp, fun v hv => ?_, by omega, by omega, by simp; omega, ?_⟩
      · rcases List.mem_append.mp hv with z | z
        · have := h2 v z; omega
        · simp at z; subst z; omega
      · rw [hr, hn]
        simpa [h0] using h6
    · simp only [h0, if_false]
      refine ⟨fun _ => by simp, fun v hv => ?_, by omega, by omega, by simp, ?_⟩
      · simp at hv; subst hv; omega
      · rw [hr, hn]
        simp only [h0, ne_eq, not_false_eq_true, and_self, if_true]
        rw [h6, Int.pow_succ, Int.mul_comm]
  | take =>
    have hi1 : 1 ≤ i := by
      by_cases z : i = 0
      · have := hs z; rw [hn] at this; cases this
      · omega
    refine ⟨fun _ => by simp, fun v hv => ?_, by simp only; omega, by simp only; omega, by simp; omega, ?_⟩
    · rcases List.mem_append.mp hv with z | z
      · have := h2 v z; simp only; omega
      · simp at z; subst z; simp only; omega
    · rw [hr, hn]
      simpa using h6
end
end K97
set_option maxHeartbeats 4000000
namespace K97
open PySem PySem.Spec PyProof.Rows L2 LamX NdefX ClX
theorem pow3 {n : Nat} (h : n ≤ 880) : ((3 : Int) ^ n).natAbs < 2 ^ 1400 := by
  have e : ((3 : Int) ^ n).natAbs = 3 ^ n := by rw [Int.natAbs_pow]; rfl
  rw [e]
  exact Nat.lt_of_le_of_lt (Nat.pow_le_pow_right (by decide) h) (by decide +kernel)
theorem pow3_pos (n : Nat) : 1 ≤ (3 : Int) ^ n := by
  have : (0 : Int) < 3 ^ n := Int.pow_pos (by decide)
  omega
theorem shape_at {way : Way} (h : Shape way) {i : Nat} {x : Stp × Int} (e : way[i]? = some x) : (i = 0 → x.1.name = .beg) ∧ (1 ≤ i → x.1.name ≠ .beg) := by
  obtain ⟨rest, rfl, hr⟩ := h
  cases i with
  | zero =>
    simp at e
    subst e
    exact ⟨fun _ => rfl, fun z => by omega⟩
  | succ i =>
    exact ⟨fun z => by omega, fun _ => hr x (List.mem_of_getElem? (by simpa using e))⟩
section
variable {P : Program} {w : World} {K : PySem.W.Frag} {mg : Str → Option Value} {base : Heap} {CT Mv CH : Addr} {c : Cs}
theorem sc_hof : FnScope ["way", "track", "step", "spot"] ["way"] (defScope (top 54)) := ⟨rfl, rfl, rfl, by decide +kernel, rfl, by decide +kernel, by decide +kernel⟩
theorem c_hof (ok : CsOk K c) (t : TrOk K CT) (kt : C8.Mak P w K mg base 1 "Track" CT (spTrack CT) []) (mf : C8.Met P w K mg base 6 CT "follow" (spFollow c K CT Mv) []) (kh : C8.Mak P w K mg base 2 "History" CH (spHist K Mv CH) []) (D : DefT K mg "history_of" "history_of" "history_of" (top 54) []) :
    C8.Cal P w K mg base 7 "history_of" (spHof c K CH) [] := by
  refine cal_of D sc_hof (fun _ _ _ _ _ _ us hl => match us, hl with | [_], _ => rfl) (fun vs H Q E h => ?_) fun f cdv A outer s H vs Q E hr h => ?_
  · obtain ⟨v, r, rfl, _⟩ := h
    rfl
  · obtain ⟨v, r, rfl, hw, hok, q⟩ := h
    have nd := sc_hof.nd
    refine ⟨_, (pss_cons (ps_if (pt_cmp (pc_isN (pv 0))) (pss_one (ps_ret pe_non)) pss_nil)
      (pss_cons (ps_set (i := 1) nd rfl (.inl rfl) (pe_mk0 kt hr (by decide) (by rfl)))
      (pss_cons (ps_for PassesOwn.never rfl (pi_list (pv 0)) (pg_tup (by rfl) (pgs_cons (pg_name (i := 2) nd rfl (.inl rfl)) (pgs_cons (pg_name (i := 3) nd rfl (.inl rfl)) pgs_nil)))
      (pss_one (ps_expr (C8.pe_mt mf hr (by decide) (pv 1) (pa_cons (pv 2) (pa_cons (pv 3) pa_nil))))))
      (pss_one (ps_ret (C8.pe_mk kh hr (by decide) (by rfl) (pa_cons (pe_fld (pv 1) rfl) pa_nil))))))), ?_⟩
    cases r with
    | none =>
      obtain rfl := (show v = .non from hw)
      exact ⟨_, rfl, true, rfl, iteT (q H .non (fun _ _ h => h) rfl)⟩
    | some way =>
      obtain ⟨l, rfl, ts, hts, hps⟩ := hw
      have ow := hok way rfl
      have hlen := Paired.length hps
      have hsz : way.length ≤ 8388609 := ow.short
      have sL : sizeLine = 16777216 := rfl
      refine ⟨_, rfl, false, rfl, iteF ?_⟩
      intro x dx hx hdx hne
      refine ⟨x, dx, rfl, upd_same, fun H1 ml pl b1 hml hpl hmp o1 o2 o3 => ⟨rfl, ?_⟩⟩
      have e1 : Same H H1 := same_make hx hdx b1
      have hml0 : H ml = none := (none_upd (none_upd hml).1).1
      have nxm : x ≠ ml := fun z => (none_upd hml).2 z.symm
      have nxp : x ≠ pl := fun z => (none_upd hpl).2 z.symm
      refine ⟨_, rfl, l, rfl, ⟨_, SqL.of (e1 _ _ hts)⟩, ?_⟩
      refine for_it (walk_list (xs := ts.map V.ref)) (fun i σ H' => ∃ (v2 v3 : Option V) (pl : Addr) (pth : List Int) (many am : Int), σ = [some (.ref l), some (.ref x), v2, v3] ∧ B2 x ml H1 H' ∧ TrS K CT Mv H' x dx ml pl i pth many am ∧ OkTr way i pth many am)
        ⟨none, none, pl, [], 0, 1, rfl, B2.refl _ _ _, ⟨o1, ⟨[], o2, rfl, fun m hm => by cases hm⟩, o3, hmp, nxm, nxp⟩, ⟨fun z => absurd z (by decide), fun v hv => (nomatch hv), by decide, by decide, Nat.le_refl _, rfl⟩⟩
        (fun i σ H' _ ⟨_, _, _, _, _, _, _, b, _, _⟩ => SqL.of ((b.same e1 hx hml0) _ _ hts)) (fun i y σ H2 H2' hi ⟨v2, v3, pl', pth, many, am, hσ, b2, T, okT⟩ yy => ?_) (fun σ H2 ⟨v2, v3, pl', pth, many, am, hσ, b2, T, okT⟩ => ?_)
      · obtain ⟨rfl, hy⟩ := yy
        subst hσ
        rw [List.length_map] at hi
        obtain ⟨⟨st, sp⟩, hst⟩ : ∃ e, way[i]? = some e := ⟨_, List.getElem?_eq_getElem (by omega)⟩
        obtain ⟨ta, hta, sa, g1, g2⟩ := Paired.at hps hst
        obtain rfl : y = .ref ta := by
          rw [List.getElem?_map, hta] at hy
          exact (Option.some.inj hy).symm
        have e2 : Same H H2' := b2.same e1 hx hml0
        have sh := shape_at ow.shape hst
        have hsx : sa ≠ x := by
          obtain ⟨dxs, bb, mm, tt, bs, ms, S⟩ := g2
          exact ne_of_none S.ob hx
        have hr1 : r1 (way.take i) ≤ 880 := Nat.le_trans (r1_take way i) ow.few
        refine ⟨ta, _, rfl, SqT.of (e2 _ _ g1), rfl, _, _, rfl, _, _, rfl, rfl, ?_⟩
        refine ⟨_, rfl, x, dx, _, rfl, T.ob, rfl, _, rfl, _, rfl, ?_⟩
        refine ⟨x, dx, ml, pl', sa, st, i, pth, many, am, sp, rfl, g2.same e2, T, by omega, hsx, by have := okT.pl; omega, fun z => okT.ne ?_, fun v hv => ?_, by rw [okT.am]; exact pow3_pos _, by rw [okT.am]; exact pow3 hr1, fun H3 pl3 b3 T3 => ?_⟩
        · by_cases z0 : i = 0
          · exact absurd (sh.1 z0) z
          · omega
        · have h1 := okT.pv v hv
          have h2 := okT.m1
          refine ⟨h1.1, ?_⟩
          have : (2 : Nat) ^ 40 = 1099511627776 := by decide
          omega
        · exact ⟨_, _, pl3, _, _, _, rfl, b2.trans b3, T3, okT.next hst sh.1 sh.2⟩
      · subst hσ
        obtain ⟨ms, g1, g2, g3⟩ := T.mv
        rw [List.length_map, hlen] at g2
        have e2 : Same H H2 := b2.same e1 hx hml0
        refine ⟨_, rfl, x, CT, dx, _, _, rfl, T.ob, t.cl, t.n1, rfl, fun x2 d2 hx2 hd2 hne2 => ?_⟩
        have em : ∀ {o : HO}, H2 ml = some o → upd (upd H2 d2 (.own x2)) x2 (.ins CH d2 []) ml = some o := fun h => by rw [upd_ne (ne_of_none h hx2), upd_ne (ne_of_none h hd2)]; exact h
        refine ⟨x2, d2, ml, ms, rfl, upd_same, em g1, fun m hm => ?_, by omega, fun H3 tp b3 hx3 htp => ⟨rfl, ?_⟩⟩
        · obtain ⟨C', d', fs', m1, m2⟩ := (g3 m hm).2
          exact ⟨C', d', fs', by rw [upd_ne (ne_of_none m1 hx2), upd_ne (ne_of_none m1 hd2)]; exact m1, m2⟩
        · exact q H3 _ (e2.trans (same_make hx2 hd2 b3)) ⟨x2, rfl, d2, tp, _, hx3, SqT.of htp, by rw [List.length_map, g2]⟩
end
end K97
set_option maxHeartbeats 4000000
namespace K97
open PySem PySem.Spec PyProof.Rows L2 LamX NdefX ClX
/-- a def whose last parameter is None by default -/
structure DefN (K : PySem.W.Frag) (mg : Str → Option Value) (x nm qual : Str) (st : Stmt) : Prop where
  ex : ∃ (f : Addr) (fd : FuncData), FunD K nm qual (defArgs st) (defBody st) (defScope st) [V.non] [] f fd ∧ mg x = some (.ref f)
section
variable {P : Program} {w : World} {K : PySem.W.Frag} {mg : Str → Option Value} {base : Heap} {CT Mv CH : Addr} {c : Cs} {T : List (Addr × Str)}
theorem caln_of {x nm qual : Str} {st : Stmt} {N : List Str} {p1 p2 p3 : Str} {k : Nat} {sp : Sp} (D : DefN K mg x nm qual st) (S : FnScope N [p1, p2, p3] (defScope st)) (j : Nat) (hj : j = 0 ∨ j = 1)
    (hb : ∀ (T : Addr) (kV doc pm : Value) (an : Option Addr) (cdv ct : Value) (us its : List Value), us.length + (1 - j) = 3 → its.length = 1 → ∃ kk, bindArgs (PySem.W.fnOf nm qual (defArgs st) (defBody st) (defScope st) (.ref T) kV doc pm an cdv ct) ⟨us, []⟩ = seqItems? (.ref T) >>= kk ∧ kk (some its.toArray) = pure ([p1, p2, p3].zip (us ++ its.drop j)))
    (len : ∀ vs H Q E, sp vs H Q E → vs.length = 3)
    (h : ∀ (f : Addr) (cdv : Value) (A : Around) (outer : List Env) (s : Shared) (H : Hp) (vs : List V) (Q : VK) (E : XK), Room k (A.deeper (envOfC qual (defScope st) s.heap.objs.size f cdv)) → sp vs H Q E →
      ∃ t, PSs (cxOf C8.CX0 P w K mg base N qual (defScope st) f cdv A outer s H E).nox (defBody st) t ∧ t { nx := fun _ H' => Q .non H', rt := Q } (start N vs) H) : C8.Cal P w K mg base (k + 1) x sp ([V.non].drop j) := by
  obtain ⟨f, fd, F, g⟩ := D.ex
  obtain ⟨ds, rd, bd⟩ := F.binds1 (ps := [p1, p2, p3]) (3 - (1 - j)) j (by simp) (by rcases hj with rfl | rfl <;> rfl) fun T kV doc pm an cdv ct us its hl hi => hb T kV doc pm an cdv ct us its (by rcases hj with rfl | rfl <;> omega) hi
  refine ⟨f, fd, [p1, p2, p3], ds, F.ok S len (fun cdv A outer s H vs Q E hr hsp => ?_), g, F.kp, bd, rd⟩
  obtain ⟨t, ht, q⟩ := h f cdv A outer s H vs Q E hr hsp
  exact ⟨t, ht.nox, q⟩
/-! ### happens, least -/
def spHap (c : Cs) (K : PySem.W.Frag) (T : List (Addr × Str)) : Sp := fun vs H Q _ => ∃ (a : Addr) (h : Hm) (gs : Str) (rv : V) (p : Stp → Bool), vs = [.ref a, .str gs, rv] ∧ HouseAt c.H H a h ∧ h.depth ≤ 4 ∧ GoalAt c K H gs rv p ∧ Tabs T H ∧
  ∀ H', ExtN H H' → Tabs T H' → Q (.bl (search h p).isSome) H'
theorem sc_hap : FnScope ["house", "goal", "report"] ["house", "goal", "report"] (defScope (top 56)) := ⟨rfl, rfl, rfl, by decide +kernel, rfl, by decide +kernel, by decide +kernel⟩
theorem c_hap (j : Nat) (hj : j = 0 ∨ j = 1) (cw : C8.Cal P w K mg base 7 "way_to" (spWay c K T) []) (D : DefN K mg "happens" "happens" "happens" (top 56)) : C8.Cal P w K mg base 8 "happens" (spHap c K T) ([V.non].drop j) := by
  refine caln_of D sc_hap j hj (fun T kV doc pm an cdv ct us its hl hi => ?_) (fun vs H Q E h => by obtain ⟨a, h, gs, rv, p, rfl, _⟩ := h; rfl) fun f cdv A outer s H vs Q E hr h => ?_
  · rcases hj with rfl | rfl
    · match us, its, hl, hi with
      | [_, _], [_], _, _ => exact ⟨_, rfl, rfl⟩
    · match us, its, hl, hi with
      | [_, _, _], [_], _, _ => exact ⟨_, rfl, rfl⟩
  · obtain ⟨a, h, gs, rv, p, rfl, hH, hd4, hg, hT, q⟩ := h
    refine ⟨_, (pss_one (ps_ret (pe_cmp (pc_notN (pe_ix ix_tup (C8.pe_c cw hr (by decide) (by rfl) (pa_cons (pv 0) (pa_cons (pv 1) (pa_cons (pv 2) pa_nil)))) pe_int (fun _ _ => rfl)))))), ?_⟩
    refine ⟨_, rfl, _, rfl, _, rfl, a, h, gs, rv, p, rfl, hH, hd4, hg, hT, fun H' t fa v e hT' ht hw => ?_⟩
    refine ⟨t, _, 1, v, rfl, rfl, SqT.of ht, atI_nat (xs := [V.ref fa, v]) (j := 1) rfl, ?_⟩
    have q2 := q H' e hT'
    cases hr' : search h p with
    | none =>
      rw [hr'] at hw q2
      obtain rfl := (show v = .non from hw)
      show Q (.bl (!decide (V.non = V.non))) H'
      rw [decide_eq_true rfl]
      exact q2
    | some way =>
      rw [hr'] at hw q2
      obtain ⟨l, rfl, _⟩ := hw
      show Q (.bl (!decide (V.ref l = V.non))) H'
      rw [decide_eq_false (fun z => by cases z)]
      exact q2
def spLeast (c : Cs) (K : PySem.W.Frag) (CH : Addr) (T : List (Addr × Str)) : Sp := fun vs H Q _ => ∃ (a : Addr) (h : Hm) (gs : Str) (rv : V) (p : Stp → Bool), vs = [.ref a, .str gs, rv] ∧ HouseAt c.H H a h ∧ h.depth ≤ 4 ∧ GoalAt c K H gs rv p ∧ Tabs T H ∧
  ∀ H' u, ExtN H H' → Tabs T H' → HistRes CH K H' u (search h p) → Q u H'
theorem sc_least : FnScope ["house", "goal", "report"] ["house", "goal", "report"] (defScope (top 57)) := ⟨rfl, rfl, rfl, by decide +kernel, rfl, by decide +kernel, by decide +kernel⟩
theorem c_least (cw : C8.Cal P w K mg base 7 "way_to" (spWay c K T) []) (ch : C8.Cal P w K mg base 7 "history_of" (spHof c K CH) []) (D : DefN K mg "least" "least" "least" (top 57)) : C8.Cal P w K mg base 8 "least" (spLeast c K CH T) [] := by
  refine caln_of D sc_least 1 (.inr rfl) (fun T kV doc pm an cdv ct us its hl hi => ?_) (fun vs H Q E h => by obtain ⟨a, h, gs, rv, p, rfl, _⟩ := h; rfl) fun f cdv A outer s H vs Q E hr h => ?_
  · match us, its, hl, hi with
    | [_, _, _], [_], _, _ => exact ⟨_, rfl, rfl⟩
  · obtain ⟨a, h, gs, rv, p, rfl, hH, hd4, hg, hT, q⟩ := h
    refine ⟨_, (pss_one (ps_ret (C8.pe_c ch hr (by decide) (by rfl) (pa_cons (pe_ix ix_tup (C8.pe_c cw hr (by decide) (by rfl) (pa_cons (pv 0) (pa_cons (pv 1) (pa_cons (pv 2) pa_nil)))) pe_int (fun _ _ => rfl)) pa_nil)))), ?_⟩
    refine ⟨_, rfl, _, rfl, _, rfl, a, h, gs, rv, p, rfl, hH, hd4, hg, hT, fun H' t fa v e hT' ht hw => ?_⟩
    refine ⟨t, _, 1, v, rfl, rfl, SqT.of ht, atI_nat (xs := [V.ref fa, v]) (j := 1) rfl, ?_⟩
    exact ⟨v, _, rfl, hw, fun way hs => search_ok hd4 hs, fun H2 u e2 hu => q H2 u (e.trans (Same.extN e2)) (hT'.ext e2) hu⟩
/-! ### _law_soon -/
def spSoon (c : Cs) (K : PySem.W.Frag) (T : List (Addr × Str)) : Sp := fun vs H Q _ => ∃ (a : Addr) (h : Hm) (gs : Str) (rv : V) (p : Stp → Bool), vs = [.ref a, .str gs, rv] ∧ HouseAt c.H H a h ∧ h.depth ≤ 4 ∧ GoalAt c K H gs rv p ∧ Tabs T H ∧
  ∀ H', ExtN H H' → Tabs T H' → Q (.int (soon h p)) H'
theorem sc_soon : FnScope ["_law_house_here", "_law_goal", "_law_report_here", "_law_found"] ["_law_house_here", "_law_goal", "_law_report_here"] (defScope (top 94)) := ⟨rfl, rfl, rfl, by decide +kernel, rfl, by decide +kernel, by decide +kernel⟩
theorem c_soon {fL : Addr} (fr : Free mg) (cl : C8.Cal P w K mg base 8 "least" (spLeast c K CH T) []) (hs : PySem.W.findIn K (.ref CH) "__len__" = some (some (.ref fL))) (hf : PySem.W.isFn K (.ref fL) = true) (FL : FnR P w K mg base C8.CX0 1 fL (spHLen K CH)) (D : DefT K mg "_law_soon" "_law_soon" "_law_soon" (top 94) []) :
    C8.Cal P w K mg base 9 "_law_soon" (spSoon c K T) [] := by
  refine cal_of D sc_soon (fun _ _ _ _ _ _ us hl => match us, hl with | [_, _, _], _ => rfl) (fun vs H Q E h => by obtain ⟨a, h, gs, rv, p, rfl, _⟩ := h; rfl) fun f cdv A outer s H vs Q E hr h => ?_
  obtain ⟨a, h, gs, rv, p, rfl, hH, hd4, hg, hT, q⟩ := h
  have nd := sc_soon.nd
  refine ⟨_, (pss_cons (ps_set (i := 3) nd rfl (.inl rfl) (C8.pe_c cl hr (by decide) (by rfl) (pa_cons (pv 0) (pa_cons (pv 1) (pa_cons (pv 2) pa_nil)))))
      (pss_one (ps_ret (pe_ifExp (pt_cmp (pc_isN (pv 3))) pe_int (pe_callB (cr_lenO hs hf FL (hr.mono (by decide))) (by rfl) fr.len PySem.boot_len (pa_cons (pv 3) pa_nil)))))), ?_⟩
  refine ⟨_, rfl, _, rfl, _, rfl, a, h, gs, rv, p, rfl, hH, hd4, hg, hT, fun H' u e hT' hu => ?_⟩
  have q2 := q H' e hT'
  unfold soon at q2
  cases hr' : search h p with
  | none =>
    rw [hr'] at hu q2
    obtain rfl := (show u = .non from hu)
    exact ⟨_, rfl, true, rfl, iteT q2⟩
  | some way =>
    rw [hr'] at hu q2
    obtain ⟨ha, rfl, dx, tp, ms, h1, h2, h3⟩ := hu
    have hsz := (search_ok hd4 hr').short
    exact ⟨_, rfl, false, rfl, iteF ⟨_, rfl, ha, dx, _, rfl, h1, ha, way.length, rfl, ⟨dx, tp, ms, h1, h2, h3⟩, way.length, rfl, by omega, q2⟩⟩
/-! ### alike -/
def spAlike (c : Cs) (K : PySem.W.Frag) (T : List (Addr × Str)) : Sp := fun vs H Q _ => ∃ (a ra sa : Addr) (h : Hm) (r s : List Row), vs = [.ref a, .ref ra, .ref sa] ∧ HouseAt c.H H a h ∧ h.depth ≤ 4 ∧ RepAt c K H ra r ∧ RepAt c K H sa s ∧ Tabs T H ∧
  ∀ H', ExtN H H' → Tabs T H' → Q (.bl (search h (otherwise (rpOf r) (rpOf s))).isNone) H'
theorem sc_alike : FnScope ["house", "r", "s"] ["house", "r", "s"] (defScope (top 61)) := ⟨rfl, rfl, rfl, by decide +kernel, rfl, by decide +kernel, by decide +kernel⟩
theorem c_alike (ca : C8.Cal P w K mg base 7 "way_apart" (spApart c K T) []) (D : DefT K mg "alike" "alike" "alike" (top 61) []) : C8.Cal P w K mg base 8 "alike" (spAlike c K T) [] := by
  refine cal_of D sc_alike (fun _ _ _ _ _ _ us hl => match us, hl with | [_, _, _], _ => rfl) (fun vs H Q E h => by obtain ⟨a, ra, sa, h, r, s, rfl, _⟩ := h; rfl) fun f cdv A outer s H vs Q E hr h => ?_
  obtain ⟨a, ra, sa, h, r, s', rfl, hH, hd4, hA, hB, hT, q⟩ := h
  refine ⟨_, (pss_one (ps_ret (pe_cmp (pc_isN (C8.pe_c ca hr (by decide) (by rfl) (pa_cons (pv 0) (pa_cons (pv 1) (pa_cons (pv 2) pa_nil)))))))), ?_⟩
  refine ⟨_, rfl, _, rfl, _, rfl, a, ra, sa, h, r, s', rfl, hH, hd4, hA, hB, hT, fun H' v e hT' hw => ?_⟩
  have q2 := q H' e hT'
  cases hr' : search h (otherwise (rpOf r) (rpOf s')) with
  | none =>
    rw [hr'] at hw q2
    obtain rfl := (show v = .non from hw)
    show Q (.bl (decide (V.non = V.non))) H'
    rw [decide_eq_true rfl]
    exact q2
  | some way =>
    rw [hr'] at hw q2
    obtain ⟨l, rfl, _⟩ := hw
    show Q (.bl (decide (V.ref l = V.non))) H'
    rw [decide_eq_false (fun z => by cases z)]
    exact q2
end
end K97
set_option maxHeartbeats 4000000
/-! {elt for x in iter}, elt a text or an int: the layer has it for truth values alone. -/
namespace K97
open PySem PySem.Spec PyProof.Rows L2 PpSet PySem.Builtin
abbrev set0 (w : World) : Obj := { cls := .type "set", dict := none, data := .set #[] 0 (.fresh 0 0 (!w.params.followText "set-order")) }
/-- the set at D holds the keys of S, n of them -/
abbrev KS (P : Program) (w : World) (D : Addr) (S : Key → Bool) (n : Nat) : HO := SetK P w D S n
/-- one more key -/
abbrev more (S : Key → Bool) (k : Key) : Key → Bool := fun j => S j || decide (j = k)
abbrev moreN (S : Key → Bool) (k : Key) (n : Nat) : Nat := if S k = true then n else n + 1
section
variable {X : Cx}
theorem ks_add {pins : List (Addr × Obj)} {σ : L2.St} {H : Hp} {s : Shared} {E : Value → Shared → Prop} {D : Addr} {S : Key → Bool} {n : Nat} {k : Key} {u : Value} {Q : Value → Shared → Prop} (I : Inv X pins σ H s) (ru : RelV (kV k) u) (hD : H D = some (KS X.prog X.w D S n)) (room : n + 1 < scanBound)
    (q : ∀ s', Inv X pins σ (upd H D (KS X.prog X.w D (more S k) (moreN S k n))) s' → Q .none s') : wpAny (model X.prog X.w) X.A (call (.builtin "set.add") [.ref D, u]) Q E s := by
  refine call_set_add (kV_is ru) (key_scan ru) (setK_get I hD) room fun h' sb R => q _ ?_
  have hu : ∃ z, h'.get? D = some z := by
    obtain ⟨o, _, _, _, ho, _⟩ := id R
    exact ⟨o, ho⟩
  exact I.write (e := D) (t' := s.toks + 1) (by rw [hD]; trivial) (.inl rfl) (fun b z hb hz => (sb.2 b hb).trans hz) hu (setK_new R)
def tScK (P : Program) (w : World) (wi : TI) (g : TG) (tt : TT) (te : TE) (vs : List Nat) : TE := fun σ H Q => wi σ H fun J H1 => ∀ D, H1 D = none → ∃ W : Nat → Nat → Hp → Prop, (∃ m, W 0 m (upd H1 D (KS P w D (fun _ => false) 0))) ∧ ∀ i m H, W i m H →
  (J.stop i H ∧ Q (.ref D) H) ∨ (J.go i H ∧ ∃ Nx : Hp → Prop, (∀ H', Nx H' → ∃ m', m' < m ∧ W (i + 1) m' H') ∧ ∀ x H', J.yld i H x H' → g x (wipe σ vs) H' fun σ2 H2 => wipe σ2 vs = wipe σ vs ∧ tt σ2 H2 fun b H3 =>
    if b = true then te σ2 H3 fun y H4 => ∃ (k : Key) (S : Key → Bool) (n : Nat), y = kV k ∧ H4 D = some (KS P w D S n) ∧ n + 1 < scanBound ∧ Nx (upd H4 D (KS P w D (more S k) (moreN S k n))) else Nx H3)
theorem pe_scK {elt tg iter : Expr} {ifs : List Expr} {scope : Scope} {own : List (PySem.Str × Nat)} {pos : Pos} {wi : TI} {g : TG} {tt : TT} {te : TE} (hc : X.calm = true) (hN : X.N.Nodup) (hi : PI X tg iter wi) (ok : BlkOk X.N X.env.scope scope own)
    (hg : ∀ (s : Shared) (H : Hp) (C : Addr) (cl : List (PySem.Str × Addr)) (fp : List Addr), PG (X.blk s H scope (compEnvC scope cl C X.env) fp) tg g) (ht : ∀ (s : Shared) (H : Hp) (C : Addr) (cl : List (PySem.Str × Addr)) (fp : List Addr), PTs (X.blk s H scope (compEnvC scope cl C X.env) fp) ifs tt)
    (he : ∀ (s : Shared) (H : Hp) (C : Addr) (cl : List (PySem.Str × Addr)) (fp : List Addr), PE (X.blk s H scope (compEnvC scope cl C X.env) fp) elt te) (hs : ∀ x, foldedSetIterable iter X.env x = pure x := by intro _; rfl) :
    PE X (.SetComp elt [⟨tg, iter, ifs, 0⟩] scope pos) (tScK X.prog X.w wi g tt te (own.map (·.2))) := by
  refine ⟨fun pins s0 σ H Q I h => ?_⟩
  rw [eval_SetComp]
  have closed : ∀ y ∈ scope.names, y.2 = .free → ∃ c, X.env.cells.lookup y.1 = some c := fun y hy e => (ok.free y hy e).elim (fun z => I.ok.has _ (.inl z)) fun z => I.ok.has _ (.inr z)
  refine wpAny_comprehension_free rfl hs (closure_ok closed) ok.kind (fun y hy e => by rw [ok.uniq y hy, e]) (thn (hi.run pins s0 σ H _ I h) fun xv s1 hx => thn hx fun itv sA hA => ?_)
  obtain ⟨it, fp, tn, J, HA, rfl, IA, T, stA, fA, q⟩ := hA
  refine newSet_ok (newEnv_comp ?_)
  obtain ⟨W, ⟨m0, w0⟩, turn⟩ := q sA.heap.objs.size (IA.hok.fresh (Nat.le_refl _))
  -- with the set laid
  have newObj : (sA.heap.push (set0 X.w)).SetOf (mixKind X.prog X.w) sA.heap.objs.size (fun _ => false) 0 :=
    ⟨_, #[], 0, _, Heap.get?_push_size _ rfl, ⟨rfl, rfl, rfl⟩, rfl, (fun e he => by simp at he), (fun k => by simp), (by decide), (by rfl), rfl⟩
  have IB : Inv X pins σ (upd HA sA.heap.objs.size (KS X.prog X.w sA.heap.objs.size (fun _ => false) 0)) { sA with heap := sA.heap.push (set0 X.w) } :=
    IA.laid (t' := sA.toks) (fun b o e => Heap.get?_push_of_some _ e) (Nat.le_refl _) (setK_new newObj)
  have low : ∀ b ∈ fp, b < sA.heap.objs.size := fun b hb => let ⟨o, e, _⟩ := T.obj _ _ stA b hb; Heap.lt_size e
  have fB : ∀ b ∈ fp, FpOk X pins (upd HA sA.heap.objs.size (KS X.prog X.w sA.heap.objs.size (fun _ => false) 0)) b ∧ b < (sA.heap.push (set0 X.w)).objs.size := fun b hb =>
    ⟨⟨by rw [upd_ne (Nat.ne_of_lt (low b hb))]; exact (fA b hb).1, (fA b hb).2⟩, by rw [Heap.size_push]; exact Nat.lt_succ_of_lt (low b hb)⟩
  have stB : tn 0 (sA.heap.push (set0 X.w)) := T.keep _ _ _ stA fun b _ o e => Heap.get?_push_of_some _ e
  generalize sA.heap.objs.size = D at IB fB w0 turn ⊢
  generalize hsB : ({ sA with heap := sA.heap.push (set0 X.w) } : Shared) = sB at IB ⊢
  have hhB : sB.heap = sA.heap.push (set0 X.w) := by rw [← hsB]
  rw [← hhB] at stB fB
  generalize upd HA D (KS X.prog X.w D (fun _ => false) 0) = HB at IB fB w0
  have IC := block_start IB ok hN fB
  have pg := hg sB HB sB.heap.objs.size (cellsFrom (sB.heap.objs.size + 1) scope.names (cloFrom X.env.cells scope.names [])) fp
  have pt := ht sB HB sB.heap.objs.size (cellsFrom (sB.heap.objs.size + 1) scope.names (cloFrom X.env.cells scope.names [])) fp
  have pe := he sB HB sB.heap.objs.size (cellsFrom (sB.heap.objs.size + 1) scope.names (cloFrom X.env.cells scope.names [])) fp
  show codeAny _ _ (.compStart (.SetComp elt [⟨tg, iter, ifs, 0⟩] scope pos) 0 (.ref it) (.ref D) (compEnvC scope (cellsFrom (sB.heap.objs.size + 1) scope.names (cloFrom X.env.cells scope.names [])) sB.heap.objs.size X.env)) (compPost (model X.prog X.w) X.A X.xe none (EP X pins σ Q) (.ref D) sB.heap.objs.size) { sB with heap := pushCells (sB.heap.push { cls := .type "dict", data := .dict #[] }) scope.names }
  generalize hce : compEnvC scope (cellsFrom (sB.heap.objs.size + 1) scope.names (cloFrom X.env.cells scope.names [])) sB.heap.objs.size X.env = ce at IC pg pt pe ⊢
  have cL : ce.locals = sB.heap.objs.size := by subst hce; rfl
  generalize hsC : ({ sB with heap := pushCells (sB.heap.push { cls := .type "dict", data := .dict #[] }) scope.names } : Shared) = sC at IC ⊢
  have stC : tn 0 sC.heap := T.keep _ _ _ stB fun b _ o e => by rw [← hsC]; exact pushCells_keeps _ _ _ _ (Heap.get?_push_of_some _ e)
  have stat : ∀ {σ' : L2.St} {H' : Hp} {s' : Shared}, Inv (X.blk sB HB scope ce fp) [] σ' H' s' → (∀ b ∈ fp, H' b = none) → ∀ b ∈ fp, FpOk (X.blk sB HB scope ce fp) [] H' b := fun {σ' H' s'} I' hn b hb =>
    ⟨hn b hb, (I'.ok.exf b hb).1, I'.ok.exfs b hb, .inl hb, fun x c e => (I'.ok.exf b hb).2 x c e, fun p hp => absurd (show p ∈ ([] : List (Addr × Obj)) ++ [] from hp) (by simp)⟩
  have loop : codeAny (model X.prog X.w) X.A (.compLoop (.SetComp elt [⟨tg, iter, ifs, 0⟩] scope pos) 0 (.ref it) (.ref D) ce) (compPost (model X.prog X.w) X.A X.xe none (EP X pins σ Q) (.ref D) sB.heap.objs.size) sC := by
    refine compLoopS_any (fun n s' => ∃ i H', Inv (X.blk sB HB scope ce fp) [] (wipe σ (own.map (·.2))) H' s' ∧ tn i s'.heap ∧ (∀ b ∈ fp, H' b = none) ∧ W i n H') ?_ m0 ⟨0, HB, IC, stC, fun b hb => (fB b hb).1.1, w0⟩
    rintro n sD ⟨i, HD, ID, stD, nD, wD⟩
    rcases turn i n HD wD with ⟨stop, qq⟩ | ⟨go, Nx, hNx, step⟩
    · refine thnF (T.done (X.blk sB HB scope ce fp) rfl rfl rfl hc i [] sD _ HD (fun _ _ => False) ID (stat ID nD) stD stop) fun r sE ⟨hr, IE⟩ => ?_
      subst hr
      have IF : Inv X pins σ HD sE := IB.call' (ch := fp) IE.os IE.base IE.hok IE.bare fun b hb => ⟨(fB b hb).1.2.2.2.1, (fB b hb).1.2.1, (fB b hb).1.2.2.2.2.1, (fB b hb).1.2.2.2.2.2⟩
      have nC : HD sB.heap.objs.size = none := by rw [← cL]; exact IE.free
      obtain ⟨m, hn, _⟩ := IE.loc
      have hn : sE.heap.Ns ce.locals m := hn
      rw [cL] at hn
      obtain ⟨f0, f1, f2, f3, f4, f5⟩ := IB.fpOk (Nat.le_refl _) nC
      exact ⟨m, hn, fun h'' sb => ⟨.ref D, HD, IF.turned (t' := sE.toks) (fun b o hb e => (sb.2 b hb).trans e) f0 f1 f3 f4 f5, rfl, qq⟩⟩
    · refine thnF (T.item (X.blk sB HB scope ce fp) rfl rfl rfl hc i [] sD _ HD (fun _ _ => False) ID (stat ID nD) stD go) fun r sE ⟨u, hr, hE⟩ => ?_
      subst hr
      refine thnF hE fun _ sF ⟨x, HF, IF, rF, yF, stF, nF⟩ => ?_
      refine thnF (pg.run _ sF _ HF x u _ (IF.pinned (stat IF nF) (T.obj _ _ stF)) rF (step x HF yF)) fun _ sG ⟨σG, HG, IG, hwG, qG⟩ => ?_
      refine thnF (pt.run _ sG σG HG _ IG qG) fun b sI ⟨HI, II, qI⟩ => ?_
      have fin : ∀ {s' : Shared} {H' : Hp}, Inv (X.blk sB HB scope ce fp) ([] ++ pinsAt fp sF.heap) σG H' s' → Nx H' → ∃ m, m < n ∧ ∃ i H', Inv (X.blk sB HB scope ce fp) [] (wipe σ (own.map (·.2))) H' s' ∧ tn i s'.heap ∧ (∀ b ∈ fp, H' b = none) ∧ W i m H' := fun {s' H'} I' nx => by
        obtain ⟨m', hm, w'⟩ := hNx H' nx
        have held : ∀ b ∈ fp, ∀ o, sF.heap.get? b = some o → s'.heap.get? b = some o ∧ H' b = none := fun b hb o e =>
          have z := I'.pin (b, o) (List.mem_append_right _ (List.mem_append_right _ (mem_pinsAt hb e)))
          ⟨z.1, z.2.1⟩
        refine ⟨m', hm, i + 1, H', (I'.unpinned (pins := [])).weak (by rw [← hwG, wipe_length]) (fun j v e => ?_), T.keep _ _ _ stF fun b hb o e => (held b hb o e).1, fun b hb => ?_, w'⟩
        · rw [← hwG] at e
          exact (wipe_some e).1
        · obtain ⟨o, e, _⟩ := T.obj _ _ stF b hb
          exact (held b hb o e).2
      cases b with
      | false => exact fin II qI
      | true =>
        refine thnF (pe.run _ sI σG HI _ II qI) fun z sJ ⟨yv, HJ, IJ, rJ, k, S0, n0, ey, hDJ, room, nx⟩ => ?_
        subst ey
        exact ks_add (X := X.blk sB HB scope ce fp) IJ rJ hDJ room fun sK IK => fin IK nx
  exact codeAny_compStart_set loop (T.self X.A 0 _ _ _ stC loop)
end
end K97
set_option maxHeartbeats 4000000
namespace K97
open PySem PySem.Spec PyProof.Rows L2
section
variable {J : It} {n : Nat} {G : Hp → Prop} {Y : Nat → Hp → V → Hp → Prop}
theorem dcw (w : Walk J n G Y) {g : TG} {tt : TT} {tk tv : TE} {vs : List Nat} {σ : L2.St} {H1 : Hp} {D : Addr} {Qd : Hp → Prop} (Pv : Nat → Hp → Prop) (h0 : Pv 0 (upd H1 D (.dK []))) (hG : ∀ i H, i ≤ n → Pv i H → G H)
    (hs : ∀ i x H H', i < n → Pv i H → Y i H x H' → g x (wipe σ vs) H' fun σ2 H2 => wipe σ2 vs = wipe σ vs ∧ tt σ2 H2 fun b H3 =>
      if b = true then tk σ2 H3 fun y H4 => tv σ2 H4 fun z H5 => ∃ kvs k, y = kV k ∧ H5 D = some (.dK kvs) ∧ kvs.length < sizeLine ∧ Pv (i + 1) (upd H5 D (.dK (putK kvs k z))) else Pv (i + 1) H3) (hd : ∀ H, Pv n H → Qd H) :
    ∃ W : Nat → Nat → Hp → Prop, (∃ m, W 0 m (upd H1 D (.dK []))) ∧ ∀ i m H, W i m H →
      (J.stop i H ∧ Qd H) ∨ (J.go i H ∧ ∃ Nx : Hp → Prop, (∀ H', Nx H' → ∃ m', m' < m ∧ W (i + 1) m' H') ∧ ∀ x H', J.yld i H x H' → g x (wipe σ vs) H' fun σ2 H2 => wipe σ2 vs = wipe σ vs ∧ tt σ2 H2 fun b H3 =>
        if b = true then tk σ2 H3 fun y H4 => tv σ2 H4 fun z H5 => ∃ kvs k, y = kV k ∧ H5 D = some (.dK kvs) ∧ kvs.length < sizeLine ∧ Nx (upd H5 D (.dK (putK kvs k z))) else Nx H3) := by
  refine ⟨fun i m H => m = n - i ∧ i ≤ n ∧ Pv i H, ⟨n, rfl, Nat.zero_le _, h0⟩, ?_⟩
  rintro i m H ⟨rfl, hi, p⟩
  have q := hG i H hi p
  by_cases hlt : i < n
  · exact .inr ⟨w.goes i H hlt q, Pv (i + 1), fun H' p' => ⟨n - (i + 1), by omega, rfl, hlt, p'⟩, fun x H' y => hs i x H H' hlt p (w.yields i H x H' hlt q y)⟩
  · obtain rfl : i = n := by omega
    exact .inl ⟨w.stops H q, hd H p⟩
theorem scw {P : Program} {wd : World} (w : Walk J n G Y) {g : TG} {tt : TT} {te : TE} {vs : List Nat} {σ : L2.St} {H1 : Hp} {D : Addr} {Qd : Hp → Prop} (Pv : Nat → Hp → Prop) (h0 : Pv 0 (upd H1 D (KS P wd D (fun _ => false) 0))) (hG : ∀ i H, i ≤ n → Pv i H → G H)
    (hs : ∀ i x H H', i < n → Pv i H → Y i H x H' → g x (wipe σ vs) H' fun σ2 H2 => wipe σ2 vs = wipe σ vs ∧ tt σ2 H2 fun b H3 =>
      if b = true then te σ2 H3 fun y H4 => ∃ (k : Key) (S : Key → Bool) (m : Nat), y = kV k ∧ H4 D = some (KS P wd D S m) ∧ m + 1 < scanBound ∧ Pv (i + 1) (upd H4 D (KS P wd D (more S k) (moreN S k m))) else Pv (i + 1) H3) (hd : ∀ H, Pv n H → Qd H) :
    ∃ W : Nat → Nat → Hp → Prop, (∃ m, W 0 m (upd H1 D (KS P wd D (fun _ => false) 0))) ∧ ∀ i m H, W i m H →
      (J.stop i H ∧ Qd H) ∨ (J.go i H ∧ ∃ Nx : Hp → Prop, (∀ H', Nx H' → ∃ m', m' < m ∧ W (i + 1) m' H') ∧ ∀ x H', J.yld i H x H' → g x (wipe σ vs) H' fun σ2 H2 => wipe σ2 vs = wipe σ vs ∧ tt σ2 H2 fun b H3 =>
        if b = true then te σ2 H3 fun y H4 => ∃ (k : Key) (S : Key → Bool) (m : Nat), y = kV k ∧ H4 D = some (KS P wd D S m) ∧ m + 1 < scanBound ∧ Nx (upd H4 D (KS P wd D (more S k) (moreN S k m))) else Nx H3) := by
  refine ⟨fun i m H => m = n - i ∧ i ≤ n ∧ Pv i H, ⟨n, rfl, Nat.zero_le _, h0⟩, ?_⟩
  rintro i m H ⟨rfl, hi, p⟩
  have q := hG i H hi p
  by_cases hlt : i < n
  · exact .inr ⟨w.goes i H hlt q, Pv (i + 1), fun H' p' => ⟨n - (i + 1), by omega, rfl, hlt, p'⟩, fun x H' y => hs i x H H' hlt p (w.yields i H x H' hlt q y)⟩
  · obtain rfl : i = n := by omega
    exact .inl ⟨w.stops H q, hd H p⟩
end
def rLenK (P : Program) (w : World) : List V → Hp → VK → Prop := fun xs H Q => ∃ (a : Addr) (S : Key → Bool) (n : Nat), xs = [V.ref a] ∧ H a = some (KS P w a S n) ∧ Q (.int n) H
theorem cr_lenK {X : Cx} : CallR X (.builtin "len") (rLenK X.prog X.w) := by
  intro pins s σ H xs us Q I r h
  obtain ⟨a, S, n, rfl, ha, q⟩ := h
  rw [Vals.ref1 r]
  have R := setK_get I ha
  obtain ⟨o, es, ep, t, ho, hex, hd, h1, h2, h3, h4, h5⟩ := id R
  have hb : scanBound < 1099511627776 := by decide
  exact call_len_set ho hex hd h4 (by omega) ⟨.int es.size, H, I.tok _, ⟨_, rfl⟩, by rw [h5]; exact q⟩
section
variable {P : Program} {w : World} {K : PySem.W.Frag} {mg : Str → Option Value} {base : Heap}
/-! ### Let -/
abbrev LRow := Kd × Stt × Dd × Pl
def okL (r : LRow) : Prop := r.2.2.1 = .right → r.1 ≠ .minus ∧ r.1 ≠ .plus
def LetAt (C : Addr) (H : Hp) (a : Addr) (r : LRow) : Prop := ∃ dx, H a = some (.ins C dx [("kind", V.str (kS r.1)), ("state", V.str (tS r.2.1)), ("deed", V.str (dS r.2.2.1)), ("place", V.str (pS r.2.2.2))])
structure LtOk (K : PySem.W.Frag) (C : Addr) : Prop where
  cl : Cls K C
  n1 : NoAttr K C "kind"
  n2 : NoAttr K C "state"
  n3 : NoAttr K C "deed"
  n4 : NoAttr K C "place"
def spLet (C : Addr) : Sp := fun vs H Q _ => ∃ (p dx : Addr) (r : LRow), vs = [.ref p, .str (kS r.1), .str (tS r.2.1), .str (dS r.2.2.1), .str (pS r.2.2.2)] ∧ okL r ∧ H p = some (.ins C dx []) ∧ ∀ H', But p H H' → LetAt C H' p r → Q .non H'
theorem sc_Let : FnScope ["self", "kind", "state", "deed", "place"] ["self", "kind", "state", "deed", "place"] (defScope (inClass (top 66) 0)) := ⟨rfl, rfl, rfl, by decide +kernel, rfl, by decide +kernel, by decide +kernel⟩
theorem mem_k (k : Kd) : kS k ∈ (["first", "new", "minus", "plus"] : List Str) := by cases k <;> simp [kS]
theorem mem_t (k : Stt) : tS k ∈ (["open", "shut"] : List Str) := by cases k <;> simp [tS]
theorem mem_d (k : Dd) : dS k ∈ (["whole", "part", "right"] : List Str) := by cases k <;> simp [dS]
theorem mem_p (k : Pl) : pS k ∈ (["now", "there"] : List Str) := by cases k <;> simp [pS]
theorem mem_o (k : Ow) : oS k ∈ (["own", "target", "top", "deed"] : List Str) := by cases k <;> simp [oS]
theorem k_Let {C : Addr} (t : LtOk K C) (co : C8.Cal P w K mg base 1 "is_one_of" (spOneOf K) []) (T1 : TupT K mg "KINDS" ["first", "new", "minus", "plus"]) (T2 : TupT K mg "STATES" ["open", "shut"]) (T3 : TupT K mg "DEEDS" ["whole", "part", "right"]) (T4 : TupT K mg "PLACES" ["now", "there"])
    (D : ClsT K mg "Let" "Let.__init__" C (inClass (top 66) 0) []) : C8.Mak P w K mg base 2 "Let" C (spLet C) [] := by
  obtain ⟨a1, g1, s1⟩ := T1.ex
  obtain ⟨a2, g2, s2⟩ := T2.ex
  obtain ⟨a3, g3, s3⟩ := T3.ex
  obtain ⟨a4, g4, s4⟩ := T4.ex
  refine mak_of D sc_Let (fun _ _ _ _ _ _ us hl => match us, hl with | [_, _, _, _, _], _ => rfl) (fun vs H Q E h => by obtain ⟨p, dx, r, rfl, _⟩ := h; rfl) fun f cdv A outer s H vs Q E hr h => ?_
  obtain ⟨p, dx, r, rfl, hok, hp, q⟩ := h
  refine ⟨_, (pss_cons (ps_if (pt_not (pt_val (C8.pe_c co hr (by decide) (by rfl) (pa_cons (pv 1) (pa_cons (pe_glob (v := .ref a1) (by rfl) g1 rfl) pa_nil))))) (pss_one ps_never) pss_nil)
      (pss_cons (ps_if (pt_not (pt_val (C8.pe_c co hr (by decide) (by rfl) (pa_cons (pv 2) (pa_cons (pe_glob (v := .ref a2) (by rfl) g2 rfl) pa_nil))))) (pss_one ps_never) pss_nil)
      (pss_cons (ps_if (PW.pt (pw_or (pt_not (pt_val (C8.pe_c co hr (by decide) (by rfl) (pa_cons (pv 3) (pa_cons (pe_glob (v := .ref a3) (by rfl) g3 rfl) pa_nil))))) (pw_or1 (PW.pt (pw_and (pt_cmpR op_eq (pv 3) pe_str (nomark _)) (pw_and1 (pt_cmpR op_in_seq (pv 1) (pe_tup (pa_cons pe_str (pa_cons pe_str pa_nil))) rfl))))))) (pss_one ps_never) pss_nil)
      (pss_cons (ps_if (pt_not (pt_val (C8.pe_c co hr (by decide) (by rfl) (pa_cons (pv 4) (pa_cons (pe_glob (v := .ref a4) (by rfl) g4 rfl) pa_nil))))) (pss_one ps_never) pss_nil)
      (pss_cons (ps_fld (pv 0) (pv 1) rfl)
      (pss_cons (ps_fld (pv 0) (pv 2) rfl)
      (pss_cons (ps_fld (pv 0) (pv 3) rfl)
      (pss_one (ps_fld (pv 0) (pv 4) rfl))))))))), ?_⟩
  refine ⟨_, rfl, _, a1, _, rfl, s1 _, mem_k _, _, rfl, ?_⟩
  refine ⟨_, rfl, _, a2, _, rfl, s2 _, mem_t _, _, rfl, ?_⟩
  refine ⟨_, rfl, _, a3, _, rfl, s3 _, mem_d _, _, rfl, ?_⟩
  refine ⟨_, rfl, rfl, _, rfl, ?_⟩
  by_cases hd : r.2.2.1 = .right
  · rw [hd, decide_eq_true (show V.str (dS Dd.right) = V.str "right" from rfl)]
    have hin : inV (.str (kS r.1)) ([V.str "minus", .str "plus"]) = false := by
      have h1 := hok hd
      have h2 := inV_str (kS r.1) ["minus", "plus"]
      rw [show ([V.str "minus", .str "plus"] : List V) = (["minus", "plus"] : List Str).map V.str from rfl, h2]
      refine decide_eq_false fun z => ?_
      cases hk : r.1 with
      | first => rw [hk] at z; revert z; decide
      | new => rw [hk] at z; revert z; decide
      | minus => exact h1.1 hk
      | plus => exact h1.2 hk
    refine iteT ⟨_, rfl, szl (by decide), fun t1 ht1 => ⟨t1, _, rfl, .inr (SqT.of upd_same), rfl, rfl, _, rfl, ?_⟩⟩
    have e : Same H (upd H t1 (.tup [V.str "minus", .str "plus"])) := Same.new ht1
    simp only [Bool.false_eq_true, if_false]
    rw [hin]
    generalize upd H t1 (.tup [V.str "minus", .str "plus"]) = H1 at e ⊢
    refine ⟨_, rfl, _, a4, _, rfl, s4 _, mem_p _, _, rfl, ?_⟩
    have hp1 := e _ _ hp
    refine ⟨_, rfl, _, rfl, p, C, dx, [], rfl, hp1, t.cl, t.n1, by decide, ?_⟩
    refine ⟨_, rfl, _, rfl, p, C, dx, _, rfl, upd_same, t.cl, t.n2, (by show 1 < 1000; decide), ?_⟩
    refine ⟨_, rfl, _, rfl, p, C, dx, _, rfl, upd_same, t.cl, t.n3, (by show 2 < 1000; decide), ?_⟩
    refine ⟨_, rfl, _, rfl, p, C, dx, _, rfl, upd_same, t.cl, t.n4, (by show 3 < 1000; decide), ?_⟩
    exact q _ (But.set (But.set (But.set (But.set (Same.but e))))) ⟨dx, by rw [upd_same]; simp only [hd]; rfl⟩
  · have hne : decide (V.str (dS r.2.2.1) = V.str "right") = false := by
      cases hk : r.2.2.1 with
      | whole => exact str_ne (by decide)
      | part => exact str_ne (by decide)
      | right => exact absurd hk hd
    rw [hne]
    have e : Same H H := fun _ _ h => h
    refine iteF ?_
    refine ⟨_, rfl, _, a4, _, rfl, s4 _, mem_p _, _, rfl, ?_⟩
    have hp1 := e _ _ hp
    refine ⟨_, rfl, _, rfl, p, C, dx, [], rfl, hp1, t.cl, t.n1, by decide, ?_⟩
    refine ⟨_, rfl, _, rfl, p, C, dx, _, rfl, upd_same, t.cl, t.n2, (by show 1 < 1000; decide), ?_⟩
    refine ⟨_, rfl, _, rfl, p, C, dx, _, rfl, upd_same, t.cl, t.n3, (by show 2 < 1000; decide), ?_⟩
    refine ⟨_, rfl, _, rfl, p, C, dx, _, rfl, upd_same, t.cl, t.n4, (by show 3 < 1000; decide), ?_⟩
    exact q _ (But.set (But.set (But.set (But.set (Same.but e))))) ⟨dx, by rw [upd_same]; rfl⟩
/-! ### Count -/
structure CtOk (K : PySem.W.Frag) (C : Addr) : Prop where
  cl : Cls K C
  n1 : NoAttr K C "kind"
  n2 : NoAttr K C "weight"
  n3 : NoAttr K C "whose"
def spCount (C : Addr) : Sp := fun vs H Q _ => ∃ (p dx : Addr) (r : Row), vs = [.ref p, .str (kS r.1), .int r.2.1, .str (oS r.2.2)] ∧ (r.2.1 = -1 ∨ r.2.1 = 0 ∨ r.2.1 = 1) ∧ H p = some (.ins C dx []) ∧ ∀ H', But p H H' → CntAt C H' p r → Q .non H'
theorem sc_Count : FnScope ["self", "kind", "weight", "whose"] ["self", "kind", "weight", "whose"] (defScope (inClass (top 76) 0)) := ⟨rfl, rfl, rfl, by decide +kernel, rfl, by decide +kernel, by decide +kernel⟩
structure IntT (K : PySem.W.Frag) (mg : Str → Option Value) (x : Str) (ys : List Int) : Prop where
  ex : ∃ a, mg x = some (.ref a) ∧ ∀ H, SqT K H a (ys.map V.int)
theorem notIn_str {x : Str} {ys : List Str} (h : x ∈ ys) : (!inV (.str x) (ys.map V.str)) = false := by rw [inV_str, decide_eq_true h]; rfl
theorem k_Count {C : Addr} (fr : Free mg) (t : CtOk K C) (ci : C8.Cal P w K mg base 1 "is_integer" spInt []) (T1 : TupT K mg "KINDS" ["first", "new", "minus", "plus"]) (T2 : IntT K mg "WEIGHTS" [-1, 0, 1]) (T3 : TupT K mg "OWNERS" ["own", "target", "top", "deed"])
    (D : ClsT K mg "Count" "Count.__init__" C (inClass (top 76) 0) []) : C8.Mak P w K mg base 2 "Count" C (spCount C) [] := by
  obtain ⟨a1, g1, s1⟩ := T1.ex
  obtain ⟨a2, g2, s2⟩ := T2.ex
  obtain ⟨a3, g3, s3⟩ := T3.ex
  refine mak_of D sc_Count (fun _ _ _ _ _ _ us hl => match us, hl with | [_, _, _, _], _ => rfl) (fun vs H Q E h => by obtain ⟨p, dx, r, rfl, _⟩ := h; rfl) fun f cdv A outer s H vs Q E hr h => ?_
  obtain ⟨p, dx, r, rfl, hok, hp, q⟩ := h
  refine ⟨_, (pss_cons (ps_if (PW.pt (pw_or (pt_not (pt_val (pe_callB call_isi (by rfl) fr.isinstance (by decide +kernel) (pa_cons (pv 1) (pa_cons (pe_bltn (v := .ty "str") (by rfl) fr.str (by decide +kernel) rfl) pa_nil))))) (pw_or1 (pt_cmpR op_notIn_seq (pv 1) (pe_glob (v := .ref a1) (by rfl) g1 rfl) rfl)))) (pss_one ps_never) pss_nil)
      (pss_cons (ps_if (PW.pt (pw_or (pt_not (pt_val (C8.pe_c ci hr (by decide) (by rfl) (pa_cons (pv 2) pa_nil)))) (pw_or1 (pt_cmpR op_notIn_seq (pv 2) (pe_glob (v := .ref a2) (by rfl) g2 rfl) rfl)))) (pss_one ps_never) pss_nil)
      (pss_cons (ps_if (PW.pt (pw_or (pt_not (pt_val (pe_callB call_isi (by rfl) fr.isinstance (by decide +kernel) (pa_cons (pv 3) (pa_cons (pe_bltn (v := .ty "str") (by rfl) fr.str (by decide +kernel) rfl) pa_nil))))) (pw_or1 (pt_cmpR op_notIn_seq (pv 3) (pe_glob (v := .ref a3) (by rfl) g3 rfl) rfl)))) (pss_one ps_never) pss_nil)
      (pss_cons (ps_fld (pv 0) (pv 1) rfl)
      (pss_cons (ps_fld (pv 0) (pv 2) rfl)
      (pss_one (ps_fld (pv 0) (pv 3) rfl))))))), ?_⟩
  refine ⟨_, rfl, _, _, _, _, true, rfl, .ty _, .base (.str _), kit_str, _, rfl, ?_⟩
  simp only [if_true]
  refine ⟨_, rfl, a1, _, rfl, .inr (s1 _), rfl, all_flatS _, _, rfl, ?_⟩
  rw [notIn_str (mem_k _)]
  refine iteF ⟨_, rfl, r.2.1, rfl, _, rfl, ?_⟩
  simp only [if_true]
  refine ⟨_, rfl, a2, _, rfl, .inr (s2 _), rfl, rfl, _, rfl, ?_⟩
  have hw : (!inV (.int r.2.1) (([-1, 0, 1] : List Int).map V.int)) = false := by
    rcases hok with z | z | z <;> rw [z] <;> decide
  simp only [Bool.false_eq_true, if_false]
  rw [hw]
  refine iteF ⟨_, rfl, _, _, _, _, true, rfl, .ty _, .base (.str _), kit_str, _, rfl, ?_⟩
  simp only [if_true]
  refine ⟨_, rfl, a3, _, rfl, .inr (s3 _), rfl, all_flatS _, _, rfl, ?_⟩
  simp only [Bool.false_eq_true, if_false]
  rw [notIn_str (mem_o _)]
  refine iteF ?_
  refine ⟨_, rfl, _, rfl, p, C, dx, [], rfl, hp, t.cl, t.n1, by decide, ?_⟩
  refine ⟨_, rfl, _, rfl, p, C, dx, _, rfl, upd_same, t.cl, t.n2, (by show 1 < 1000; decide), ?_⟩
  refine ⟨_, rfl, _, rfl, p, C, dx, _, rfl, upd_same, t.cl, t.n3, (by show 2 < 1000; decide), ?_⟩
  exact q _ (But.set (But.set (But.set (But.refl _ _)))) ⟨dx, by rw [upd_same]; rfl⟩
end
end K97
set_option maxHeartbeats 4000000
namespace K97
open PySem PySem.Spec PyProof.Rows L2
def plOf (rows : List LRow) (k : Kd) (t : Stt) (d : Dd) : Option Pl := (rows.find? fun r => decide (r.1 = k ∧ r.2.1 = t ∧ r.2.2.1 = d)).map (·.2.2.2)
def key3 (k : Kd) (t : Stt) (d : Dd) : List Key := [Sum.inr (kS k), Sum.inr (tS t), Sum.inr (dS d)]
theorem kS_inj : ∀ a b, kS a = kS b → a = b := by intro a b; cases a <;> cases b <;> decide
theorem tS_inj : ∀ a b, tS a = tS b → a = b := by intro a b; cases a <;> cases b <;> decide
theorem dS_inj : ∀ a b, dS a = dS b → a = b := by intro a b; cases a <;> cases b <;> decide
theorem key3_inj {k k' : Kd} {t t' : Stt} {d d' : Dd} (h : key3 k t d = key3 k' t' d') : k = k' ∧ t = t' ∧ d = d' := by
  unfold key3 at h
  injection h with h1 h
  injection h with h2 h
  injection h with h3 h
  injection h1 with h1
  injection h2 with h2
  injection h3 with h3
  exact ⟨kS_inj _ _ h1, tS_inj _ _ h2, dS_inj _ _ h3⟩
theorem plOf_snoc (rows : List LRow) (r : LRow) (k : Kd) (t : Stt) (d : Dd) : plOf (rows ++ [r]) k t d = if r.1 = k ∧ r.2.1 = t ∧ r.2.2.1 = d then (match plOf rows k t d with | none => some r.2.2.2 | some p => some p) else plOf rows k t d := by
  unfold plOf
  rw [List.find?_append]
  cases h : rows.find? fun r => decide (r.1 = k ∧ r.2.1 = t ∧ r.2.2.1 = d) with
  | some x => simp
  | none =>
    by_cases z : r.1 = k ∧ r.2.1 = t ∧ r.2.2.1 = d
    · rw [if_pos z]; simp [z]
    · rw [if_neg z]; simp [z]
theorem LetAt.same {C : Addr} {H H' : Hp} {a : Addr} {r : LRow} (e : Same H H') (h : LetAt C H a r) : LetAt C H' a r := by
  obtain ⟨dx, h⟩ := h
  exact ⟨dx, e _ _ h⟩
section
variable {P : Program} {w : World} {K : PySem.W.Frag} {mg : Str → Option Value} {base : Heap} {CL CH : Addr}
def spFP (CL : Addr) (K : PySem.W.Frag) : Sp := fun vs H Q _ => ∃ (t : Addr) (as : List Addr) (rows : List LRow), vs = [.ref t] ∧ SqT K H t (as.map V.ref) ∧ Paired (LetAt CL H) as rows ∧ rows.length ≤ 1000 ∧
  ∀ H' d kvs, Same H H' → H' d = some (.dT kvs) → (∀ k t dd, valV kvs (key3 k t dd) = (plOf rows k t dd).map pV) → Q (.ref d) H'
theorem sc_FP : FnScope ["rows", "found", "row"] ["rows"] (defScope (top 71)) := ⟨rfl, rfl, rfl, by decide +kernel, rfl, by decide +kernel, by decide +kernel⟩
theorem c_FP (lt : LtOk K CL) (D : DefT K mg "first_places" "first_places" "first_places" (top 71) []) : C8.Cal P w K mg base 1 "first_places" (spFP CL K) [] := by
  refine cal_of D sc_FP (fun _ _ _ _ _ _ us hl => match us, hl with | [_], _ => rfl) (fun vs H Q E h => by obtain ⟨t, as, rows, rfl, _⟩ := h; rfl) fun f cdv A outer s H vs Q E hr h => ?_
  obtain ⟨t, as, rows, rfl, ht, hL, hn, q⟩ := h
  have nd := sc_FP.nd
  have hlen := Paired.length hL
  refine ⟨_, (pss_cons (ps_set (i := 1) nd rfl (.inl rfl) pe_dnewT)
      (pss_cons (ps_for PassesOwn.never rfl (pi_tup (pv 0)) (pg_name (i := 2) nd rfl (.inl rfl))
      (pss_one (ps_if (pt_cmp (pc_dnotin (hu_of hr) (pe_tup (pa_cons (pe_fld (pv 2) rfl) (pa_cons (pe_fld (pv 2) rfl) (pa_cons (pe_fld (pv 2) rfl) pa_nil)))) (pv 1))) (pss_one (ps_dput (hu_of hr) (pv 1) (pe_tup (pa_cons (pe_fld (pv 2) rfl) (pa_cons (pe_fld (pv 2) rfl) (pa_cons (pe_fld (pv 2) rfl) pa_nil)))) (pe_fld (pv 2) rfl) rfl)) pss_nil)))
      (pss_one (ps_ret (pv 1))))), ?_⟩
  intro d hd
  have e1 : Same H (upd H d (.dT [])) := Same.new hd
  refine ⟨_, rfl, t, rfl, ⟨_, Same.seqT e1 ht⟩, ?_⟩
  refine for_it (walk_tup (xs := as.map V.ref)) (fun i σ H' => (∃ v2 : Option V, σ = [some (.ref t), some (.ref d), v2]) ∧ Same H H' ∧ ∃ kvs : List (List Key × V), H' d = some (.dT kvs) ∧ kvs.length ≤ i ∧ ∀ k t dd, valV kvs (key3 k t dd) = (plOf (rows.take i) k t dd).map pV)
    ⟨⟨_, rfl⟩, e1, [], upd_same, Nat.le_refl _, fun k t dd => by simp [valV_nil, plOf]⟩ (fun i σ H' _ p => Same.seqT p.2.1 ht) (fun i x σ H1 H1' hi p y => ?_) (fun σ H' p => ?_)
  · obtain ⟨⟨v2, rfl⟩, e2, kvs, hk, hkl, hv⟩ := p
    obtain ⟨rfl, hx⟩ := y
    rw [List.length_map] at hi
    obtain ⟨r, hr1⟩ : ∃ r, rows[i]? = some r := ⟨_, List.getElem?_eq_getElem (by omega)⟩
    obtain ⟨ra, hra, dx, g⟩ := Paired.at hL hr1
    obtain rfl : x = .ref ra := by
      rw [List.getElem?_map, hra] at hx
      exact (Option.some.inj hx).symm
    have g2 := e2 _ _ g
    have tk : rows.take (i + 1) = rows.take i ++ [r] := take_snoc hr1
    refine ⟨_, rfl, ra, CL, dx, _, _, rfl, g2, lt.cl, lt.n1, rfl, _, rfl, ra, CL, dx, _, _, rfl, g2, lt.cl, lt.n2, rfl, _, rfl, ra, CL, dx, _, _, rfl, g2, lt.cl, lt.n3, rfl, szl (by show 3 ≤ 1000000; decide), fun kp hkp => ?_⟩
    have hkk := (Same.new (o := .tup [V.str (kS r.1), .str (tS r.2.1), .str (dS r.2.2.1)]) hkp) _ _ hk
    have e3 : Same H (upd H1' kp (.tup [V.str (kS r.1), .str (tS r.2.1), .str (dS r.2.2.1)])) := Same.newR e2 hkp
    refine ⟨_, rfl, d, _, rfl, DGet.t (k := key3 r.1 r.2.1 r.2.2.1) hkk upd_same, _, rfl, ?_⟩
    rw [hv]
    cases hpl : plOf (rows.take i) r.1 r.2.1 r.2.2.1 with
    | some p =>
      refine iteF ⟨⟨_, rfl⟩, e3, kvs, hkk, by omega, fun k t dd => ?_⟩
      rw [hv, tk, plOf_snoc]
      by_cases z : r.1 = k ∧ r.2.1 = t ∧ r.2.2.1 = dd
      · obtain ⟨z1, z2, z3⟩ := z
        subst z1 z2 z3
        rw [if_pos ⟨rfl, rfl, rfl⟩, hpl]
      · rw [if_neg z]
    | none =>
      have g3 := e3 _ _ g
      refine iteT ⟨_, rfl, ra, CL, dx, _, _, rfl, g3, lt.cl, lt.n4, rfl, _, rfl, _, rfl, ra, CL, dx, _, _, rfl, g3, lt.cl, lt.n1, rfl, _, rfl, ra, CL, dx, _, _, rfl, g3, lt.cl, lt.n2, rfl, _, rfl, ra, CL, dx, _, _, rfl, g3, lt.cl, lt.n3, rfl, szl (by show 3 ≤ 1000000; decide), fun kp2 hkp2 => ?_⟩
      have hk3 := (Same.new (o := .tup [V.str (kS r.1), .str (tS r.2.1), .str (dS r.2.2.1)]) hkp2) _ _ hkk
      have hv0 : valV kvs (key3 r.1 r.2.1 r.2.2.1) = none := by rw [hv, hpl]; rfl
      refine ⟨d, _, rfl, DPut.t (k := key3 r.1 r.2.1 r.2.2.1) hk3 upd_same (by have : sizeLine = 16777216 := rfl; omega), ⟨_, rfl⟩, Same.mut (Same.newR e3 hkp2) hd, _, upd_same, ?_, fun k t dd => ?_⟩
      · rw [putK_new _ hv0, List.length_append]; simp; omega
      · rw [valV_put, tk, plOf_snoc]
        by_cases z : r.1 = k ∧ r.2.1 = t ∧ r.2.2.1 = dd
        · obtain ⟨z1, z2, z3⟩ := z
          subst z1 z2 z3
          rw [if_pos rfl, if_pos ⟨rfl, rfl, rfl⟩, hpl]
          rfl
        · rw [if_neg (fun zz => z ?_), if_neg z, hv]
          obtain ⟨a, b, c⟩ := key3_inj zz
          exact ⟨a.symm, b.symm, c.symm⟩
  · obtain ⟨⟨v2, rfl⟩, e2, kvs, hk, hkl, hv⟩ := p
    rw [List.length_map, hlen, List.take_length] at hv
    exact ⟨_, rfl, q _ d kvs e2 hk hv⟩
/-! ### House -/
def spHouse (CL CH : Addr) : Sp := fun vs H Q _ => ∃ (p dx l : Addr) (dp : Nat) (ck : Str) (as : List Addr) (rows : List LRow), vs = [.ref p, .int (dp : Int), .str ck, .ref l] ∧ dp ≤ 4 ∧ (ck = "left" ∨ ck = "all") ∧ H p = some (.ins CH dx []) ∧ H l = some (.lst (as.map V.ref)) ∧ Paired (LetAt CL H) as rows ∧ rows.length ≤ 1000 ∧
  ∀ H', But p H H' → HouseAt CH H' p ⟨dp, plOf rows⟩ → Q .non H'
theorem sc_House : FnScope ["self", "depth", "check", "rows", "row"] ["self", "depth", "check", "rows"] (defScope (inClass (top 72) 0)) := ⟨rfl, rfl, rfl, by decide +kernel, rfl, by decide +kernel, by decide +kernel⟩
structure HsOk (K : PySem.W.Frag) (C : Addr) : Prop where
  cl : Cls K C
  n1 : NoAttr K C "depth"
  n2 : NoAttr K C "check"
  n3 : NoAttr K C "rows"
  n4 : NoAttr K C "places"
theorem k_House {tk : Tok} (fr : Free mg) (hs : HsOk K CH) (isL : IsI K CL CL) (gL : mg "Let" = some (.ref CL)) (ci : C8.Cal P w K mg base 1 "is_integer" spInt []) (cs : C8.Cal P w K mg base 1 "is_sequence" spSeq []) (co : C8.Cal P w K mg base 1 "is_one_of" (spOneOf K) []) (cf : C8.Cal P w K mg base 1 "first_places" (spFP CL K) [])
    (T1 : TupT K mg "CHECKS" ["left", "all"]) (hM : mg "MOST_DEPTH" = some (.int 4 tk)) (D : ClsD K mg "House" "House.__init__" CH (inClass (top 72) 0)) : C8.Mak P w K mg base 2 "House" CH (spHouse CL CH) [] := by
  obtain ⟨f, fd, dV, F, hd, mk⟩ := D.ex
  obtain ⟨a1, g1, s1⟩ := T1.ex
  obtain ⟨dd, rfl⟩ : ∃ x, dV = [x] := by
    match dV, hd with
    | [x], _ => exact ⟨x, rfl⟩
  obtain ⟨ds, rd, bd⟩ := F.binds1 (ps := ["self", "depth", "check", "rows"]) 4 1 (by simp) (by rfl) fun T kV doc pm an cdv ct us its hl hi => by
    match us, its, hl, hi with
    | [_, _, _, _], [_], _, _ => exact ⟨_, rfl, rfl⟩
  refine ⟨f, fd, ["self", "depth", "check", "rows"], ds, mk, F.ok sc_House (fun vs H Q E h => ?_) (fun cdv A outer s H vs Q E hr h => ?_), D.gl, bd, rd⟩
  · obtain ⟨p, dx, l, dp, ck, as, rows, rfl, _⟩ := h
    rfl
  · obtain ⟨p, dx, l, dp, ck, as, rows, rfl, hdp, hck, hp, hl, hL, hn, q⟩ := h
    have nd := sc_House.nd
    have hlen := Paired.length hL
    refine nox_of ⟨_, (pss_cons (ps_if (PW.pt (pw_or (pt_not (pt_val (C8.pe_c ci hr (by decide) (by rfl) (pa_cons (pv 1) pa_nil)))) (pw_or1 (pt_not (pt_chain op_le op_le pe_int (pv 1) (pe_glob (v := .int 4) (by rfl) hM ⟨_, rfl⟩)))))) (pss_one ps_never) pss_nil)
      (pss_cons (ps_if (pt_not (pt_val (C8.pe_c co hr (by decide) (by rfl) (pa_cons (pv 2) (pa_cons (pe_glob (v := .ref a1) (by rfl) g1 rfl) pa_nil))))) (pss_one ps_never) pss_nil)
      (pss_cons (ps_if (PW.pt (pw_or (pt_not (pt_val (C8.pe_c cs hr (by decide) (by rfl) (pa_cons (pv 3) pa_nil)))) (pw_or1 (pt_not (pt_val (pe_callB (cr_all rfl) (by rfl) fr.all (by decide +kernel) (pa_cons (pe_lc (own := [("row", 4)]) (g := gName 4) (by rfl) nd (pi_list (pv 3)) (blkOk_by (own := [("row", 4)]) (N := ["self", "depth", "check", "rows", "row"]) (sc := defScope (inClass (top 72) 0)) (by decide +kernel)) (fun _ _ _ _ _ => (pg_name (i := 4) nd rfl (.inl rfl))) (fun _ _ _ _ _ => pts_nil) (fun _ _ _ _ _ => (pe_callB (call_isiK (K := K) rfl) (by rfl) fr.isinstance (by decide +kernel) (pa_cons (pv 4) (pa_cons (pe_glob (v := .ref CL) (by rfl) gL rfl) pa_nil))))) pa_nil))))))) (pss_one ps_never) pss_nil)
      (pss_cons (ps_fld (pv 0) (pv 1) rfl)
      (pss_cons (ps_fld (pv 0) (pv 2) rfl)
      (pss_cons (ps_fld (pv 0) (pe_callTy call_tuple_of (by rfl) fr.tuple (by decide +kernel) (pa_cons (pv 3) pa_nil)) rfl)
      (pss_one (ps_fld (pv 0) (C8.pe_c cf hr (by decide) (by rfl) (pa_cons (pe_fld (pv 0) rfl) pa_nil)) rfl)))))))), ?_⟩
    refine ⟨_, rfl, (dp : Int), rfl, _, rfl, ?_⟩
    simp only [Bool.not_true, Bool.false_eq_true, if_false]
    refine ⟨_, rfl, _, _, rfl, rfl, _, rfl, ?_⟩
    rw [decide_eq_true (by omega : (0 : Int) ≤ (dp : Int))]
    refine iteT ⟨_, _, rfl, rfl, _, rfl, ?_⟩
    rw [decide_eq_true (by omega : (dp : Int) ≤ 4)]
    refine iteF ⟨_, rfl, ck, a1, _, rfl, s1 _, by rcases hck with rfl | rfl <;> simp, _, rfl, ?_⟩
    refine iteF ⟨_, rfl, l, _, rfl, .inl hl, fun H1 e1 => ⟨_, rfl, ?_⟩⟩
    simp only [Bool.not_true, Bool.false_eq_true, if_false]
    refine ⟨_, rfl, l, rfl, ⟨_, SqL.of (e1 _ _ hl)⟩, fun D1 hD1 => ?_⟩
    refine lc_vals (xs := as.map V.ref) walk_list (as.map fun _ => V.bl true) (by simp) (fun H' e => SqL.of (e _ _ (e1 _ _ hl))) (by rw [List.length_map]; exact szl (by omega)) hD1
      (fun i x y H' C hx hy e hC => ?_) (fun σ H' Q Q' h t => h _ _ t) (fun x σ H' Q Q' h t => h _ _ t) (fun H2 e2 h2 => ?_)
    · have hil : i < rows.length := by
        have := (List.getElem?_eq_some_iff.mp hx).1
        rw [List.length_map] at this
        omega
      obtain ⟨ra, hra, dxr, g⟩ := Paired.at hL (List.getElem?_eq_getElem hil)
      rw [List.getElem?_map, hra] at hx
      rw [List.getElem?_map, hra] at hy
      obtain rfl := (Option.some.inj hx).symm
      obtain rfl := (Option.some.inj hy).symm
      exact ⟨rfl, rfl, _, rfl, _, _, _, _, true, rfl, .own _, isL.ty ((e1.trans e) _ _ g), isL.kit, hC _ (fun _ _ h => h)⟩
    · refine ⟨D1, as.map fun _ => true, rfl, SqL.of (by rw [h2, List.map_map]; rfl), _, rfl, ?_⟩
      have hall : ((as.map fun _ => true).all id) = true := by simp
      rw [hall]
      have e3 : Same H H2 := e1.trans e2
      refine iteF ⟨_, rfl, _, rfl, p, CH, dx, [], rfl, e3 _ _ hp, hs.cl, hs.n1, by decide, ?_⟩
      refine ⟨_, rfl, _, rfl, p, CH, dx, _, rfl, upd_same, hs.cl, hs.n2, (by show 1 < 1000; decide), ?_⟩
      have npl : l ≠ p := fun z => by rw [z, hp] at hl; cases hl
      have hl2 := e3 _ _ hl
      refine ⟨_, rfl, l, _, rfl, .inl ⟨SqL.of (by rw [upd_ne npl, upd_ne npl]; exact hl2), fun tp htp => ?_⟩⟩
      have htp0 : H2 tp = none := (none_upd (none_upd htp).1).1
      have ptp : p ≠ tp := fun z => (none_upd htp).2 z.symm
      refine ⟨_, rfl, p, CH, dx, _, rfl, by rw [upd_ne ptp, upd_same], hs.cl, hs.n3, (by show 2 < 1000; decide), ?_⟩
      have b1 : But p H (upd (upd (upd (upd H2 p (.ins CH dx (putF "depth" (V.int (dp : Int)) []))) p (.ins CH dx (putF "check" (V.str ck) (putF "depth" (V.int (dp : Int)) [])))) tp (.tup (as.map V.ref))) p (.ins CH dx (putF "rows" (V.ref tp) (putF "check" (V.str ck) (putF "depth" (V.int (dp : Int)) []))))) :=
        But.set (But.mut (But.set (But.set (Same.but e3))) (none_of_same e3 htp0))
      have hp3 : upd (upd (upd (upd H2 p (.ins CH dx (putF "depth" (V.int (dp : Int)) []))) p (.ins CH dx (putF "check" (V.str ck) (putF "depth" (V.int (dp : Int)) [])))) tp (.tup (as.map V.ref))) p (.ins CH dx (putF "rows" (V.ref tp) (putF "check" (V.str ck) (putF "depth" (V.int (dp : Int)) [])))) p = some (.ins CH dx [("depth", V.int (dp : Int)), ("check", V.str ck), ("rows", V.ref tp)]) := by rw [upd_same]; rfl
      have ht3 : upd (upd (upd (upd H2 p (.ins CH dx (putF "depth" (V.int (dp : Int)) []))) p (.ins CH dx (putF "check" (V.str ck) (putF "depth" (V.int (dp : Int)) [])))) tp (.tup (as.map V.ref))) p (.ins CH dx (putF "rows" (V.ref tp) (putF "check" (V.str ck) (putF "depth" (V.int (dp : Int)) [])))) tp = some (.tup (as.map V.ref)) := by rw [upd_ne ptp.symm, upd_same]
      generalize upd (upd (upd (upd H2 p (.ins CH dx (putF "depth" (V.int (dp : Int)) []))) p (.ins CH dx (putF "check" (V.str ck) (putF "depth" (V.int (dp : Int)) [])))) tp (.tup (as.map V.ref))) p (.ins CH dx (putF "rows" (V.ref tp) (putF "check" (V.str ck) (putF "depth" (V.int (dp : Int)) [])))) = H3 at b1 hp3 ht3 ⊢
      refine ⟨_, rfl, p, CH, dx, _, _, rfl, hp3, hs.cl, hs.n3, rfl, tp, as, rows, rfl, SqT.of ht3, ?_, hn, fun H4 d kvs e4 hd4 hv => ?_⟩
      · refine Paired.mapP hL fun a r hz => ?_
        obtain ⟨dxr, g⟩ := hz
        refine ⟨dxr, b1 _ _ (fun z => ?_) g⟩
        rw [z, hp] at g
        have := HO.ins.inj (Option.some.inj g)
        cases this.2.2
      · refine ⟨_, rfl, p, CH, dx, _, rfl, e4 _ _ hp3, hs.cl, hs.n4, (by show 3 < 1000; decide), ?_⟩
        have npd : d ≠ p := fun z => by rw [z, e4 _ _ hp3] at hd4; cases hd4
        exact q _ (But.set (But.same b1 e4)) ⟨dx, d, [("depth", V.int (dp : Int)), ("check", V.str ck), ("rows", V.ref tp), ("places", V.ref d)], kvs, by rw [upd_same]; rfl, rfl, rfl, rfl, by rw [upd_ne npd]; exact hd4, fun k t dd => hv k t dd⟩
end
end K97
set_option maxHeartbeats 4000000
namespace K97
open PySem PySem.Spec PyProof.Rows L2
theorem key_kS {a b : Kd} : (Sum.inr (kS a) : Key) = Sum.inr (kS b) ↔ a = b := ⟨fun h => kS_inj _ _ (by injection h), fun h => by rw [h]⟩
theorem rowOf_snoc (rows : List Row) (r : Row) (k : Kd) : rowOf (rows ++ [r]) k = match rowOf rows k with | some x => some x | none => if r.1 = k then some r else none := by
  unfold rowOf
  rw [List.find?_append]
  cases h : rows.find? fun r => decide (r.1 = k) with
  | some x => simp
  | none => by_cases z : r.1 = k <;> simp [z]
theorem rowOf_none {rows : List Row} {k : Kd} (h : k ∉ rows.map (·.1)) : rowOf rows k = none := List.find?_eq_none.mpr fun r hr => by
  simp only [decide_eq_true_eq]
  exact fun e => h (List.mem_map.mpr ⟨r, hr, e⟩)
theorem nodup_next {rows : List Row} (hn : (rows.map (·.1)).Nodup) {i : Nat} {r : Row} (h : rows[i]? = some r) : r.1 ∉ (rows.take i).map (·.1) := fun m => by
  have hi := (List.getElem?_eq_some_iff.mp h).1
  obtain ⟨x, hx, e⟩ := List.mem_map.mp m
  obtain ⟨j, hj, ej⟩ := List.mem_take_iff_getElem.mp hx
  have hjj : j < (rows.map (·.1)).length := by rw [List.length_map]; omega
  have hii : i < (rows.map (·.1)).length := by rw [List.length_map]; exact hi
  have h1 : (rows.map (·.1))[j] = (rows.map (·.1))[i] := by
    rw [List.getElem_map, List.getElem_map, ej, e, (List.getElem?_eq_some_iff.mp h).2]
  exact List.pairwise_iff_getElem.mp hn j i hjj hii (by omega) h1
theorem paired_of {β : Type} {F : Addr → β → Prop} : ∀ {ys : List V} {rs : List β}, ys.length = rs.length → (∀ (i : Nat) (y : V), ys[i]? = some y → ∃ a r, y = V.ref a ∧ rs[i]? = some r ∧ F a r) → ∃ as : List Addr, ys = as.map V.ref ∧ Paired F as rs
  | [], [], _, _ => ⟨[], rfl, .nil⟩
  | [], _ :: _, h, _ => by simp at h
  | _ :: _, [], h, _ => by simp at h
  | y :: ys, r :: rs, h, k => by
    obtain ⟨a, r', e1, e2, e3⟩ := k 0 y rfl
    obtain ⟨as, e4, e5⟩ := paired_of (ys := ys) (rs := rs) (by simpa using h) fun i z hz => k (i + 1) z (by simpa using hz)
    simp at e2
    subst e2
    exact ⟨a :: as, by rw [e1, e4]; rfl, .cons e3 e5⟩
def negRows (rows : List Row) : List Row := rows.map fun r => (r.1, -r.2.1, r.2.2)
/-- a report's rows -/
structure OkRows (rows : List Row) : Prop where
  nd : (rows.map (·.1)).Nodup
  few : rows.length ≤ 4
  wt : ∀ r ∈ rows, r.2.1 = -1 ∨ r.2.1 = 0 ∨ r.2.1 = 1
theorem OkRows.neg {rows : List Row} (h : OkRows rows) : OkRows (negRows rows) := by
  refine ⟨?_, by unfold negRows; rw [List.length_map]; exact h.few, fun r hr => ?_⟩
  · unfold negRows
    rw [List.map_map]
    exact h.nd
  · obtain ⟨x, hx, rfl⟩ := List.mem_map.mp hr
    rcases h.wt x hx with z | z | z <;> simp [z]
section
variable {P : Program} {w : World} {K : PySem.W.Frag} {mg : Str → Option Value} {base : Heap} {c : Cs}
def spAre (CC : Addr) : Sp := fun vs H Q _ => ∃ (l : Addr) (cs : List Addr) (rows : List Row), vs = [.ref l] ∧ H l = some (.lst (cs.map V.ref)) ∧ Paired (CntAt CC H) cs rows ∧ OkRows rows ∧ ∀ H', Same H H' → Q (.bl true) H'
theorem sc_are : FnScope ["value", "row"] ["value"] (defScope (top 79)) := ⟨rfl, rfl, rfl, by decide +kernel, rfl, by decide +kernel, by decide +kernel⟩
theorem c_are (fr : Free mg) (ok : CsOk K c) (isC : IsI K c.C c.C) (gC : mg "Count" = some (.ref c.C)) (cs : C8.Cal P w K mg base 1 "is_sequence" spSeq []) (D : DefT K mg "are_rows" "are_rows" "are_rows" (top 79) []) : C8.Cal P w K mg base 2 "are_rows" (spAre c.C) [] := by
  refine cal_of D sc_are (fun _ _ _ _ _ _ us hl => match us, hl with | [_], _ => rfl) (fun vs H Q E h => by obtain ⟨l, cs, rows, rfl, _⟩ := h; rfl) fun f cdv A outer s H vs Q E hr h => ?_
  obtain ⟨l, as, rows, rfl, hl, hL, hok, q⟩ := h
  have nd := sc_are.nd
  have hlen := Paired.length hL
  have hn := hok.few
  refine ⟨_, (pss_cons (ps_if (PW.pt (pw_or (pt_not (pt_val (C8.pe_c cs hr (by decide) (by rfl) (pa_cons (pv 0) pa_nil)))) (pw_or1 (pt_not (pt_val (pe_callB (cr_all rfl) (by rfl) fr.all (by decide +kernel) (pa_cons (pe_lc (own := [("row", 1)]) (g := gName 1) (by rfl) nd (pi_list (pv 0)) (blkOk_by (own := [("row", 1)]) (N := ["value", "row"]) (sc := defScope (top 79)) (by decide +kernel)) (fun _ _ _ _ _ => (pg_name (i := 1) nd rfl (.inl rfl))) (fun _ _ _ _ _ => pts_nil) (fun _ _ _ _ _ => (pe_callB (call_isiK (K := K) rfl) (by rfl) fr.isinstance (by decide +kernel) (pa_cons (pv 1) (pa_cons (pe_glob (v := .ref c.C) (by rfl) gC rfl) pa_nil))))) pa_nil))))))) (pss_one (ps_ret pe_bl)) pss_nil)
      (pss_one (ps_ret (pe_cmpR op_eq (pe_callB (cr_lenK (X := _)) (by rfl) fr.len PySem.boot_len (pa_cons (pe_scK (own := [("row", 1)]) (g := gName 1) (by rfl) nd (pi_list (pv 0)) (blkOk_by (own := [("row", 1)]) (N := ["value", "row"]) (sc := defScope (top 79)) (by decide +kernel)) (fun _ _ _ _ _ => (pg_name (i := 1) nd rfl (.inl rfl))) (fun _ _ _ _ _ => pts_nil) (fun _ _ _ _ _ => (pe_fldK (K := K) rfl (pv 1) rfl))) pa_nil)) (pe_callB call_len_seq (by rfl) fr.len PySem.boot_len (pa_cons (pv 0) pa_nil)) (nomark _))))), ?_⟩
  refine ⟨_, rfl, l, _, rfl, .inl hl, fun H1 e1 => ⟨_, rfl, ?_⟩⟩
  simp only [Bool.not_true, Bool.false_eq_true, if_false]
  refine ⟨_, rfl, l, rfl, ⟨_, SqL.of (e1 _ _ hl)⟩, fun D1 hD1 => ?_⟩
  refine lc_vals (xs := as.map V.ref) walk_list (as.map fun _ => V.bl true) (by simp) (fun H' e => SqL.of (e _ _ (e1 _ _ hl))) (by rw [List.length_map]; exact szl (by omega)) hD1
    (fun i x y H' C hx hy e hC => ?_) (fun σ H' Q Q' h t => h _ _ t) (fun x σ H' Q Q' h t => h _ _ t) (fun H2 e2 h2 => ?_)
  · have hil : i < rows.length := by
      have := (List.getElem?_eq_some_iff.mp hx).1
      rw [List.length_map] at this
      omega
    obtain ⟨ra, hra, dxr, g⟩ := Paired.at hL (List.getElem?_eq_getElem hil)
    rw [List.getElem?_map, hra] at hx
    rw [List.getElem?_map, hra] at hy
    obtain rfl := (Option.some.inj hx).symm
    obtain rfl := (Option.some.inj hy).symm
    exact ⟨rfl, rfl, _, rfl, _, _, _, _, true, rfl, .own _, isC.ty ((e1.trans e) _ _ g), isC.kit, hC _ (fun _ _ h => h)⟩
  · refine ⟨D1, as.map fun _ => true, rfl, SqL.of (by rw [h2, List.map_map]; rfl), _, rfl, ?_⟩
    have hall : ((as.map fun _ => true).all id) = true := by simp
    rw [hall]
    have e3 : Same H H2 := e1.trans e2
    refine iteF ?_
    refine ⟨_, rfl, l, rfl, ⟨_, SqL.of (e3 _ _ hl)⟩, fun D2 hD2 => ?_⟩
    refine scw (P := P) (wd := w) (walk_list (xs := as.map V.ref)) (fun i H' => Same H2 H' ∧ ∃ S, H' D2 = some (KS P w D2 S i) ∧ ∀ k, S (Sum.inr (kS k)) = true ↔ k ∈ (rows.take i).map (·.1)) ⟨Same.new hD2, _, upd_same, fun k => by simp⟩ (fun i H' _ p => SqL.of (p.1 _ _ (e3 _ _ hl)))
      (fun i x H4 H4' hi p y => ?_) (fun H4 p => ?_)
    · obtain ⟨e4, S, hS, hk⟩ := p
      obtain ⟨rfl, hx⟩ := y
      rw [List.length_map] at hi
      obtain ⟨r, hr1⟩ : ∃ r, rows[i]? = some r := ⟨_, List.getElem?_eq_getElem (by omega)⟩
      obtain ⟨ra, hra, dxr, g⟩ := Paired.at hL hr1
      obtain rfl : x = .ref ra := by
        rw [List.getElem?_map, hra] at hx
        exact (Option.some.inj hx).symm
      have hSk : S (Sum.inr (kS r.1)) = false := by
        cases z : S (Sum.inr (kS r.1)) with
        | false => rfl
        | true => exact absurd ((hk r.1).mp z) (nodup_next hok.nd hr1)
      have hb : 100 < scanBound := by decide
      refine ⟨rfl, ?_⟩
      refine ⟨_, rfl, ra, c.C, dxr, _, _, rfl, (e3.trans e4) _ _ g, ok.clC, ok.c_kind, rfl, Sum.inr (kS r.1), S, i, rfl, hS, by omega, Same.mut e4 hD2, more S (Sum.inr (kS r.1)), ?_, fun k => ?_⟩
      · rw [upd_same]
        unfold moreN
        rw [if_neg (by rw [hSk]; decide)]
      · rw [take_snoc hr1, List.map_append]
        simp only [more, Bool.or_eq_true, decide_eq_true_eq, List.mem_append, key_kS]
        rw [hk k]
        simp
    · obtain ⟨e4, S, hS, _⟩ := p
      refine ⟨D2, S, _, rfl, hS, _, rfl, l, _, rfl, .inl (SqL.of ((e3.trans e4) _ _ hl)), rfl, ?_⟩
      rw [decide_eq_true rfl]
      exact q _ (e3.trans e4)
/-! ### Report -/
def spRep (c : Cs) (K : PySem.W.Frag) : Sp := fun vs H Q _ => ∃ (p dx l : Addr) (cs : List Addr) (rows : List Row), vs = [.ref p, .ref l] ∧ H p = some (.ins c.R dx []) ∧ H l = some (.lst (cs.map V.ref)) ∧ Paired (CntAt c.C H) cs rows ∧ OkRows rows ∧ ∀ H', But p H H' → RepAt c K H' p rows → Q .non H'
theorem sc_Rep : FnScope ["self", "rows", "row"] ["self", "rows"] (defScope (inClass (top 80) 0)) := ⟨rfl, rfl, rfl, by decide +kernel, rfl, by decide +kernel, by decide +kernel⟩
theorem k_Rep (fr : Free mg) (ok : CsOk K c) (ca : C8.Cal P w K mg base 2 "are_rows" (spAre c.C) []) (D : ClsD K mg "Report" "Report.__init__" c.R (inClass (top 80) 0)) : C8.Mak P w K mg base 3 "Report" c.R (spRep c K) [] := by
  obtain ⟨f, fd, dV, F, hd, mk⟩ := D.ex
  obtain ⟨dd, rfl⟩ : ∃ x, dV = [x] := by
    match dV, hd with
    | [x], _ => exact ⟨x, rfl⟩
  obtain ⟨ds, rd, bd⟩ := F.binds1 (ps := ["self", "rows"]) 2 1 (by simp) (by rfl) fun T kV doc pm an cdv ct us its hl hi => by
    match us, its, hl, hi with
    | [_, _], [_], _, _ => exact ⟨_, rfl, rfl⟩
  refine ⟨f, fd, ["self", "rows"], ds, mk, F.ok sc_Rep (fun vs H Q E h => ?_) (fun cdv A outer s H vs Q E hr h => ?_), D.gl, bd, rd⟩
  · obtain ⟨p, dx, l, cs, rows, rfl, _⟩ := h
    rfl
  · obtain ⟨p, dx, l, as, rows, rfl, hp, hl, hL, hok, q⟩ := h
    have nd := sc_Rep.nd
    have hlen := Paired.length hL
    have hn := hok.few
    refine nox_of ⟨_, (pss_cons (ps_if (pt_not (pt_val (C8.pe_c ca hr (by decide) (by rfl) (pa_cons (pv 1) pa_nil)))) (pss_one ps_never) pss_nil)
      (pss_cons (ps_fld (pv 0) (pe_callTy call_tuple_of (by rfl) fr.tuple (by decide +kernel) (pa_cons (pv 1) pa_nil)) rfl)
      (pss_one (ps_fld (pv 0) (pe_dc (own := [("row", 2)]) (g := gName 2) (by rfl) nd (pi_list (pv 1)) (blkOk_by (own := [("row", 2)]) (N := ["self", "rows", "row"]) (sc := defScope (inClass (top 80) 0)) (by decide +kernel)) (fun _ _ _ _ _ => (pg_name (i := 2) nd rfl (.inl rfl))) (fun _ _ _ _ _ => pts_nil) (fun _ _ _ _ _ => (pe_fldK (K := K) rfl (pv 2) rfl)) (fun _ _ _ _ _ => (pv 2))) rfl)))), ?_⟩
    refine ⟨_, rfl, l, as, rows, rfl, hl, hL, hok, fun H1 e1 => ⟨_, rfl, ?_⟩⟩
    refine iteF ⟨_, rfl, l, _, rfl, .inl ⟨SqL.of (e1 _ _ hl), fun tp htp => ?_⟩⟩
    have ptp : p ≠ tp := ne_of_none (e1 _ _ hp) htp
    refine ⟨_, rfl, p, c.R, dx, [], rfl, (Same.new htp) _ _ (e1 _ _ hp), ok.clR, ok.r_rows, by decide, ?_⟩
    have b1 : But p H (upd (upd H1 tp (.tup (as.map V.ref))) p (.ins c.R dx (putF "rows" (V.ref tp) []))) := But.set (Same.but (Same.newR e1 htp))
    have hp1 : upd (upd H1 tp (.tup (as.map V.ref))) p (.ins c.R dx (putF "rows" (V.ref tp) [])) p = some (.ins c.R dx (putF "rows" (V.ref tp) [])) := upd_same
    have ht1 : upd (upd H1 tp (.tup (as.map V.ref))) p (.ins c.R dx (putF "rows" (V.ref tp) [])) tp = some (.tup (as.map V.ref)) := by rw [upd_ne ptp.symm, upd_same]
    generalize upd (upd H1 tp (.tup (as.map V.ref))) p (.ins c.R dx (putF "rows" (V.ref tp) [])) = H2 at b1 hp1 ht1 ⊢
    have npl : l ≠ p := fun z => by rw [z, hp] at hl; cases hl
    have hl2 := b1 _ _ npl hl
    have hL2 : Paired (CntAt c.C H2) as rows := Paired.mapP hL fun a r hz => by
      obtain ⟨dxr, g⟩ := hz
      refine ⟨dxr, b1 _ _ (fun z => ?_) g⟩
      rw [z, hp] at g
      have := HO.ins.inj (Option.some.inj g)
      cases this.2.2
    refine ⟨_, rfl, l, rfl, ⟨_, SqL.of hl2⟩, fun D2 hD2 => ?_⟩
    refine dcw (walk_list (xs := as.map V.ref)) (fun i H' => Same H2 H' ∧ ∃ kvs : List (Key × V), H' D2 = some (.dK kvs) ∧ kvs.length ≤ i ∧ ∀ k, byAt c.C H2 kvs k (rowOf (rows.take i) k)) ⟨Same.new hD2, [], upd_same, Nat.le_refl _, fun k => rfl⟩ (fun i H' _ p => SqL.of (p.1 _ _ hl2)) (fun i x H4 H4' hi p y => ?_) (fun H4 p => ?_)
    · obtain ⟨e4, kvs, hk, hkl, hby⟩ := p
      obtain ⟨rfl, hx⟩ := y
      rw [List.length_map] at hi
      obtain ⟨r, hr1⟩ : ∃ r, rows[i]? = some r := ⟨_, List.getElem?_eq_getElem (by omega)⟩
      obtain ⟨ra, hra, dxr, g⟩ := Paired.at hL2 hr1
      obtain rfl : x = .ref ra := by
        rw [List.getElem?_map, hra] at hx
        exact (Option.some.inj hx).symm
      have hno := rowOf_none (nodup_next hok.nd hr1)
      have hv0 := hby r.1
      rw [hno] at hv0
      refine ⟨rfl, ?_⟩
      refine ⟨_, rfl, ra, c.C, dxr, _, _, rfl, e4 _ _ g, ok.clC, ok.c_kind, rfl, _, rfl, kvs, Sum.inr (kS r.1), rfl, hk, by have : sizeLine = 16777216 := rfl; omega, Same.mut e4 hD2, _, upd_same, ?_, fun k => ?_⟩
      · rw [putK_new _ hv0, List.length_append]; simp; omega
      · rw [take_snoc hr1, rowOf_snoc]
        by_cases z : r.1 = k
        · subst z
          rw [hno]
          simp only [if_true]
          exact ⟨ra, by rw [valV_put, if_pos rfl], dxr, g⟩
        · have hz : valV (putK kvs (Sum.inr (kS r.1)) (V.ref ra)) (Sum.inr (kS k)) = valV kvs (Sum.inr (kS k)) := by rw [valV_put, if_neg fun e => z (key_kS.mp e.symm)]
          have hb := hby k
          cases hrk : rowOf (rows.take i) k with
          | none =>
            rw [hrk] at hb
            simp only [if_neg z]
            show valV _ _ = none
            rw [hz]
            exact hb
          | some x =>
            rw [hrk] at hb
            obtain ⟨cc, h1, h2⟩ := hb
            exact ⟨cc, by rw [hz]; exact h1, h2⟩
    · obtain ⟨e4, kvs, hk, hkl, hby⟩ := p
      rw [List.length_map, hlen, List.take_length] at hby
      refine ⟨_, rfl, p, c.R, dx, _, rfl, e4 _ _ hp1, ok.clR, ok.r_by, (by show 1 < 1000; decide), ?_⟩
      have np : D2 ≠ p := fun z => by rw [z, hp1] at hD2; cases hD2
      have kp : ∀ b o, b ≠ p → H2 b = some o → upd H4 p (.ins c.R dx (putF "by_kind" (V.ref D2) (putF "rows" (V.ref tp) []))) b = some o := fun b o hb h => by rw [upd_ne hb]; exact e4 _ _ h
      have cn : ∀ a r, CntAt c.C H2 a r → CntAt c.C (upd H4 p (.ins c.R dx (putF "by_kind" (V.ref D2) (putF "rows" (V.ref tp) [])))) a r := fun a r hz => by
        obtain ⟨dxr, g⟩ := hz
        refine ⟨dxr, kp _ _ (fun z => ?_) g⟩
        rw [z, hp1] at g
        have := HO.ins.inj (Option.some.inj g)
        cases this.2.2
      refine q _ (But.set (But.same b1 e4)) ⟨dx, tp, D2, as, kvs, by rw [upd_same]; rfl, SqT.of (kp _ _ ptp.symm ht1), Paired.mapP hL2 cn, by rw [upd_ne np]; exact hk, fun k => ?_⟩
      have hb := hby k
      cases hrk : rowOf rows k with
      | none => rw [hrk] at hb; exact hb
      | some x =>
        rw [hrk] at hb
        obtain ⟨cc, h1, h2⟩ := hb
        exact ⟨cc, h1, cn _ _ h2⟩
/-! ### Report.__invert__ -/
def spInv (c : Cs) (K : PySem.W.Frag) : Sp := fun vs H Q _ => ∃ (a : Addr) (rows : List Row), vs = [.ref a] ∧ RepAt c K H a rows ∧ OkRows rows ∧ ∀ H' b, Same H H' → RepAt c K H' b (negRows rows) → Q (.ref b) H'
theorem sc_Inv : FnScope ["self", "row"] ["self"] (defScope (inClass (top 80) 5)) := ⟨rfl, rfl, rfl, by decide +kernel, rfl, by decide +kernel, by decide +kernel⟩
theorem CntAt.kin {C : Addr} {H H' : Hp} {a : Addr} {r : Row} (e : Kin H H') (h : CntAt C H a r) : CntAt C H' a r := by
  obtain ⟨dx, h⟩ := h
  exact ⟨dx, e _ _ (fun _ z => by cases z) (fun _ z => by cases z) h⟩
theorem r_Inv {f : Addr} {fd : FuncData} (ok : CsOk K c) (kc : C8.Mak P w K mg base 2 "Count" c.C (spCount c.C) []) (kr : C8.Mak P w K mg base 3 "Report" c.R (spRep c K) []) (F : FunD K "__invert__" "Report.__invert__" (defArgs (inClass (top 80) 5)) (defBody (inClass (top 80) 5)) (defScope (inClass (top 80) 5)) [] [] f fd) :
    FnR P w K mg base C8.CX0 5 f (spInv c K) := by
  have hF : FnOk P w K mg base C8.CX0 5 f fd ["self"] (spInv c K) := by
    refine fn_mk F sc_Inv (fun vs H Q E h => by obtain ⟨a, rows, rfl, _⟩ := h; rfl) fun f cdv A outer s H vs Q E hr h => ?_
    obtain ⟨a, rows, rfl, ⟨dx, t, d, as, kvs, h⟩, hok, q⟩ := h
    have nd := sc_Inv.nd
    have hn := hok.few
    have hlen := Paired.length h.cn
    refine ⟨_, (pss_one (ps_ret (C8.pe_mk kr hr (by decide) (by rfl) (pa_cons (pe_lc (own := [("row", 1)]) (g := gName 1) (by rfl) nd (pi_tup (pe_fld (pv 0) rfl)) (blkOk_by (own := [("row", 1)]) (N := ["self", "row"]) (sc := defScope (inClass (top 80) 5)) (by decide +kernel)) (fun _ _ _ _ _ => (pg_name (i := 1) nd rfl (.inl rfl))) (fun _ _ _ _ _ => pts_nil) (fun _ _ _ _ _ => (C8.pe_mk kc hr (by decide) (by rfl) (pa_cons (pe_fldK (K := K) rfl (pv 1) rfl) (pa_cons (pe_un un_neg (pe_fldK (K := K) rfl (pv 1) rfl)) (pa_cons (pe_fldK (K := K) rfl (pv 1) rfl) pa_nil)))))) pa_nil)))), ?_⟩
    refine ⟨_, rfl, a, c.R, dx, _, _, rfl, h.ob, ok.clR, ok.r_rows, rfl, t, rfl, ⟨_, h.tt⟩, fun D hD => ?_⟩
    refine lc_keep (xs := as.map V.ref) walk_tup (fun i y H' => ∃ b r, y = V.ref b ∧ (negRows rows)[i]? = some r ∧ CntAt c.C H' b r) (fun i y H1 H2 e hz => ?_) (fun H' e => Same.seqT e h.tt) (by rw [List.length_map]; exact szl (by omega)) hD
      (fun i x H' C hx e hC => ?_) (fun σ H' Q Q' h t => h _ _ t) (fun x σ H' Q Q' h t => h _ _ t) (fun H2 ys e2 hys hyl hyy => ?_)
    · obtain ⟨b, r, z1, z2, z3⟩ := hz
      exact ⟨b, r, z1, z2, z3.kin e⟩
    · have hil : i < rows.length := by
        have := (List.getElem?_eq_some_iff.mp hx).1
        rw [List.length_map] at this
        omega
      have hr1 : rows[i]? = some rows[i] := List.getElem?_eq_getElem hil
      obtain ⟨ra, hra, dxr, g⟩ := Paired.at h.cn hr1
      rw [List.getElem?_map, hra] at hx
      obtain rfl := (Option.some.inj hx).symm
      have g2 := e _ _ g
      have hw := hok.wt _ (List.mem_of_getElem? hr1)
      refine ⟨rfl, rfl, _, rfl, ra, c.C, dxr, _, _, rfl, g2, ok.clC, ok.c_kind, rfl, _, rfl, ra, c.C, dxr, _, _, rfl, g2, ok.clC, ok.c_weight, rfl, _, rfl, _, rfl, ra, c.C, dxr, _, _, rfl, g2, ok.clC, ok.c_whose, rfl, fun x2 d2 hx2 hd2 hne2 => ?_⟩
      refine ⟨x2, d2, (rows[i].1, -rows[i].2.1, rows[i].2.2), rfl, by rcases hw with z | z | z <;> simp [z], upd_same, fun H3 b3 hc => ⟨rfl, ?_⟩⟩
      exact hC _ H3 (same_make hx2 hd2 b3) ⟨x2, _, rfl, by unfold negRows; rw [List.getElem?_map, hr1]; rfl, hc⟩
    · obtain ⟨bs, rfl, hP⟩ := paired_of (F := CntAt c.C H2) (rs := negRows rows) (by rw [hyl, List.length_map]; unfold negRows; rw [List.length_map]; exact hlen) hyy
      intro x2 d2 hx2 hd2 hne2
      have em : ∀ {b : Addr} {o : HO}, H2 b = some o → upd (upd H2 d2 (.own x2)) x2 (.ins c.R d2 []) b = some o := fun hb => by rw [upd_ne (ne_of_none hb hx2), upd_ne (ne_of_none hb hd2)]; exact hb
      refine ⟨x2, d2, D, bs, negRows rows, rfl, upd_same, em hys, Paired.mapP hP fun a r hz => ?_, hok.neg, fun H3 b3 hrep => ⟨rfl, q H3 x2 (e2.trans (same_make hx2 hd2 b3)) hrep⟩⟩
      obtain ⟨dxr, g⟩ := hz
      exact ⟨dxr, em g⟩
  refine (hF.raw (F.bindsN fun _ _ _ _ _ _ us hl => match us, hl with | [_], _ => rfl) .nil).imp fun vs H Q E h => ?_
  rw [List.append_nil]
  exact h
end
end K97
set_option maxHeartbeats 4000000
namespace K97
open PySem PySem.Spec PyProof.Rows L2
/-- the box of a draw -/
def BoxAt (H : Hp) (b : Addr) : Prop := ∃ x y : Int, H b = some (.lst [V.int x, V.int y]) ∧ 0 ≤ x ∧ 0 ≤ y ∧ y < 2 ^ 40
/-- a draw: all but the box stays -/
structure Bx (b : Addr) (H H' : Hp) : Prop where
  but : But b H H'
  box : BoxAt H' b
theorem Bx.trans {b : Addr} {H H1 H2 : Hp} (x : Bx b H H1) (y : Bx b H1 H2) : Bx b H H2 := ⟨x.but.trans y.but, y.box⟩
theorem Bx.new {b p : Addr} {H H1 : Hp} {o : HO} (x : Bx b H H1) (h : H1 p = none) : Bx b H (upd H1 p o) := ⟨x.but.new h, by
  obtain ⟨u, v, h1, h2⟩ := x.box
  exact ⟨u, v, by rw [upd_ne (ne_of_none h1 h)]; exact h1, h2⟩⟩
theorem Bx.same {b : Addr} {H H1 H2 : Hp} (x : Bx b H H1) (e : Same H1 H2) : Bx b H H2 := ⟨x.but.same e, by
  obtain ⟨u, v, h1, h2⟩ := x.box
  exact ⟨u, v, e _ _ h1, h2⟩⟩
theorem Bx.refl {b : Addr} {H : Hp} (h : BoxAt H b) : Bx b H H := ⟨But.refl _ _, h⟩
section
variable {P : Program} {w : World} {K : PySem.W.Frag} {mg : Str → Option Value} {base : Heap}
def spChoose : Sp := fun vs H Q _ => ∃ (b : Addr) (m : Int), vs = [.ref b, .int m] ∧ 1 ≤ m ∧ m ≤ 1000 ∧ BoxAt H b ∧ ∀ H' d, Bx b H H' → 0 ≤ d → d < m → Q (.int d) H'
theorem sc_choose : FnScope ["_law_box", "_law_many", "_law_digit", "_law_first"] ["_law_box", "_law_many"] (defScope (top 85)) := ⟨rfl, rfl, rfl, by decide +kernel, rfl, by decide +kernel, by decide +kernel⟩
theorem c_choose (fr : Free mg) (D : DefT K mg "_law_choose" "_law_choose" "_law_choose" (top 85) []) : C8.Cal P w K mg base 1 "_law_choose" spChoose [] := by
  refine cal_of D sc_choose (fun _ _ _ _ _ _ us hl => match us, hl with | [_, _], _ => rfl) (fun vs H Q E h => by obtain ⟨b, m, rfl, _⟩ := h; rfl) fun f cdv A outer s H vs Q E hr h => ?_
  obtain ⟨b, m, rfl, hm1, hm2, ⟨x, y, hb, hx, hy0, hy1⟩, q⟩ := h
  have nd := sc_choose.nd
  refine ⟨_, (pss_cons (ps_if (pt_cmpR op_gt (pe_ix ix_list (pv 0) pe_int (fun _ _ => rfl)) pe_int (nomark _)) (pss_cons (ps_set (i := 2) nd rfl (.inl rfl) (pe_op op_mod (pe_callTy call_int1 (by rfl) fr.int (by decide +kernel) (pa_cons (pe_ix ix_list (pv 0) pe_int (fun _ _ => rfl)) pa_nil)) (pv 1)))
      (pss_cons (ps_asg (pe_op op_fdivW (pe_ix ix_list (pv 0) pe_int (fun _ _ => rfl)) (pv 1)) (pg_sub (pv 0) pe_int set_list))
      (pss_one (ps_ret (pv 2))))) pss_nil)
      (pss_cons (ps_set (i := 3) nd rfl (.inl rfl) (pe_op op_mod (pe_callTy call_int1 (by rfl) fr.int (by decide +kernel) (pa_cons (pe_op op_add (pe_op op_mul (pe_ix ix_list (pv 0) pe_int (fun _ _ => rfl)) pe_int) pe_int) pa_nil)) pe_int))
      (pss_cons (ps_asg (pe_op op_add (pe_op op_mod (pe_callTy call_int1 (by rfl) fr.int (by decide +kernel) (pa_cons (pe_op op_add (pe_op op_mul (pv 3) pe_int) pe_int) pa_nil)) pe_int) pe_int) (pg_sub (pv 0) pe_int set_list))
      (pss_one (ps_ret (pe_op op_mod (pe_callTy call_int1 (by rfl) fr.int (by decide +kernel) (pa_cons (pe_op op_fdiv (pe_op op_add (pe_op op_mul (pv 3) pe_int) (pe_ix ix_list (pv 0) pe_int (fun _ _ => rfl))) pe_int) pa_nil)) (pv 1))))))), ?_⟩
  refine ⟨_, rfl, b, _, _, _, rfl, rfl, SqL.of hb, rfl, _, _, rfl, rfl, _, rfl, ?_⟩
  by_cases hx0 : 0 < x
  · rw [decide_eq_true hx0]
    refine iteT ⟨_, rfl, b, _, _, _, rfl, rfl, SqL.of hb, rfl, .inl ⟨x, rfl, _, rfl, _, _, rfl, rfl, by show (0 : Int) < m; omega, ?_⟩⟩
    refine ⟨_, rfl, b, _, _, _, rfl, rfl, SqL.of hb, rfl, _, rfl, _, _, rfl, rfl, wide_div (b := 10) (by omega) (by have : (2 : Nat) ^ 10 = 1024 := rfl; omega) (by decide) (by decide), ?_⟩
    refine ⟨_, rfl, b, _, 0, 0, rfl, rfl, hb, rfl, ⟨_, rfl, ?_⟩⟩
    refine q _ _ ⟨But.set (But.refl _ _), x / m, y, upd_same, Int.ediv_nonneg hx (by omega), hy0, hy1⟩ (Int.emod_nonneg _ (by omega)) (Int.emod_lt_of_pos _ (by omega))
  · rw [decide_eq_false hx0]
    refine iteF ?_
    have p40 : (2 : Int) ^ 40 = 1099511627776 := by decide
    have p64 : (2 : Int) ^ 64 = 18446744073709551616 := by decide
    refine ⟨_, rfl, b, _, _, _, rfl, rfl, SqL.of hb, rfl, _, _, rfl, rfl, .inl ⟨by omega, by omega⟩, _, _, rfl, rfl, .inl ⟨_, rfl, _, _, rfl, rfl, by show (0 : Int) < 2147483563; decide, ?_⟩⟩
    let fi : Int := (y * 40014 + 11) % 2147483563
    have f0 : 0 ≤ fi := Int.emod_nonneg _ (by decide)
    have f1 : fi < 2147483563 := Int.emod_lt_of_pos _ (by decide)
    refine ⟨_, rfl, _, _, rfl, rfl, .inl ⟨by omega, by omega⟩, _, _, rfl, rfl, .inl ⟨_, rfl, _, _, rfl, rfl, by show (0 : Int) < 2147483629; decide, _, _, rfl, rfl, ?_⟩⟩
    let gi : Int := (fi * 40692 + 2903) % 2147483629
    have g0 : 0 ≤ gi := Int.emod_nonneg _ (by decide)
    have g1 : gi < 2147483629 := Int.emod_lt_of_pos _ (by decide)
    refine ⟨_, rfl, b, _, 1, 1, rfl, rfl, hb, rfl, ?_⟩
    have hb2 : upd H b (.lst ([V.int x, V.int y].set 1 (V.int (gi + 1)))) b = some (.lst [V.int x, V.int (gi + 1)]) := upd_same
    have hB : Bx b H (upd H b (.lst ([V.int x, V.int y].set 1 (V.int (gi + 1))))) := ⟨But.set (But.refl _ _), x, gi + 1, hb2, hx, by omega, by omega⟩
    refine ⟨_, rfl, _, _, rfl, rfl, .inl ⟨by omega, by omega⟩, _, rfl, b, _, _, _, rfl, rfl, SqL.of hb2, rfl, _, _, rfl, rfl, _, _, rfl, rfl, ⟨by decide, by decide⟩, .inl ⟨_, rfl, _, rfl, _, _, rfl, rfl, by show (0 : Int) < m; omega, ?_⟩⟩
    exact q _ _ hB (Int.emod_nonneg _ (by omega)) (Int.emod_lt_of_pos _ (by omega))
/-! ### _law_one_of -/
def spOne : Sp := fun vs H Q _ => ∃ (b l : Addr) (xs : List V), vs = [.ref b, .ref l] ∧ H l = some (.lst xs) ∧ l ≠ b ∧ 1 ≤ xs.length ∧ xs.length ≤ 1000 ∧ BoxAt H b ∧ ∀ H' x, Bx b H H' → x ∈ xs → Q x H'
theorem sc_one : FnScope ["_law_box", "_law_some"] ["_law_box", "_law_some"] (defScope (top 86)) := ⟨rfl, rfl, rfl, by decide +kernel, rfl, by decide +kernel, by decide +kernel⟩
theorem c_one (fr : Free mg) (cc : C8.Cal P w K mg base 1 "_law_choose" spChoose []) (D : DefT K mg "_law_one_of" "_law_one_of" "_law_one_of" (top 86) []) : C8.Cal P w K mg base 2 "_law_one_of" spOne [] := by
  refine cal_of D sc_one (fun _ _ _ _ _ _ us hl => match us, hl with | [_, _], _ => rfl) (fun vs H Q E h => by obtain ⟨b, l, xs, rfl, _⟩ := h; rfl) fun f cdv A outer s H vs Q E hr h => ?_
  obtain ⟨b, l, xs, rfl, hl, hne, h1, h2, hb, q⟩ := h
  refine ⟨_, (pss_one (ps_ret (pe_ix ix_list (pv 1) (C8.pe_c cc hr (by decide) (by rfl) (pa_cons (pv 0) (pa_cons (pe_callB call_len_seq (by rfl) fr.len PySem.boot_len (pa_cons (pv 1) pa_nil)) pa_nil))) (fun _ _ => rfl)))), ?_⟩
  refine ⟨_, rfl, _, rfl, _, rfl, l, _, rfl, .inl (SqL.of hl), b, (xs.length : Int), rfl, by omega, by omega, hb, fun H' d hB d0 d1 => ?_⟩
  have hd : d = ((d.toNat : Nat) : Int) := by omega
  have hlt : d.toNat < xs.length := by omega
  have hat : atI xs d = some xs[d.toNat] := by
    have z := atI_nat (List.getElem?_eq_getElem hlt)
    rw [← hd] at z
    exact z
  exact ⟨l, xs, d, _, rfl, rfl, SqL.of (hB.but _ _ hne hl), hat, q H' _ hB (List.getElem_mem hlt)⟩
end
end K97
set_option maxHeartbeats 4000000
namespace K97
open PySem PySem.Spec PyProof.Rows L2
theorem Bx.kin {b : Addr} {H H' : Hp} (x : Bx b H H') (hb : BoxAt H b) : Kin H H' := fun a o h1 _ h => by
  obtain ⟨u, v, g, _⟩ := hb
  refine x.but _ _ (fun z => ?_) h
  rw [z, g] at h
  exact h1 _ (Option.some.inj h).symm
/-- a drawn row of a house -/
def TR (H : Hp) (t : Addr) (r : LRow) : Prop := H t = some (.tup [V.str (kS r.1), V.str (tS r.2.1), V.str (dS r.2.2.1), V.str (pS r.2.2.2)])
theorem TR.kin {H H' : Hp} {t : Addr} {r : LRow} (e : Kin H H') (h : TR H t r) : TR H' t r := e _ _ (fun _ z => by cases z) (fun _ z => by cases z) h
theorem kd_of {x : V} (h : x ∈ ([V.str "first", .str "first", .str "new", .str "minus", .str "minus", .str "plus"] : List V)) : ∃ k : Kd, x = .str (kS k) := by
  simp only [List.mem_cons, List.not_mem_nil, or_false] at h
  rcases h with h | h | h | h | h | h
  · exact ⟨.first, h⟩
  · exact ⟨.first, h⟩
  · exact ⟨.new, h⟩
  · exact ⟨.minus, h⟩
  · exact ⟨.minus, h⟩
  · exact ⟨.plus, h⟩
theorem st_of {x : V} (h : x ∈ ([V.str "open", .str "open", .str "shut"] : List V)) : ∃ k : Stt, x = .str (tS k) := by
  simp only [List.mem_cons, List.not_mem_nil, or_false] at h
  rcases h with h | h | h
  · exact ⟨.opn, h⟩
  · exact ⟨.opn, h⟩
  · exact ⟨.shut, h⟩
theorem pl_of {x : V} (h : x ∈ ([V.str "now", .str "now", .str "now", .str "there"] : List V)) : ∃ k : Pl, x = .str (pS k) := by
  simp only [List.mem_cons, List.not_mem_nil, or_false] at h
  rcases h with h | h | h | h
  · exact ⟨.now, h⟩
  · exact ⟨.now, h⟩
  · exact ⟨.now, h⟩
  · exact ⟨.there, h⟩
theorem dd_of3 {x : V} (h : x ∈ ([V.str "whole", .str "part", .str "right"] : List V)) : ∃ k : Dd, x = .str (dS k) := by
  simp only [List.mem_cons, List.not_mem_nil, or_false] at h
  rcases h with h | h | h
  · exact ⟨.whole, h⟩
  · exact ⟨.part, h⟩
  · exact ⟨.right, h⟩
theorem dd_of2 {x : V} (h : x ∈ ([V.str "whole", .str "part"] : List V)) : ∃ k : Dd, x = .str (dS k) ∧ k ≠ .right := by
  simp only [List.mem_cons, List.not_mem_nil, or_false] at h
  rcases h with h | h
  · exact ⟨.whole, h, by intro z; cases z⟩
  · exact ⟨.part, h, by intro z; cases z⟩
theorem in_mp (k : Kd) : inV (.str (kS k)) [V.str "minus", .str "plus"] = decide (k = .minus ∨ k = .plus) := by cases k <;> decide
section
variable {P : Program} {w : World} {K : PySem.W.Frag} {mg : Str → Option Value} {base : Heap}
/-! ### _law_seed -/
def spSeed (K : PySem.W.Frag) : Sp := fun vs H Q _ => ∃ (a : Addr) (k : Int) (ns : List Int), vs = [.ref a, .int k] ∧ 0 ≤ k ∧ k ≤ 1000 ∧ SqL K H a (ns.map V.int) ∧ ∀ H' b, Same H H' → H b = none → BoxAt H' b → Q (.ref b) H'
theorem sc_seed : FnScope ["_law_script", "_law_k", "_law_cell"] ["_law_script", "_law_k"] (defScope (top 84)) := ⟨rfl, rfl, rfl, by decide +kernel, rfl, by decide +kernel, by decide +kernel⟩
theorem c_seed (fr : Free mg) (D : DefT K mg "_law_seed" "_law_seed" "_law_seed" (top 84) []) : C8.Cal P w K mg base 1 "_law_seed" (spSeed K) [] := by
  refine cal_of D sc_seed (fun _ _ _ _ _ _ us hl => match us, hl with | [_, _], _ => rfl) (fun vs H Q E h => by obtain ⟨a, k, ns, rfl, _⟩ := h; rfl) fun f cdv A outer s H vs Q E hr h => ?_
  obtain ⟨a, k, ns, rfl, hk0, hk1, ha, q⟩ := h
  have nd := sc_seed.nd
  refine ⟨_, (pss_cons (ps_set (i := 2) nd rfl (.inl rfl) (pe_op op_add (pe_op op_mul pe_int (pv 1)) pe_int))
      (pss_cons (ps_if (pt_cmpR op_lt (pv 1) (pe_callB call_len_seq (by rfl) fr.len PySem.boot_len (pa_cons (pv 0) pa_nil)) (nomark _)) (pss_one (ps_set (i := 2) nd rfl (.inl rfl) (pe_callB call_abs (by rfl) fr.abs (by decide +kernel) (pa_cons (pe_ix ix_list (pv 0) (pv 1) (fun _ _ => rfl)) pa_nil)))) (pss_one (ps_if (pt_cmpR op_gt (pe_callB call_len_seq (by rfl) fr.len PySem.boot_len (pa_cons (pv 0) pa_nil)) pe_int (nomark _)) (pss_one (ps_set (i := 2) nd rfl (.inl rfl) (pe_op op_add (pv 2) (pe_op op_mul (pe_op op_mod (pe_callTy call_int1 (by rfl) fr.int (by decide +kernel) (pa_cons (pe_callB call_abs (by rfl) fr.abs (by decide +kernel) (pa_cons (pe_ix ix_list (pv 0) (pe_op op_mod (pe_callTy call_int1 (by rfl) fr.int (by decide +kernel) (pa_cons (pv 1) pa_nil)) (pe_callB call_len_seq (by rfl) fr.len PySem.boot_len (pa_cons (pv 0) pa_nil))) (fun _ _ => rfl)) pa_nil)) pa_nil)) pe_int) pe_int)))) pss_nil)))
      (pss_one (ps_ret (pe_lst (pa_cons (pe_ifExp (pt_cmpR op_ge (pv 2) (pe_op op_pow pe_int pe_int) (nomark _)) (pv 2) pe_int) (pa_cons (pe_op op_add (pe_op op_mod (pe_callTy call_int1 (by rfl) fr.int (by decide +kernel) (pa_cons (pe_op op_add (pe_op op_mul (pe_op op_mod (pe_callTy call_int1 (by rfl) fr.int (by decide +kernel) (pa_cons (pv 2) pa_nil)) pe_int) pe_int) (pe_op op_mul pe_int (pv 1))) pa_nil)) pe_int) pe_int) pa_nil))))))), ?_⟩
  have p64 : (2 : Int) ^ 64 = 18446744073709551616 := by decide
  have fin : ∀ cell : Int, 0 ≤ cell → ∀ H' b, H b = none → H' = upd H b (.lst [V.int (if 10 ^ 18 ≤ cell then cell else 0), V.int ((cell % 2147483629 * 48271 + 20021 * k) % 2147483629 + 1)]) → Q (.ref b) H' := fun cell hc H' b hb e => by
    subst e
    refine q _ b (Same.new hb) hb ⟨_, _, upd_same, ?_, ?_, ?_⟩
    · split <;> omega
    · have := Int.emod_nonneg (cell % 2147483629 * 48271 + 20021 * k) (show (2147483629 : Int) ≠ 0 by decide); omega
    · have := Int.emod_lt_of_pos (cell % 2147483629 * 48271 + 20021 * k) (show (0 : Int) < 2147483629 by decide)
      have p40 : (2 : Int) ^ 40 = 1099511627776 := by decide
      omega
  refine ⟨_, rfl, _, _, rfl, rfl, .inl ⟨by decide, by decide⟩, _, _, rfl, rfl, ?_⟩
  refine ⟨_, rfl, _, rfl, a, _, rfl, .inl ha, _, _, rfl, rfl, _, rfl, ?_⟩
  rw [List.length_map]
  by_cases hlt : k < (ns.length : Int)
  · rw [decide_eq_true hlt]
    have hk : k = ((k.toNat : Nat) : Int) := by omega
    have hat : atI (ns.map V.int) k = some (V.int (ns.getD k.toNat 0)) := by
      have z := atI_nat (map_at (l := ns) (j := k.toNat) (by omega))
      rw [← hk] at z
      exact z
    refine iteT ⟨_, rfl, _, rfl, a, _, _, _, rfl, rfl, ha, hat, _, rfl, ?_⟩
    refine ⟨_, rfl, _, _, rfl, rfl, ⟨by decide, by decide, by decide⟩, _, _, rfl, rfl, _, rfl, ?_⟩
    by_cases hge : (10 : Int) ^ 18 ≤ (if ns.getD k.toNat 0 < 0 then -(ns.getD k.toNat 0) else ns.getD k.toNat 0)
    · rw [decide_eq_true (show (10 : Int) ^ (18 : Int).toNat ≤ (if ns.getD k.toNat 0 < 0 then -(ns.getD k.toNat 0) else ns.getD k.toNat 0) from hge)]
      refine iteT ⟨_, rfl, _, rfl, .inl ⟨_, rfl, _, _, rfl, rfl, by show (0 : Int) < 2147483629; decide, _, _, rfl, rfl, .inl ⟨by have := Int.emod_nonneg ((if ns.getD k.toNat 0 < 0 then -(ns.getD k.toNat 0) else ns.getD k.toNat 0)) (show (2147483629 : Int) ≠ 0 by decide); omega, by have := Int.emod_lt_of_pos ((if ns.getD k.toNat 0 < 0 then -(ns.getD k.toNat 0) else ns.getD k.toNat 0)) (show (0 : Int) < 2147483629 by decide); omega⟩, _, rfl, _, _, rfl, rfl, .inl ⟨by decide, by decide⟩, _, _, rfl, rfl, .inl ⟨_, rfl, _, _, rfl, rfl, by show (0 : Int) < 2147483629; decide, _, _, rfl, rfl, szl (by show 2 ≤ 1000000; decide), fun bb hbb => ?_⟩⟩⟩
      exact fin ((if ns.getD k.toNat 0 < 0 then -(ns.getD k.toNat 0) else ns.getD k.toNat 0)) (by split <;> omega) _ bb hbb (by rw [if_pos hge])
    · rw [decide_eq_false (show ¬ (10 : Int) ^ (18 : Int).toNat ≤ (if ns.getD k.toNat 0 < 0 then -(ns.getD k.toNat 0) else ns.getD k.toNat 0) from hge)]
      refine iteF ⟨_, rfl, .inl ⟨_, rfl, _, _, rfl, rfl, by show (0 : Int) < 2147483629; decide, _, _, rfl, rfl, .inl ⟨by have := Int.emod_nonneg ((if ns.getD k.toNat 0 < 0 then -(ns.getD k.toNat 0) else ns.getD k.toNat 0)) (show (2147483629 : Int) ≠ 0 by decide); omega, by have := Int.emod_lt_of_pos ((if ns.getD k.toNat 0 < 0 then -(ns.getD k.toNat 0) else ns.getD k.toNat 0)) (show (0 : Int) < 2147483629 by decide); omega⟩, _, rfl, _, _, rfl, rfl, .inl ⟨by decide, by decide⟩, _, _, rfl, rfl, .inl ⟨_, rfl, _, _, rfl, rfl, by show (0 : Int) < 2147483629; decide, _, _, rfl, rfl, szl (by show 2 ≤ 1000000; decide), fun bb hbb => ?_⟩⟩⟩
      exact fin ((if ns.getD k.toNat 0 < 0 then -(ns.getD k.toNat 0) else ns.getD k.toNat 0)) (by split <;> omega) _ bb hbb (by rw [if_neg hge])
  · rw [decide_eq_false hlt]
    refine iteF ⟨_, rfl, a, _, rfl, .inl ha, _, _, rfl, rfl, _, rfl, ?_⟩
    rw [List.length_map]
    by_cases hpos : 0 < (ns.length : Int)
    · rw [decide_eq_true hpos]
      have hm0 : 0 ≤ k % (ns.length : Int) := Int.emod_nonneg _ (by omega)
      have hm1 : k % (ns.length : Int) < (ns.length : Int) := Int.emod_lt_of_pos _ hpos
      have hk : k % (ns.length : Int) = (((k % (ns.length : Int)).toNat : Nat) : Int) := by omega
      have hat : atI (ns.map V.int) (k % (ns.length : Int)) = some (V.int (ns.getD (k % (ns.length : Int)).toNat 0)) := by
        have z := atI_nat (map_at (l := ns) (j := (k % (ns.length : Int)).toNat) (by omega))
        rw [← hk] at z
        exact z
      have hat2 : atI (ns.map V.int) (k % ((ns.map V.int).length : Int)) = some (V.int (ns.getD (k % (ns.length : Int)).toNat 0)) := by rw [List.length_map]; exact hat
      have hab : 0 ≤ (if ns.getD (k % (ns.length : Int)).toNat 0 < 0 then -(ns.getD (k % (ns.length : Int)).toNat 0) else ns.getD (k % (ns.length : Int)).toNat 0) := by split <;> omega
      have hb0 := Int.emod_nonneg (if ns.getD (k % (ns.length : Int)).toNat 0 < 0 then -(ns.getD (k % (ns.length : Int)).toNat 0) else ns.getD (k % (ns.length : Int)).toNat 0) (show (2147483629 : Int) ≠ 0 by decide)
      have hb1 := Int.emod_lt_of_pos (if ns.getD (k % (ns.length : Int)).toNat 0 < 0 then -(ns.getD (k % (ns.length : Int)).toNat 0) else ns.getD (k % (ns.length : Int)).toNat 0) (show (0 : Int) < 2147483629 by decide)
      refine iteT ⟨_, rfl, _, rfl, _, rfl, .inl ⟨_, rfl, _, rfl, a, _, rfl, .inl ha, _, _, rfl, rfl, by rw [List.length_map]; exact hpos, a, _, _, _, rfl, rfl, ha, hat2, _, rfl, .inl ⟨_, rfl, _, _, rfl, rfl, by show (0 : Int) < 2147483629; decide, _, _, rfl, rfl, .inl ⟨by omega, by omega⟩, _, _, rfl, rfl, ?_⟩⟩⟩
      refine ⟨_, rfl, _, _, rfl, rfl, ⟨by decide, by decide, by decide⟩, _, _, rfl, rfl, _, rfl, ?_⟩
      by_cases hge : (10 : Int) ^ 18 ≤ (7411 * k + 29 + (if ns.getD (k % (ns.length : Int)).toNat 0 < 0 then -(ns.getD (k % (ns.length : Int)).toNat 0) else ns.getD (k % (ns.length : Int)).toNat 0) % 2147483629 * 40093)
      · rw [decide_eq_true (show (10 : Int) ^ (18 : Int).toNat ≤ (7411 * k + 29 + (if ns.getD (k % (ns.length : Int)).toNat 0 < 0 then -(ns.getD (k % (ns.length : Int)).toNat 0) else ns.getD (k % (ns.length : Int)).toNat 0) % 2147483629 * 40093) from hge)]
        refine iteT ⟨_, rfl, _, rfl, .inl ⟨_, rfl, _, _, rfl, rfl, by show (0 : Int) < 2147483629; decide, _, _, rfl, rfl, .inl ⟨by have := Int.emod_nonneg ((7411 * k + 29 + (if ns.getD (k % (ns.length : Int)).toNat 0 < 0 then -(ns.getD (k % (ns.length : Int)).toNat 0) else ns.getD (k % (ns.length : Int)).toNat 0) % 2147483629 * 40093)) (show (2147483629 : Int) ≠ 0 by decide); omega, by have := Int.emod_lt_of_pos ((7411 * k + 29 + (if ns.getD (k % (ns.length : Int)).toNat 0 < 0 then -(ns.getD (k % (ns.length : Int)).toNat 0) else ns.getD (k % (ns.length : Int)).toNat 0) % 2147483629 * 40093)) (show (0 : Int) < 2147483629 by decide); omega⟩, _, rfl, _, _, rfl, rfl, .inl ⟨by decide, by decide⟩, _, _, rfl, rfl, .inl ⟨_, rfl, _, _, rfl, rfl, by show (0 : Int) < 2147483629; decide, _, _, rfl, rfl, szl (by show 2 ≤ 1000000; decide), fun bb hbb => ?_⟩⟩⟩
        exact fin ((7411 * k + 29 + (if ns.getD (k % (ns.length : Int)).toNat 0 < 0 then -(ns.getD (k % (ns.length : Int)).toNat 0) else ns.getD (k % (ns.length : Int)).toNat 0) % 2147483629 * 40093)) (by omega) _ bb hbb (by rw [if_pos hge])
      · rw [decide_eq_false (show ¬ (10 : Int) ^ (18 : Int).toNat ≤ (7411 * k + 29 + (if ns.getD (k % (ns.length : Int)).toNat 0 < 0 then -(ns.getD (k % (ns.length : Int)).toNat 0) else ns.getD (k % (ns.length : Int)).toNat 0) % 2147483629 * 40093) from hge)]
        refine iteF ⟨_, rfl, .inl ⟨_, rfl, _, _, rfl, rfl, by show (0 : Int) < 2147483629; decide, _, _, rfl, rfl, .inl ⟨by have := Int.emod_nonneg ((7411 * k + 29 + (if ns.getD (k % (ns.length : Int)).toNat 0 < 0 then -(ns.getD (k % (ns.length : Int)).toNat 0) else ns.getD (k % (ns.length : Int)).toNat 0) % 2147483629 * 40093)) (show (2147483629 : Int) ≠ 0 by decide); omega, by have := Int.emod_lt_of_pos ((7411 * k + 29 + (if ns.getD (k % (ns.length : Int)).toNat 0 < 0 then -(ns.getD (k % (ns.length : Int)).toNat 0) else ns.getD (k % (ns.length : Int)).toNat 0) % 2147483629 * 40093)) (show (0 : Int) < 2147483629 by decide); omega⟩, _, rfl, _, _, rfl, rfl, .inl ⟨by decide, by decide⟩, _, _, rfl, rfl, .inl ⟨_, rfl, _, _, rfl, rfl, by show (0 : Int) < 2147483629; decide, _, _, rfl, rfl, szl (by show 2 ≤ 1000000; decide), fun bb hbb => ?_⟩⟩⟩
        exact fin ((7411 * k + 29 + (if ns.getD (k % (ns.length : Int)).toNat 0 < 0 then -(ns.getD (k % (ns.length : Int)).toNat 0) else ns.getD (k % (ns.length : Int)).toNat 0) % 2147483629 * 40093)) (by omega) _ bb hbb (by rw [if_neg hge])
    · rw [decide_eq_false hpos]
      refine iteF ?_
      refine ⟨_, rfl, _, _, rfl, rfl, ⟨by decide, by decide, by decide⟩, _, _, rfl, rfl, _, rfl, ?_⟩
      by_cases hge : (10 : Int) ^ 18 ≤ (7411 * k + 29)
      · rw [decide_eq_true (show (10 : Int) ^ (18 : Int).toNat ≤ (7411 * k + 29) from hge)]
        refine iteT ⟨_, rfl, _, rfl, .inl ⟨_, rfl, _, _, rfl, rfl, by show (0 : Int) < 2147483629; decide, _, _, rfl, rfl, .inl ⟨by have := Int.emod_nonneg ((7411 * k + 29)) (show (2147483629 : Int) ≠ 0 by decide); omega, by have := Int.emod_lt_of_pos ((7411 * k + 29)) (show (0 : Int) < 2147483629 by decide); omega⟩, _, rfl, _, _, rfl, rfl, .inl ⟨by decide, by decide⟩, _, _, rfl, rfl, .inl ⟨_, rfl, _, _, rfl, rfl, by show (0 : Int) < 2147483629; decide, _, _, rfl, rfl, szl (by show 2 ≤ 1000000; decide), fun bb hbb => ?_⟩⟩⟩
        exact fin ((7411 * k + 29)) (by omega) _ bb hbb (by rw [if_pos hge])
      · rw [decide_eq_false (show ¬ (10 : Int) ^ (18 : Int).toNat ≤ (7411 * k + 29) from hge)]
        refine iteF ⟨_, rfl, .inl ⟨_, rfl, _, _, rfl, rfl, by show (0 : Int) < 2147483629; decide, _, _, rfl, rfl, .inl ⟨by have := Int.emod_nonneg ((7411 * k + 29)) (show (2147483629 : Int) ≠ 0 by decide); omega, by have := Int.emod_lt_of_pos ((7411 * k + 29)) (show (0 : Int) < 2147483629 by decide); omega⟩, _, rfl, _, _, rfl, rfl, .inl ⟨by decide, by decide⟩, _, _, rfl, rfl, .inl ⟨_, rfl, _, _, rfl, rfl, by show (0 : Int) < 2147483629; decide, _, _, rfl, rfl, szl (by show 2 ≤ 1000000; decide), fun bb hbb => ?_⟩⟩⟩
        exact fin ((7411 * k + 29)) (by omega) _ bb hbb (by rw [if_neg hge])
end
end K97
set_option maxHeartbeats 4000000
namespace K97
open PySem PySem.Spec PyProof.Rows L2
theorem Bx.mutN {b q : Addr} {H H1 : Hp} {o : HO} (x : Bx b H H1) (h : H q = none) (hb : BoxAt H b) : Bx b H (upd H1 q o) := ⟨x.but.mut h, by
  obtain ⟨u, v, g, g2⟩ := x.box
  obtain ⟨u0, v0, g0, _⟩ := hb
  exact ⟨u, v, by rw [upd_ne (ne_of_none g0 h)]; exact g, g2⟩⟩
theorem BoxAt.ne {H : Hp} {b p : Addr} (hb : BoxAt H b) (h : H p = none) : p ≠ b := fun z => by
  obtain ⟨u, v, g, _⟩ := hb
  rw [z, g] at h
  cases h
/-- one of a list that was just written -/
theorem draw {b l : Addr} {H H1 : Hp} {xs : List V} {Q : VK} (x : Bx b H H1) (hl : H1 l = none) (h1 : 1 ≤ xs.length) (h2 : xs.length ≤ 1000) (q : ∀ H2 y, Bx b H H2 → But b H1 H2 → y ∈ xs → Q y H2) : spOne [.ref b, .ref l] (upd H1 l (.lst xs)) Q C8.E0 :=
  ⟨b, l, xs, rfl, upd_same, x.box.ne hl, h1, h2, (x.new hl).box, fun H2 y hB hy => q H2 y ((x.new hl).trans hB) ((Same.but (Same.new hl)).trans hB.but) hy⟩
section
variable {P : Program} {w : World} {K : PySem.W.Frag} {mg : Str → Option Value} {base : Heap}
/-! ### _law_rows -/
def spRows : Sp := fun vs H Q _ => ∃ (b : Addr) (m : Nat), vs = [.ref b, .int (m : Int)] ∧ m ≤ 100 ∧ BoxAt H b ∧ ∀ H' l ts rows, Bx b H H' → H l = none → H' l = some (.lst (ts.map V.ref)) → Paired (TR H') ts rows → (∀ r ∈ rows, okL r) → rows.length ≤ 100 → Q (.ref l) H'
theorem sc_rows : FnScope ["_law_box", "_law_many", "_law_found", "_law_turn", "_law_kind", "_law_deeds", "_law_state"] ["_law_box", "_law_many"] (defScope (top 87)) := ⟨rfl, rfl, rfl, by decide +kernel, rfl, by decide +kernel, by decide +kernel⟩
theorem c_rows (fr : Free mg) (co : C8.Cal P w K mg base 2 "_law_one_of" spOne []) (D : DefT K mg "_law_rows" "_law_rows" "_law_rows" (top 87) []) : C8.Cal P w K mg base 3 "_law_rows" spRows [] := by
  refine cal_of D sc_rows (fun _ _ _ _ _ _ us hl => match us, hl with | [_, _], _ => rfl) (fun vs H Q E h => by obtain ⟨b, m, rfl, _⟩ := h; rfl) fun f cdv A outer s H vs Q E hr h => ?_
  obtain ⟨b, m, rfl, hm, hb, q⟩ := h
  have nd := sc_rows.nd
  refine ⟨_, (pss_cons (ps_set (i := 2) nd rfl (.inl rfl) (pe_lst pa_nil))
      (pss_cons (ps_for PassesOwn.never rfl (pi_range1 rfl fr.range (pa_cons (pv 1) pa_nil)) (pg_name (i := 3) nd rfl (.inl rfl))
      (pss_cons (ps_set (i := 4) nd rfl (.inl rfl) (C8.pe_c co hr (by decide) (by rfl) (pa_cons (pv 0) (pa_cons (pe_lst (pa_cons pe_str (pa_cons pe_str (pa_cons pe_str (pa_cons pe_str (pa_cons pe_str (pa_cons pe_str pa_nil))))))) pa_nil))))
      (pss_cons (ps_set (i := 5) nd rfl (.inl rfl) (pe_ifExp (pt_cmpR op_in_seq (pv 4) (pe_tup (pa_cons pe_str (pa_cons pe_str pa_nil))) rfl) (pe_lst (pa_cons pe_str (pa_cons pe_str pa_nil))) (pe_lst (pa_cons pe_str (pa_cons pe_str (pa_cons pe_str pa_nil))))))
      (pss_cons (ps_set (i := 6) nd rfl (.inl rfl) (C8.pe_c co hr (by decide) (by rfl) (pa_cons (pv 0) (pa_cons (pe_lst (pa_cons pe_str (pa_cons pe_str (pa_cons pe_str pa_nil)))) pa_nil))))
      (pss_one (ps_expr (pe_bm PySem.F.plainAttrs_list PySem.F.slot_list_append PySem.F.type_list_append mt_append (pv 2) (pa_cons (pe_tup (pa_cons (pv 4) (pa_cons (pv 6) (pa_cons (C8.pe_c co hr (by decide) (by rfl) (pa_cons (pv 0) (pa_cons (pv 5) pa_nil))) (pa_cons (C8.pe_c co hr (by decide) (by rfl) (pa_cons (pv 0) (pa_cons (pe_lst (pa_cons pe_str (pa_cons pe_str (pa_cons pe_str (pa_cons pe_str pa_nil))))) pa_nil))) pa_nil))))) pa_nil))))))))
      (pss_one (ps_ret (pv 2))))), ?_⟩
  refine ⟨Nat.zero_le _, fun l hl => ?_⟩
  have hlb := hb.ne hl
  refine ⟨_, rfl, (m : Int), rfl, by omega, by omega, ?_⟩
  refine for_it (walk_range (n := m)) (fun i σ H' => (∃ v3 v4 v5 v6 : Option V, σ = [some (.ref b), some (.int (m : Int)), some (.ref l), v3, v4, v5, v6]) ∧ Bx b H H' ∧ ∃ ts rows, H' l = some (.lst (ts.map V.ref)) ∧ Paired (TR H') ts rows ∧ (∀ r ∈ rows, okL r) ∧ rows.length = i)
    ⟨⟨_, _, _, _, rfl⟩, (Bx.refl hb).new hl, [], [], upd_same, .nil, fun r hr => (nomatch hr), rfl⟩ (fun i σ H' _ _ => trivial) (fun i x σ H1 H1' hi p y => ?_) (fun σ H' p => ?_)
  · obtain ⟨⟨v3, v4, v5, v6, rfl⟩, x1, ts, rows, hL, hP, hok, hlen⟩ := p
    obtain ⟨rfl, rfl⟩ := y
    -- the kind
    refine ⟨_, rfl, szl (by show 6 ≤ 1000000; decide), fun l1 hl1 => ?_⟩
    have B1 := x1.new (o := .lst [V.str "first", .str "first", .str "new", .str "minus", .str "minus", .str "plus"]) hl1
    refine draw x1 hl1 (by show 1 ≤ 6; decide) (by show 6 ≤ 1000; decide) fun H2 y C2 k2 hy => ?_
    obtain ⟨kd, rfl⟩ := kd_of hy
    dsimp only [gName, tSeq, tAsg]
    refine tif_keep (R := fun v H' => ∃ l2 dl, v = .ref l2 ∧ H' l2 = some (.lst dl) ∧ l2 ≠ b ∧ 1 ≤ dl.length ∧ dl.length ≤ 1000 ∧ ∀ x ∈ dl, ∃ d : Dd, x = V.str (dS d) ∧ (d = .right → kd ≠ .minus ∧ kd ≠ .plus)) (fun Q' hQ => ?_) (fun v H3 e3 hv => ?_)
    · refine ⟨_, rfl, szl (by show 2 ≤ 1000000; decide), fun t1 ht1 => ⟨t1, _, rfl, .inr (SqT.of upd_same), rfl, rfl, _, rfl, ?_⟩⟩
      rw [in_mp]
      have e2 : Same H2 (upd H2 t1 (.tup [V.str "minus", .str "plus"])) := Same.new ht1
      have C3 := C2.same e2
      by_cases hk : kd = .minus ∨ kd = .plus
      · rw [decide_eq_true hk]
        refine iteT ⟨szl (by show 2 ≤ 1000000; decide), fun l2 hl2 => hQ _ _ (Same.newR e2 hl2) ⟨l2, _, rfl, upd_same, C3.box.ne hl2, by show 1 ≤ 2; decide, by show 2 ≤ 1000; decide, fun x hx => ?_⟩⟩
        obtain ⟨d, h1, h2⟩ := dd_of2 hx
        exact ⟨d, h1, fun z => absurd z h2⟩
      · rw [decide_eq_false hk]
        refine iteF ⟨szl (by show 3 ≤ 1000000; decide), fun l2 hl2 => hQ _ _ (Same.newR e2 hl2) ⟨l2, _, rfl, upd_same, C3.box.ne hl2, by show 1 ≤ 3; decide, by show 3 ≤ 1000; decide, fun x hx => ?_⟩⟩
        obtain ⟨d, h1⟩ := dd_of3 hx
        exact ⟨d, h1, fun _ => ⟨fun z => hk (.inl z), fun z => hk (.inr z)⟩⟩
    · obtain ⟨l2, dl, rfl, hd1, hd2, hd3, hd4, hd5⟩ := hv
      have C3 := C2.same e3
      have k3 : But b H1' H3 := k2.same e3
      -- the state
      refine ⟨_, rfl, szl (by show 3 ≤ 1000000; decide), fun l3 hl3 => ?_⟩
      refine draw C3 hl3 (by show 1 ≤ 3; decide) (by show 3 ≤ 1000; decide) fun H4 y C4 k4 hy => ?_
      obtain ⟨st, rfl⟩ := st_of hy
      have hL4 : H4 l = some (.lst (ts.map V.ref)) := k4 _ _ hlb (k3 _ _ hlb hL)
      refine ⟨_, rfl, .inl ⟨rfl, _, SqL.of hL4⟩, ?_⟩
      refine ⟨_, rfl, _, rfl, _, rfl, _, rfl, b, l2, dl, rfl, k4 _ _ hd2 hd1, hd2, hd3, hd4, C4.box, fun H5 y B5 hy => ?_⟩
      obtain ⟨dd, rfl, hdd⟩ := hd5 y hy
      have C5 := C4.trans B5
      refine ⟨_, rfl, szl (by show 4 ≤ 1000000; decide), fun l4 hl4 => ?_⟩
      refine draw C5 hl4 (by show 1 ≤ 4; decide) (by show 4 ≤ 1000; decide) fun H6 y C6 k6 hy => ?_
      obtain ⟨pl, rfl⟩ := pl_of hy
      refine ⟨szl (by show 4 ≤ 1000000; decide), fun t8 ht8 => ?_⟩
      have kAll : But b H1' (upd H6 t8 (.tup [V.str (kS kd), .str (tS st), .str (dS dd), .str (pS pl)])) := ((((k3.trans k4).trans B5.but).trans k6)).same (Same.new ht8)
      have hL8 := kAll _ _ hlb hL
      have kin1 : Kin H1' (upd H6 t8 (.tup [V.str (kS kd), .str (tS st), .str (dS dd), .str (pS pl)])) := (Bx.mk kAll (C6.new ht8).box).kin x1.box
      have kin2 := Kin.upd (l' := ts.map V.ref ++ [.ref t8]) hL8
      refine ⟨l, _, _, rfl, rfl, hL8, szlt (by rw [List.length_map, Paired.length hP]; omega), ⟨_, _, _, _, rfl⟩, (C6.new ht8).mutN hl hb, ts ++ [t8], rows ++ [(kd, st, dd, pl)], by rw [upd_same, List.map_append]; rfl, ?_, fun r hr => ?_, by simp [hlen]⟩
      · exact Paired.snoc (Paired.mapP hP fun _ _ z => (z.kin kin1).kin kin2) (TR.kin kin2 (show TR _ t8 (kd, st, dd, pl) from upd_same))
      · rcases List.mem_append.mp hr with z | z
        · exact hok r z
        · rw [List.mem_singleton.mp z]
          exact hdd
  · obtain ⟨⟨v3, v4, v5, v6, rfl⟩, x1, ts, rows, hL, hP, hok, hlen⟩ := p
    exact ⟨_, rfl, q H' l ts rows x1 hl hL hP hok (by omega)⟩
end
end K97
set_option maxHeartbeats 4000000
namespace K97
open PySem PySem.Spec PyProof.Rows L2
theorem TR.same {H H' : Hp} {t : Addr} {r : LRow} (e : Same H H') (h : TR H t r) : TR H' t r := e _ _ h
/-- a drawn house -/
structure HTAt (H : Hp) (t rt : Addr) (ts : List Addr) (dp : Nat) (ck : Str) (rows : List LRow) : Prop where
  ob : H t = some (.tup [V.int (dp : Int), V.str ck, V.ref rt])
  rs : H rt = some (.tup (ts.map V.ref))
  tr : Paired (TR H) ts rows
  dp4 : dp ≤ 4
  ck2 : ck = "left" ∨ ck = "all"
  ok : ∀ r ∈ rows, okL r
  few : rows.length ≤ 100
theorem HTAt.kin {H H' : Hp} {t rt : Addr} {ts : List Addr} {dp : Nat} {ck : Str} {rows : List LRow} (e : Kin H H') (h : HTAt H t rt ts dp ck rows) : HTAt H' t rt ts dp ck rows :=
  ⟨e _ _ (fun _ z => by cases z) (fun _ z => by cases z) h.ob, e _ _ (fun _ z => by cases z) (fun _ z => by cases z) h.rs, Paired.mapP h.tr fun _ _ z => z.kin e, h.dp4, h.ck2, h.ok, h.few⟩
theorem dp_of {x : V} (h : x ∈ ([V.int 1, .int 2, .int 3, .int 4, .int 3, .int 4] : List V)) : ∃ d : Nat, x = .int (d : Int) ∧ d ≤ 4 := by
  simp only [List.mem_cons, List.not_mem_nil, or_false] at h
  rcases h with h | h | h | h | h | h
  · exact ⟨1, h, by decide⟩
  · exact ⟨2, h, by decide⟩
  · exact ⟨3, h, by decide⟩
  · exact ⟨4, h, by decide⟩
  · exact ⟨3, h, by decide⟩
  · exact ⟨4, h, by decide⟩
theorem ck_of {x : V} (h : x ∈ ([V.str "left", .str "left", .str "all"] : List V)) : ∃ c : Str, x = .str c ∧ (c = "left" ∨ c = "all") := by
  simp only [List.mem_cons, List.not_mem_nil, or_false] at h
  rcases h with h | h | h
  · exact ⟨_, h, .inl rfl⟩
  · exact ⟨_, h, .inl rfl⟩
  · exact ⟨_, h, .inr rfl⟩
/-- a drawn row of a report -/
def TC (H : Hp) (t : Addr) (r : Row) : Prop := H t = some (.tup [V.str (kS r.1), V.int r.2.1, V.str (oS r.2.2)])
theorem TC.kin {H H' : Hp} {t : Addr} {r : Row} (e : Kin H H') (h : TC H t r) : TC H' t r := e _ _ (fun _ z => by cases z) (fun _ z => by cases z) h
structure RTAt (K : PySem.W.Frag) (H : Hp) (t : Addr) (ts : List Addr) (rows : List Row) : Prop where
  rs : SqT K H t (ts.map V.ref)
  tc : Paired (TC H) ts rows
  ok : OkRows rows
theorem RTAt.kin {K : PySem.W.Frag} {H H' : Hp} {t : Addr} {ts : List Addr} {rows : List Row} (e : Kin H H') (h : RTAt K H t ts rows) : RTAt K H' t ts rows := ⟨e.seqT h.rs, Paired.mapP h.tc fun _ _ z => z.kin e, h.ok⟩
theorem wt_of {x : V} (h : x ∈ ([V.int 1, .int 1, .int 1, .int 1, .int 0, .int (-1)] : List V)) : ∃ z : Int, x = .int z ∧ (z = -1 ∨ z = 0 ∨ z = 1) := by
  simp only [List.mem_cons, List.not_mem_nil, or_false] at h
  rcases h with h | h | h | h | h | h
  · exact ⟨_, h, .inr (.inr rfl)⟩
  · exact ⟨_, h, .inr (.inr rfl)⟩
  · exact ⟨_, h, .inr (.inr rfl)⟩
  · exact ⟨_, h, .inr (.inr rfl)⟩
  · exact ⟨_, h, .inr (.inl rfl)⟩
  · exact ⟨_, h, .inl rfl⟩
theorem ow_of {x : V} (h : x ∈ ([V.str "own", .str "own", .str "target", .str "top", .str "deed"] : List V)) : ∃ k : Ow, x = .str (oS k) := by
  simp only [List.mem_cons, List.not_mem_nil, or_false] at h
  rcases h with h | h | h | h | h
  · exact ⟨.own, h⟩
  · exact ⟨.own, h⟩
  · exact ⟨.target, h⟩
  · exact ⟨.top, h⟩
  · exact ⟨.deed, h⟩
section
variable {P : Program} {w : World} {K : PySem.W.Frag} {mg : Str → Option Value} {base : Heap} {CL : Addr} {c : Cs}
/-! ### _law_house -/
def spLHouse : Sp := fun vs H Q _ => ∃ (b : Addr) (m : Int), vs = [.ref b, .int m] ∧ 1 ≤ m ∧ m ≤ 50 ∧ BoxAt H b ∧ ∀ H' t rt ts dp ck rows, Bx b H H' → HTAt H' t rt ts dp ck rows → Q (.ref t) H'
theorem sc_lhouse : FnScope ["_law_box", "_law_many", "_law_depth"] ["_law_box", "_law_many"] (defScope (top 88)) := ⟨rfl, rfl, rfl, by decide +kernel, rfl, by decide +kernel, by decide +kernel⟩
theorem c_lhouse (fr : Free mg) (cc : C8.Cal P w K mg base 1 "_law_choose" spChoose []) (co : C8.Cal P w K mg base 2 "_law_one_of" spOne []) (cr : C8.Cal P w K mg base 3 "_law_rows" spRows []) (D : DefT K mg "_law_house" "_law_house" "_law_house" (top 88) []) : C8.Cal P w K mg base 4 "_law_house" spLHouse [] := by
  refine cal_of D sc_lhouse (fun _ _ _ _ _ _ us hl => match us, hl with | [_, _], _ => rfl) (fun vs H Q E h => by obtain ⟨b, m, rfl, _⟩ := h; rfl) fun f cdv A outer s H vs Q E hr h => ?_
  obtain ⟨b, m, rfl, hm1, hm2, hb, q⟩ := h
  have nd := sc_lhouse.nd
  refine ⟨_, (pss_cons (ps_set (i := 2) nd rfl (.inl rfl) (C8.pe_c co hr (by decide) (by rfl) (pa_cons (pv 0) (pa_cons (pe_lst (pa_cons pe_int (pa_cons pe_int (pa_cons pe_int (pa_cons pe_int (pa_cons pe_int (pa_cons pe_int pa_nil))))))) pa_nil))))
      (pss_one (ps_ret (pe_tup (pa_cons (pv 2) (pa_cons (C8.pe_c co hr (by decide) (by rfl) (pa_cons (pv 0) (pa_cons (pe_lst (pa_cons pe_str (pa_cons pe_str (pa_cons pe_str pa_nil)))) pa_nil))) (pa_cons (pe_callTy call_tuple_of (by rfl) fr.tuple (by decide +kernel) (pa_cons (C8.pe_c cr hr (by decide) (by rfl) (pa_cons (pv 0) (pa_cons (pe_op op_add pe_int (C8.pe_c cc hr (by decide) (by rfl) (pa_cons (pv 0) (pa_cons (pv 1) pa_nil)))) pa_nil))) pa_nil)) pa_nil))))))), ?_⟩
  refine ⟨_, rfl, szl (by show 6 ≤ 1000000; decide), fun l1 hl1 => ?_⟩
  refine draw (Bx.refl hb) hl1 (by show 1 ≤ 6; decide) (by show 6 ≤ 1000; decide) fun H1 y C1 k1 hy => ?_
  obtain ⟨dp, rfl, hdp⟩ := dp_of hy
  refine ⟨_, rfl, _, rfl, szl (by show 3 ≤ 1000000; decide), fun l2 hl2 => ?_⟩
  refine draw C1 hl2 (by show 1 ≤ 3; decide) (by show 3 ≤ 1000; decide) fun H2 y C2 k2 hy => ?_
  obtain ⟨ck, rfl, hck⟩ := ck_of hy
  refine ⟨_, rfl, _, rfl, _, rfl, b, m, rfl, hm1, by omega, C2.box, fun H3 d B3 d0 d1 => ?_⟩
  have C3 := C2.trans B3
  have hd : (1 : Int) + d = (((1 + d).toNat : Nat) : Int) := by omega
  refine ⟨_, _, rfl, rfl, b, (1 + d).toNat, by show [V.ref b, V.int (1 + d)] = _; rw [← hd], by omega, C3.box, fun H4 l ts rows B4 hl0 hl hP hok hlen => ?_⟩
  have C4 := C3.trans B4
  refine ⟨l, _, rfl, .inl ⟨SqL.of hl, fun rt hrt => ⟨szl (by show 3 ≤ 1000000; decide), fun t ht => ?_⟩⟩⟩
  have nrt : rt ≠ t := fun z => by rw [z, upd_same] at ht; cases ht
  have e5 : Same H4 (upd (upd H4 rt (.tup (ts.map V.ref))) t (.tup [V.int (dp : Int), .str ck, .ref rt])) := Same.newR (Same.new hrt) ht
  exact q _ t rt ts dp ck rows (C4.same e5) ⟨upd_same, by rw [upd_ne nrt, upd_same], Paired.mapP hP fun _ _ z => z.same e5, hdp, hck, hok, hlen⟩
/-! ### _law_let_of, _law_house_of -/
def spLetOf (CL : Addr) : Sp := fun vs H Q _ => ∃ (t : Addr) (r : LRow), vs = [.ref t] ∧ TR H t r ∧ okL r ∧ ∀ H' a, Same H H' → LetAt CL H' a r → Q (.ref a) H'
theorem sc_letof : FnScope ["_law_row"] ["_law_row"] (defScope (top 90)) := ⟨rfl, rfl, rfl, by decide +kernel, rfl, by decide +kernel, by decide +kernel⟩
theorem c_letof (kl : C8.Mak P w K mg base 2 "Let" CL (spLet CL) []) (D : DefT K mg "_law_let_of" "_law_let_of" "_law_let_of" (top 90) []) : C8.Cal P w K mg base 4 "_law_let_of" (spLetOf CL) [] := by
  refine cal_of D sc_letof (fun _ _ _ _ _ _ us hl => match us, hl with | [_], _ => rfl) (fun vs H Q E h => by obtain ⟨t, r, rfl, _⟩ := h; rfl) fun f cdv A outer s H vs Q E hr h => ?_
  obtain ⟨t, r, rfl, ht, hok, q⟩ := h
  refine ⟨_, (pss_one (ps_ret (C8.pe_mk kl hr (by decide) (by rfl) (pa_cons (pe_ix ix_tup (pv 0) pe_int (fun _ _ => rfl)) (pa_cons (pe_ix ix_tup (pv 0) pe_int (fun _ _ => rfl)) (pa_cons (pe_ix ix_tup (pv 0) pe_int (fun _ _ => rfl)) (pa_cons (pe_ix ix_tup (pv 0) pe_int (fun _ _ => rfl)) pa_nil))))))), ?_⟩
  have hS := SqT.of (K := K) ht
  refine ⟨_, rfl, t, _, _, _, rfl, rfl, hS, rfl, _, rfl, t, _, _, _, rfl, rfl, hS, rfl, _, rfl, t, _, _, _, rfl, rfl, hS, rfl, _, rfl, t, _, _, _, rfl, rfl, hS, rfl, fun x dx hx hdx hne => ?_⟩
  exact ⟨x, dx, r, rfl, hok, upd_same, fun H' b hl => ⟨rfl, q H' x (same_make hx hdx b) hl⟩⟩
def spHouseOf (CH : Addr) : Sp := fun vs H Q _ => ∃ (t rt : Addr) (ts : List Addr) (dp : Nat) (ck : Str) (rows : List LRow), vs = [.ref t] ∧ HTAt H t rt ts dp ck rows ∧ ∀ H' a, Same H H' → HouseAt CH H' a ⟨dp, plOf rows⟩ → Q (.ref a) H'
theorem sc_houseof : FnScope ["_law_house_here", "_law_row"] ["_law_house_here"] (defScope (top 91)) := ⟨rfl, rfl, rfl, by decide +kernel, rfl, by decide +kernel, by decide +kernel⟩
theorem LetAt.kin {C : Addr} {H H' : Hp} {a : Addr} {r : LRow} (e : Kin H H') (h : LetAt C H a r) : LetAt C H' a r := by
  obtain ⟨dx, h⟩ := h
  exact ⟨dx, e _ _ (fun _ z => by cases z) (fun _ z => by cases z) h⟩
theorem c_houseof (cl : C8.Cal P w K mg base 4 "_law_let_of" (spLetOf CL) []) (kh : C8.Mak P w K mg base 2 "House" c.H (spHouse CL c.H) []) (D : DefT K mg "_law_house_of" "_law_house_of" "_law_house_of" (top 91) []) : C8.Cal P w K mg base 5 "_law_house_of" (spHouseOf c.H) [] := by
  refine cal_of D sc_houseof (fun _ _ _ _ _ _ us hl => match us, hl with | [_], _ => rfl) (fun vs H Q E h => by obtain ⟨t, rt, ts, dp, ck, rows, rfl, _⟩ := h; rfl) fun f cdv A outer s H vs Q E hr h => ?_
  obtain ⟨t, rt, ts, dp, ck, rows, rfl, hT, q⟩ := h
  have nd := sc_houseof.nd
  have hlen := Paired.length hT.tr
  have hfew := hT.few
  refine ⟨_, (pss_one (ps_ret (C8.pe_mk kh hr (by decide) (by rfl) (pa_cons (pe_ix ix_tup (pv 0) pe_int (fun _ _ => rfl)) (pa_cons (pe_ix ix_tup (pv 0) pe_int (fun _ _ => rfl)) (pa_cons (pe_lc (own := [("_law_row", 1)]) (g := gName 1) (by rfl) nd (pi_tup (pe_ix ix_tup (pv 0) pe_int (fun _ _ => rfl))) (blkOk_by (own := [("_law_row", 1)]) (N := ["_law_house_here", "_law_row"]) (sc := defScope (top 91)) (by decide +kernel)) (fun _ _ _ _ _ => (pg_name (i := 1) nd rfl (.inl rfl))) (fun _ _ _ _ _ => pts_nil) (fun _ _ _ _ _ => (C8.pe_c cl hr (by decide) (by rfl) (pa_cons (pv 1) pa_nil)))) pa_nil)))))), ?_⟩
  have hS := SqT.of (K := K) hT.ob
  refine ⟨_, rfl, t, _, _, _, rfl, rfl, hS, rfl, _, rfl, t, _, _, _, rfl, rfl, hS, rfl, _, rfl, t, _, _, _, rfl, rfl, hS, rfl, rt, rfl, ⟨_, SqT.of hT.rs⟩, fun D hD => ?_⟩
  refine lc_keep (xs := ts.map V.ref) walk_tup (fun i y H' => ∃ a r, y = V.ref a ∧ rows[i]? = some r ∧ LetAt CL H' a r) (fun i y H1 H2 e hz => ?_) (fun H' e => SqT.of (e _ _ hT.rs)) (by rw [List.length_map]; exact szl (by omega)) hD
    (fun i x H' C hx e hC => ?_) (fun σ H' Q Q' h t => h _ _ t) (fun x σ H' Q Q' h t => h _ _ t) (fun H2 ys e2 hys hyl hyy => ?_)
  · obtain ⟨a, r, z1, z2, z3⟩ := hz
    exact ⟨a, r, z1, z2, z3.kin e⟩
  · have hil : i < rows.length := by
      have := (List.getElem?_eq_some_iff.mp hx).1
      rw [List.length_map] at this
      omega
    have hr1 : rows[i]? = some rows[i] := List.getElem?_eq_getElem hil
    obtain ⟨ra, hra, g⟩ := Paired.at hT.tr hr1
    rw [List.getElem?_map, hra] at hx
    obtain rfl := (Option.some.inj hx).symm
    exact ⟨rfl, rfl, _, rfl, ra, rows[i], rfl, g.same e, hT.ok _ (List.mem_of_getElem? hr1), fun H3 a e3 hl => hC _ H3 e3 ⟨a, _, rfl, hr1, hl⟩⟩
  · obtain ⟨as, rfl, hP⟩ := paired_of (F := LetAt CL H2) (rs := rows) (by rw [hyl, List.length_map]; exact hlen) hyy
    intro x2 d2 hx2 hd2 hne2
    have em : ∀ {b : Addr} {o : HO}, H2 b = some o → upd (upd H2 d2 (.own x2)) x2 (.ins c.H d2 []) b = some o := fun hb => by rw [upd_ne (ne_of_none hb hx2), upd_ne (ne_of_none hb hd2)]; exact hb
    refine ⟨x2, d2, D, dp, ck, as, rows, rfl, hT.dp4, hT.ck2, upd_same, em hys, Paired.mapP hP fun a r hz => ?_, by omega, fun H3 b3 hh => ⟨rfl, q H3 x2 (e2.trans (same_make hx2 hd2 b3)) hh⟩⟩
    obtain ⟨dxr, g⟩ := hz
    exact ⟨dxr, em g⟩
/-! ### _law_report_of -/
def spRepOf (c : Cs) (K : PySem.W.Frag) : Sp := fun vs H Q _ => ∃ (t : Addr) (ts : List Addr) (rows : List Row), vs = [.ref t] ∧ RTAt K H t ts rows ∧ ∀ H' a, Same H H' → RepAt c K H' a rows → Q (.ref a) H'
theorem sc_repof : FnScope ["_law_report_here", "_law_row"] ["_law_report_here"] (defScope (top 92)) := ⟨rfl, rfl, rfl, by decide +kernel, rfl, by decide +kernel, by decide +kernel⟩
theorem c_repof (kc : C8.Mak P w K mg base 2 "Count" c.C (spCount c.C) []) (kr : C8.Mak P w K mg base 3 "Report" c.R (spRep c K) []) (D : DefT K mg "_law_report_of" "_law_report_of" "_law_report_of" (top 92) []) : C8.Cal P w K mg base 5 "_law_report_of" (spRepOf c K) [] := by
  refine cal_of D sc_repof (fun _ _ _ _ _ _ us hl => match us, hl with | [_], _ => rfl) (fun vs H Q E h => by obtain ⟨t, ts, rows, rfl, _⟩ := h; rfl) fun f cdv A outer s H vs Q E hr h => ?_
  obtain ⟨t, ts, rows, rfl, hT, q⟩ := h
  have nd := sc_repof.nd
  have hlen := Paired.length hT.tc
  have hfew := hT.ok.few
  refine ⟨_, (pss_one (ps_ret (C8.pe_mk kr hr (by decide) (by rfl) (pa_cons (pe_lc (own := [("_law_row", 1)]) (g := gName 1) (by rfl) nd (pi_tup (pv 0)) (blkOk_by (own := [("_law_row", 1)]) (N := ["_law_report_here", "_law_row"]) (sc := defScope (top 92)) (by decide +kernel)) (fun _ _ _ _ _ => (pg_name (i := 1) nd rfl (.inl rfl))) (fun _ _ _ _ _ => pts_nil) (fun _ _ _ _ _ => (C8.pe_mk kc hr (by decide) (by rfl) (pa_cons (pe_ix (ix_tupK (K := K) rfl) (pv 1) pe_int (fun _ _ => rfl)) (pa_cons (pe_ix (ix_tupK (K := K) rfl) (pv 1) pe_int (fun _ _ => rfl)) (pa_cons (pe_ix (ix_tupK (K := K) rfl) (pv 1) pe_int (fun _ _ => rfl)) pa_nil)))))) pa_nil)))), ?_⟩
  refine ⟨_, rfl, t, rfl, ⟨_, hT.rs⟩, fun D hD => ?_⟩
  refine lc_keep (xs := ts.map V.ref) walk_tup (fun i y H' => ∃ a r, y = V.ref a ∧ rows[i]? = some r ∧ CntAt c.C H' a r) (fun i y H1 H2 e hz => ?_) (fun H' e => Same.seqT e hT.rs) (by rw [List.length_map]; exact szl (by omega)) hD
    (fun i x H' C hx e hC => ?_) (fun σ H' Q Q' h t => h _ _ t) (fun x σ H' Q Q' h t => h _ _ t) (fun H2 ys e2 hys hyl hyy => ?_)
  · obtain ⟨a, r, z1, z2, z3⟩ := hz
    exact ⟨a, r, z1, z2, z3.kin e⟩
  · have hil : i < rows.length := by
      have := (List.getElem?_eq_some_iff.mp hx).1
      rw [List.length_map] at this
      omega
    have hr1 : rows[i]? = some rows[i] := List.getElem?_eq_getElem hil
    obtain ⟨ra, hra, g⟩ := Paired.at hT.tc hr1
    rw [List.getElem?_map, hra] at hx
    obtain rfl := (Option.some.inj hx).symm
    have hS := SqT.of (K := K) (e _ _ g)
    refine ⟨rfl, rfl, _, rfl, ra, _, _, _, rfl, rfl, hS, rfl, _, rfl, ra, _, _, _, rfl, rfl, hS, rfl, _, rfl, ra, _, _, _, rfl, rfl, hS, rfl, fun x2 d2 hx2 hd2 hne2 => ?_⟩
    exact ⟨x2, d2, rows[i], rfl, hT.ok.wt _ (List.mem_of_getElem? hr1), upd_same, fun H3 b3 hc => ⟨rfl, hC _ H3 (same_make hx2 hd2 b3) ⟨x2, _, rfl, hr1, hc⟩⟩⟩
  · obtain ⟨as, rfl, hP⟩ := paired_of (F := CntAt c.C H2) (rs := rows) (by rw [hyl, List.length_map]; exact hlen) hyy
    intro x2 d2 hx2 hd2 hne2
    have em : ∀ {b : Addr} {o : HO}, H2 b = some o → upd (upd H2 d2 (.own x2)) x2 (.ins c.R d2 []) b = some o := fun hb => by rw [upd_ne (ne_of_none hb hx2), upd_ne (ne_of_none hb hd2)]; exact hb
    refine ⟨x2, d2, D, as, rows, rfl, upd_same, em hys, Paired.mapP hP fun a r hz => ?_, hT.ok, fun H3 b3 hh => ⟨rfl, q H3 x2 (e2.trans (same_make hx2 hd2 b3)) hh⟩⟩
    obtain ⟨dxr, g⟩ := hz
    exact ⟨dxr, em g⟩
end
end K97
set_option maxHeartbeats 4000000
namespace K97
open PySem PySem.Spec PyProof.Rows L2
theorem not_mem_erase {α} {ks : List α} {k : Nat} {x : α} (nd : ks.Nodup) (h : ks[k]? = some x) : x ∉ ks.eraseIdx k := by
  intro hm
  rw [List.mem_eraseIdx_iff_getElem?] at hm
  obtain ⟨i, hi, hx⟩ := hm
  obtain ⟨h1, e1⟩ := List.getElem?_eq_some_iff.mp h
  obtain ⟨h2, e2⟩ := List.getElem?_eq_some_iff.mp hx
  exact hi ((List.getElem_inj nd).mp (e2.trans e1.symm))
theorem map_erase {α β} (f : α → β) : ∀ (ks : List α) (k : Nat), (ks.map f).eraseIdx k = (ks.eraseIdx k).map f
  | [], _ => rfl
  | _ :: _, 0 => rfl
  | _ :: ks, k + 1 => by simp only [List.map_cons, List.eraseIdx_cons_succ, map_erase f ks k]
theorem seqIdx_nat {d : Int} {n : Nat} (h0 : 0 ≤ d) (h1 : d < n) : seqIndex? d n = some d.toNat := by
  unfold seqIndex?
  have : ¬ d < 0 := by omega
  simp only [if_neg this]
  rw [decide_eq_true h0, decide_eq_true h1]
  rfl
theorem tif_any {c : TT} {t1 t2 : TE} {σ : L2.St} {H : Hp} {Q : VK} (R : V → Hp → Prop) (h : ∀ Q' : VK, (∀ v H', R v H' → Q' v H') → tIf c t1 t2 σ H Q') (q : ∀ v H', R v H' → Q v H') : tIf c t1 t2 σ H Q := h Q q
theorem tfor_if {c : TT} {t1 t2 : TE} {g : TG} {tb : TS} {D : Ends} {σ : L2.St} {H : Hp} (R : V → Hp → Prop) (h : ∀ Q' : VK, (∀ v H', R v H' → Q' v H') → tIf c t1 t2 σ H Q') (q : ∀ v H', R v H' → tFor (iRng1 (tCons (tC v) tNil)) g tb D σ H') : tFor (iRng1 (tCons (tIf c t1 t2) tNil)) g tb D σ H := h _ fun v H' hv => q v H' hv
section
variable {P : Program} {w : World} {K : PySem.W.Frag} {mg : Str → Option Value} {base : Heap}
/-! ### _law_report -/
def spRepL (K : PySem.W.Frag) : Sp := fun vs H Q _ => ∃ b : Addr, vs = [.ref b] ∧ BoxAt H b ∧ ∀ H' t ts rows, Bx b H H' → RTAt K H' t ts rows → Q (.ref t) H'
theorem sc_repl : FnScope ["_law_box", "_law_kinds", "_law_found", "_law_turn", "_law_kind", "_law_weight"] ["_law_box"] (defScope (top 89)) := ⟨rfl, rfl, rfl, by decide +kernel, rfl, by decide +kernel, by decide +kernel⟩
theorem c_repl (fr : Free mg) (cc : C8.Cal P w K mg base 1 "_law_choose" spChoose []) (co : C8.Cal P w K mg base 2 "_law_one_of" spOne []) (D : DefT K mg "_law_report" "_law_report" "_law_report" (top 89) []) : C8.Cal P w K mg base 3 "_law_report" (spRepL K) [] := by
  refine cal_of D sc_repl (fun _ _ _ _ _ _ us hl => match us, hl with | [_], _ => rfl) (fun vs H Q E h => by obtain ⟨b, rfl, _⟩ := h; rfl) fun f cdv A outer s H vs Q E hr h => ?_
  obtain ⟨b, rfl, hb, q⟩ := h
  have nd := sc_repl.nd
  refine ⟨_, (pss_cons (ps_par (i := 1) (j := 2) rfl nd rfl rfl (by decide) rfl rfl (pa_cons (pe_lst (pa_cons pe_str (pa_cons pe_str (pa_cons pe_str (pa_cons pe_str pa_nil))))) (pa_cons (pe_lst pa_nil) pa_nil)) (by rfl))
      (pss_cons (ps_for PassesOwn.never rfl (pi_range1 rfl fr.range (pa_cons (pe_ifExp (pt_cmpR op_gt (C8.pe_c cc hr (by decide) (by rfl) (pa_cons (pv 0) (pa_cons pe_int pa_nil))) pe_int (nomark _)) pe_int (C8.pe_c cc hr (by decide) (by rfl) (pa_cons (pv 0) (pa_cons pe_int pa_nil)))) pa_nil)) (pg_name (i := 3) nd rfl (.inl rfl))
      (pss_cons (ps_set (i := 4) nd rfl (.inl rfl) (pe_bm PySem.F.plainAttrs_list PySem.F.slot_list_pop PySem.F.type_list_pop mt_popAt (pv 1) (pa_cons (C8.pe_c cc hr (by decide) (by rfl) (pa_cons (pv 0) (pa_cons (pe_callB call_len_seq (by rfl) fr.len PySem.boot_len (pa_cons (pv 1) pa_nil)) pa_nil))) pa_nil)))
      (pss_cons (ps_set (i := 5) nd rfl (.inl rfl) (C8.pe_c co hr (by decide) (by rfl) (pa_cons (pv 0) (pa_cons (pe_lst (pa_cons pe_int (pa_cons pe_int (pa_cons pe_int (pa_cons pe_int (pa_cons pe_int (pa_cons (pe_un un_neg pe_int) pa_nil))))))) pa_nil))))
      (pss_one (ps_expr (pe_bm PySem.F.plainAttrs_list PySem.F.slot_list_append PySem.F.type_list_append mt_append (pv 2) (pa_cons (pe_tup (pa_cons (pv 4) (pa_cons (pv 5) (pa_cons (C8.pe_c co hr (by decide) (by rfl) (pa_cons (pv 0) (pa_cons (pe_lst (pa_cons pe_str (pa_cons pe_str (pa_cons pe_str (pa_cons pe_str (pa_cons pe_str pa_nil)))))) pa_nil))) pa_nil)))) pa_nil)))))))
      (pss_one (ps_ret (pe_callTy call_tuple_of (by rfl) fr.tuple (by decide +kernel) (pa_cons (pv 2) pa_nil)))))), ?_⟩
  refine ⟨szl (by show 4 ≤ 1000000; decide), fun kl hkl => ?_⟩
  have hkb := hb.ne hkl
  have X1 : Bx b H (upd H kl (.lst [V.str "first", .str "new", .str "minus", .str "plus"])) := (Bx.refl hb).new hkl
  have hkl1 : upd H kl (.lst [V.str "first", .str "new", .str "minus", .str "plus"]) kl = some (.lst ([Kd.first, .new, .minus, .plus].map fun k => V.str (kS k))) := upd_same
  generalize upd H kl (.lst [V.str "first", .str "new", .str "minus", .str "plus"]) = H1 at X1 hkl1 ⊢
  refine ⟨Nat.zero_le _, fun l hl => ?_⟩
  have hlb := X1.box.ne hl
  have hlk : kl ≠ l := ne_of_none hkl1 hl
  have X2 := X1.new (o := .lst []) hl
  have hl2 : upd H1 l (.lst []) l = some (.lst (([] : List Addr).map V.ref)) := upd_same
  have hk2 : upd H1 l (.lst []) kl = some (.lst ([Kd.first, .new, .minus, .plus].map fun k => V.str (kS k))) := by rw [upd_ne hlk]; exact hkl1
  have hlH : H l = none := by
    cases e : H l with
    | none => rfl
    | some o => exact absurd hl (by rw [X1.but l o hlb e]; exact fun z => nomatch z)
  generalize upd H1 l (.lst []) = H2 at X2 hl2 hk2 ⊢
  refine ⟨_, _, rfl, ?_⟩
  dsimp only [tSeq]
  refine tfor_if (fun v H' => ∃ n : Nat, v = .int (n : Int) ∧ n ≤ 4 ∧ Bx b H2 H') (fun Q' hQ => ?_) (fun v H3 hv => ?_)
  · refine ⟨_, rfl, b, 3, rfl, by omega, by omega, X2.box, fun H3 d B3 d0 d1 => ⟨_, _, rfl, rfl, _, rfl, ?_⟩⟩
    by_cases hd : 0 < d
    · rw [decide_eq_true hd]
      exact hQ _ _ ⟨4, rfl, by omega, B3⟩
    · rw [decide_eq_false hd]
      refine iteF ⟨_, rfl, b, 5, rfl, by omega, by omega, B3.box, fun H4 d B4 d0 d1 => hQ _ _ ⟨d.toNat, by rw [Int.toNat_of_nonneg d0], by omega, B3.trans B4⟩⟩
  obtain ⟨n, rfl, hn, X3⟩ := hv
  have hv3 := X3.but
  have X3 := X2.trans X3
  have hk3 : H3 kl = some (.lst ([Kd.first, .new, .minus, .plus].map fun k => V.str (kS k))) := hv3 _ _ hkb hk2
  have hl3 : H3 l = some (.lst (([] : List Addr).map V.ref)) := hv3 _ _ hlb hl2
  refine ⟨(n : Int), rfl, by omega, by omega, ?_⟩
  refine for_it (walk_range (n := n)) (fun i σ H' => (∃ v3 v4 v5 : Option V, σ = [some (.ref b), some (.ref kl), some (.ref l), v3, v4, v5]) ∧ Bx b H H' ∧ ∃ (ks : List Kd) (ts : List Addr) (rows : List Row), H' kl = some (.lst (ks.map fun k => V.str (kS k))) ∧ H' l = some (.lst (ts.map V.ref)) ∧ Paired (TC H') ts rows ∧ ks.length + i = 4 ∧ ks.Nodup ∧ (rows.map (·.1)).Nodup ∧ (∀ r ∈ rows, r.1 ∉ ks) ∧ rows.length = i ∧ ∀ r ∈ rows, r.2.1 = -1 ∨ r.2.1 = 0 ∨ r.2.1 = 1)
    ⟨⟨_, _, _, rfl⟩, X3, _, [], [], hk3, hl3, .nil, rfl, by decide, .nil, fun r hr => (nomatch hr), rfl, fun r hr => (nomatch hr)⟩ (fun i σ H' _ _ => trivial) (fun i x σ H4 H4' hi p y => ?_) (fun σ H' p => ?_)
  · obtain ⟨⟨v3, v4, v5, rfl⟩, x1, ks, ts, rows, hK, hL, hP, hkn, hkd, hrd, hrk, hlen, hwt⟩ := p
    obtain ⟨rfl, rfl⟩ := y
    have hn0 : ks.length ≠ 0 := by omega
    refine ⟨_, rfl, .inl ⟨rfl, _, SqL.of hK⟩, ?_⟩
    refine ⟨_, rfl, _, rfl, kl, _, rfl, .inl (SqL.of hK), ?_⟩
    have hml : (ks.map fun k => V.str (kS k)).length = ks.length := List.length_map ..
    refine ⟨b, ((ks.map fun k => V.str (kS k)).length : Int), rfl, by omega, by omega, x1.box, fun H5 d B5 d0 d1 => ?_⟩
    have hK5 := B5.but _ _ hkb hK
    have hL5 := B5.but _ _ hlb hL
    have hd2 : d.toNat < ks.length := by omega
    have hkk : ks[d.toNat]? = some (ks[d.toNat]'hd2) := List.getElem?_eq_getElem hd2
    refine ⟨kl, _, d, d.toNat, V.str (kS (ks[d.toNat]'hd2)), rfl, rfl, hK5, by omega, by omega, seqIdx_nat d0 d1, by rw [List.getElem?_map, hkk]; rfl, ?_⟩
    have X6 := (x1.trans B5).mutN (o := .lst ((ks.map fun k => V.str (kS k)).eraseIdx d.toNat)) hkl hb
    have kin6 : Kin H4' (upd H5 kl (.lst ((ks.map fun k => V.str (kS k)).eraseIdx d.toNat))) := (B5.kin x1.box).trans (Kin.upd hK5)
    have hK6 : upd H5 kl (.lst ((ks.map fun k => V.str (kS k)).eraseIdx d.toNat)) kl = some (.lst ((ks.eraseIdx d.toNat).map fun k => V.str (kS k))) := by rw [upd_same, map_erase]
    have hL6 : upd H5 kl (.lst ((ks.map fun k => V.str (kS k)).eraseIdx d.toNat)) l = some (.lst (ts.map V.ref)) := by rw [upd_ne hlk.symm]; exact hL5
    have hni := not_mem_erase hkd hkk
    have hin : ks[d.toNat]'hd2 ∈ ks := List.mem_of_getElem? hkk
    have hle : (ks.eraseIdx d.toNat).length = ks.length - 1 := by rw [List.length_eraseIdx, if_pos hd2]
    have hsub := List.eraseIdx_sublist ks d.toNat
    generalize ks[d.toNat]'hd2 = kd at *
    generalize ks.eraseIdx d.toNat = ks' at *
    generalize upd H5 kl (.lst ((ks.map fun k => V.str (kS k)).eraseIdx d.toNat)) = H6 at X6 kin6 hK6 hL6 ⊢
    refine ⟨_, rfl, 1, rfl, szl (by show 6 ≤ 1000000; decide), fun l1 hl1 => ?_⟩
    refine draw X6 hl1 (by show 1 ≤ 6; decide) (by show 6 ≤ 1000; decide) fun H7 y C7 k7 hy => ?_
    obtain ⟨wt, rfl, hw⟩ := wt_of hy
    refine ⟨_, rfl, .inl ⟨rfl, _, SqL.of (k7 _ _ hlb hL6)⟩, ?_⟩
    refine ⟨_, rfl, _, rfl, _, rfl, szl (by show 5 ≤ 1000000; decide), fun l4 hl4 => ?_⟩
    refine draw C7 hl4 (by show 1 ≤ 5; decide) (by show 5 ≤ 1000; decide) fun H8 y C8 k8 hy => ?_
    obtain ⟨ow, rfl⟩ := ow_of hy
    refine ⟨szl (by show 3 ≤ 1000000; decide), fun t8 ht8 => ?_⟩
    have kAll : But b H6 (upd H8 t8 (.tup [V.str (kS kd), .int wt, .str (oS ow)])) := (k7.trans k8).same (Same.new ht8)
    have hL8 := kAll _ _ hlb hL6
    have hK8 := kAll _ _ hkb hK6
    have kin1 : Kin H4' (upd H8 t8 (.tup [V.str (kS kd), .int wt, .str (oS ow)])) := kin6.trans ((Bx.mk kAll (C8.new ht8).box).kin X6.box)
    have kin2 := Kin.upd (l' := ts.map V.ref ++ [.ref t8]) hL8
    refine ⟨l, _, _, rfl, rfl, hL8, szlt (by rw [List.length_map, Paired.length hP]; omega), ⟨_, _, _, rfl⟩, (C8.new ht8).mutN hlH hb, ks', ts ++ [t8], rows ++ [(kd, wt, ow)], by rw [upd_ne hlk]; exact hK8, by rw [upd_same, List.map_append]; rfl, ?_, by omega, hkd.sublist hsub, ?_, fun r hr => ?_, by simp [hlen], fun r hr => ?_⟩
    · exact Paired.snoc (Paired.mapP hP fun _ _ z => (z.kin kin1).kin kin2) (TC.kin kin2 (show TC _ t8 (kd, wt, ow) from upd_same))
    · rw [List.map_append, List.nodup_append]
      refine ⟨hrd, by simp, fun a ha c hc => ?_⟩
      obtain ⟨r, hr, rfl⟩ := List.mem_map.mp ha
      simp only [List.map_cons, List.map_nil, List.mem_singleton] at hc
      rw [hc]
      exact fun z => hrk r hr (z ▸ hin)
    · rcases List.mem_append.mp hr with z | z
      · exact fun h => hrk r z (hsub.subset h)
      · rw [List.mem_singleton.mp z]
        exact hni
    · rcases List.mem_append.mp hr with z | z
      · exact hwt r z
      · rw [List.mem_singleton.mp z]
        exact hw
  · obtain ⟨⟨v3, v4, v5, rfl⟩, x1, ks, ts, rows, hK, hL, hP, hkn, hkd, hrd, hrk, hlen, hwt⟩ := p
    refine ⟨_, rfl, l, _, rfl, .inl ⟨SqL.of hL, fun rt hrt => ?_⟩⟩
    have e5 : Same H' (upd H' rt (.tup (ts.map V.ref))) := Same.new hrt
    exact q _ rt ts rows (x1.same e5) ⟨SqT.of upd_same, Paired.mapP hP fun _ _ z => z.kin (Same.kin e5), hrd, by omega, hwt⟩
end
end K97
set_option maxHeartbeats 4000000
namespace K97
open PySem PySem.Spec PyProof.Rows L2
theorem Paired.take {α β : Type} {F : α → β → Prop} : ∀ {l : List α} {m : List β} (k : Nat), Paired F l m → Paired F (l.take k) (m.take k)
  | _, _, 0, _ => .nil
  | _, _, _ + 1, .nil => .nil
  | _, _, k + 1, .cons a t => .cons a (Paired.take k t)
theorem Paired.drop {α β : Type} {F : α → β → Prop} : ∀ {l : List α} {m : List β} (k : Nat), Paired F l m → Paired F (l.drop k) (m.drop k)
  | _, _, 0, h => h
  | _, _, _ + 1, .nil => .nil
  | _, _, k + 1, .cons a t => Paired.drop k t
theorem cut_lo (xs : List V) (k : Nat) : cutV xs none (some (k : Int)) = xs.take k := by
  unfold cutV
  rw [HT.sIx_none, HT.sIx_nat, List.drop_zero, Nat.sub_zero]
  by_cases h : k ≤ xs.length
  · rw [Nat.min_eq_left h]
  · rw [Nat.min_eq_right (by omega), List.take_length, List.take_of_length_le (by omega)]
theorem cut_hi (xs : List V) (k : Nat) : cutV xs (some (k : Int)) none = xs.drop k := by
  unfold cutV
  rw [HT.sIx_none, HT.sIx_nat]
  by_cases h : k ≤ xs.length
  · rw [Nat.min_eq_left h]
    exact List.take_of_length_le (by rw [List.length_drop]; omega)
  · rw [Nat.min_eq_right (by omega), List.drop_length, List.drop_of_length_le (by omega), List.take_nil]
theorem cut_whole {xs : List V} {lo hi : Option Int} (h : HT.sIx xs.length 0 lo = 0 ∧ HT.sIx xs.length xs.length hi = xs.length) : cutV xs lo hi = xs := by
  unfold cutV
  rw [h.1, h.2, List.drop_zero, Nat.sub_zero, List.take_length]
theorem sl_keep {K : PySem.W.Frag} {x : V} {lo hi : Option Int} {H : Hp} {Q : VK} {a : Addr} {xs : List V} (hx : x = .ref a) (h : SqT K H a xs) (q : ∀ p H', Same H H' → SqT K H' p (cutV xs lo hi) → Q (.ref p) H') : rSlA K x lo hi H Q :=
  ⟨a, xs, hx, h, fun hw => q a H (Same.refl _) (by rw [cut_whole hw]; exact h), fun _ p hp => q p _ (Same.new hp) (SqT.of upd_same)⟩
theorem cat_keep {K : PySem.W.Frag} {x y : V} {H : Hp} {Q : VK} {a b : Addr} {xs ys : List V} (hx : x = .ref a) (hy : y = .ref b) (h : SqT K H a xs) (g : SqT K H b ys) (hl : xs.length + ys.length ≤ sizeLine) (q : ∀ p H', Same H H' → SqT K H' p (xs ++ ys) → Q (.ref p) H') : rCatA K x y H Q :=
  ⟨a, b, xs, ys, hx, hy, h, g, hl, fun e => q b H (Same.refl _) (by rw [e]; exact g), fun _ e => q a H (Same.refl _) (by rw [e, List.append_nil]; exact h), fun _ _ p hp => q p _ (Same.new hp) (SqT.of upd_same)⟩
theorem noPart {σ : L2.St} {H : Hp} {Q : Option Int → Hp → Prop} (h : Q none H) : tNoPart σ H Q := h
/-! ### a drawn report as data -/
def rD (r : Row) : PyData := .tuple [.str (kS r.1), .int r.2.1, .str (oS r.2.2)]
theorem rD_lay (r : Row) : (rD r).canLay0 = true := by
  obtain ⟨k, z, o⟩ := r
  have h1 : PyData.strOk (kS k) = true := by cases k <;> decide +kernel
  have h2 : PyData.strOk (oS o) = true := by cases o <;> decide +kernel
  simp only [rD, PyData.canLay0, PyData.canLayAll0, h1, h2, Bool.and_self]
theorem rD_dep (r : Row) : (rD r).depth ≤ 1 := by simp [rD, PyData.depth, PyData.depthAll]
theorem rDs_lay : ∀ rows : List Row, PyData.canLayAll0 (rows.map rD) = true
  | [] => rfl
  | r :: rows => by rw [List.map_cons]; simp only [PyData.canLayAll0, rD_lay, rDs_lay rows, Bool.and_self]
theorem rDs_dep : ∀ rows : List Row, PyData.depthAll (rows.map rD) ≤ 2
  | [] => by simp [PyData.depthAll]
  | r :: rows => by
    have h1 := rDs_dep rows
    have h2 := rD_dep r
    simp only [List.map_cons, PyData.depthAll]
    omega
theorem rDs_shaped (rows : List Row) : SeqAt.shaped (.tuple (rows.map rD)) = true := by
  have h1 := rDs_dep rows
  have h2 : PyData.depth (.tuple (rows.map rD)) ≤ 64 := by
    simp only [PyData.depth]
    omega
  show (PyData.canLay0 (.tuple (rows.map rD)) && decide (PyData.depth (.tuple (rows.map rD)) ≤ 64)) = true
  rw [Bool.and_eq_true]
  exact ⟨by simp only [PyData.canLay0]; exact rDs_lay rows, decide_eq_true h2⟩
theorem rDs_dp {K : PySem.W.Frag} {H : Hp} : ∀ {ts : List Addr} {rows : List Row}, Paired (TC H) ts rows → DpAll K H (ts.map V.ref) (rows.map rD)
  | _, _, .nil => .nil
  | _, _, .cons a t => .cons (.tup (SqT.of a) (.cons (.str _) (.cons (.int _) (.cons (.str _) .nil)))) (rDs_dp t)
theorem rDs_eqv (rows : List Row) : PyData.eqv (.tuple (rows.map rD)) (.tuple []) = decide (rows = []) := by
  cases rows with
  | nil => rfl
  | cons r rs => simp [PyData.eqv, PyData.eqvAll]
/-! ### rows near others -/
theorem OkRows.sub {rows rows' : List Row} (h : OkRows rows) (s : rows'.Sublist rows) : OkRows rows' :=
  ⟨h.nd.sublist (s.map _), Nat.le_trans s.length_le h.few, fun r hr => h.wt r (s.subset hr)⟩
theorem cut_sub {α} (l : List α) (k : Nat) : (l.take k ++ l.drop (k + 1)).Sublist l := by
  rw [← List.eraseIdx_eq_take_drop_succ]
  exact List.eraseIdx_sublist l k
theorem OkRows.put {rows : List Row} (h : OkRows rows) {k : Nat} {r r' : Row} (hr : rows[k]? = some r) (e : r'.1 = r.1) (hw : r'.2.1 = -1 ∨ r'.2.1 = 0 ∨ r'.2.1 = 1) : OkRows (rows.take k ++ [r'] ++ rows.drop (k + 1)) := by
  obtain ⟨hk, hg⟩ := List.getElem?_eq_some_iff.mp hr
  have e2 : rows.take k ++ [r'] ++ rows.drop (k + 1) = rows.set k r' := by rw [List.set_eq_take_append_cons_drop, if_pos hk, List.append_assoc]; rfl
  rw [e2]
  refine ⟨?_, by rw [List.length_set]; exact h.few, fun x hx => ?_⟩
  · rw [List.map_set, e]
    have : (rows.map (·.1)).set k r.1 = rows.map (·.1) := by
      rw [← hg]
      have := List.set_getElem_self (as := rows.map (·.1)) (i := k) (by rw [List.length_map]; exact hk)
      rw [List.getElem_map] at this
      exact this
    rw [this]
    exact h.nd
  · rcases List.mem_or_eq_of_mem_set hx with z | z
    · exact h.wt x z
    · rw [z]
      exact hw
section
variable {P : Program} {w : World} {K : PySem.W.Frag} {mg : Str → Option Value} {base : Heap}
/-! ### _law_near_report -/
def spNear (K : PySem.W.Frag) : Sp := fun vs H Q _ => ∃ (b t : Addr) (ts : List Addr) (rows : List Row), vs = [.ref b, .ref t] ∧ BoxAt H b ∧ RTAt K H t ts rows ∧ ∀ H' t' ts' rows', Bx b H H' → RTAt K H' t' ts' rows' → Q (.ref t') H'
theorem sc_near : FnScope ["_law_box", "_law_report_here", "_law_form", "_law_at", "_law_row", "_law_more"] ["_law_box", "_law_report_here"] (defScope (top 93)) := ⟨rfl, rfl, rfl, by decide +kernel, rfl, by decide +kernel, by decide +kernel⟩
theorem c_near (fr : Free mg) (cc : C8.Cal P w K mg base 1 "_law_choose" spChoose []) (co : C8.Cal P w K mg base 2 "_law_one_of" spOne []) (cr : C8.Cal P w K mg base 3 "_law_report" (spRepL K) []) (D : DefT K mg "_law_near_report" "_law_near_report" "_law_near_report" (top 93) []) : C8.Cal P w K mg base 4 "_law_near_report" (spNear K) [] := by
  refine cal_of D sc_near (fun _ _ _ _ _ _ us hl => match us, hl with | [_, _], _ => rfl) (fun vs H Q E h => by obtain ⟨b, t, ts, rows, rfl, _⟩ := h; rfl) fun f cdv A outer s H vs Q E hr h => ?_
  obtain ⟨b, t, ts, rows, rfl, hb, hT, q⟩ := h
  have nd := sc_near.nd
  refine ⟨_, (pss_cons (ps_par (i := 2) (j := 3) rfl nd rfl rfl (by decide) rfl rfl (pa_cons (C8.pe_c cc hr (by decide) (by rfl) (pa_cons (pv 0) (pa_cons pe_int pa_nil))) (pa_cons (C8.pe_c cc hr (by decide) (by rfl) (pa_cons (pv 0) (pa_cons (pe_op op_add (pe_callB call_len_seq (by rfl) fr.len PySem.boot_len (pa_cons (pv 1) pa_nil)) pe_int) pa_nil))) pa_nil)) (by rfl))
      (pss_cons (ps_if (PW.pt (pw_or (pt_cmpR (op_eqD hr.units) (pv 1) (pe_tup pa_nil) (nomark _)) (pw_or1 (pt_cmpR op_eq (pv 2) pe_int (nomark _))))) (pss_one (ps_ret (C8.pe_c cr hr (by decide) (by rfl) (pa_cons (pv 0) pa_nil)))) pss_nil)
      (pss_cons (ps_if (pt_cmpR op_eq (pv 2) pe_int (nomark _)) (pss_one (ps_ret (pe_op op_catA (pe_slice sl_tupA (pv 1) po_none (po_some (pv 3))) (pe_slice sl_tupA (pv 1) (po_some (pe_op op_add (pv 3) pe_int)) po_none)))) pss_nil)
      (pss_cons (ps_set (i := 3) nd rfl (.inl rfl) (pe_ifExp (pt_cmpR op_lt (pv 3) (pe_callB call_len_seq (by rfl) fr.len PySem.boot_len (pa_cons (pv 1) pa_nil)) (nomark _)) (pv 3) pe_int))
      (pss_cons (ps_set (i := 4) nd rfl (.inl rfl) (pe_ix ix_tup (pv 1) (pv 3) (fun _ _ => rfl)))
      (pss_cons (ps_set (i := 5) nd rfl (.inl rfl) (pe_tup (pa_cons (pe_ix ix_tup (pv 4) pe_int (fun _ _ => rfl)) (pa_cons (pe_ix ix_tup (pv 4) pe_int (fun _ _ => rfl)) (pa_cons (C8.pe_c co hr (by decide) (by rfl) (pa_cons (pv 0) (pa_cons (pe_lst (pa_cons pe_str (pa_cons pe_str (pa_cons pe_str (pa_cons pe_str pa_nil))))) pa_nil))) pa_nil)))))
      (pss_cons (ps_if (pt_cmpR op_eq (pv 2) pe_int (nomark _)) (pss_one (ps_set (i := 5) nd rfl (.inl rfl) (pe_tup (pa_cons (pe_ix ix_tup (pv 4) pe_int (fun _ _ => rfl)) (pa_cons (C8.pe_c co hr (by decide) (by rfl) (pa_cons (pv 0) (pa_cons (pe_lst (pa_cons (pe_un un_neg pe_int) (pa_cons pe_int (pa_cons pe_int pa_nil)))) pa_nil))) (pa_cons (pe_ix ix_tup (pv 4) pe_int (fun _ _ => rfl)) pa_nil)))))) pss_nil)
      (pss_one (ps_ret (pe_op op_catA (pe_op op_catA (pe_slice sl_tupA (pv 1) po_none (po_some (pv 3))) (pe_tup (pa_cons (pv 5) pa_nil))) (pe_slice sl_tupA (pv 1) (po_some (pe_op op_add (pv 3) pe_int)) po_none))))))))))), ?_⟩
  have hlen : ts.length = rows.length := Paired.length hT.tc
  have hfew := hT.ok.few
  refine ⟨_, rfl, b, 6, rfl, by omega, by omega, hb, fun H1 d B1 d0 d1 => ?_⟩
  refine ⟨_, rfl, _, rfl, t, _, rfl, .inr ((B1.kin hb).seqT hT.rs), _, _, rfl, rfl, ?_⟩
  have hml : (ts.map V.ref).length = rows.length := by rw [List.length_map]; exact hlen
  refine ⟨b, (((ts.map V.ref).length : Nat) : Int) + 1, rfl, by omega, by omega, B1.box, fun H2 d' B2 e0 e1 => ?_⟩
  obtain ⟨k, rfl⟩ : ∃ k : Nat, d' = (k : Int) := ⟨d'.toNat, by omega⟩
  have X2 := B1.trans B2
  have hT2 := hT.kin (X2.kin hb)
  refine ⟨_, _, rfl, ?_⟩
  -- told == () or form == 0
  refine ⟨_, rfl, Nat.zero_le _, fun te hte => ?_⟩
  have eT : Same H2 (upd H2 te (.tup [])) := Same.new hte
  have hT3 := hT2.kin (Same.kin eT)
  refine ⟨_, .tuple [], .tup hT3.rs (rDs_dp hT3.tc), .tup (SqT.of upd_same) .nil, rDs_shaped rows, by rfl, _, rfl, ?_⟩
  have X3 := X2.same eT
  generalize upd H2 te (.tup []) = H3 at X3 hT3 eT ⊢
  rw [rDs_eqv]
  by_cases hn : rows = []
  · rw [decide_eq_true hn]
    simp only [if_true]
    exact ⟨_, rfl, b, rfl, X3.box, fun H4 t' ts' rows' B4 R4 => q H4 t' ts' rows' (X3.trans B4) R4⟩
  rw [decide_eq_false hn]
  simp only [Bool.false_eq_true, if_false]
  refine ⟨_, rfl, rfl, _, rfl, ?_⟩
  by_cases hf0 : V.int d = V.int 0
  · rw [decide_eq_true hf0]
    simp only [if_true]
    exact ⟨_, rfl, b, rfl, X3.box, fun H4 t' ts' rows' B4 R4 => q H4 t' ts' rows' (X3.trans B4) R4⟩
  rw [decide_eq_false hf0]
  simp only [Bool.false_eq_true, if_false]
  refine ⟨_, rfl, rfl, _, rfl, ?_⟩
  by_cases hf1 : V.int d = V.int 1
  · rw [decide_eq_true hf1]
    simp only [if_true]
    refine ⟨_, rfl, _, rfl, _, rfl, sl_keep rfl hT3.rs fun p1 H4 e4 s1 => ?_⟩
    refine ⟨_, rfl, _, rfl, _, _, rfl, rfl, _, rfl, ?_⟩
    refine noPart (sl_keep rfl (Same.seqT e4 hT3.rs) fun p2 H5 e5 s2 => ?_)
    rw [cut_lo] at s1
    rw [show (k : Int) + 1 = ((k + 1 : Nat) : Int) by omega, cut_hi] at s2
    refine cat_keep rfl rfl (Same.seqT e5 s1) s2 (szl (by rw [List.length_take, List.length_drop]; omega)) fun p3 H6 e6 s3 => ?_
    have e36 := (e4.trans e5).trans e6
    refine q H6 p3 _ _ (X3.same e36) ⟨by rw [← List.map_take, ← List.map_drop, ← List.map_append] at s3; exact s3, Paired.app (Paired.take k (hT3.kin (Same.kin e36)).tc) (Paired.drop (k + 1) (hT3.kin (Same.kin e36)).tc), hT3.ok.sub (cut_sub _ _)⟩
  rw [decide_eq_false hf1]
  simp only [Bool.false_eq_true, if_false]
  dsimp only [tNext, tSeq, tAsg, gName]
  refine tif_any (fun v H' => ∃ j : Nat, v = .int (j : Int) ∧ j < rows.length ∧ H' = H3) (fun Q' hQ => ?_) (fun v H3' hv => ?_)
  · refine ⟨_, rfl, _, rfl, t, _, rfl, .inr hT3.rs, _, _, rfl, rfl, _, rfl, ?_⟩
    by_cases hk : (k : Int) < (((ts.map V.ref).length : Nat) : Int)
    · rw [decide_eq_true hk]
      exact iteT ⟨_, rfl, hQ _ _ ⟨k, rfl, by omega, rfl⟩⟩
    · rw [decide_eq_false hk]
      exact iteF (hQ _ _ ⟨0, rfl, by have := List.length_pos_iff.mpr hn; omega, rfl⟩)
  obtain ⟨j, rfl, hj, rfl⟩ := hv
  have hr0 : rows[j]? = some rows[j] := List.getElem?_eq_getElem hj
  have hok0 := hT3.ok.wt _ (List.mem_of_getElem? hr0)
  generalize rows[j] = r0 at hr0 hok0
  obtain ⟨ra, hra, hrt⟩ := Paired.at hT3.tc hr0
  have hxj : (ts.map V.ref)[j]? = some (V.ref ra) := by rw [List.getElem?_map, hra]; rfl
  refine ⟨_, rfl, _, rfl, t, _, _, _, rfl, rfl, hT3.rs, atI_nat hxj, ?_⟩
  have hS := SqT.of (K := K) hrt
  refine ⟨_, rfl, ra, _, _, _, rfl, rfl, hS, rfl, _, rfl, ra, _, _, _, rfl, rfl, hS, rfl, _, rfl, szl (by show 4 ≤ 1000000; decide), fun l1 hl1 => ?_⟩
  refine draw X3 hl1 (by show 1 ≤ 4; decide) (by show 4 ≤ 1000; decide) fun H4 y C4 k4 hy => ?_
  obtain ⟨ow, rfl⟩ : ∃ o : Ow, y = .str (oS o) := by
    simp only [List.mem_cons, List.not_mem_nil, or_false] at hy
    rcases hy with h | h | h | h
    · exact ⟨.own, h⟩
    · exact ⟨.target, h⟩
    · exact ⟨.top, h⟩
    · exact ⟨.deed, h⟩
  refine ⟨szl (by show 3 ≤ 1000000; decide), fun tm htm => ?_⟩
  have eM : Same H4 (upd H4 tm (.tup [V.str (kS r0.1), .int r0.2.1, .str (oS ow)])) := Same.new htm
  have hM : TC (upd H4 tm (.tup [V.str (kS r0.1), .int r0.2.1, .str (oS ow)])) tm (r0.1, r0.2.1, ow) := upd_same
  generalize upd H4 tm (.tup [V.str (kS r0.1), .int r0.2.1, .str (oS ow)]) = H5 at eM hM ⊢
  have Xf := C4.same eM
  have k5 : But b H3' H5 := k4.same eM
  have hTf := hT3.kin ((Bx.mk k5 Xf.box).kin X3.box)
  refine ⟨_, rfl, rfl, _, rfl, ?_⟩
  by_cases hf2 : V.int d = V.int 2
  · rw [decide_eq_true hf2]
    simp only [if_true]
    have hSf := SqT.of (K := K) (k5 _ _ (fun z => by have := hrt; unfold TC at this; obtain ⟨u, v, g, _⟩ := X3.box; rw [z, g] at this; cases this) hrt)
    refine ⟨_, rfl, ra, _, _, _, rfl, rfl, hSf, rfl, _, rfl, 1, rfl, szl (by show 3 ≤ 1000000; decide), fun l2 hl2 => ?_⟩
    refine draw Xf hl2 (by show 1 ≤ 3; decide) (by show 3 ≤ 1000; decide) fun H6 y C6 k6 hy => ?_
    obtain ⟨wz, rfl, hwz⟩ : ∃ z : Int, y = .int z ∧ (z = -1 ∨ z = 0 ∨ z = 1) := by
      simp only [List.mem_cons, List.not_mem_nil, or_false] at hy
      rcases hy with h | h | h
      · exact ⟨_, h, .inl rfl⟩
      · exact ⟨_, h, .inr (.inl rfl)⟩
      · exact ⟨_, h, .inr (.inr rfl)⟩
    have kin6 := (Bx.mk k6 C6.box).kin Xf.box
    have hSg := kin6.seqT hSf
    refine ⟨_, rfl, ra, _, _, _, rfl, rfl, hSg, rfl, ?_⟩
    refine ⟨szl (by show 3 ≤ 1000000; decide), fun tn htn => ?_⟩
    have eN : Same H6 (upd H6 tn (.tup [V.str (kS r0.1), .int wz, .str (oS r0.2.2)])) := Same.new htn
    have hM : TC (upd H6 tn (.tup [V.str (kS r0.1), .int wz, .str (oS r0.2.2)])) tn (r0.1, wz, r0.2.2) := upd_same
    generalize upd H6 tn (.tup [V.str (kS r0.1), .int wz, .str (oS r0.2.2)]) = H5' at eN hM ⊢
    have Xf := C6.same eN
    have hTf := hTf.kin (kin6.trans (Same.kin eN))
    refine ⟨_, rfl, _, rfl, _, rfl, sl_keep rfl hTf.rs fun p1 H6 e6 s1 => ?_⟩
    refine ⟨_, rfl, szl (by show 1 ≤ 1000000; decide), fun t9 ht9 => ?_⟩
    have e7 : Same H6 (upd H6 t9 (.tup [V.ref tn])) := Same.new ht9
    have s2 : SqT K (upd H6 t9 (.tup [V.ref tn])) t9 [V.ref tn] := SqT.of upd_same
    generalize upd H6 t9 (.tup [V.ref tn]) = H7 at e7 s2 ⊢
    rw [cut_lo] at s1
    refine cat_keep rfl rfl (Same.seqT e7 s1) s2 (szl (by rw [List.length_take]; show _ + 1 ≤ 1000000; omega)) fun p2 H8 e8 s3 => ?_
    have e38 := (e6.trans e7).trans e8
    refine ⟨_, rfl, _, rfl, _, _, rfl, rfl, _, rfl, ?_⟩
    refine noPart (sl_keep rfl (Same.seqT e38 hTf.rs) fun p3 H9 e9 s4 => ?_)
    rw [show (j : Int) + 1 = ((j + 1 : Nat) : Int) by omega, cut_hi] at s4
    refine cat_keep rfl rfl (Same.seqT e9 s3) s4 (szl (by rw [List.length_append, List.length_take, List.length_drop]; show _ + 1 + _ ≤ 1000000; omega)) fun p4 H10 e10 s5 => ?_
    have eA := (e38.trans e9).trans e10
    have hTz := hTf.kin (Same.kin eA)
    exact q H10 p4 (ts.take j ++ [tn] ++ ts.drop (j + 1)) (rows.take j ++ [(r0.1, wz, r0.2.2)] ++ rows.drop (j + 1)) (Xf.same eA) ⟨by rw [← List.map_take, ← List.map_drop] at s5; rw [List.map_append, List.map_append]; exact s5, Paired.app (Paired.app (Paired.take j hTz.tc) (.cons (hM.kin (Same.kin eA)) .nil)) (Paired.drop (j + 1) hTz.tc), hT3.ok.put hr0 rfl hwz⟩
  · rw [decide_eq_false hf2]
    simp only [Bool.false_eq_true, if_false]
    refine ⟨_, rfl, _, rfl, _, rfl, sl_keep rfl hTf.rs fun p1 H6 e6 s1 => ?_⟩
    refine ⟨_, rfl, szl (by show 1 ≤ 1000000; decide), fun t9 ht9 => ?_⟩
    have e7 : Same H6 (upd H6 t9 (.tup [V.ref tm])) := Same.new ht9
    have s2 : SqT K (upd H6 t9 (.tup [V.ref tm])) t9 [V.ref tm] := SqT.of upd_same
    generalize upd H6 t9 (.tup [V.ref tm]) = H7 at e7 s2 ⊢
    rw [cut_lo] at s1
    refine cat_keep rfl rfl (Same.seqT e7 s1) s2 (szl (by rw [List.length_take]; show _ + 1 ≤ 1000000; omega)) fun p2 H8 e8 s3 => ?_
    have e38 := (e6.trans e7).trans e8
    refine ⟨_, rfl, _, rfl, _, _, rfl, rfl, _, rfl, ?_⟩
    refine noPart (sl_keep rfl (Same.seqT e38 hTf.rs) fun p3 H9 e9 s4 => ?_)
    rw [show (j : Int) + 1 = ((j + 1 : Nat) : Int) by omega, cut_hi] at s4
    refine cat_keep rfl rfl (Same.seqT e9 s3) s4 (szl (by rw [List.length_append, List.length_take, List.length_drop]; show _ + 1 + _ ≤ 1000000; omega)) fun p4 H10 e10 s5 => ?_
    have eA := (e38.trans e9).trans e10
    have hTz := hTf.kin (Same.kin eA)
    exact q H10 p4 (ts.take j ++ [tm] ++ ts.drop (j + 1)) (rows.take j ++ [(r0.1, r0.2.1, ow)] ++ rows.drop (j + 1)) (Xf.same eA) ⟨by rw [← List.map_take, ← List.map_drop] at s5; rw [List.map_append, List.map_append]; exact s5, Paired.app (Paired.app (Paired.take j hTz.tc) (.cons (hM.kin (Same.kin eA)) .nil)) (Paired.drop (j + 1) hTz.tc), hT3.ok.put hr0 rfl hok0⟩
end
end K97
set_option maxHeartbeats 4000000
namespace K97
open PySem PySem.Spec PyProof.Rows L2
def lineOf : Kd → Str
  | .first => "first 1 own"
  | .new => "new 1 own"
  | .minus => "minus 1 own"
  | .plus => "plus 1 own"
theorem line_split (k : Kd) : Txt.split (lineOf k) " " = [kS k, "1", "own"] := by cases k <;> decide +kernel
theorem line_len (k : Kd) : (lineOf k).length ≤ 20 := by cases k <;> decide +kernel
def ownRows : List Row := [(.first, 1, .own), (.new, 1, .own), (.minus, 1, .own), (.plus, 1, .own)]
section
variable {P : Program} {w : World} {K : PySem.W.Frag} {mg : Str → Option Value} {base : Heap} {CC : Addr}
/-! ### row_of of the reports -/
def spRowOf (CC : Addr) : Sp := fun vs H Q _ => ∃ (k : Kd), vs = [.str (lineOf k)] ∧ ∀ H' a, Same H H' → CntAt CC H' a (k, 1, .own) → Q (.ref a) H'
theorem sc_rowof : FnScope ["line", "words", "weight"] ["line"] (defScope (top 77)) := ⟨rfl, rfl, rfl, by decide +kernel, rfl, by decide +kernel, by decide +kernel⟩
theorem c_rowof (fr : Free mg) (kc : C8.Mak P w K mg base 2 "Count" CC (spCount CC) []) (T1 : TupT K mg "KINDS" ["first", "new", "minus", "plus"]) (T2 : IntT K mg "WEIGHTS" [-1, 0, 1]) (T3 : TupT K mg "OWNERS" ["own", "target", "top", "deed"])
    (D : DefT K mg "row_of_reports" "row_of" "row_of" (top 77) []) : C8.Cal P w K mg base 4 "row_of_reports" (spRowOf CC) [] := by
  obtain ⟨a1, g1, s1⟩ := T1.ex
  obtain ⟨a2, g2, s2⟩ := T2.ex
  obtain ⟨a3, g3, s3⟩ := T3.ex
  refine cal_of D sc_rowof (fun _ _ _ _ _ _ us hl => match us, hl with | [_], _ => rfl) (fun vs H Q E h => by obtain ⟨k, rfl, _⟩ := h; rfl) fun f cdv A outer s H vs Q E hr h => ?_
  obtain ⟨k, rfl, q⟩ := h
  have nd := sc_rowof.nd
  refine ⟨_, (pss_cons (ps_set (i := 1) nd rfl (.inl rfl) (pe_m1 PySem.F.slot_str_split PySem.F.type_str_split mt_split (pv 0) pe_str))
      (pss_cons (ps_if (PW.pt (pw_or (pt_cmpR op_ne (pe_callB call_len_seq (by rfl) fr.len PySem.boot_len (pa_cons (pv 1) pa_nil)) pe_int (nomark _)) (pw_or (pt_cmpR op_notIn_seq (pe_ix ix_list (pv 1) pe_int (fun _ _ => rfl)) (pe_glob (v := .ref a1) (by rfl) g1 rfl) rfl) (pw_or1 (pt_cmpR op_notIn_seq (pe_ix ix_list (pv 1) pe_int (fun _ _ => rfl)) (pe_glob (v := .ref a3) (by rfl) g3 rfl) rfl))))) (pss_one (ps_ret pe_non)) pss_nil)
      (pss_cons (ps_for PassesOwn.never rfl (pi_tup (pe_glob (v := .ref a2) (by rfl) g2 rfl)) (pg_name (i := 2) nd rfl (.inl rfl))
      (pss_one (ps_if (pt_cmpR op_eq (pe_ix ix_list (pv 1) pe_int (fun _ _ => rfl)) (pe_callTy call_str_int (by rfl) fr.str (by decide +kernel) (pa_cons (pv 2) pa_nil)) (nomark _)) (pss_one (ps_ret (C8.pe_mk kc hr (by decide) (by rfl) (pa_cons (pe_ix ix_list (pv 1) pe_int (fun _ _ => rfl)) (pa_cons (pv 2) (pa_cons (pe_ix ix_list (pv 1) pe_int (fun _ _ => rfl)) pa_nil)))))) pss_nil)))
      (pss_one (ps_ret pe_non))))), ?_⟩
  have hll := line_len k
  refine ⟨_, rfl, ⟨_, rfl⟩, _, _, rfl, rfl, by rfl, szl (by omega), fun p hp => ?_⟩
  rw [line_split]
  have e1 : Same H (upd H p (.lst ([kS k, "1", "own"].map V.str))) := Same.new hp
  have hL : SqL K (upd H p (.lst ([kS k, "1", "own"].map V.str))) p ([kS k, "1", "own"].map V.str) := SqL.of upd_same
  generalize upd H p (.lst ([kS k, "1", "own"].map V.str)) = H1 at e1 hL ⊢
  refine ⟨_, rfl, p, _, rfl, .inl hL, rfl, _, rfl, ?_⟩
  rw [show (!decide (V.int (([kS k, "1", "own"].map V.str).length : Nat) = V.int 3)) = false from by rfl]
  simp only [Bool.false_eq_true, if_false]
  refine ⟨_, rfl, p, _, 0, _, rfl, rfl, hL, rfl, a1, _, rfl, .inr (s1 _), rfl, all_flatS _, _, rfl, ?_⟩
  simp only [if_true]
  rw [notIn_str (mem_k _)]
  simp only [Bool.false_eq_true, if_false]
  refine ⟨_, rfl, p, _, 2, _, rfl, rfl, hL, rfl, a3, _, rfl, .inr (s3 _), rfl, all_flatS _, _, rfl, ?_⟩
  simp only [if_true]
  rw [show (!inV (V.str "own") ((["own", "target", "top", "deed"] : List Str).map V.str)) = false from by decide +kernel]
  simp only [Bool.false_eq_true, if_false]
  refine ⟨_, rfl, ⟨_, s2 _⟩, ?_⟩
  refine for_it (walk_tup (xs := ([-1, 0, 1] : List Int).map V.int)) (fun i σ H' => (∃ v2 : Option V, σ = [some (.str (lineOf k)), some (.ref p), v2]) ∧ H' = H1 ∧ i ≤ 2)
    ⟨⟨_, rfl⟩, rfl, Nat.zero_le _⟩ (fun i σ H' _ _ => s2 _) (fun i x σ H4 H4' hi p' y => ?_) (fun σ H' p' => ?_)
  · obtain ⟨⟨v2, rfl⟩, rfl, hi2⟩ := p'
    obtain ⟨rfl, hx⟩ := y
    obtain rfl | rfl | rfl : i = 0 ∨ i = 1 ∨ i = 2 := by omega
    · obtain rfl : x = V.int (-1) := (Option.some.inj hx).symm
      refine ⟨_, rfl, p, _, 1, _, rfl, rfl, hL, rfl, _, rfl, (-1), rfl, by decide +kernel, rfl, _, rfl, ?_⟩
      rw [show decide (V.str "1" = V.str (Str.ofString (toString (-1 : Int)))) = false from by decide +kernel]
      exact iteF ⟨⟨_, rfl⟩, rfl, by omega⟩
    · obtain rfl : x = V.int (0) := (Option.some.inj hx).symm
      refine ⟨_, rfl, p, _, 1, _, rfl, rfl, hL, rfl, _, rfl, (0), rfl, by decide +kernel, rfl, _, rfl, ?_⟩
      rw [show decide (V.str "1" = V.str (Str.ofString (toString (0 : Int)))) = false from by decide +kernel]
      exact iteF ⟨⟨_, rfl⟩, rfl, by omega⟩
    · obtain rfl : x = V.int 1 := (Option.some.inj hx).symm
      refine ⟨_, rfl, p, _, 1, _, rfl, rfl, hL, rfl, _, rfl, 1, rfl, by decide +kernel, rfl, _, rfl, ?_⟩
      rw [show decide (V.str "1" = V.str (Str.ofString (toString (1 : Int)))) = true from by decide +kernel]
      refine iteT ⟨_, rfl, p, _, 0, _, rfl, rfl, hL, rfl, _, rfl, _, rfl, p, _, 2, _, rfl, rfl, hL, rfl, fun x2 d2 hx2 hd2 hne2 => ?_⟩
      exact ⟨x2, d2, (k, 1, .own), rfl, .inr (.inr rfl), upd_same, fun H3 b3 hc => ⟨rfl, q H3 x2 (e1.trans (same_make hx2 hd2 b3)) hc⟩⟩
  · exact absurd p'.2.2 (by decide)
end
end K97
set_option maxHeartbeats 4000000
namespace K97
open PySem PySem.Spec PyProof.Rows L2
def tMakeV (i : Nat) (C : Addr) (sp : Sp) (dvs : List V) (E : XK) (t : TA) : TE := fun σ H Q => σ[i]? = some (some (.ref C)) ∧ tMake C sp dvs E t σ H Q
theorem pe_mkV {X : Cx} {k j i : Nat} {C : Addr} {sp : Sp} {dvs : List V} {x y : Str} {p pos : Pos} {e : Expr} {es : List Expr} {t : TA} (c : C8.Mak X.prog X.w X.K X.mg X.base k y C sp dvs) (hr : Room j X.A) (hk : k + 1 ≤ j) (hN : X.N[i]? = some x) (hv : Vis X.env.scope x) (ha : PA X (e :: es) t)
    (hdb : (x == ("__debug__" : Str)) = false := by decide) (hcd : (x == ("__classdict__" : Str)) = false := by decide)
    (he : starEach (e :: es) X.env = (false, eval e X.env) :: starEach es X.env := by rfl) (hpl : (backTo pos (starEach es X.env)).any (·.1) = false := by rfl) : PE X (.Call (.Name x p) (e :: es) [] pos) (tMakeV i C sp dvs C8.E0 t) := by
  obtain ⟨f, fd, ps, ds, M, F, hm, b, d⟩ := c.ex
  refine ⟨fun pins s σ H Q I h => ?_⟩
  obtain ⟨hs, ht⟩ := h
  refine wpAny_Call_Name_kw (thn ((pe_var (pos := p) hN hv hdb hcd).run pins s σ H (fun v H1 => v = .ref C ∧ H1 = H) I ⟨.ref C, hs, rfl, rfl⟩) fun u s1 ⟨v, H1, I1, r1, q1⟩ => ?_)
  obtain ⟨rfl, rfl⟩ := q1
  cases r1
  refine PySem.W.callWith_K (h₀ := X.base) I.ok.mod.kin M.kp (thn (ha.run pos pins s1 σ _ _ I1 ht) fun us s2 ⟨vs, H2, I2, r, q⟩ => ⟨I2.kIn, ?_⟩) he hpl
  exact run_make M F (hr.mono hk) b d C8.pass0 I2 r q
theorem tforE_if {K : PySem.W.Frag} {c : TT} {t1 t2 : TE} {g : TG} {tb : TS} {D : Ends} {σ : L2.St} {H : Hp} (R : V → Hp → Prop) (h : ∀ Q' : VK, (∀ v H', R v H' → Q' v H') → tIf c t1 t2 σ H Q') (q : ∀ v H', R v H' → tFor (iEnum K (tCons (tC v) tNil)) g tb D σ H') : tFor (iEnum K (tCons (tIf c t1 t2) tNil)) g tb D σ H := h _ fun v H' hv => q v H' hv
def ownText : Str := "first 1 own\nnew 1 own\nminus 1 own\nplus 1 own"
theorem own_split : Txt.split ownText "\n" = [Kd.first, .new, .minus, .plus].map lineOf := by decide +kernel
section
variable {P : Program} {w : World} {K : PySem.W.Frag} {mg : Str → Option Value} {base : Heap} {c : Cs}
/-! ### Report.read -/
def spRead (c : Cs) (K : PySem.W.Frag) : Sp := fun vs H Q _ => vs = [.ref c.R, .str ownText] ∧ ∀ H' a, Same H H' → RepAt c K H' a ownRows → Q (.ref a) H'
theorem sc_Read : FnScope ["cls", "text", "found", "at", "line", "row", "one"] ["cls", "text"] (defScope (inClass (top 80) 1)) := ⟨rfl, rfl, rfl, by decide +kernel, rfl, by decide +kernel, by decide +kernel⟩
theorem r_Read {f : Addr} {fd : FuncData} (fr : Free mg) (ok : CsOk K c) (cr : C8.Cal P w K mg base 4 "row_of_reports" (spRowOf c.C) []) (kr : C8.Mak P w K mg base 3 "Report" c.R (spRep c K) []) (F : FunD K "read" "Report.read" (defArgs (inClass (top 80) 1)) (defBody (inClass (top 80) 1)) (defScope (inClass (top 80) 1)) [] [] f fd) :
    FnR P w K mg base C8.CX0 5 f (spRead c K) := by
  have hF : FnOk P w K mg base C8.CX0 5 f fd ["cls", "text"] (spRead c K) := by
    refine fn_mk F sc_Read (fun vs H Q E h => by obtain ⟨rfl, _⟩ := h; rfl) fun f cdv A outer s H vs Q E hr h => ?_
    obtain ⟨rfl, q⟩ := h
    have nd := sc_Read.nd
    refine ⟨_, (pss_cons (ps_set (i := 2) nd rfl (.inl rfl) (pe_lst pa_nil))
      (pss_cons (ps_for PassesOwn.never rfl (pi_enum (by rfl) fr.enumerate (pa_cons (pe_ifExp (pt_cmpR op_ne (pv 1) pe_str (nomark _)) (pe_m1 PySem.F.slot_str_split PySem.F.type_str_split mt_split (pv 1) pe_str) (pe_lst pa_nil)) pa_nil)) (pg_tup (by rfl) (pgs_cons (pg_name (i := 3) nd rfl (.inl rfl)) (pgs_cons (pg_name (i := 4) nd rfl (.inl rfl)) pgs_nil)))
      (pss_cons (ps_set (i := 5) nd rfl (.inr rfl) (C8.pe_c cr hr (by decide) (by rfl) (pa_cons (pv 4) pa_nil)))
      (pss_cons (ps_if (PW.pt (pw_or (pt_cmp (pc_isN (pv 5))) (pw_or1 (pt_val (pe_callB (cr_any rfl) (by rfl) fr.any (by decide +kernel) (pa_cons (pe_lc (own := [("one", 6)]) (g := gName 6) (by rfl) nd (pi_list (pv 2)) (blkOk_by (own := [("one", 6)]) (N := ["cls", "text", "found", "at", "line", "row", "one"]) (sc := defScope (inClass (top 80) 1)) (by decide +kernel)) (fun _ _ _ _ _ => (pg_name (i := 6) nd rfl (.inl rfl))) (fun _ _ _ _ _ => pts_nil) (fun _ _ _ _ _ => (pe_cmpR op_eq (pe_fldK (K := K) rfl (pv 6) rfl) (pe_fldK (K := K) rfl (pv 5) rfl) (nomark _)))) pa_nil)))))) (pss_one ps_never) pss_nil)
      (pss_one (ps_expr (pe_bm PySem.F.plainAttrs_list PySem.F.slot_list_append PySem.F.type_list_append mt_append (pv 2) (pa_cons (pv 5) pa_nil)))))))
      (pss_one (ps_ret (pe_mkV (i := 0) kr hr (by decide) rfl (.inl rfl) (pa_cons (pv 2) pa_nil)))))), ?_⟩
    refine ⟨Nat.zero_le _, fun l hl => ?_⟩
    have e1 : Same H (upd H l (.lst [])) := Same.new hl
    have hL1 : upd H l (.lst []) l = some (.lst (([] : List Addr).map V.ref)) := upd_same
    generalize upd H l (.lst []) = H1 at e1 hL1 ⊢
    dsimp only [tSeq]
    refine tforE_if (fun v H' => ∃ p, v = .ref p ∧ H1 p = none ∧ H' = upd H1 p (.lst (([Kd.first, .new, .minus, .plus].map lineOf).map V.str))) (fun Q' hQ => ?_) (fun v H2 hv => ?_)
    · refine ⟨_, rfl, rfl, _, rfl, ?_⟩
      rw [show (!decide (V.str ownText = V.str "")) = true from by decide +kernel]
      refine iteT ⟨_, rfl, ⟨_, rfl⟩, _, _, rfl, rfl, by rfl, szl (by show ownText.length + 2 ≤ 1000000; decide +kernel), fun p hp => ?_⟩
      rw [own_split]
      exact hQ _ _ ⟨p, rfl, hp, rfl⟩
    obtain ⟨p, rfl, hp, rfl⟩ := hv
    have hlp : l ≠ p := ne_of_none hL1 hp
    have e2 : Same H (upd H1 p (.lst (([Kd.first, .new, .minus, .plus].map lineOf).map V.str))) := Same.newR e1 hp
    have hP2 : upd H1 p (.lst (([Kd.first, .new, .minus, .plus].map lineOf).map V.str)) p = some (.lst (([Kd.first, .new, .minus, .plus].map lineOf).map V.str)) := upd_same
    have hL2 : upd H1 p (.lst (([Kd.first, .new, .minus, .plus].map lineOf).map V.str)) l = some (.lst (([] : List Addr).map V.ref)) := by rw [upd_ne hlp]; exact hL1
    generalize upd H1 p (.lst (([Kd.first, .new, .minus, .plus].map lineOf).map V.str)) = H2 at e2 hP2 hL2 ⊢
    refine ⟨p, _, rfl, SqL.of hP2, ?_⟩
    refine for_it (walk_enum (xs := ([Kd.first, .new, .minus, .plus].map lineOf).map V.str)) (fun i σ H' => (∃ v3 v4 v5 v6 : Option V, σ = [some (.ref c.R), some (.str ownText), some (.ref l), v3, v4, v5, v6]) ∧ Same H H' ∧ H' p = some (.lst (([Kd.first, .new, .minus, .plus].map lineOf).map V.str)) ∧ ∃ as, H' l = some (.lst (as.map V.ref)) ∧ Paired (CntAt c.C H') as (ownRows.take i))
      ⟨⟨_, _, _, _, rfl⟩, e2, hP2, [], hL2, .nil⟩ (fun i σ H' _ p' => SqL.of p'.2.2.1) (fun i x σ H4 H4' hi p' y => ?_) (fun σ H' p' => ?_)
    · obtain ⟨⟨v3, v4, v5, v6, rfl⟩, e4, hP4, as, hL4, hC4⟩ := p'
      obtain ⟨T, xa, xb, rfl, hT, rfl, hxa, hxb⟩ := y
      obtain rfl := (Option.some.inj hxa).symm
      rw [List.length_map, List.length_map] at hi
      change i < 4 at hi
      obtain ⟨k, hk, hr1⟩ : ∃ k, [Kd.first, .new, .minus, .plus][i]? = some k ∧ ownRows[i]? = some (k, 1, .own) := by
        obtain rfl | rfl | rfl | rfl : i = 0 ∨ i = 1 ∨ i = 2 ∨ i = 3 := by omega
        · exact ⟨_, rfl, rfl⟩
        · exact ⟨_, rfl, rfl⟩
        · exact ⟨_, rfl, rfl⟩
        · exact ⟨_, rfl, rfl⟩
      change (([Kd.first, .new, .minus, .plus].map lineOf).map V.str)[i]? = some xb at hxb
      rw [List.getElem?_map, List.getElem?_map, hk] at hxb
      obtain rfl := (Option.some.inj hxb).symm
      have e5 : Same H4 (upd H4 T (.tup [.int (i : Nat), .str (lineOf k)])) := Same.new hT
      have hS : SqT K (upd H4 T (.tup [.int (i : Nat), .str (lineOf k)])) T [.int (i : Nat), .str (lineOf k)] := SqT.of upd_same
      generalize upd H4 T (.tup [.int (i : Nat), .str (lineOf k)]) = H5 at e5 hS ⊢
      refine ⟨T, _, rfl, hS, rfl, _, _, rfl, _, _, rfl, rfl, ?_⟩
      refine ⟨_, rfl, k, rfl, fun H6 ra e6 hra => ?_⟩
      have e46 := e5.trans e6
      have hL6 := e46 _ _ hL4
      have hC6 : Paired (CntAt c.C H6) as (ownRows.take i) := Paired.mapP hC4 fun a r hz => hz.kin (Same.kin e46)
      have hli : (ownRows.take i).length = i := by rw [List.length_take]; show min i 4 = i; omega
      have hal := Paired.length hC6
      obtain ⟨dxr, gr⟩ := id hra
      refine ⟨_, rfl, _, rfl, ?_⟩
      rw [show decide (V.ref ra = V.non) = false from rfl]
      simp only [Bool.false_eq_true, if_false]
      refine ⟨_, rfl, l, rfl, ⟨_, SqL.of hL6⟩, fun D1 hD1 => ?_⟩
      refine lc_vals (xs := as.map V.ref) walk_list (((as.map fun _ => false)).map V.bl) (by simp) (fun H' e => SqL.of (e _ _ hL6)) (by rw [List.length_map]; exact szl (by omega)) hD1
        (fun j x y H' C hx hy e hC => ?_) (fun σ H' Q Q' h t => h _ _ t) (fun x σ H' Q Q' h t => h _ _ t) (fun H7 e7 h7 => ?_)
      · have hjl : j < as.length := by
          have := (List.getElem?_eq_some_iff.mp hx).1
          rw [List.length_map] at this
          exact this
        have hr2 : (ownRows.take i)[j]? = some (ownRows.take i)[j] := List.getElem?_eq_getElem (by omega)
        obtain ⟨rb, hrb, dxb, gb⟩ := Paired.at hC6 hr2
        rw [List.getElem?_map, hrb] at hx
        rw [List.getElem?_map, List.getElem?_map, hrb] at hy
        obtain rfl := (Option.some.inj hx).symm
        obtain rfl := (Option.some.inj hy).symm
        have hnk : ((ownRows.take i)[j]'(by omega)).1 ≠ k := by
          have hm := List.mem_of_getElem? hr2
          have hno := nodup_next (rows := ownRows) (by decide) hr1
          exact fun z => hno (List.mem_map.mpr ⟨_, hm, z⟩)
        refine ⟨rfl, rfl, _, rfl, rb, c.C, dxb, _, _, rfl, e _ _ gb, ok.clC, ok.c_kind, rfl, _, rfl, ra, c.C, dxr, _, _, rfl, e _ _ gr, ok.clC, ok.c_kind, rfl, rfl, ?_⟩
        have hne : decide (V.str (kS ((ownRows.take i)[j]'(by omega)).1) = V.str (kS ((k, 1, .own) : Row).1)) = false := decide_eq_false fun z => hnk (kS_inj _ _ (V.str.inj z))
        rw [hne]
        exact hC _ (Same.refl _)
      · refine ⟨D1, _, rfl, SqL.of h7, _, rfl, ?_⟩
        rw [show (as.map fun _ => false).any id = false from by rw [List.any_eq_false]; intro x hx; obtain ⟨_, _, rfl⟩ := List.mem_map.mp hx; decide]
        simp only [Bool.false_eq_true, if_false]
        have hL7 := e7 _ _ hL6
        have e47 := e46.trans e7
        refine ⟨_, rfl, .inl ⟨rfl, _, SqL.of hL7⟩, _, rfl, l, _, _, rfl, rfl, hL7, szlt (by rw [List.length_map]; omega), ⟨_, _, _, _, rfl⟩, Same.mut (e4.trans e47) hl, by rw [upd_ne hlp.symm]; exact e47 _ _ hP4, as ++ [ra], by rw [upd_same, List.map_append]; rfl, ?_⟩
        rw [take_snoc hr1]
        exact Paired.snoc (Paired.mapP hC6 fun _ _ z => (z.kin (Same.kin e7)).kin (Kin.upd hL7)) ((hra.kin (Same.kin e7)).kin (Kin.upd hL7))
    · obtain ⟨⟨v3, v4, v5, v6, rfl⟩, e4, hP4, as, hL4, hC4⟩ := p'
      refine ⟨rfl, _, rfl, fun x2 d2 hx2 hd2 hne2 => ?_⟩
      have em : ∀ {b : Addr} {o : HO}, H' b = some o → upd (upd H' d2 (.own x2)) x2 (.ins c.R d2 []) b = some o := fun hb => by rw [upd_ne (ne_of_none hb hx2), upd_ne (ne_of_none hb hd2)]; exact hb
      refine ⟨x2, d2, l, as, ownRows, rfl, upd_same, em hL4, Paired.mapP hC4 fun a r hz => ?_, ⟨by decide, by decide, by decide⟩, fun H3 b3 hh => ⟨rfl, q H3 x2 (e4.trans (same_make hx2 hd2 b3)) hh⟩⟩
      obtain ⟨dxr, g⟩ := hz
      exact ⟨dxr, em g⟩
  refine (hF.raw (F.bindsN fun _ _ _ _ _ _ us hl => match us, hl with | [_, _], _ => rfl) .nil).imp fun vs H Q E h => ?_
  rw [List.append_nil]
  exact h
end
end K97
set_option maxHeartbeats 4000000
namespace K97
open PySem PySem.Spec PyProof.Rows L2 LamX ClX
/-- all but lists, tables and what is told by a wish -/
def Kx (H H' : Hp) : Prop := ∀ b o, (∀ l, o ≠ .lst l) → (∀ φ, o ≠ .ext φ) → (∀ ps, o ≠ .tbl ps) → H b = some o → H' b = some o
theorem Kx.refl (H : Hp) : Kx H H := fun _ _ _ _ _ h => h
theorem Kx.trans {H H1 H2 : Hp} (a : Kx H H1) (b : Kx H1 H2) : Kx H H2 := fun c o x y z h => b c o x y z (a c o x y z h)
theorem Kin.kx {H H' : Hp} (e : Kin H H') : Kx H H' := fun b o x y _ h => e b o x y h
theorem ExtN.kx {H H' : Hp} (e : ExtN H H') : Kx H H' := fun b o _ _ z h => e b o h z
theorem Kx.seqT {K : PySem.W.Frag} {H H' : Hp} {a : Addr} {xs : List V} (e : Kx H H') (h : SqT K H a xs) : SqT K H' a xs := by
  rcases h with (h | ⟨o, h⟩) | h
  · exact .inl (.inl (e _ _ (fun _ z => by cases z) (fun _ z => by cases z) (fun _ z => by cases z) h))
  · exact .inl (.inr ⟨o, e _ _ (fun _ z => by cases z) (fun _ z => by cases z) (fun _ z => by cases z) h⟩)
  · exact .inr h
theorem HouseAt.kx {C : Addr} {H H' : Hp} {a : Addr} {h : Hm} (e : Kx H H') (x : HouseAt C H a h) : HouseAt C H' a h := by
  obtain ⟨dx, d, fs, kvs, h1, h2, h3, h4, h5, h6⟩ := x
  exact ⟨dx, d, fs, kvs, e _ _ (fun _ z => by cases z) (fun _ z => by cases z) (fun _ z => by cases z) h1, h2, h3, h4, e _ _ (fun _ z => by cases z) (fun _ z => by cases z) (fun _ z => by cases z) h5, h6⟩
theorem CntAt.kx {C : Addr} {H H' : Hp} {a : Addr} {r : Row} (e : Kx H H') (h : CntAt C H a r) : CntAt C H' a r := by
  obtain ⟨dx, h⟩ := h
  exact ⟨dx, e _ _ (fun _ z => by cases z) (fun _ z => by cases z) (fun _ z => by cases z) h⟩
theorem byAt.kx {C : Addr} {H H' : Hp} {kvs : List (Key × V)} {k : Kd} (e : Kx H H') : ∀ {o : Option Row}, byAt C H kvs k o → byAt C H' kvs k o
  | none, h => h
  | some r, h => by
    obtain ⟨c, h1, h2⟩ := h
    exact ⟨c, h1, h2.kx e⟩
theorem RepAt.kx {c : Cs} {K : PySem.W.Frag} {H H' : Hp} {a : Addr} {rows : List Row} (e : Kx H H') (h : RepAt c K H a rows) : RepAt c K H' a rows := by
  obtain ⟨dx, t, d, cs, kvs, h⟩ := h
  exact ⟨dx, t, d, cs, kvs, e _ _ (fun _ z => by cases z) (fun _ z => by cases z) (fun _ z => by cases z) h.ob, e.seqT h.tt, Paired.mapP h.cn fun _ _ z => z.kx e, e _ _ (fun _ z => by cases z) (fun _ z => by cases z) (fun _ z => by cases z) h.dd, fun k => (h.by_ k).kx e⟩
theorem TR.kx {H H' : Hp} {t : Addr} {r : LRow} (e : Kx H H') (h : TR H t r) : TR H' t r := e _ _ (fun _ z => by cases z) (fun _ z => by cases z) (fun _ z => by cases z) h
theorem HTAt.kx {H H' : Hp} {t rt : Addr} {ts : List Addr} {dp : Nat} {ck : Str} {rows : List LRow} (e : Kx H H') (h : HTAt H t rt ts dp ck rows) : HTAt H' t rt ts dp ck rows :=
  ⟨e _ _ (fun _ z => by cases z) (fun _ z => by cases z) (fun _ z => by cases z) h.ob, e _ _ (fun _ z => by cases z) (fun _ z => by cases z) (fun _ z => by cases z) h.rs, Paired.mapP h.tr fun _ _ z => z.kx e, h.dp4, h.ck2, h.ok, h.few⟩
theorem Tabs.bx {T : List (Addr × Str)} {b : Addr} {H H' : Hp} (x : Bx b H H') (hb : BoxAt H b) (t : Tabs T H) : Tabs T H' := fun p hp => by
  obtain ⟨u, v, g, _⟩ := hb
  obtain ⟨ps, h1, h2, h3⟩ := t p hp
  refine ⟨ps, x.but _ _ (fun z => ?_) h1, h2, fun pos cv e => ?_⟩
  · rw [z, g] at h1
    cases h1
  · obtain ⟨cc, e1, e2⟩ := h3 pos cv e
    refine ⟨cc, e1, x.but _ _ (fun z => ?_) e2⟩
    rw [z, g] at e2
    cases e2
theorem ExtN.seqL {K : PySem.W.Frag} {H H' : Hp} {a : Addr} {xs : List V} (e : ExtN H H') (h : SqL K H a xs) : SqL K H' a xs := by
  rcases h with (h | ⟨o, h⟩) | h
  · exact .inl (.inl (e _ _ h fun _ z => by cases z))
  · exact .inl (.inr ⟨o, e _ _ h fun _ z => by cases z⟩)
  · exact .inr h
/-- a stretch of the law: its box and the tables stand, and what is made stays -/
structure Sx (T : List (Addr × Str)) (b : Addr) (H H' : Hp) : Prop where
  kb : ∀ p o, p ≠ b → (∀ ps, o ≠ .tbl ps) → H p = some o → H' p = some o
  kx : Kx H H'
  box : BoxAt H' b
  tab : Tabs T H'
theorem Sx.refl {T : List (Addr × Str)} {b : Addr} {H : Hp} (hb : BoxAt H b) (ht : Tabs T H) : Sx T b H H := ⟨fun _ _ _ _ h => h, Kx.refl _, hb, ht⟩
theorem Sx.bx {T : List (Addr × Str)} {b : Addr} {H H1 H2 : Hp} (x : Sx T b H H1) (e : Bx b H1 H2) : Sx T b H H2 := ⟨fun p o h1 h2 h => e.but p o h1 (x.kb p o h1 h2 h), x.kx.trans (e.kin x.box).kx, e.box, Tabs.bx e x.box x.tab⟩
theorem Sx.ext {T : List (Addr × Str)} {b : Addr} {H H1 H2 : Hp} (x : Sx T b H H1) (e : ExtN H1 H2) (t : Tabs T H2) : Sx T b H H2 := ⟨fun p o h1 h2 h => e p o (x.kb p o h1 h2 h) h2, x.kx.trans (ExtN.kx e), by
  obtain ⟨u, v, g, g2⟩ := x.box
  exact ⟨u, v, e _ _ g (fun _ z => by cases z), g2⟩, t⟩
theorem Sx.same {T : List (Addr × Str)} {b : Addr} {H H1 H2 : Hp} (x : Sx T b H H1) (e : Same H1 H2) : Sx T b H H2 := x.ext (Same.extN e) (x.tab.ext e)
theorem Sx.out {T : List (Addr × Str)} {b : Addr} {H0 H1 H2 H3 : Hp} (e : ExtN H0 H1) (n : H1 b = none) (s : Same H1 H2) (x : Sx T b H2 H3) : ExtN H0 H3 := fun p o h ht =>
  x.kb p o (ne_of_none (e p o h ht) n) ht (s _ _ (e p o h ht))
/-! ### the rows' laws -/
theorem rowOf_neg (rows : List Row) (k : Kd) : rowOf (negRows rows) k = (rowOf rows k).map fun r => (r.1, -r.2.1, r.2.2) := by
  unfold rowOf negRows
  induction rows with
  | nil => rfl
  | cons r rs ih =>
    rw [List.map_cons, List.find?_cons, List.find?_cons]
    by_cases h : r.1 = k
    · rw [decide_eq_true (show ((r.1, -r.2.1, r.2.2) : Row).1 = k from h)]
      rfl
    · rw [decide_eq_false (show ¬ ((r.1, -r.2.1, r.2.2) : Row).1 = k from h)]
      exact ih
theorem neg_wt (rows : List Row) (k : Kd) : (rpOf (negRows rows)).wt k = - (rpOf rows).wt k := by
  unfold rpOf
  show ((rowOf (negRows rows) k).map (·.2.1)).getD 0 = - ((rowOf rows k).map (·.2.1)).getD 0
  rw [rowOf_neg]
  cases rowOf rows k <;> rfl
theorem neg_wh (rows : List Row) (k : Kd) : (rpOf (negRows rows)).wh k = (rpOf rows).wh k := by
  unfold rpOf
  show ((rowOf (negRows rows) k).map (·.2.2)).getD .own = ((rowOf rows k).map (·.2.2)).getD .own
  rw [rowOf_neg]
  cases rowOf rows k <;> rfl
theorem own_wt (k : Kd) : (rpOf ownRows).wt k = 1 := by cases k <;> rfl
theorem own_wh (k : Kd) : (rpOf ownRows).wh k = .own := by cases k <;> rfl
def fullRows (o1 o2 o3 o4 : Ow) : List Row := [(.first, 1, o1), (.new, 1, o2), (.minus, 1, o3), (.plus, 1, o4)]
theorem full_wt (o1 o2 o3 o4 : Ow) (k : Kd) : (rpOf (fullRows o1 o2 o3 o4)).wt k = 1 := by cases k <;> rfl
theorem no_there {rows : List LRow} (h : rows.filter (fun r => decide (r.2.2.2 = .there)) = []) (k : Kd) (t : Stt) (d : Dd) : plOf rows k t d ≠ some .there := by
  unfold plOf
  intro e
  cases q : rows.find? fun r => decide (r.1 = k ∧ r.2.1 = t ∧ r.2.2.1 = d) with
  | none => rw [q] at e; cases e
  | some r =>
    rw [q] at e
    have hm := List.mem_of_find?_eq_some q
    have := List.filter_eq_nil_iff.mp h r hm
    exact this (decide_eq_true (Option.some.inj e))
/-! ### a drawn house's rows as data -/
def lD (r : LRow) : PyData := .tuple [.str (kS r.1), .str (tS r.2.1), .str (dS r.2.2.1), .str (pS r.2.2.2)]
theorem lD_lay (r : LRow) : (lD r).canLay0 = true := by
  obtain ⟨k, t, d, p⟩ := r
  have h1 : PyData.strOk (kS k) = true := by cases k <;> decide +kernel
  have h2 : PyData.strOk (tS t) = true := by cases t <;> decide +kernel
  have h3 : PyData.strOk (dS d) = true := by cases d <;> decide +kernel
  have h4 : PyData.strOk (pS p) = true := by cases p <;> decide +kernel
  simp only [lD, PyData.canLay0, PyData.canLayAll0, h1, h2, h3, h4, Bool.and_self]
theorem lD_dep (r : LRow) : (lD r).depth ≤ 1 := by simp [lD, PyData.depth, PyData.depthAll]
theorem lDs_lay : ∀ rows : List LRow, PyData.canLayAll0 (rows.map lD) = true
  | [] => rfl
  | r :: rows => by rw [List.map_cons]; simp only [PyData.canLayAll0, lD_lay, lDs_lay rows, Bool.and_self]
theorem lDs_dep : ∀ rows : List LRow, PyData.depthAll (rows.map lD) ≤ 2
  | [] => by simp [PyData.depthAll]
  | r :: rows => by
    have h1 := lDs_dep rows
    have h2 := lD_dep r
    simp only [List.map_cons, PyData.depthAll]
    omega
theorem lDs_shaped (rows : List LRow) : SeqAt.shaped (.list (rows.map lD)) = true := by
  have h1 := lDs_dep rows
  have h2 : PyData.depth (.list (rows.map lD)) ≤ 64 := by
    simp only [PyData.depth]
    omega
  show (PyData.canLay0 (.list (rows.map lD)) && decide (PyData.depth (.list (rows.map lD)) ≤ 64)) = true
  rw [Bool.and_eq_true]
  exact ⟨by simp only [PyData.canLay0]; exact lDs_lay rows, decide_eq_true h2⟩
theorem lDs_dp {K : PySem.W.Frag} {H : Hp} : ∀ {ts : List Addr} {rows : List LRow}, Paired (TR H) ts rows → DpAll K H (ts.map V.ref) (rows.map lD)
  | _, _, .nil => .nil
  | _, _, .cons a t => .cons (.tup (SqT.of a) (.cons (.str _) (.cons (.str _) (.cons (.str _) (.cons (.str _) .nil))))) (lDs_dp t)
theorem lDs_eqv (rows : List LRow) : PyData.eqv (.list (rows.map lD)) (.list []) = decide (rows = []) := by
  cases rows with
  | nil => rfl
  | cons r rs => simp [PyData.eqv, PyData.eqvAll]
/-- both ways of an if go on where R holds -/
theorem tif_rest {cc : TT} {t u : TS} {D : Ends} {σ : L2.St} {H : Hp} (R : L2.St → Hp → Prop) (h : ∀ D' : Ends, (∀ σ' H', R σ' H' → D'.nx σ' H') → tIfS cc t u D' σ H) (q : ∀ σ' H', R σ' H' → D.nx σ' H') : tIfS cc t u D σ H := h D q
end K97
set_option maxHeartbeats 4000000
namespace K97
open PySem PySem.Spec PyProof.Rows L2 LamX ClX
def mkRow (k : Kd) (o : Ow) : Row := (k, 1, o)
theorem zip_snoc : ∀ {ks : List Kd} {ows : List Ow} {k : Kd} (o : Ow), ks[ows.length]? = some k → List.zipWith mkRow ks (ows ++ [o]) = List.zipWith mkRow ks ows ++ [mkRow k o]
  | [], _, _, _, h => by simp at h
  | k0 :: ks, [], k, o, h => by
    simp only [List.length_nil, List.getElem?_cons_zero, Option.some.injEq] at h
    subst h
    simp
  | k0 :: ks, o0 :: ows, k, o, h => by
    simp only [List.length_cons, List.getElem?_cons_succ] at h
    simp only [List.cons_append, List.zipWith_cons_cons, zip_snoc o h]
section
variable {P : Program} {w : World} {K : PySem.W.Frag} {mg : Str → Option Value} {base : Heap} {c : Cs} {T : List (Addr × Str)}
abbrev nL : List Str := ["_law_script", "_law_own", "_law_k", "_law_box", "_law_turn", "_law_house_here", "_law_told", "_law_made", "_law_report_here", "_law_other", "_law_goal", "_law_kinds", "_law_owners", "_law_full", "_law_row", "_law_kind"]
theorem sc_law : FnScope nL ["_law_script"] (defScope (top 95)) := ⟨rfl, rfl, rfl, by decide +kernel, rfl, by decide +kernel, by decide +kernel⟩
def spLaw (K : PySem.W.Frag) (T : List (Addr × Str)) : Sp := fun vs H Q _ => ∃ (a : Addr) (ns : List Int), vs = [.ref a] ∧ ns.length ≤ 63 ∧ SqL K H a (ns.map V.int) ∧ Tabs T H ∧ ∀ H', Q (.bl true) H'
theorem c_law {fL fd : FuncData} {f pR gR fI : Addr} {mc : Value} (fr : Free mg) (ok : CsOk K c) (gR0 : mg "Report" = some (.ref c.R))
    (ch0 : C8.Cal P w K mg base 8 "happens" (spHap c K T) [V.non]) (ch1 : C8.Cal P w K mg base 8 "happens" (spHap c K T) [])
    (cso : C8.Cal P w K mg base 9 "_law_soon" (spSoon c K T) []) (cal : C8.Cal P w K mg base 8 "alike" (spAlike c K T) [])
    (csd : C8.Cal P w K mg base 1 "_law_seed" (spSeed K) []) (con : C8.Cal P w K mg base 2 "_law_one_of" spOne [])
    (clh : C8.Cal P w K mg base 4 "_law_house" spLHouse []) (clr : C8.Cal P w K mg base 3 "_law_report" (spRepL K) [])
    (cho : C8.Cal P w K mg base 5 "_law_house_of" (spHouseOf c.H) []) (cro : C8.Cal P w K mg base 5 "_law_report_of" (spRepOf c K) [])
    (cne : C8.Cal P w K mg base 4 "_law_near_report" (spNear K) [])
    (kc : C8.Mak P w K mg base 2 "Count" c.C (spCount c.C) []) (kr : C8.Mak P w K mg base 3 "Report" c.R (spRep c K) [])
    (rd : CRead K c.R mc) (rm : CMet K c.R mc "read" pR gR) (FR : FnR P w K mg base C8.CX0 5 gR (spRead c K))
    (hI : PySem.W.findIn K (.ref c.R) "__invert__" = some (some (.ref fI))) (hIf : PySem.W.isFn K (.ref fI) = true) (FI : FnR P w K mg base C8.CX0 5 fI (spInv c K))
    (F : FunD K "law" "law" (defArgs (top 95)) (defBody (top 95)) (defScope (top 95)) [] [] f fd) : FnOk P w K mg base C8.CX0 10 f fd ["_law_script"] (spLaw K T) := by
  refine fn_mk F sc_law (fun vs H Q E h => by obtain ⟨a, ns, rfl, _⟩ := h; rfl) fun f cdv A outer s H vs Q E hr h => ?_
  obtain ⟨a, ns, rfl, hns, hsc, hT, q⟩ := h
  have nd := sc_law.nd
  refine ⟨_, (pss_cons (ps_set (i := 1) nd rfl (.inl rfl) (ClX.pe_cmeth (E := C8.E0) (pe_glob (v := .ref c.R) (by rfl) gR0 rfl) rd rm FR (hr.mono (by decide)) C8.pass0 (pa_cons pe_str pa_nil)))
      (pss_cons (ps_for PassesOwn.never rfl (pi_range1 rfl fr.range (pa_cons (pe_callB (call_max2 rfl) (by rfl) fr.max (by decide +kernel) (pa_cons pe_int (pa_cons (pe_callB (call_min2 rfl) (by rfl) fr.min (by decide +kernel) (pa_cons pe_int (pa_cons (pe_callB call_len_seq (by rfl) fr.len PySem.boot_len (pa_cons (pv 0) pa_nil)) pa_nil))) pa_nil))) pa_nil)) (pg_name (i := 2) nd rfl (.inl rfl))
      (pss_cons (ps_set (i := 3) nd rfl (.inr rfl) (C8.pe_c csd hr (by decide) (by rfl) (pa_cons (pv 0) (pa_cons (pv 2) pa_nil))))
      (pss_one (ps_for PassesOwn.never rfl (pi_range1 rfl fr.range (pa_cons pe_int pa_nil)) (pg_name (i := 4) nd rfl (.inl rfl))
      (pss_cons (ps_par (i := 5) (j := 6) rfl nd rfl rfl (by decide) rfl rfl (pa_cons (C8.pe_c clh hr (by decide) (by rfl) (pa_cons (pv 3) (pa_cons pe_int pa_nil))) (pa_cons (C8.pe_c clr hr (by decide) (by rfl) (pa_cons (pv 3) pa_nil)) pa_nil)) (by rfl))
      (pss_cons (ps_par (i := 7) (j := 8) rfl nd rfl rfl (by decide) rfl rfl (pa_cons (C8.pe_c cho hr (by decide) (by rfl) (pa_cons (pv 5) pa_nil)) (pa_cons (C8.pe_c cro hr (by decide) (by rfl) (pa_cons (pv 6) pa_nil)) pa_nil)) (by rfl))
      (pss_cons (ps_set (i := 9) nd rfl (.inl rfl) (C8.pe_c cro hr (by decide) (by rfl) (pa_cons (C8.pe_c cne hr (by decide) (by rfl) (pa_cons (pv 3) (pa_cons (pv 6) pa_nil))) pa_nil)))
      (pss_cons (ps_if (pt_val (C8.pe_c cal hr (by decide) (by rfl) (pa_cons (pv 7) (pa_cons (pv 8) (pa_cons (pv 9) pa_nil))))) (pss_one (ps_for PassesOwn.never rfl (pi_tup (pe_tup (pa_cons pe_str (pa_cons pe_str pa_nil)))) (pg_name (i := 10) nd rfl (.inl rfl))
      (pss_one (ps_if (pt_cmpR op_ne (C8.pe_c cso hr (by decide) (by rfl) (pa_cons (pv 7) (pa_cons (pv 10) (pa_cons (pv 8) pa_nil)))) (C8.pe_c cso hr (by decide) (by rfl) (pa_cons (pv 7) (pa_cons (pv 10) (pa_cons (pv 9) pa_nil)))) (nomark _)) (pss_one (ps_ret pe_bl)) pss_nil)))) pss_nil)
      (pss_cons (ps_if (pt_cmpR op_ne (C8.pe_c cso hr (by decide) (by rfl) (pa_cons (pv 7) (pa_cons pe_str (pa_cons (pe_un (un_invO hI hIf FI (hr.mono (by decide))) (pv 8)) pa_nil)))) (C8.pe_c cso hr (by decide) (by rfl) (pa_cons (pv 7) (pa_cons pe_str (pa_cons (pv 8) pa_nil)))) (nomark _)) (pss_one (ps_ret pe_bl)) pss_nil)
      (pss_cons (ps_if (PW.pt (pw_or (pt_val (C8.pe_c ch1 hr (by decide) (by rfl) (pa_cons (pv 7) (pa_cons pe_str (pa_cons (pv 1) pa_nil))))) (pw_or1 (pt_cmpR op_ne (C8.pe_c cso hr (by decide) (by rfl) (pa_cons (pv 7) (pa_cons pe_str (pa_cons (pv 1) pa_nil)))) (C8.pe_c cso hr (by decide) (by rfl) (pa_cons (pv 7) (pa_cons pe_str (pa_cons pe_non pa_nil)))) (nomark _))))) (pss_one (ps_ret pe_bl)) pss_nil)
      (pss_cons (ps_if (PW.pt (pw_and (pt_cmpR (op_eqD hr.units) (pe_lc (own := [("_law_row", 14)]) (g := gName 14) (by rfl) nd (pi_tup (pe_ix ix_tup (pv 5) pe_int (fun _ _ => rfl))) (blkOk_by (own := [("_law_row", 14)]) (N := nL) (sc := defScope (top 95)) (by decide +kernel)) (fun _ _ _ _ _ => (pg_name (i := 14) nd rfl (.inl rfl))) (fun _ _ _ _ _ => (pts_one (pt_cmpR op_eq (pe_ix (ix_tupK (K := K) rfl) (pv 14) pe_int (fun _ _ => rfl)) pe_str (nomark _)))) (fun _ _ _ _ _ => (pv 14))) (pe_lst pa_nil) (nomark _)) (pw_and1 (pt_val (C8.pe_c ch0 hr (by decide) (by rfl) (pa_cons (pv 7) (pa_cons pe_str pa_nil))))))) (pss_one (ps_ret pe_bl)) pss_nil)
      (pss_cons (ps_asg (pe_tup (pa_cons (pe_lst (pa_cons pe_str (pa_cons pe_str (pa_cons pe_str (pa_cons pe_str pa_nil))))) (pa_cons (pe_lst (pa_cons pe_str (pa_cons pe_str (pa_cons pe_str pa_nil)))) pa_nil))) (pg_tup (by rfl) (pgs_cons (pg_name (i := 11) nd rfl (.inl rfl)) (pgs_cons (pg_name (i := 12) nd rfl (.inr rfl)) pgs_nil))))
      (pss_cons (ps_set (i := 13) nd rfl (.inl rfl) (C8.pe_mk kr hr (by decide) (by rfl) (pa_cons (pe_lc (own := [("_law_kind", 15)]) (g := gName 15) (by rfl) nd (pi_list (pv 11)) (blkOk_by (own := [("_law_kind", 15)]) (N := nL) (sc := defScope (top 95)) (by decide +kernel)) (fun _ _ _ _ _ => (pg_name (i := 15) nd rfl (.inl rfl))) (fun _ _ _ _ _ => pts_nil) (fun _ _ _ _ _ => (C8.pe_mk kc hr (by decide) (by rfl) (pa_cons (pv 15) (pa_cons pe_int (pa_cons (C8.pe_c con hr (by decide) (by rfl) (pa_cons (pv 3) (pa_cons (pv 12) pa_nil))) pa_nil)))))) pa_nil)))
      (pss_one (ps_if (PW.pt (pw_or (pt_val (C8.pe_c ch1 hr (by decide) (by rfl) (pa_cons (pv 7) (pa_cons pe_str (pa_cons (pv 13) pa_nil))))) (pw_or1 (pt_cmpR op_ne (C8.pe_c cso hr (by decide) (by rfl) (pa_cons (pv 7) (pa_cons pe_str (pa_cons (pv 13) pa_nil)))) (C8.pe_c cso hr (by decide) (by rfl) (pa_cons (pv 7) (pa_cons pe_str (pa_cons (pv 1) pa_nil)))) (nomark _))))) (pss_one (ps_ret pe_bl)) pss_nil)))))))))))))))
      (pss_one (ps_ret pe_bl)))), ?_⟩
  refine ⟨rfl, rfl, fun H1 o e1 hO => ?_⟩
  have hsc1 := ExtN.seqL (Same.extN e1) hsc
  have hT1 := hT.ext e1
  refine ⟨_, rfl, a, _, rfl, .inl hsc1, 3, _, rfl, 2, _, rfl, ?_⟩
  generalize hm : (if (if (((ns.map V.int).length : Nat) : Int) < 3 then (((ns.map V.int).length : Nat) : Int) else 3) > 2 then (if (((ns.map V.int).length : Nat) : Int) < 3 then (((ns.map V.int).length : Nat) : Int) else 3) else 2) = m
  have hm0 : 0 ≤ m := by subst hm; split <;> omega
  have hm3 : m ≤ 3 := by subst hm; split <;> (try split) <;> omega
  obtain ⟨n, rfl⟩ : ∃ n : Nat, m = (n : Int) := ⟨m.toNat, by omega⟩
  refine ⟨(n : Int), rfl, by omega, by omega, ?_⟩
  refine for_it (walk_range (n := n)) (fun i σ H' => (∃ v2 v3 v4 v5 v6 v7 v8 v9 v10 v11 v12 v13 v14 v15 : Option V, σ = [some (.ref a), some (.ref o), v2, v3, v4, v5, v6, v7, v8, v9, v10, v11, v12, v13, v14, v15]) ∧ ExtN H1 H' ∧ Tabs T H')
    ⟨⟨_, _, _, _, _, _, _, _, _, _, _, _, _, _, rfl⟩, ExtN.refl _, hT1⟩ (fun i σ H' _ _ => trivial) (fun i x σ H2 H2' hi p y => ?_) (fun σ H' p => q _)
  obtain ⟨⟨v2, v3, v4, v5, v6, v7, v8, v9, v10, v11, v12, v13, v14, v15, rfl⟩, x2, hT2⟩ := p
  obtain ⟨rfl, rfl⟩ := y
  refine ⟨_, rfl, _, rfl, a, _, ns, rfl, by omega, by omega, ExtN.seqL x2 hsc1, fun H3 b e3 hb0 hb => ?_⟩
  have x3 := x2.trans (Same.extN e3)
  have S3 : Sx T b H3 H3 := Sx.refl hb (hT2.ext e3)
  have hO3 := RepAt.extN x3 hO
  refine ⟨3, rfl, by omega, by omega, ?_⟩
  refine for_it (walk_range (n := 3)) (fun j σ H' => (∃ v4 v5 v6 v7 v8 v9 v10 v11 v12 v13 v14 v15 : Option V, σ = [some (.ref a), some (.ref o), some (.int (0 + (i : Int))), some (.ref b), v4, v5, v6, v7, v8, v9, v10, v11, v12, v13, v14, v15]) ∧ Sx T b H3 H')
    ⟨⟨_, _, _, _, _, _, _, _, _, _, _, _, rfl⟩, S3⟩ (fun i σ H' _ _ => trivial) (fun j x σ H4 H4' hj p y => ?_) (fun σ H' p => ?_)
  case refine_2 =>
    obtain ⟨⟨v4, v5, v6, v7, v8, v9, v10, v11, v12, v13, v14, v15, rfl⟩, S⟩ := p
    exact ⟨⟨_, _, _, _, _, _, _, _, _, _, _, _, _, _, rfl⟩, Sx.out x2 hb0 e3 S, S.tab⟩
  obtain ⟨⟨v4, v5, v6, v7, v8, v9, v10, v11, v12, v13, v14, v15, rfl⟩, S⟩ := p
  obtain ⟨rfl, rfl⟩ := y
  -- the house, the report
  refine ⟨_, rfl, b, 8, rfl, by omega, by omega, S.box, fun H5 t rt ts dp ck rows B5 hHT => ?_⟩
  refine ⟨_, rfl, b, rfl, B5.box, fun H6 t2 ts2 rws B6 hRT => ?_⟩
  refine ⟨_, _, rfl, ?_⟩
  have S6 := (S.bx B5).bx B6
  have hHT6 := hHT.kin (B6.kin B5.box)
  have hok1 := hRT.ok
  refine ⟨_, rfl, t, rt, ts, dp, ck, rows, rfl, hHT6, fun H7 mh e7 hM => ?_⟩
  refine ⟨_, rfl, t2, ts2, rws, rfl, hRT.kin (Same.kin e7), fun H8 r1 e8 hR1 => ?_⟩
  refine ⟨_, _, rfl, ?_⟩
  have S8 := (S6.same e7).same e8
  have hRT8 := (hRT.kin (Same.kin e7)).kin (Same.kin e8)
  have hM8 := hM.same e8
  have hHT8 := (hHT6.kin (Same.kin e7)).kin (Same.kin e8)
  refine ⟨_, rfl, _, rfl, b, t2, ts2, rws, rfl, S8.box, hRT8, fun H9 t3 ts3 rws2 B9 hRT3 => ⟨t3, ts3, rws2, rfl, hRT3, fun H10 r2 e10 hR2 => ?_⟩⟩
  have S10 := (S8.bx B9).same e10
  have k910 : Kx H8 H10 := (B9.kin S8.box).kx.trans (Same.kin e10).kx
  have hM10 := hM8.kx k910
  have hR1' := hR1.kx k910
  have hHT10 := hHT8.kx k910
  have hO10 := hO3.kx S10.kx
  have hdp : dp ≤ 4 := hHT.dp4
  clear hHT hHT6 hHT8 hRT hRT8 hRT3 hM hM8 hR1 k910 S8 S6 S B5 B6 B9 e7 e8 e10
  generalize hh : (⟨dp, plOf rows⟩ : Hm) = h at *
  have hd4 : h.depth ≤ 4 := by rw [← hh]; exact hdp
  dsimp only [tSeq, tAsg, gName]
  refine tif_rest (fun σ H' => (∃ u10 u11 u12 u13 u14 u15 : Option V, σ = [some (.ref a), some (.ref o), some (.int (0 + (i : Int))), some (.ref b), some (.int (0 + (j : Int))), some (.ref t), some (.ref t2), some (.ref mh), some (.ref r1), some (.ref r2), u10, u11, u12, u13, u14, u15]) ∧ Sx T b H3 H' ∧ Kx H10 H') (fun D' hD => ?_) (fun σ H11 hR => ?_)
  · refine ⟨_, rfl, _, rfl, _, rfl, mh, r1, r2, h, rws, rws2, rfl, hM10, hd4, hR1', hR2, S10.tab, fun H11 x11 t11 => ⟨_, rfl, ?_⟩⟩
    have S11 := S10.ext x11 t11
    cases hse : search h (otherwise (rpOf rws) (rpOf rws2)) with
    | some way => exact iteF (hD _ _ ⟨⟨_, _, _, _, _, _, rfl⟩, S11, ExtN.kx x11⟩)
    | none =>
      refine iteT ⟨szl (by show 2 ≤ 1000000; decide), fun tg htg => ?_⟩
      have eT : Same H11 (upd H11 tg (.tup [V.str "changed", .str "wrong"])) := Same.new htg
      have sT : SqT K (upd H11 tg (.tup [V.str "changed", .str "wrong"])) tg [V.str "changed", .str "wrong"] := SqT.of upd_same
      have S12 := S11.same eT
      have k12 : Kx H10 (upd H11 tg (.tup [V.str "changed", .str "wrong"])) := (ExtN.kx x11).trans (Same.kin eT).kx
      generalize upd H11 tg (.tup [V.str "changed", .str "wrong"]) = H12 at eT sT S12 k12 ⊢
      refine ⟨tg, rfl, ⟨_, sT⟩, ?_⟩
      refine for_it (walk_tup (xs := [V.str "changed", .str "wrong"])) (fun l σ H' => (∃ u10 u11 u12 u13 u14 u15 : Option V, σ = [some (.ref a), some (.ref o), some (.int (0 + (i : Int))), some (.ref b), some (.int (0 + (j : Int))), some (.ref t), some (.ref t2), some (.ref mh), some (.ref r1), some (.ref r2), u10, u11, u12, u13, u14, u15]) ∧ Sx T b H3 H' ∧ Kx H10 H' ∧ SqT K H' tg [V.str "changed", .str "wrong"])
        ⟨⟨_, _, _, _, _, _, rfl⟩, S12, k12, sT⟩ (fun l σ H' _ p => p.2.2.2) (fun l x σ H13 H13' hl p y => ?_) (fun σ H' p => hD _ _ ⟨p.1, p.2.1, p.2.2.1⟩)
      obtain ⟨⟨u10, u11, u12, u13, u14, u15, rfl⟩, S13, k13, sT13⟩ := p
      obtain ⟨rfl, hx⟩ := y
      obtain ⟨gs, g, rfl, hg, hsn⟩ : ∃ (gs : Str) (g : Rp → Stp → Bool), x = .str gs ∧ (∀ H a rows, RepAt c K H a rows → GoalAt c K H gs (.ref a) (g (rpOf rows))) ∧ soon h (g (rpOf rws)) = soon h (g (rpOf rws2)) := by
        change l < 2 at hl
        obtain rfl | rfl : l = 0 ∨ l = 1 := by omega
        · exact ⟨_, changed, (Option.some.inj hx).symm, fun H a rows z => .inl ⟨a, rows, rfl, rfl, z, rfl⟩, alike_changed hse⟩
        · exact ⟨_, wrong, (Option.some.inj hx).symm, fun H a rows z => .inr (.inl ⟨a, rows, rfl, rfl, z, rfl⟩), alike_wrong hse⟩
      refine ⟨_, rfl, _, rfl, _, rfl, mh, h, gs, .ref r1, _, rfl, hM10.kx k13, hd4, hg _ _ _ (hR1'.kx k13), S13.tab, fun H14 x14 t14 => ?_⟩
      have S14 := S13.ext x14 t14
      have k14 := k13.trans (ExtN.kx x14)
      refine ⟨_, rfl, _, rfl, _, rfl, mh, h, gs, .ref r2, _, rfl, hM10.kx k14, hd4, hg _ _ _ (hR2.kx k14), S14.tab, fun H15 x15 t15 => ⟨rfl, _, rfl, ?_⟩⟩
      rw [hsn, decide_eq_true rfl]
      exact iteF ⟨⟨_, _, _, _, _, _, rfl⟩, S14.ext x15 t15, k14.trans (ExtN.kx x15), ExtN.seqT x15 (ExtN.seqT x14 sT13)⟩
  obtain ⟨⟨u10, u11, u12, u13, u14, u15, rfl⟩, S11, k11⟩ := hR
  -- contrary weights
  obtain ⟨dxr, tr, dr, csr, kvr, gr⟩ := hR1'.kx k11
  refine ⟨_, rfl, _, rfl, r1, dxr, _, rfl, gr.ob, r1, rws, rfl, hR1'.kx k11, hok1, fun H12 r3 e12 hR3 => ?_⟩
  have S12 := S11.same e12
  have k12 := k11.trans (Same.kin e12).kx
  refine ⟨mh, h, "changed", .ref r3, _, rfl, hM10.kx k12, hd4, .inl ⟨r3, _, rfl, rfl, hR3, rfl⟩, S12.tab, fun H13 x13 t13 => ?_⟩
  have S13 := S12.ext x13 t13
  have k13 := k12.trans (ExtN.kx x13)
  refine ⟨_, rfl, _, rfl, mh, h, "changed", .ref r1, _, rfl, hM10.kx k13, hd4, .inl ⟨r1, _, rfl, rfl, hR1'.kx k13, rfl⟩, S13.tab, fun H14 x14 t14 => ⟨rfl, _, rfl, ?_⟩⟩
  rw [contrary_changed (neg_wt rws) (neg_wh rws), decide_eq_true rfl]
  refine iteF ?_
  have S14 := S13.ext x14 t14
  have k14 := k13.trans (ExtN.kx x14)
  -- all weights 1, own months
  refine ⟨_, rfl, _, rfl, mh, h, "wrong", .ref o, _, rfl, hM10.kx k14, hd4, .inr (.inl ⟨o, _, rfl, rfl, hO10.kx k14, rfl⟩), S14.tab, fun H15 x15 t15 => ⟨_, rfl, ?_⟩⟩
  have S15 := S14.ext x15 t15
  have k15 := k14.trans (ExtN.kx x15)
  rw [never_wrong own_wt]
  simp only [Option.isSome_none, Bool.false_eq_true, if_false]
  refine ⟨_, rfl, _, rfl, mh, h, "changed", .ref o, _, rfl, hM10.kx k15, hd4, .inl ⟨o, _, rfl, rfl, hO10.kx k15, rfl⟩, S15.tab, fun H16 x16 t16 => ?_⟩
  have S16 := S15.ext x16 t16
  have k16 := k15.trans (ExtN.kx x16)
  refine ⟨_, rfl, mh, h, "moved", .non, moved, rfl, hM10.kx k16, hd4, .inr (.inr ⟨rfl, rfl⟩), S16.tab, fun H17 x17 t17 => ⟨rfl, _, rfl, ?_⟩⟩
  rw [own_changed own_wt own_wh, decide_eq_true rfl]
  refine iteF ?_
  have S17 := S16.ext x17 t17
  have k17 := k16.trans (ExtN.kx x17)
  -- nothing is put there
  dsimp only [tNext, tSeq, tAsg, gName]
  refine tif_rest (fun σ H' => (∃ u10 u11 u12 u13 u14 u15 : Option V, σ = [some (.ref a), some (.ref o), some (.int (0 + (i : Int))), some (.ref b), some (.int (0 + (j : Int))), some (.ref t), some (.ref t2), some (.ref mh), some (.ref r1), some (.ref r2), u10, u11, u12, u13, u14, u15]) ∧ Sx T b H3 H' ∧ Kx H10 H') (fun D' hD => ?_) (fun σ H18 hR => ?_)
  · have hHT17 := hHT10.kx k17
    refine ⟨_, rfl, t, _, 2, _, rfl, rfl, SqT.of hHT17.ob, rfl, rt, rfl, ⟨_, SqT.of hHT17.rs⟩, fun DL hDL => ?_⟩
    refine lc_it (walk_tup (xs := ts.map V.ref)) (fun l H' => Same H17 H' ∧ ∃ fs : List Addr, H' DL = some (.lst (fs.map V.ref)) ∧ Paired (TR H') fs ((rows.take l).filter fun r => decide (r.2.2.2 = .there))) ⟨Same.new hDL, [], upd_same, .nil⟩ (fun l H' _ p => Same.seqT p.1 (SqT.of hHT17.rs)) (fun l x H1 H' hl p y => ?_) (fun H18 p => ?_)
    · obtain ⟨e, fs, hfs, hPf⟩ := p
      obtain ⟨rfl, hx⟩ := y
      have hlr : l < rows.length := by
        have := Paired.length hHT17.tr
        rw [List.length_map] at hl
        omega
      have hr0 : rows[l]? = some rows[l] := List.getElem?_eq_getElem hlr
      generalize rows[l] = r0 at hr0
      obtain ⟨ra, hra, hrt⟩ := Paired.at hHT17.tr hr0
      rw [List.getElem?_map, hra] at hx
      obtain rfl := (Option.some.inj hx).symm
      have hS0 := SqT.of (K := K) (e _ _ hrt)
      have hlen := Paired.length hPf
      have hfl := List.length_filter_le (fun r : LRow => decide (r.2.2.2 = .there)) (rows.take l)
      have hfew := hHT17.few
      have htk : (rows.take l).length ≤ rows.length := List.length_take_le' ..
      refine ⟨rfl, _, rfl, ra, _, 3, _, rfl, rfl, hS0, rfl, rfl, _, rfl, ?_⟩
      rw [take_snoc hr0, List.filter_append]
      have hdec : decide (V.str (pS r0.2.2.2) = V.str "there") = decide (r0.2.2.2 = .there) := by cases r0.2.2.2 <;> decide +kernel
      rw [hdec]
      by_cases hth : r0.2.2.2 = .there
      · rw [List.filter_cons_of_pos (by rw [decide_eq_true hth]), List.filter_nil, decide_eq_true hth]
        refine iteT ⟨_, rfl, _, hfs, szlt (by rw [List.length_map]; omega), Same.mut e hDL, fs ++ [ra], by rw [upd_same, List.map_append]; rfl, ?_⟩
        exact Paired.snoc (Paired.mapP hPf fun _ _ z => z.kin (Kin.upd hfs)) (TR.kin (Kin.upd hfs) (e _ _ hrt))
      · rw [List.filter_cons_of_neg (by rw [decide_eq_false hth]; decide), List.filter_nil, List.append_nil, decide_eq_false hth]
        exact iteF ⟨e, fs, hfs, hPf⟩
    · obtain ⟨e18, fs, hfs, hPf⟩ := p
      rw [show (ts.map V.ref).length = rows.length from by rw [List.length_map]; exact Paired.length hHT17.tr, List.take_length] at hPf
      have S18 := S17.same e18
      have k18 := k17.trans (Same.kin e18).kx
      refine ⟨Nat.zero_le _, fun pe hpe => ?_⟩
      have eE : Same H18 (upd H18 pe (.lst [])) := Same.new hpe
      have S19 := S18.same eE
      have k19 := k18.trans (Same.kin eE).kx
      refine ⟨_, .list [], .lst (SqL.of (eE _ _ hfs)) (lDs_dp (Paired.mapP hPf fun _ _ z => z.same eE)), .lst (SqL.of upd_same) .nil, lDs_shaped _, by rfl, _, rfl, ?_⟩
      generalize upd H18 pe (.lst []) = H19 at S19 k19 ⊢
      rw [lDs_eqv]
      by_cases hno : (rows.filter fun r => decide (r.2.2.2 = .there)) = []
      · rw [decide_eq_true hno]
        refine iteT ⟨_, rfl, mh, h, "moved", .non, moved, rfl, hM10.kx k19, hd4, .inr (.inr ⟨rfl, rfl⟩), S19.tab, fun H20 x20 t20 => ⟨_, rfl, ?_⟩⟩
        rw [never_moved (by rw [← hh]; exact no_there hno)]
        exact iteF (hD _ _ ⟨⟨_, _, _, _, _, _, rfl⟩, S19.ext x20 t20, k19.trans (ExtN.kx x20)⟩)
      · rw [decide_eq_false hno]
        exact iteF (iteF (hD _ _ ⟨⟨_, _, _, _, _, _, rfl⟩, S19, k19⟩))
  obtain ⟨⟨w10, w11, w12, w13, w14, w15, rfl⟩, S18, k18⟩ := hR
  refine ⟨szl (by show 4 ≤ 1000000; decide), fun lk hlk => ?_⟩
  have eA : Same H18 (upd H18 lk (.lst ([Kd.first, .new, .minus, .plus].map fun k => V.str (kS k)))) := Same.new hlk
  have hK1 : upd H18 lk (.lst ([Kd.first, .new, .minus, .plus].map fun k => V.str (kS k))) lk = some (.lst ([Kd.first, .new, .minus, .plus].map fun k => V.str (kS k))) := upd_same
  have nkb : lk ≠ b := S18.box.ne hlk
  have S19 := S18.same eA
  have k19 := k18.trans (Same.kin eA).kx
  change tLst _ _ (upd H18 lk (.lst ([Kd.first, .new, .minus, .plus].map fun k => V.str (kS k)))) _
  generalize upd H18 lk (.lst ([Kd.first, .new, .minus, .plus].map fun k => V.str (kS k))) = H19 at eA hK1 S19 k19 ⊢
  refine ⟨szl (by show 3 ≤ 1000000; decide), fun lo hlo => ?_⟩
  have nob : lo ≠ b := S19.box.ne hlo
  have eB : Same H19 (upd H19 lo (.lst [V.str "target", .str "top", .str "deed"])) := Same.new hlo
  have hO1 : upd H19 lo (.lst [V.str "target", .str "top", .str "deed"]) lo = some (.lst [V.str "target", .str "top", .str "deed"]) := upd_same
  have S20 := S19.same eB
  have k20 := k19.trans (Same.kin eB).kx
  have hK2 := eB _ _ hK1
  generalize upd H19 lo (.lst [V.str "target", .str "top", .str "deed"]) = H20 at eB hO1 S20 k20 hK2 ⊢
  refine ⟨szl (by show 2 ≤ 1000000; decide), fun tt htt => ?_⟩
  have eC : Same H20 (upd H20 tt (.tup [V.ref lk, .ref lo])) := Same.new htt
  have sC : SqT K (upd H20 tt (.tup [V.ref lk, .ref lo])) tt [V.ref lk, .ref lo] := SqT.of upd_same
  have S21 := S20.same eC
  have k21 := k20.trans (Same.kin eC).kx
  have hK3 := eC _ _ hK2
  have hO3' := eC _ _ hO1
  generalize upd H20 tt (.tup [V.ref lk, .ref lo]) = H21 at eC sC S21 k21 hK3 hO3' ⊢
  refine ⟨tt, _, rfl, sC, rfl, _, _, rfl, _, _, rfl, rfl, ?_⟩
  -- the full report
  refine ⟨_, rfl, lk, rfl, ⟨_, SqL.of hK3⟩, fun D hD => ?_⟩
  have nDb : D ≠ b := S21.box.ne hD
  have nkD : lk ≠ D := ne_of_none hK3 hD
  have noD : lo ≠ D := ne_of_none hO3' hD
  refine lc_it (walk_list (xs := [Kd.first, .new, .minus, .plus].map fun k => V.str (kS k))) (fun l H' => Bx b H21 H' ∧ ∃ (as : List Addr) (ows : List Ow), H' D = some (.lst (as.map V.ref)) ∧ ows.length = l ∧ Paired (CntAt c.C H') as (List.zipWith mkRow [Kd.first, .new, .minus, .plus] ows))
    ⟨(Bx.refl S21.box).new hD, [], [], upd_same, rfl, .nil⟩ (fun l H' _ p => SqL.of (p.1.but _ _ nkb hK3)) (fun l x H1' H' hl p y => ?_) (fun H22 p => ?_)
  · obtain ⟨xB, as, ows, hA, hol, hPc⟩ := p
    obtain ⟨rfl, hx⟩ := y
    rw [List.length_map] at hl
    change l < 4 at hl
    obtain ⟨k, hk⟩ : ∃ k, [Kd.first, .new, .minus, .plus][l]? = some k := ⟨_, List.getElem?_eq_getElem hl⟩
    rw [List.getElem?_map, hk] at hx
    obtain rfl := (Option.some.inj hx).symm
    have hlen := Paired.length hPc
    have hzl : (List.zipWith mkRow [Kd.first, .new, .minus, .plus] ows).length ≤ 4 := by rw [List.length_zipWith]; exact Nat.min_le_left _ _
    refine ⟨rfl, _, rfl, _, rfl, _, rfl, b, lo, _, rfl, xB.but _ _ nob hO3', nob, by show 1 ≤ 3; decide, by show 3 ≤ 1000; decide, xB.box, fun H23 y B23 hy => fun x2 d2 hx2 hd2 hne2 => ?_⟩
    obtain ⟨ow, rfl⟩ : ∃ w : Ow, y = .str (oS w) := by
      simp only [List.mem_cons, List.not_mem_nil, or_false] at hy
      rcases hy with z | z | z
      · exact ⟨.target, z⟩
      · exact ⟨.top, z⟩
      · exact ⟨.deed, z⟩
    refine ⟨x2, d2, mkRow k ow, rfl, .inr (.inr rfl), upd_same, fun H24 b3 hc => ⟨rfl, ?_⟩⟩
    have e24 := same_make hx2 hd2 b3
    have X24 := (xB.trans B23).same e24
    have hA24 := e24 _ _ (B23.but _ _ nDb hA)
    have kin24 := (B23.kin xB.box).trans (Same.kin e24)
    refine ⟨_, hA24, szlt (by rw [List.length_map]; omega), X24.mutN hD S21.box, as ++ [x2], ows ++ [ow], by rw [upd_same, List.map_append]; rfl, by rw [List.length_append, hol]; rfl, ?_⟩
    rw [zip_snoc ow (by rw [hol]; exact hk)]
    exact Paired.snoc (Paired.mapP hPc fun _ _ z => (z.kin kin24).kin (Kin.upd hA24)) (hc.kin (Kin.upd hA24))
  obtain ⟨xB, as, ows, hA, hol, hPc⟩ := p
  obtain ⟨o1, o2, o3, o4, rfl⟩ : ∃ o1 o2 o3 o4, ows = [o1, o2, o3, o4] := by
    match ows, hol with
    | [o1, o2, o3, o4], _ => exact ⟨o1, o2, o3, o4, rfl⟩
  change Paired (CntAt c.C H22) as (fullRows o1 o2 o3 o4) at hPc
  have S22 := S21.bx xB
  have k22 := k21.trans (xB.kin S21.box).kx
  intro x2 d2 hx2 hd2 hne2
  have em : ∀ {p : Addr} {u : HO}, H22 p = some u → upd (upd H22 d2 (.own x2)) x2 (.ins c.R d2 []) p = some u := fun hp => by rw [upd_ne (ne_of_none hp hx2), upd_ne (ne_of_none hp hd2)]; exact hp
  refine ⟨x2, d2, D, as, fullRows o1 o2 o3 o4, rfl, upd_same, em hA, Paired.mapP hPc fun u r hz => ?_, ⟨by show [Kd.first, .new, .minus, .plus].Nodup; decide, by show 4 ≤ 4; decide, fun r hr => ?_⟩, fun H23 b23 hFR => ⟨rfl, ?_⟩⟩
  · obtain ⟨dxr, g⟩ := hz
    exact ⟨dxr, em g⟩
  · unfold fullRows at hr
    simp only [List.mem_cons, List.not_mem_nil, or_false] at hr
    rcases hr with rfl | rfl | rfl | rfl <;> exact .inr (.inr rfl)
  have e23 := same_make hx2 hd2 b23
  have S23 := S22.same e23
  have k23 := k22.trans (Same.kin e23).kx
  refine ⟨_, rfl, _, rfl, mh, h, "wrong", .ref x2, _, rfl, hM10.kx k23, hd4, .inr (.inl ⟨x2, _, rfl, rfl, hFR, rfl⟩), S23.tab, fun H24 x24 t24 => ⟨_, rfl, ?_⟩⟩
  have S24 := S23.ext x24 t24
  have k24 := k23.trans (ExtN.kx x24)
  rw [never_wrong (full_wt o1 o2 o3 o4)]
  simp only [Option.isSome_none, Bool.false_eq_true, if_false]
  refine ⟨_, rfl, _, rfl, mh, h, "moved", .ref x2, moved, rfl, hM10.kx k24, hd4, .inr (.inr ⟨rfl, rfl⟩), S24.tab, fun H25 x25 t25 => ?_⟩
  have S25 := S24.ext x25 t25
  have k25 := k24.trans (ExtN.kx x25)
  refine ⟨_, rfl, _, rfl, mh, h, "moved", .ref o, moved, rfl, hM10.kx k25, hd4, .inr (.inr ⟨rfl, rfl⟩), S25.tab, fun H26 x26 t26 => ⟨rfl, _, rfl, ?_⟩⟩
  rw [decide_eq_true rfl]
  exact iteF ⟨⟨_, _, _, _, _, _, _, _, _, _, _, _, rfl⟩, S25.ext x26 t26⟩
end
end K97
set_option maxHeartbeats 4000000
namespace K97
open PySem PySem.Spec PyProof.Rows L2 LamX ClX
/-- all that the text and the module's objects must say -/
structure Fx (P : Program) (K : PySem.W.Frag) (mg : Str → Option Value) (c : Cs) (CT Mv Hi CL cc1 cc2 : Addr) : Prop where
  fr : Free mg
  ok : CsOk K c
  tr : TrOk K CT
  lt : LtOk K CL
  ct : CtOk K c.C
  hs : HsOk K c.H
  hi : NoAttr K Hi "moves"
  hcl : Cls K Hi
  isC : IsI K c.C c.C
  isL : IsI K CL CL
  gC : mg "Count" = some (.ref c.C)
  gL : mg "Let" = some (.ref CL)
  gR : mg "Report" = some (.ref c.R)
  gM : mg "Move" = some (.ref Mv)
  more : ∃ tk, mg "MORE" = some (.int 3 tk)
  most : ∃ tk, mg "MOST_DEPTH" = some (.int 4 tk)
  beg : BegT K mg
  kinds : TupT K mg "KINDS" ["first", "new", "minus", "plus"]
  owners : TupT K mg "OWNERS" ["own", "target", "top", "deed"]
  weights : IntT K mg "WEIGHTS" [-1, 0, 1]
  checks : TupT K mg "CHECKS" ["left", "all"]
  goals : TupT K mg "GOALS" ["changed", "moved", "over", "twice", "wrong"]
  ofr : TupT K mg "OF_REPORTS" ["changed", "wrong"]
  states : TupT K mg "STATES" ["open", "shut"]
  deeds : TupT K mg "DEEDS" ["whole", "part", "right"]
  places : TupT K mg "PLACES" ["now", "there"]
  d18 : DefT K mg "is_integer" "is_integer" "is_integer" (top 18) []
  d19 : DefT K mg "is_number" "is_number" "is_number" (top 19) []
  d20 : DefT K mg "is_amount" "is_amount" "is_amount" (top 20) []
  d21 : DefT K mg "is_sequence" "is_sequence" "is_sequence" (top 21) []
  d36 : DefT K mg "beginning" "beginning" "beginning" (top 36) []
  d37 : DefT K mg "ranked" "ranked" "ranked" (top 37) []
  d38 : DefT K mg "kind_at" "kind_at" "kind_at" (top 38) []
  d39 : DefT K mg "put_into" "put_into" "put_into" (top 39) []
  d40 : DefT K mg "goals_of" "goals_of" "goals_of" (top 40) []
  d41 : DefT K mg "opposed" "opposed" "opposed" (top 41) []
  d42 : DefT K mg "takes" "takes" "takes" (top 42) []
  d43 : DefT K mg "rights" "rights" "rights" (top 43) []
  d46 : DefT K mg "steps" "steps" "steps" (top 46) []
  d47 : DefT K mg "meets" "meets" "meets" (top 47) []
  d48 : DefT K mg "followed" "followed" "followed" (top 48) []
  d52 : DefT K mg "need_goal" "need_goal" "need_goal" (top 52) []
  d54 : DefT K mg "history_of" "history_of" "history_of" (top 54) []
  d55 : DefTc K mg "way_to" "way_to" "way_to" (top 55) cc1
  d56 : DefN K mg "happens" "happens" "happens" (top 56)
  d57 : DefN K mg "least" "least" "least" (top 57)
  d59 : DefT K mg "counts_otherwise" "counts_otherwise" "counts_otherwise" (top 59) []
  d60 : DefTc K mg "way_apart" "way_apart" "way_apart" (top 60) cc2
  d61 : DefT K mg "alike" "alike" "alike" (top 61) []
  d65 : DefT K mg "is_one_of" "is_one_of" "is_one_of" (top 65) []
  d71 : DefT K mg "first_places" "first_places" "first_places" (top 71) []
  d77 : DefT K mg "row_of_reports" "row_of" "row_of" (top 77) []
  d79 : DefT K mg "are_rows" "are_rows" "are_rows" (top 79) []
  d84 : DefT K mg "_law_seed" "_law_seed" "_law_seed" (top 84) []
  d85 : DefT K mg "_law_choose" "_law_choose" "_law_choose" (top 85) []
  d86 : DefT K mg "_law_one_of" "_law_one_of" "_law_one_of" (top 86) []
  d87 : DefT K mg "_law_rows" "_law_rows" "_law_rows" (top 87) []
  d88 : DefT K mg "_law_house" "_law_house" "_law_house" (top 88) []
  d89 : DefT K mg "_law_report" "_law_report" "_law_report" (top 89) []
  d90 : DefT K mg "_law_let_of" "_law_let_of" "_law_let_of" (top 90) []
  d91 : DefT K mg "_law_house_of" "_law_house_of" "_law_house_of" (top 91) []
  d92 : DefT K mg "_law_report_of" "_law_report_of" "_law_report_of" (top 92) []
  d93 : DefT K mg "_law_near_report" "_law_near_report" "_law_near_report" (top 93) []
  d94 : DefT K mg "_law_soon" "_law_soon" "_law_soon" (top 94) []
  kMade : ClsT K mg "Made" "Made.__init__" c.M (inClass (top 34) 0) []
  kStep : ClsT K mg "Step" "Step.__init__" c.S (inClass (top 35) 0) []
  kTrack : ClsT K mg "Track" "Track.__init__" CT (inClass (top 53) 0) []
  kLet : ClsT K mg "Let" "Let.__init__" CL (inClass (top 66) 0) []
  kCount : ClsT K mg "Count" "Count.__init__" c.C (inClass (top 76) 0) []
  kHist : ClsD K mg "History" "History.__init__" Hi (inClass (top 31) 0)
  kHouse : ClsD K mg "House" "House.__init__" c.H (inClass (top 72) 0)
  kRep : ClsD K mg "Report" "Report.__init__" c.R (inClass (top 80) 0)
  mPut : MetT K CT "put" "Track.put" (inClass (top 53) 1) []
  mTake : MetT K CT "take" "Track.take" (inClass (top 53) 2) []
  mFollow : MetT K CT "follow" "Track.follow" (inClass (top 53) 3) []
  mPlaced : MetT K c.H "placed" "House.placed" (inClass (top 72) 2) []
  mWeight : MetT K c.R "weight_of" "Report.weight_of" (inClass (top 80) 2) []
  mMonth : MetT K c.R "month_of" "Report.month_of" (inClass (top 80) 3) []
  sB : ∃ D f, SubT P K mg "Begin" D Mv "Begin.__init__" (inClass (top 25) 0) [] f ∧ NoAttr K D "amount"
  sT : ∃ D f, SubT P K mg "Take" D Mv "Take.__init__" (inClass (top 26) 0) [V.non] f ∧ NoAttr K D "amount" ∧ NoAttr K D "at"
  sR : ∃ D f, SubT P K mg "Right" D Mv "Right.__init__" (inClass (top 27) 0) [] f ∧ NoAttr K D "amount" ∧ NoAttr K D "at"
  sS : ∃ D f, SubT P K mg "Shut" D Mv "Shut.__init__" (inClass (top 28) 0) [] f
  hlen : ∃ f fd, PySem.W.findIn K (.ref Hi) "__len__" = some (some (.ref f)) ∧ PySem.W.isFn K (.ref f) = true ∧ FunD K "__len__" "History.__len__" (defArgs (inClass (top 31) 2)) (defBody (inClass (top 31) 2)) (defScope (inClass (top 31) 2)) [] [] f fd
  inv : ∃ f fd, PySem.W.findIn K (.ref c.R) "__invert__" = some (some (.ref f)) ∧ PySem.W.isFn K (.ref f) = true ∧ FunD K "__invert__" "Report.__invert__" (defArgs (inClass (top 80) 5)) (defBody (inClass (top 80) 5)) (defScope (inClass (top 80) 5)) [] [] f fd
  read : ∃ mc p f fd, CRead K c.R mc ∧ CMet K c.R mc "read" p f ∧ FunD K "read" "Report.read" (defArgs (inClass (top 80) 1)) (defBody (inClass (top 80) 1)) (defScope (inClass (top 80) 1)) [] [] f fd
section
variable {P : Program} {w : World} {K : PySem.W.Frag} {mg : Str → Option Value} {base : Heap} {c : Cs} {CT Mv Hi CL cc1 cc2 Pt1 Pt2 : Addr}
abbrev tabs (Pt1 Pt2 : Addr) : List (Addr × Str) := [(Pt1, qW), (Pt2, qA)]
theorem law_of {f : Addr} {fd : FuncData} (x : Fx P K mg c CT Mv Hi CL cc1 cc2) (t1 : TabB base mg cc1 Pt1) (t2 : TabB base mg cc2 Pt2) (ne : Pt1 ≠ Pt2)
    (F : FunD K "law" "law" (defArgs (top 95)) (defBody (top 95)) (defScope (top 95)) [] [] f fd) : FnOk P w K mg base C8.CX0 10 f fd ["_law_script"] (spLaw K (tabs Pt1 Pt2)) := by
  have u1 : ∀ q ∈ tabs Pt1 Pt2, q.1 = Pt1 → q.2 = qW := fun q hq e => by
    simp only [tabs, List.mem_cons, List.not_mem_nil, or_false] at hq
    rcases hq with rfl | rfl
    · rfl
    · exact absurd e.symm ne
  have u2 : ∀ q ∈ tabs Pt1 Pt2, q.1 = Pt2 → q.2 = qA := fun q hq e => by
    simp only [tabs, List.mem_cons, List.not_mem_nil, or_false] at hq
    rcases hq with rfl | rfl
    · exact absurd e ne
    · rfl
  have i1 : (Pt1, qW) ∈ tabs Pt1 Pt2 := List.mem_cons_self
  have i2 : (Pt2, qA) ∈ tabs Pt1 Pt2 := List.mem_cons_of_mem _ List.mem_cons_self
  have p18 := c_is_integer (P := P) (w := w) (mg := mg) (base := base) x.fr x.d18
  have p19 := c_is_number p18 x.d19
  have p20 := c_is_amount p18 x.d20
  have p21 := c_is_sequence (P := P) (w := w) (mg := mg) (base := base) x.fr x.d21
  have kMade := k_Made (P := P) (w := w) (mg := mg) (base := base) x.kMade x.ok.m_kind x.ok.m_owners
  have kStep := k_Step (P := P) (w := w) (mg := mg) (base := base) x.kStep x.ok.s_name x.ok.s_deed x.ok.s_behind x.ok.s_made x.ok.s_met x.ok.s_latest
  have p36 := c_beginning x.beg kMade kStep x.d36
  have p37 := c_ranked (P := P) (w := w) (mg := mg) (base := base) x.fr x.d37
  have p38 := c_kind_at (P := P) (w := w) (mg := mg) (base := base) x.d38
  have mPl := m_placed (P := P) (w := w) (mg := mg) (base := base) x.ok.clH x.mPlaced x.ok.h_places
  have p39 := c_put_into p38 mPl x.d39
  have p40 := c_goals_of (P := P) (w := w) (mg := mg) (base := base) x.d40
  have p41 := c_opposed x.fr p37 p38 kMade x.d41
  have p42 := c_takes x.fr p39 p41 p40 kStep x.ok.h_depth x.ok.clH x.d42
  have p43 := c_rights x.fr p39 p41 p37 p40 kStep kMade x.ok.h_depth x.ok.clH x.d43
  have p46 := c_steps x.fr p42 p43 p37 kStep x.d46
  have mW := m_weight (P := P) (w := w) (mg := mg) (base := base) x.ok x.mWeight
  have mM := m_month (P := P) (w := w) (mg := mg) (base := base) x.ok x.mMonth
  have p47 := c_meets x.fr x.ok mW mM x.d47
  have p52 := c_need (P := P) (w := w) (mg := mg) (base := base) x.fr x.goals x.ofr x.d52
  have p55 := c_way x.fr x.ok x.beg p36 p46 p47 p52 x.d48 t1 i1 u1 x.d55
  have p59 := c_other x.ok mW mM x.d59
  have p60 := c_apart x.fr x.ok x.beg p36 p46 p59 x.d48 t2 i2 u2 x.d60
  have p61 := c_alike p60 x.d61
  obtain ⟨dB, fB, sB, nB⟩ := x.sB
  obtain ⟨dT, fT, sT, nT1, nT2⟩ := x.sT
  obtain ⟨dR, fR, sR, nR1, nR2⟩ := x.sR
  obtain ⟨dS, fS, sS⟩ := x.sS
  have M : MvR P w K mg base Mv := ⟨⟨dB, fB, sB.mkk, sB.gl, sB.is_, r_Begin sB x.fr.super nB p20⟩, ⟨dT, fT, sT.mkk, sT.gl, sT.is_, fun j hj => r_Take j sT x.fr.super nT1 nT2 p20 p19 hj⟩, ⟨dR, fR, sR.mkk, sR.gl, sR.is_, r_Right sR x.fr.super nR1 nR2 p20 p19⟩, ⟨dS, fS, sS.mkk, sS.gl, sS.is_, r_Shut sS x.fr.super⟩⟩
  have kTr := k_Track (P := P) (w := w) (mg := mg) (base := base) x.kTrack x.tr
  have mPut := m_put (P := P) (w := w) (mg := mg) (base := base) x.tr x.mPut
  have mTk := m_tk x.tr M mPut x.mTake
  obtain ⟨tk1, hmore⟩ := x.more
  have mFo := m_follow x.ok x.tr M mPut mTk hmore x.mFollow
  have kHi := k_Hist x.fr x.hi x.gM p21 x.kHist
  have p54 := c_hof x.ok x.tr kTr mFo kHi x.d54
  have p56a := c_hap 0 (.inl rfl) p55 x.d56
  have p56b := c_hap 1 (.inr rfl) p55 x.d56
  have p57 := c_least p55 p54 x.d57
  obtain ⟨fL, fdL, l1, l2, l3⟩ := x.hlen
  have rL := r_HLen (P := P) (w := w) (mg := mg) (base := base) x.fr x.hcl x.hi l3
  have p94 := c_soon x.fr p57 l1 l2 rL x.d94
  have p65 := c_is_one_of (P := P) (w := w) (mg := mg) (base := base) x.fr x.d65
  have kLt := k_Let x.lt p65 x.kinds x.states x.deeds x.places x.kLet
  have kCt := k_Count x.fr x.ct p18 x.kinds x.weights x.owners x.kCount
  have p71 := c_FP (P := P) (w := w) (mg := mg) (base := base) x.lt x.d71
  obtain ⟨tk2, hmost⟩ := x.most
  have kHs := k_House x.fr x.hs x.isL x.gL p18 p21 p65 p71 x.checks hmost x.kHouse
  have p79 := c_are x.fr x.ok x.isC x.gC p21 x.d79
  have kRp := k_Rep x.fr x.ok p79 x.kRep
  obtain ⟨fI, fdI, v1, v2, v3⟩ := x.inv
  have rI := r_Inv x.ok kCt kRp v3
  have p77 := c_rowof x.fr kCt x.kinds x.weights x.owners x.d77
  obtain ⟨mc, pR, fRd, fdR, rd, rm, rf⟩ := x.read
  have rR := r_Read x.fr x.ok p77 kRp rf
  have p84 := c_seed (P := P) (w := w) (mg := mg) (base := base) x.fr x.d84
  have p85 := c_choose (P := P) (w := w) (mg := mg) (base := base) x.fr x.d85
  have p86 := c_one x.fr p85 x.d86
  have p87 := c_rows x.fr p86 x.d87
  have p88 := c_lhouse x.fr p85 p86 p87 x.d88
  have p89 := c_repl x.fr p85 p86 x.d89
  have p90 := c_letof kLt x.d90
  have p91 := c_houseof p90 kHs x.d91
  have p92 := c_repof kCt kRp x.d92
  have p93 := c_near x.fr p85 p86 p89 x.d93
  exact c_law (fL := fd) x.fr x.ok x.gR p56a p56b p94 p61 p84 p86 p88 p89 p91 p92 p93 kCt kRp rd rm rR v1 v2 rI F
end
end K97
set_option maxHeartbeats 4000000
namespace K97
open PySem PySem.Spec PyProof.Rows L2 LamX ClX
theorem isiB_ok {K : PySem.W.Frag} {C D : Addr} (cl : Cls K C) (h : isiB K C D = true) : IsI K C D := by
  obtain ⟨h1, h⟩ := He.ba h
  obtain ⟨h2, h⟩ := He.ba h
  obtain ⟨h3, h⟩ := He.ba h
  obtain ⟨h4, h5⟩ := He.ba h
  exact ⟨cl, He.eqO_ok h1, He.eqO_ok h2, of_decide_eq_true h3, of_decide_eq_true h4, of_decide_eq_true h5⟩
theorem cellB_ok {K : PySem.W.Frag} {cc D : Addr} (h : cellB K cc D = true) : ∃ cl cld csl, K.lookup cc = some ⟨cl, cld, .cell (some (.ref D)), csl⟩ := by
  unfold cellB at h
  split at h
  · rename_i c1 c2 d c3 e
    exact ⟨c1, c2, c3, by rw [e, of_decide_eq_true h]⟩
  · cases h
theorem codeB_ok {K : PySem.W.Frag} {cda : Addr} {qual : Str} (h : codeB K cda qual = true) : ∃ ccl cdd vs ccs file tf tq, K.lookup cda = some ⟨ccl, cdd, .fields vs, ccs⟩ ∧ vs[2]? = some (Value.str file tf) ∧ (file0 == file) = true ∧ vs[1]? = some (Value.str qual tq) := by
  unfold codeB at h
  split at h
  · rename_i c1 c2 vs c3 e
    split at h
    · rename_i file tf q tq e1 e2
      obtain ⟨h1, h2⟩ := He.ba h
      exact ⟨c1, c2, vs, c3, file, tf, tq, e, e1, h1, by rw [e2, of_decide_eq_true h2]⟩
    · cases h
  · cases h
theorem tupA_ok {K : PySem.W.Frag} {a : Addr} {vs : List V} (h : tupA K a vs = true) (H : Hp) : SqT K H a vs := by
  unfold tupA at h
  split at h
  · rename_i c o its n sl e
    obtain ⟨h1, h2⟩ := He.ba h
    obtain ⟨h3, h4⟩ := He.ba h2
    exact .inr ⟨_, its, n, e, congrArg Value.type (of_decide_eq_true h1), rfl, of_decide_eq_true h3, He.relAll_ok h4⟩
  · cases h
abbrev PP : Program := (PySem.Challenge.rw_contrabooks_k97_whole_reports_and_goals).prog
theorem sup_of {K : PySem.W.Frag} {x qual : Str} {st : Stmt} {dvs : List V} (e : fnC K (He.ma K (He.ga K x) "__init__") = valC "__init__" qual st ["__class__"]) (h : supB K x qual dvs = true) (hc : supC K x = true) (hm : mvB K = true) :
    ∃ cc cda, SupT PP K (He.ga K x) cc cda (He.ma K (He.ga K x) "__init__") (He.ma K (He.ga K "Move") "__init__") qual (defArgs st) (defBody st) (defScope st) dvs ∧ PySem.W.codeIn K (.ref cda) qual = true := by
  unfold supB at h
  unfold fnC at e
  split at h
  · rename_i c1 c2 fd c3 lk
    rw [lk] at e
    split at h
    · rename_i nm cc cda hcl hcd
      obtain ⟨g1, h⟩ := He.ba h
      obtain ⟨g2, h⟩ := He.ba h
      obtain ⟨g3, g4⟩ := He.ba h
      obtain ⟨k1, hc⟩ := He.ba hc
      obtain ⟨k2, k3⟩ := He.ba hc
      obtain ⟨m1, hm⟩ := He.ba hm
      obtain ⟨m2, m3⟩ := He.ba hm
      obtain ⟨n1, n2, n3, n4, n5, n6, n7, n8, n9, n10, n11, n12, n13, n14, n15⟩ := fd
      simp only at hcl hcd
      subst hcl hcd
      have e2 : (some (n1, n2, n3, n4, n5, n6, [nm], n15) : FnC) = some (Str.ofString "__init__", qual, defArgs st, FuncBody.stmts (defBody st), defScope st, mainGlobals, [Str.ofString "__class__"], builtinsNs) := e
      simp only [Option.some.injEq, Prod.mk.injEq, List.cons.injEq, and_true] at e2
      obtain ⟨h1, h2, h3, h4, h5, h6, h7, h8⟩ := e2
      subst h1 h2 h3 h4 h5 h6 h7 h8
      exact ⟨cc, cda, ⟨cellB_ok g1, Option.isSome_iff_exists.mp k1, of_decide_eq_true k2, He.eqO_ok k3, of_decide_eq_true m1, m2, He.eqO_ok m3, ⟨c1, c2, _, _, _, _, _, _, c3, lk, He.dflB_ok g4⟩, codeB_ok g2, by decide +kernel⟩, g3⟩
    · cases h
  · cases h
end K97
set_option maxHeartbeats 4000000
namespace K97
open PySem PySem.Spec PyProof.Rows L2 LamX ClX
abbrev csOf (K : PySem.W.Frag) : Cs := ⟨He.ga K "Step", He.ga K "Made", He.ga K "House", He.ga K "Report", He.ga K "Count"⟩
theorem read_of {K : PySem.W.Frag} (e : fnC K (He5.wf K (He.ga K "Report") "classmethod" "read") = valC "read" "Report.read" (inClass (top 80) 1) []) (h : rd2B K = true) :
    ∃ fd, FunD K "read" "Report.read" (defArgs (inClass (top 80) 1)) (defBody (inClass (top 80) 1)) (defScope (inClass (top 80) 1)) [] [] (He5.wf K (He.ga K "Report") "classmethod" "read") fd := by
  obtain ⟨kp, h⟩ := He.ba h
  unfold fnC at e
  split at h
  · rename_i c1 c2 fd c3 lk
    rw [lk] at e
    obtain ⟨g1, h⟩ := He.ba h
    obtain ⟨g2, g3⟩ := He.ba h
    obtain ⟨n1, n2, n3, n4, n5, n6, n7, n8, n9, n10, n11, n12, n13, n14, n15⟩ := fd
    have e2 : (some (n1, n2, n3, n4, n5, n6, n7.map (·.1), n15) : FnC) = some (Str.ofString "read", Str.ofString "Report.read", defArgs (inClass (top 80) 1), FuncBody.stmts (defBody (inClass (top 80) 1)), defScope (inClass (top 80) 1), mainGlobals, [], builtinsNs) := e
    simp only [Option.some.injEq, Prod.mk.injEq, List.map_eq_nil_iff] at e2
    obtain ⟨h1, h2, h3, h4, h5, h6, h7, h8⟩ := e2
    subst h1 h2 h3 h4 h5 h6 h7 h8
    exact ⟨_, ⟨c1, c2, n8, n9, n10, n11, n12, n13, n14, c3, rfl, lk, g1, He.dflB_ok g2, He.kwdB_ok g3⟩, kp⟩
  · cases h
section
variable {w : World} {h : Heap} {K : PySem.W.Frag} {mg : Str → Option Value}
theorem fx_free (X : K.In h) (G : h.Ns mainGlobals mg) (c : SaysZ w h K) : Free mg := ⟨(He.free_ok X G (c.x.t.d.fact 62 (f := .free "len") rfl)), (He.free_ok X G (c.x.t.d.fact 63 (f := .free "sorted") rfl)), (He.free_ok X G (c.x.t.d.fact 64 (f := .free "set") rfl)), (He.free_ok X G (c.x.t.d.fact 65 (f := .free "int") rfl)), (He.free_ok X G (c.x.t.d.fact 66 (f := .free "tuple") rfl)), (He.free_ok X G (c.x.t.d.fact 77 (f := .free "list") rfl)), (He.free_ok X G (c.x.t.d.fact 78 (f := .free "bool") rfl)), (He.free_ok X G (c.x.t.d.fact 67 (f := .free "isinstance") rfl)), (He.free_ok X G (c.x.t.d.fact 68 (f := .free "any") rfl)), (He.free_ok X G (c.x.t.d.fact 69 (f := .free "all") rfl)), (He.free_ok X G (c.x.t.d.fact 70 (f := .free "abs") rfl)), (He.free_ok X G (c.x.t.d.fact 71 (f := .free "str") rfl)), (He.free_ok X G (c.x.t.d.fact 72 (f := .free "enumerate") rfl)), (He.free_ok X G (c.x.t.d.fact 73 (f := .free "range") rfl)), (He.free_ok X G (c.x.t.d.fact 74 (f := .free "min") rfl)), (He.free_ok X G (c.x.t.d.fact 75 (f := .free "max") rfl)), (He.free_ok X G (c.x.t.d.fact 76 (f := .free "super") rfl))⟩
theorem fx_ok (c : SaysZ w h K) : CsOk K (csOf K) := ⟨(He.cls_ok (c.x.t.d.fact 87 (f := .cls "Step") rfl)), (He.cls_ok (c.x.t.d.fact 86 (f := .cls "Made") rfl)), (He.cls_ok (c.x.t.d.fact 90 (f := .cls "House") rfl)), (He.cls_ok (c.x.t.d.fact 92 (f := .cls "Report") rfl)), (He.cls_ok (c.x.t.d.fact 91 (f := .cls "Count") rfl)), (He.noat_ok (c.x.t.d.fact 104 (f := .noat "Step" "name") rfl)), (He.noat_ok (c.x.t.d.fact 105 (f := .noat "Step" "deed") rfl)), (He.noat_ok (c.x.t.d.fact 106 (f := .noat "Step" "behind") rfl)), (He.noat_ok (c.x.t.d.fact 107 (f := .noat "Step" "made") rfl)), (He.noat_ok (c.x.t.d.fact 108 (f := .noat "Step" "met") rfl)), (He.noat_ok (c.x.t.d.fact 109 (f := .noat "Step" "latest") rfl)), (He.noat_ok (c.x.t.d.fact 102 (f := .noat "Made" "kind") rfl)), (He.noat_ok (c.x.t.d.fact 103 (f := .noat "Made" "owners") rfl)), (He.noat_ok (c.x.t.d.fact 118 (f := .noat "House" "depth") rfl)), (He.noat_ok (c.x.t.d.fact 119 (f := .noat "House" "check") rfl)), (He.noat_ok (c.x.t.d.fact 120 (f := .noat "House" "rows") rfl)), (He.noat_ok (c.x.t.d.fact 121 (f := .noat "House" "places") rfl)), (He.noat_ok (c.x.t.d.fact 125 (f := .noat "Report" "rows") rfl)), (He.noat_ok (c.x.t.d.fact 126 (f := .noat "Report" "by_kind") rfl)), (He.noat_ok (c.x.t.d.fact 122 (f := .noat "Count" "kind") rfl)), (He.noat_ok (c.x.t.d.fact 123 (f := .noat "Count" "weight") rfl)), (He.noat_ok (c.x.t.d.fact 124 (f := .noat "Count" "whose") rfl))⟩
theorem ref_code {x : Str} {nm qual : Str} {st : Stmt} {d : He.DefD} (g : mg x = some (.ref (He.ga K x))) (F : ∃ fd, FunD K nm qual (defArgs st) (defBody st) (defScope st) [] [] (He.fAd K (x, none)) fd) : DefTc K mg x nm qual st (He.codeOf K (x, none)) := by
  obtain ⟨fd, F⟩ := F
  obtain ⟨oc, od, dV, kV, doc, pm, an, cdv, ct, osl, e, lk, hcd, _⟩ := F.ex
  obtain ⟨cc, hcc⟩ := He.codeIn_ref hcd
  refine ⟨_, fd, F, g, ?_⟩
  rw [He.codeOf_eq lk (c := cc) (by rw [e]; exact hcc), e]
  exact hcc
theorem fx_of (X : K.In h) (G : h.Ns mainGlobals mg) (c : SaysZ w h K) : Fx PP K mg (csOf K) (He.ga K "Track") (He.ga K "Move") (He.ga K "History") (He.ga K "Let") (He.codeOf K ("way_to", none)) (He.codeOf K ("way_apart", none)) := by
  obtain ⟨a1, a⟩ := He.ba c.x.more
  obtain ⟨a2, a⟩ := He.ba a
  obtain ⟨a3, a⟩ := He.ba a
  obtain ⟨ard, ane⟩ := He.ba a
  obtain ⟨t1, a1⟩ := He.ba a1
  obtain ⟨t2, a1⟩ := He.ba a1
  obtain ⟨t3, a1⟩ := He.ba a1
  obtain ⟨t4, a1⟩ := He.ba a1
  obtain ⟨t5, a1⟩ := He.ba a1
  obtain ⟨t6, a1⟩ := He.ba a1
  obtain ⟨t7, a1⟩ := He.ba a1
  obtain ⟨t8, t9⟩ := He.ba a1
  obtain ⟨b1, a2⟩ := He.ba a2
  obtain ⟨b2, a2⟩ := He.ba a2
  obtain ⟨i1, a2⟩ := He.ba a2
  obtain ⟨i2, a2⟩ := He.ba a2
  obtain ⟨i3, a2⟩ := He.ba a2
  obtain ⟨i4, a2⟩ := He.ba a2
  obtain ⟨i5, i6⟩ := He.ba a2
  obtain ⟨s1, a3⟩ := He.ba a3
  obtain ⟨s2, a3⟩ := He.ba a3
  obtain ⟨s3, a3⟩ := He.ba a3
  obtain ⟨s4, a3⟩ := He.ba a3
  obtain ⟨c1, a3⟩ := He.ba a3
  obtain ⟨c2, a3⟩ := He.ba a3
  obtain ⟨c3, a3⟩ := He.ba a3
  obtain ⟨c4, a3⟩ := He.ba a3
  obtain ⟨hmv, hrd⟩ := He.ba a3
  obtain ⟨r1, hrd⟩ := He.ba hrd
  obtain ⟨r2, hrd⟩ := He.ba hrd
  obtain ⟨r3, r4⟩ := He.ba hrd
  have ec := c.c
  have e1 : fnC K (He.ma K (He.ga K "Begin") "__init__") = _ := congrArg (fun l : List FnC => l.getD 0 none) ec
  have e2 : fnC K (He.ma K (He.ga K "Take") "__init__") = _ := congrArg (fun l : List FnC => l.getD 1 none) ec
  have e3 : fnC K (He.ma K (He.ga K "Right") "__init__") = _ := congrArg (fun l : List FnC => l.getD 2 none) ec
  have e4 : fnC K (He.ma K (He.ga K "Shut") "__init__") = _ := congrArg (fun l : List FnC => l.getD 3 none) ec
  have e5 : fnC K (He5.wf K (He.ga K "Report") "classmethod" "read") = _ := congrArg (fun l : List FnC => l.getD 4 none) ec
  exact {
    fr := fx_free X G c,
    ok := fx_ok c,
    tr := ⟨(He.cls_ok (c.x.t.d.fact 88 (f := .cls "Track") rfl)), (He.noat_ok (c.x.t.d.fact 110 (f := .noat "Track" "moves") rfl)), (He.noat_ok (c.x.t.d.fact 111 (f := .noat "Track" "path") rfl)), (He.noat_ok (c.x.t.d.fact 112 (f := .noat "Track" "many") rfl)), (He.noat_ok (c.x.t.d.fact 113 (f := .noat "Track" "amount") rfl))⟩,
    lt := ⟨(He.cls_ok (c.x.t.d.fact 89 (f := .cls "Let") rfl)), (He.noat_ok (c.x.t.d.fact 114 (f := .noat "Let" "kind") rfl)), (He.noat_ok (c.x.t.d.fact 115 (f := .noat "Let" "state") rfl)), (He.noat_ok (c.x.t.d.fact 116 (f := .noat "Let" "deed") rfl)), (He.noat_ok (c.x.t.d.fact 117 (f := .noat "Let" "place") rfl))⟩,
    ct := ⟨(He.cls_ok (c.x.t.d.fact 91 (f := .cls "Count") rfl)), (He.noat_ok (c.x.t.d.fact 122 (f := .noat "Count" "kind") rfl)), (He.noat_ok (c.x.t.d.fact 123 (f := .noat "Count" "weight") rfl)), (He.noat_ok (c.x.t.d.fact 124 (f := .noat "Count" "whose") rfl))⟩,
    hs := ⟨(He.cls_ok (c.x.t.d.fact 90 (f := .cls "House") rfl)), (He.noat_ok (c.x.t.d.fact 118 (f := .noat "House" "depth") rfl)), (He.noat_ok (c.x.t.d.fact 119 (f := .noat "House" "check") rfl)), (He.noat_ok (c.x.t.d.fact 120 (f := .noat "House" "rows") rfl)), (He.noat_ok (c.x.t.d.fact 121 (f := .noat "House" "places") rfl))⟩,
    hi := (He.noat_ok (c.x.t.d.fact 101 (f := .noat "History" "moves") rfl)),
    hcl := (He.cls_ok (c.x.t.d.fact 85 (f := .cls "History") rfl)),
    isC := isiB_ok (He.cls_ok (c.x.t.d.fact 91 (f := .cls "Count") rfl)) i1,
    isL := isiB_ok (He.cls_ok (c.x.t.d.fact 89 (f := .cls "Let") rfl)) i2,
    gC := (He.glo_ok X G (c.x.t.d.fact 50 (f := .glo "Count") rfl)),
    gL := (He.glo_ok X G (c.x.t.d.fact 48 (f := .glo "Let") rfl)),
    gR := (He.glo_ok X G (c.x.t.d.fact 51 (f := .glo "Report") rfl)),
    gM := (He.glo_ok X G (c.x.t.d.fact 39 (f := .glo "Move") rfl)),
    more := He.int_ok X G (c.x.t.d.fact 79 (f := .int "MORE" 3) rfl),
    most := He.int_ok X G (c.x.t.d.fact 80 (f := .int "MOST_DEPTH" 4) rfl),
    beg := ⟨⟨_, (He.glo_ok X G (c.x.t.d.fact 61 (f := .glo "BEGIN") rfl)), fun H => ⟨_, tupA_ok b1 H, tupA_ok b2 H⟩⟩⟩,
    kinds := ⟨⟨_, (He.glo_ok X G (c.x.t.d.fact 52 (f := .glo "KINDS") rfl)), fun H => He.tupB_ok t1 H⟩⟩,
    states := ⟨⟨_, (He.glo_ok X G (c.x.t.d.fact 53 (f := .glo "STATES") rfl)), fun H => He.tupB_ok t2 H⟩⟩,
    deeds := ⟨⟨_, (He.glo_ok X G (c.x.t.d.fact 54 (f := .glo "DEEDS") rfl)), fun H => He.tupB_ok t3 H⟩⟩,
    places := ⟨⟨_, (He.glo_ok X G (c.x.t.d.fact 55 (f := .glo "PLACES") rfl)), fun H => He.tupB_ok t4 H⟩⟩,
    owners := ⟨⟨_, (He.glo_ok X G (c.x.t.d.fact 56 (f := .glo "OWNERS") rfl)), fun H => He.tupB_ok t5 H⟩⟩,
    goals := ⟨⟨_, (He.glo_ok X G (c.x.t.d.fact 57 (f := .glo "GOALS") rfl)), fun H => He.tupB_ok t6 H⟩⟩,
    checks := ⟨⟨_, (He.glo_ok X G (c.x.t.d.fact 58 (f := .glo "CHECKS") rfl)), fun H => He.tupB_ok t7 H⟩⟩,
    ofr := ⟨⟨_, (He.glo_ok X G (c.x.t.d.fact 60 (f := .glo "OF_REPORTS") rfl)), fun H => He.tupB_ok t8 H⟩⟩,
    weights := ⟨⟨_, (He.glo_ok X G (c.x.t.d.fact 59 (f := .glo "WEIGHTS") rfl)), fun H => He.tupB_ok t9 H⟩⟩,
    d18 := ⟨(by obtain ⟨fd, F⟩ := c.x.t.d.def_ 0 (d := d_is_integer) rfl; exact ⟨_, fd, F, (He.glo_ok X G (c.x.t.d.fact 0 (f := .glo "is_integer") rfl))⟩)⟩,
    d19 := ⟨(by obtain ⟨fd, F⟩ := c.x.t.d.def_ 1 (d := d_is_number) rfl; exact ⟨_, fd, F, (He.glo_ok X G (c.x.t.d.fact 1 (f := .glo "is_number") rfl))⟩)⟩,
    d20 := ⟨(by obtain ⟨fd, F⟩ := c.x.t.d.def_ 2 (d := d_is_amount) rfl; exact ⟨_, fd, F, (He.glo_ok X G (c.x.t.d.fact 2 (f := .glo "is_amount") rfl))⟩)⟩,
    d21 := ⟨(by obtain ⟨fd, F⟩ := c.x.t.d.def_ 3 (d := d_is_sequence) rfl; exact ⟨_, fd, F, (He.glo_ok X G (c.x.t.d.fact 3 (f := .glo "is_sequence") rfl))⟩)⟩,
    d36 := ⟨(by obtain ⟨fd, F⟩ := c.x.t.d.def_ 4 (d := d_beginning) rfl; exact ⟨_, fd, F, (He.glo_ok X G (c.x.t.d.fact 4 (f := .glo "beginning") rfl))⟩)⟩,
    d37 := ⟨(by obtain ⟨fd, F⟩ := c.x.t.d.def_ 5 (d := d_ranked) rfl; exact ⟨_, fd, F, (He.glo_ok X G (c.x.t.d.fact 5 (f := .glo "ranked") rfl))⟩)⟩,
    d38 := ⟨(by obtain ⟨fd, F⟩ := c.x.t.d.def_ 6 (d := d_kind_at) rfl; exact ⟨_, fd, F, (He.glo_ok X G (c.x.t.d.fact 6 (f := .glo "kind_at") rfl))⟩)⟩,
    d39 := ⟨(by obtain ⟨fd, F⟩ := c.x.t.d.def_ 7 (d := d_put_into) rfl; exact ⟨_, fd, F, (He.glo_ok X G (c.x.t.d.fact 7 (f := .glo "put_into") rfl))⟩)⟩,
    d40 := ⟨(by obtain ⟨fd, F⟩ := c.x.t.d.def_ 8 (d := d_goals_of) rfl; exact ⟨_, fd, F, (He.glo_ok X G (c.x.t.d.fact 8 (f := .glo "goals_of") rfl))⟩)⟩,
    d41 := ⟨(by obtain ⟨fd, F⟩ := c.x.t.d.def_ 9 (d := d_opposed) rfl; exact ⟨_, fd, F, (He.glo_ok X G (c.x.t.d.fact 9 (f := .glo "opposed") rfl))⟩)⟩,
    d42 := ⟨(by obtain ⟨fd, F⟩ := c.x.t.d.def_ 10 (d := d_takes) rfl; exact ⟨_, fd, F, (He.glo_ok X G (c.x.t.d.fact 10 (f := .glo "takes") rfl))⟩)⟩,
    d43 := ⟨(by obtain ⟨fd, F⟩ := c.x.t.d.def_ 11 (d := d_rights) rfl; exact ⟨_, fd, F, (He.glo_ok X G (c.x.t.d.fact 11 (f := .glo "rights") rfl))⟩)⟩,
    d46 := ⟨(by obtain ⟨fd, F⟩ := c.x.t.d.def_ 12 (d := d_steps) rfl; exact ⟨_, fd, F, (He.glo_ok X G (c.x.t.d.fact 12 (f := .glo "steps") rfl))⟩)⟩,
    d47 := ⟨(by obtain ⟨fd, F⟩ := c.x.t.d.def_ 13 (d := d_meets) rfl; exact ⟨_, fd, F, (He.glo_ok X G (c.x.t.d.fact 13 (f := .glo "meets") rfl))⟩)⟩,
    d48 := ⟨(by obtain ⟨fd, F⟩ := c.x.t.d.def_ 14 (d := d_followed) rfl; exact ⟨_, fd, F, (He.glo_ok X G (c.x.t.d.fact 14 (f := .glo "followed") rfl))⟩)⟩,
    d52 := ⟨(by obtain ⟨fd, F⟩ := c.x.t.d.def_ 15 (d := d_need_goal) rfl; exact ⟨_, fd, F, (He.glo_ok X G (c.x.t.d.fact 15 (f := .glo "need_goal") rfl))⟩)⟩,
    d54 := ⟨(by obtain ⟨fd, F⟩ := c.x.t.d.def_ 16 (d := d_history_of) rfl; exact ⟨_, fd, F, (He.glo_ok X G (c.x.t.d.fact 16 (f := .glo "history_of") rfl))⟩)⟩,
    d55 := ref_code (d := d_way_to) (He.glo_ok X G (c.x.t.d.fact 17 (f := .glo "way_to") rfl)) (c.x.t.d.def_ 17 (d := d_way_to) rfl),
    d56 := ⟨(by obtain ⟨fd, F⟩ := c.x.t.d.def_ 18 (d := d_happens) rfl; exact ⟨_, fd, F, (He.glo_ok X G (c.x.t.d.fact 18 (f := .glo "happens") rfl))⟩)⟩,
    d57 := ⟨(by obtain ⟨fd, F⟩ := c.x.t.d.def_ 19 (d := d_least) rfl; exact ⟨_, fd, F, (He.glo_ok X G (c.x.t.d.fact 19 (f := .glo "least") rfl))⟩)⟩,
    d59 := ⟨(by obtain ⟨fd, F⟩ := c.x.t.d.def_ 20 (d := d_counts_otherwise) rfl; exact ⟨_, fd, F, (He.glo_ok X G (c.x.t.d.fact 20 (f := .glo "counts_otherwise") rfl))⟩)⟩,
    d60 := ref_code (d := d_way_apart) (He.glo_ok X G (c.x.t.d.fact 21 (f := .glo "way_apart") rfl)) (c.x.t.d.def_ 21 (d := d_way_apart) rfl),
    d61 := ⟨(by obtain ⟨fd, F⟩ := c.x.t.d.def_ 22 (d := d_alike) rfl; exact ⟨_, fd, F, (He.glo_ok X G (c.x.t.d.fact 22 (f := .glo "alike") rfl))⟩)⟩,
    d65 := ⟨(by obtain ⟨fd, F⟩ := c.x.t.d.def_ 23 (d := d_is_one_of) rfl; exact ⟨_, fd, F, (He.glo_ok X G (c.x.t.d.fact 23 (f := .glo "is_one_of") rfl))⟩)⟩,
    d71 := ⟨(by obtain ⟨fd, F⟩ := c.x.t.d.def_ 24 (d := d_first_places) rfl; exact ⟨_, fd, F, (He.glo_ok X G (c.x.t.d.fact 24 (f := .glo "first_places") rfl))⟩)⟩,
    d77 := ⟨(by obtain ⟨fd, F⟩ := c.x.t.d.def_ 25 (d := d_row_of_reports) rfl; exact ⟨_, fd, F, (He.glo_ok X G (c.x.t.d.fact 25 (f := .glo "row_of_reports") rfl))⟩)⟩,
    d79 := ⟨(by obtain ⟨fd, F⟩ := c.x.t.d.def_ 26 (d := d_are_rows) rfl; exact ⟨_, fd, F, (He.glo_ok X G (c.x.t.d.fact 26 (f := .glo "are_rows") rfl))⟩)⟩,
    d84 := ⟨(by obtain ⟨fd, F⟩ := c.x.t.d.def_ 27 (d := d_law_seed) rfl; exact ⟨_, fd, F, (He.glo_ok X G (c.x.t.d.fact 27 (f := .glo "_law_seed") rfl))⟩)⟩,
    d85 := ⟨(by obtain ⟨fd, F⟩ := c.x.t.d.def_ 28 (d := d_law_choose) rfl; exact ⟨_, fd, F, (He.glo_ok X G (c.x.t.d.fact 28 (f := .glo "_law_choose") rfl))⟩)⟩,
    d86 := ⟨(by obtain ⟨fd, F⟩ := c.x.t.d.def_ 29 (d := d_law_one_of) rfl; exact ⟨_, fd, F, (He.glo_ok X G (c.x.t.d.fact 29 (f := .glo "_law_one_of") rfl))⟩)⟩,
    d87 := ⟨(by obtain ⟨fd, F⟩ := c.x.t.d.def_ 30 (d := d_law_rows) rfl; exact ⟨_, fd, F, (He.glo_ok X G (c.x.t.d.fact 30 (f := .glo "_law_rows") rfl))⟩)⟩,
    d88 := ⟨(by obtain ⟨fd, F⟩ := c.x.t.d.def_ 31 (d := d_law_house) rfl; exact ⟨_, fd, F, (He.glo_ok X G (c.x.t.d.fact 31 (f := .glo "_law_house") rfl))⟩)⟩,
    d89 := ⟨(by obtain ⟨fd, F⟩ := c.x.t.d.def_ 32 (d := d_law_report) rfl; exact ⟨_, fd, F, (He.glo_ok X G (c.x.t.d.fact 32 (f := .glo "_law_report") rfl))⟩)⟩,
    d90 := ⟨(by obtain ⟨fd, F⟩ := c.x.t.d.def_ 33 (d := d_law_let_of) rfl; exact ⟨_, fd, F, (He.glo_ok X G (c.x.t.d.fact 33 (f := .glo "_law_let_of") rfl))⟩)⟩,
    d91 := ⟨(by obtain ⟨fd, F⟩ := c.x.t.d.def_ 34 (d := d_law_house_of) rfl; exact ⟨_, fd, F, (He.glo_ok X G (c.x.t.d.fact 34 (f := .glo "_law_house_of") rfl))⟩)⟩,
    d92 := ⟨(by obtain ⟨fd, F⟩ := c.x.t.d.def_ 35 (d := d_law_report_of) rfl; exact ⟨_, fd, F, (He.glo_ok X G (c.x.t.d.fact 35 (f := .glo "_law_report_of") rfl))⟩)⟩,
    d93 := ⟨(by obtain ⟨fd, F⟩ := c.x.t.d.def_ 36 (d := d_law_near_report) rfl; exact ⟨_, fd, F, (He.glo_ok X G (c.x.t.d.fact 36 (f := .glo "_law_near_report") rfl))⟩)⟩,
    d94 := ⟨(by obtain ⟨fd, F⟩ := c.x.t.d.def_ 37 (d := d_law_soon) rfl; exact ⟨_, fd, F, (He.glo_ok X G (c.x.t.d.fact 37 (f := .glo "_law_soon") rfl))⟩)⟩,
    kMade := ⟨(He.cls_ok (c.x.t.d.fact 86 (f := .cls "Made") rfl)), (He.glo_ok X G (c.x.t.d.fact 45 (f := .glo "Made") rfl)), by obtain ⟨fd, F⟩ := c.x.t.d.def_ 42 (d := m_Made_init) rfl; exact ⟨_, fd, F, (He.mkr_ok (c.x.t.d.fact 94 (f := .mkr "Made") rfl))⟩⟩,
    kStep := ⟨(He.cls_ok (c.x.t.d.fact 87 (f := .cls "Step") rfl)), (He.glo_ok X G (c.x.t.d.fact 46 (f := .glo "Step") rfl)), by obtain ⟨fd, F⟩ := c.x.t.d.def_ 43 (d := m_Step_init) rfl; exact ⟨_, fd, F, (He.mkr_ok (c.x.t.d.fact 95 (f := .mkr "Step") rfl))⟩⟩,
    kTrack := ⟨(He.cls_ok (c.x.t.d.fact 88 (f := .cls "Track") rfl)), (He.glo_ok X G (c.x.t.d.fact 47 (f := .glo "Track") rfl)), by obtain ⟨fd, F⟩ := c.x.t.d.def_ 44 (d := m_Track_init) rfl; exact ⟨_, fd, F, (He.mkr_ok (c.x.t.d.fact 96 (f := .mkr "Track") rfl))⟩⟩,
    kLet := ⟨(He.cls_ok (c.x.t.d.fact 89 (f := .cls "Let") rfl)), (He.glo_ok X G (c.x.t.d.fact 48 (f := .glo "Let") rfl)), by obtain ⟨fd, F⟩ := c.x.t.d.def_ 48 (d := m_Let_init) rfl; exact ⟨_, fd, F, (He.mkr_ok (c.x.t.d.fact 97 (f := .mkr "Let") rfl))⟩⟩,
    kCount := ⟨(He.cls_ok (c.x.t.d.fact 91 (f := .cls "Count") rfl)), (He.glo_ok X G (c.x.t.d.fact 50 (f := .glo "Count") rfl)), by obtain ⟨fd, F⟩ := c.x.t.d.def_ 51 (d := m_Count_init) rfl; exact ⟨_, fd, F, (He.mkr_ok (c.x.t.d.fact 99 (f := .mkr "Count") rfl))⟩⟩,
    kHist := ⟨(He.cls_ok (c.x.t.d.fact 85 (f := .cls "History") rfl)), (He.glo_ok X G (c.x.t.d.fact 44 (f := .glo "History") rfl)), by obtain ⟨fd, F⟩ := c.x.t.d.def_ 40 (d := m_History_init) rfl; exact ⟨_, fd, _, F, rfl, (He.mkr_ok (c.x.t.d.fact 93 (f := .mkr "History") rfl))⟩⟩,
    kHouse := ⟨(He.cls_ok (c.x.t.d.fact 90 (f := .cls "House") rfl)), (He.glo_ok X G (c.x.t.d.fact 49 (f := .glo "House") rfl)), by obtain ⟨fd, F⟩ := c.x.t.d.def_ 49 (d := m_House_init) rfl; exact ⟨_, fd, _, F, rfl, (He.mkr_ok (c.x.t.d.fact 98 (f := .mkr "House") rfl))⟩⟩,
    kRep := ⟨(He.cls_ok (c.x.t.d.fact 92 (f := .cls "Report") rfl)), (He.glo_ok X G (c.x.t.d.fact 51 (f := .glo "Report") rfl)), by obtain ⟨fd, F⟩ := c.x.t.d.def_ 52 (d := m_Report_init) rfl; exact ⟨_, fd, _, F, rfl, (He.mkr_ok (c.x.t.d.fact 100 (f := .mkr "Report") rfl))⟩⟩,
    mPut := ⟨(by obtain ⟨fd, F⟩ := c.x.t.d.def_ 45 (d := m_Track_put) rfl; exact ⟨_, fd, F, (He.meth_ok (c.x.t.d.fact 134 (f := .meth "Track" "put") rfl))⟩)⟩,
    mTake := ⟨(by obtain ⟨fd, F⟩ := c.x.t.d.def_ 46 (d := m_Track_take) rfl; exact ⟨_, fd, F, (He.meth_ok (c.x.t.d.fact 135 (f := .meth "Track" "take") rfl))⟩)⟩,
    mFollow := ⟨(by obtain ⟨fd, F⟩ := c.x.t.d.def_ 47 (d := m_Track_follow) rfl; exact ⟨_, fd, F, (He.meth_ok (c.x.t.d.fact 136 (f := .meth "Track" "follow") rfl))⟩)⟩,
    mPlaced := ⟨(by obtain ⟨fd, F⟩ := c.x.t.d.def_ 50 (d := m_House_placed) rfl; exact ⟨_, fd, F, (He.meth_ok (c.x.t.d.fact 137 (f := .meth "House" "placed") rfl))⟩)⟩,
    mWeight := ⟨(by obtain ⟨fd, F⟩ := c.x.t.d.def_ 53 (d := m_Report_weight_of) rfl; exact ⟨_, fd, F, (He.meth_ok (c.x.t.d.fact 138 (f := .meth "Report" "weight_of") rfl))⟩)⟩,
    mMonth := ⟨(by obtain ⟨fd, F⟩ := c.x.t.d.def_ 54 (d := m_Report_month_of) rfl; exact ⟨_, fd, F, (He.meth_ok (c.x.t.d.fact 139 (f := .meth "Report" "month_of") rfl))⟩)⟩,
    sB := (by
    obtain ⟨cc, cda, S, hq⟩ := sup_of (x := "Begin") (st := inClass (top 25) 0) (dvs := []) e1 s1 c1 hmv
    obtain ⟨fM, FM⟩ := c.x.t.d.def_ 39 (d := m_Move_init) rfl
    exact ⟨_, _, ⟨⟨cc, cda, _, fM, S, hq, FM⟩, (He.mkr_ok (c.x.t.d.fact 141 (f := .mkr "Begin") rfl)), (He.glo_ok X G (c.x.t.d.fact 40 (f := .glo "Begin") rfl)), (He.cls_ok (c.x.t.d.fact 81 (f := .cls "Begin") rfl)), (He.noat_ok (c.x.t.d.fact 145 (f := .noat "Begin" "script") rfl)), isiB_ok (He.cls_ok (c.x.t.d.fact 81 (f := .cls "Begin") rfl)) i3⟩, (He.noat_ok (c.x.t.d.fact 127 (f := .noat "Begin" "amount") rfl))⟩),
    sT := (by
    obtain ⟨cc, cda, S, hq⟩ := sup_of (x := "Take") (st := inClass (top 26) 0) (dvs := [.non]) e2 s2 c2 hmv
    obtain ⟨fM, FM⟩ := c.x.t.d.def_ 39 (d := m_Move_init) rfl
    exact ⟨_, _, ⟨⟨cc, cda, _, fM, S, hq, FM⟩, (He.mkr_ok (c.x.t.d.fact 142 (f := .mkr "Take") rfl)), (He.glo_ok X G (c.x.t.d.fact 41 (f := .glo "Take") rfl)), (He.cls_ok (c.x.t.d.fact 82 (f := .cls "Take") rfl)), (He.noat_ok (c.x.t.d.fact 146 (f := .noat "Take" "script") rfl)), isiB_ok (He.cls_ok (c.x.t.d.fact 82 (f := .cls "Take") rfl)) i4⟩, (He.noat_ok (c.x.t.d.fact 129 (f := .noat "Take" "amount") rfl)), (He.noat_ok (c.x.t.d.fact 128 (f := .noat "Take" "at") rfl))⟩),
    sR := (by
    obtain ⟨cc, cda, S, hq⟩ := sup_of (x := "Right") (st := inClass (top 27) 0) (dvs := []) e3 s3 c3 hmv
    obtain ⟨fM, FM⟩ := c.x.t.d.def_ 39 (d := m_Move_init) rfl
    exact ⟨_, _, ⟨⟨cc, cda, _, fM, S, hq, FM⟩, (He.mkr_ok (c.x.t.d.fact 143 (f := .mkr "Right") rfl)), (He.glo_ok X G (c.x.t.d.fact 42 (f := .glo "Right") rfl)), (He.cls_ok (c.x.t.d.fact 83 (f := .cls "Right") rfl)), (He.noat_ok (c.x.t.d.fact 147 (f := .noat "Right" "script") rfl)), isiB_ok (He.cls_ok (c.x.t.d.fact 83 (f := .cls "Right") rfl)) i5⟩, (He.noat_ok (c.x.t.d.fact 131 (f := .noat "Right" "amount") rfl)), (He.noat_ok (c.x.t.d.fact 130 (f := .noat "Right" "at") rfl))⟩),
    sS := (by
    obtain ⟨cc, cda, S, hq⟩ := sup_of (x := "Shut") (st := inClass (top 28) 0) (dvs := []) e4 s4 c4 hmv
    obtain ⟨fM, FM⟩ := c.x.t.d.def_ 39 (d := m_Move_init) rfl
    exact ⟨_, _, ⟨⟨cc, cda, _, fM, S, hq, FM⟩, (He.mkr_ok (c.x.t.d.fact 144 (f := .mkr "Shut") rfl)), (He.glo_ok X G (c.x.t.d.fact 43 (f := .glo "Shut") rfl)), (He.cls_ok (c.x.t.d.fact 84 (f := .cls "Shut") rfl)), (He.noat_ok (c.x.t.d.fact 148 (f := .noat "Shut" "script") rfl)), isiB_ok (He.cls_ok (c.x.t.d.fact 84 (f := .cls "Shut") rfl)) i6⟩⟩),
    hlen := (by obtain ⟨fd, F⟩ := c.x.t.d.def_ 41 (d := m_History_len) rfl; exact ⟨_, fd, (He.meth_ok (c.x.t.d.fact 133 (f := .meth "History" "__len__") rfl)).at_, (He.meth_ok (c.x.t.d.fact 133 (f := .meth "History" "__len__") rfl)).fn, F⟩),
    inv := (by obtain ⟨fd, F⟩ := c.x.t.d.def_ 55 (d := m_Report_invert) rfl; exact ⟨_, fd, (He.meth_ok (c.x.t.d.fact 140 (f := .meth "Report" "__invert__") rfl)).at_, (He.meth_ok (c.x.t.d.fact 140 (f := .meth "Report" "__invert__") rfl)).fn, F⟩),
    read := (by
    obtain ⟨fd, F⟩ := read_of e5 ard
    exact ⟨_, _, _, fd, ⟨r1, He.eqO_ok r2⟩, He5.cmet_of r3 r4, F⟩)
  }
end
end K97
set_option maxHeartbeats 4000000
namespace K97
open PySem PySem.Spec PyProof.Rows L2 LamX ClX
theorem tabs_of {H : Hp} {Pt1 Pt2 : Addr} (h1 : H Pt1 = some (.tbl #[])) (h2 : H Pt2 = some (.tbl #[])) : Tabs (tabs Pt1 Pt2) H := fun p hp => by
  simp only [tabs, List.mem_cons, List.not_mem_nil, or_false] at hp
  rcases hp with rfl | rfl
  · exact ⟨#[], h1, (by first | exact .nil | trivial | constructor), fun pos cv e => nomatch e⟩
  · exact ⟨#[], h2, (by first | exact .nil | trivial | constructor), fun pos cv e => nomatch e⟩
theorem law_at {w : World} {h : Heap} {K : PySem.W.Frag} {mg : Str → Option Value} {fa : Addr} (X : K.In h) (G : h.Ns mainGlobals mg) (hfa : mg ("law" : Str) = some (.ref fa)) (c : SaysZ w h K) :
    LawAtS PySem.Challenge.rw_contrabooks_k97_whole_reports_and_goals w K C8.CX0 10 63 "_law_script" mg fa h := by
  obtain ⟨fd, F⟩ := c.x.t.d.def_ 38 (d := d_law) rfl
  have e := hfa.symm.trans (He.glo_ok X G (c.x.t.d.fact 38 (f := .glo "law") rfl))
  cases e
  have b := FunD.bindsA (ps := ["_law_script"]) F fun _ _ _ _ _ _ us hl => match us, hl with | [_], _ => rfl
  have x := fx_of X G c
  have mm : ∀ p, p ∈ tf.map (He.cT K) → ∃ q ∈ tf, p = He.cT K q := fun p hp => by
    obtain ⟨q, hq, e⟩ := List.mem_map.mp hp
    exact ⟨q, hq, e.symm⟩
  have m1 : (("way_to", none) : He.Defn) ∈ tf := List.mem_cons_self
  have m2 : (("way_apart", none) : He.Defn) ∈ tf := List.mem_cons_of_mem _ List.mem_cons_self
  have ne : (He.cT K ("way_to", none)).2 ≠ (He.cT K ("way_apart", none)).2 := by
    obtain ⟨_, a⟩ := He.ba c.x.more
    obtain ⟨_, a⟩ := He.ba a
    obtain ⟨_, a⟩ := He.ba a
    obtain ⟨_, ane⟩ := He.ba a
    intro z
    unfold neB at ane
    rw [decide_eq_true z] at ane
    cases ane
  refine ⟨fd, tf.map (He.cT K), spLaw K (tabs (He.cT K ("way_to", none)).2 (He.cT K ("way_apart", none)).2), fun p hp => ?_, fun p hp => ?_, fun p hp => ?_, fun s u => b s [u] rfl, fun H a ns hl _ hH hS => ?_, fun base hK hN hB => ?_⟩
  · obtain ⟨q, hq, rfl⟩ := mm p hp
    exact c.x.empty q hq
  · obtain ⟨q, hq, rfl⟩ := mm p hp
    exact c.x.out q hq
  · obtain ⟨q, hq, rfl⟩ := mm p hp
    exact PySem.W.codeHd_of_K X (c.x.hd q hq)
  · exact ⟨a, ns, rfl, hl, hS, tabs_of (hH _ (List.mem_map_of_mem m1)) (hH _ (List.mem_map_of_mem m2)), fun _ => rfl⟩
  · exact law_of x (hB _ (List.mem_map_of_mem m1)) (hB _ (List.mem_map_of_mem m2)) ne F
end K97
open PySem PySem.W PySem.Calls PyProof.Rows
theorem PySem.Challenge.cw_contrabooks_k97_whole_reports_and_goals_holds : PySem.Challenge.rw_contrabooks_k97_whole_reports_and_goals.Holds := by
  w_on; o_law
  refine HandSHeadRun.head_any (r := K97.R) (q := view K97.R.prog [95]) (H := K97.hk) (ob := K97.ob) (M := 20000) (loose := K97.loose) (d := HandSHeadRun.topDef K97.R.prog 95) (kwd := []) K97.ob_eq
    (by kernel_rfl) (fun s => by kernel_rfl) K97.run (by kernel_rfl) (by kernel_rfl) (by kernel_rfl) (by rfl) (by first | assumption | decide +kernel) (by decide +kernel) ⟨rfl, rfl, rfl, rfl, rfl, by decide +kernel⟩ ?hw ?hc
  case hw => w_witness2
  case hc =>
    refine LamX.walk_ofTsE (l := PySem.Challenge.rw_contrabooks_k97_whole_reports_and_goals) (n := 63) (k := 10) (x := "_law_script") (CX := fun _ => C8.CX0) rfl (by decide) (by kernel_rfl) ⟨rfl, by decide, by decide⟩ ?F (fun _ _ _ _ _ z => z)
    intro w mg fa h Y G hmg0
    obtain ⟨K, KX, c⟩ := Y
    have hmg : mg ("law" : PySem.Str) = some (.ref fa) := by
      have e : (HandSHeadRun.topDef K97.R.prog 95).name = ("law" : PySem.Str) := by kernel_rfl
      rw [← e]
      exact hmg0
    exact ⟨K, KX, K97.law_at KX G hmg c⟩
