import PyProof.Rows.All
import Wide.All
import OpenK.AllK
import Wide.FinOn
import PySem.Challenge.RW_levyhouse_k72_whole_cut_anywhere
import HandS.Codes
import HandS.DeepEq
import HandS.Defaults
import HandS.ExcIs
import HandS.ExcOwn
import HandS.Finally
import HandS.ForMost
import HandS.Head0
import HandS.Head1
import HandS.Head2
import HandS.HeadEnd
import HandS.HeadHook3
import HandS.HeadHook4
import HandS.IsInst
import HandS.ListItems
import HandS.More
import HandS.NoneIn
import HandS.SortKw
import HandS.Strs
import HandS.Style
import HandS.TryOnly
import HandS.TupAny
import HandS.Words
import KE.DataMinMax
import KE.KDictList
import KE.KEqNest
import KE.KStateDown
import Lean
set_option Elab.async false
set_option linter.all false
set_option maxRecDepth 100000
set_option maxHeartbeats 0
/-! T0: the text's places and tables. -/
namespace Lv
open PySem PySem.Spec PyProof.Rows L2
def top (i : Nat) : Stmt := PySem.Challenge.pw_levyhouse_k72_whole_cut_anywhere.main.body.getD i (.Pass ⟨0, 0, 0, 0⟩)
def inC (i j : Nat) : Stmt := inClass (top i) j
def blNames : List Str := ["isinstance", "len", "abs", "int", "bool", "tuple", "dict", "list", "str", "all", "max", "sum", "min", "zip", "enumerate", "range", "set"]
abbrev q2 (a b : Str) : Str × Str := (a, b)
abbrev q3 (a b c : Str) : Str × Str × Str := (a, b, c)
def atTab : List (Str × Str) := [q2 "Amount" "own", q2 "Name" "own", q2 "Plus" "one", q2 "Plus" "other", q2 "Less" "one", q2 "Less" "other", q2 "Greater" "one", q2 "Greater" "other", q2 "Lesser" "one", q2 "Lesser" "other",
  q2 "Bands" "one", q2 "Bands" "pairs", q2 "Steps" "one", q2 "Steps" "pairs", q2 "If" "tested", q2 "If" "sides", q2 "Charter" "own", q2 "Charter" "taken_names", q2 "Charter" "words_by",
  q2 "Ledger" "rule", q2 "Ledger" "carries", q2 "Ledger" "rows", q2 "Ledger" "past", q2 "Ledger" "notes", q2 "Ledger" "come"]
def meTab : List (Str × Str × Str) := [
  q3 "Amount" "inner" "Word", q3 "Amount" "deep" "Word", q3 "Amount" "size" "Word", q3 "Amount" "kind" "Amount", q3 "Amount" "names" "Word", q3 "Amount" "value" "Amount",
  q3 "Name" "inner" "Word", q3 "Name" "deep" "Word", q3 "Name" "size" "Word", q3 "Name" "kind" "Name", q3 "Name" "names" "Name", q3 "Name" "value" "Name",
  q3 "Plus" "inner" "Two", q3 "Plus" "deep" "Word", q3 "Plus" "size" "Word", q3 "Plus" "kind" "Plus", q3 "Plus" "names" "Word", q3 "Plus" "value" "Two", q3 "Plus" "reckoned" "Plus",
  q3 "Less" "inner" "Two", q3 "Less" "deep" "Word", q3 "Less" "size" "Word", q3 "Less" "kind" "Less", q3 "Less" "names" "Word", q3 "Less" "value" "Two", q3 "Less" "reckoned" "Less",
  q3 "Greater" "inner" "Two", q3 "Greater" "deep" "Word", q3 "Greater" "size" "Word", q3 "Greater" "kind" "Greater", q3 "Greater" "names" "Word", q3 "Greater" "value" "Two", q3 "Greater" "reckoned" "Greater",
  q3 "Lesser" "inner" "Two", q3 "Lesser" "deep" "Word", q3 "Lesser" "size" "Word", q3 "Lesser" "kind" "Lesser", q3 "Lesser" "names" "Word", q3 "Lesser" "value" "Two", q3 "Lesser" "reckoned" "Lesser",
  q3 "Bands" "inner" "Bands", q3 "Bands" "deep" "Word", q3 "Bands" "size" "Word", q3 "Bands" "kind" "Bands", q3 "Bands" "names" "Word", q3 "Bands" "value" "Bands", q3 "Bands" "reckoned" "Bands",
  q3 "Steps" "inner" "Bands", q3 "Steps" "deep" "Word", q3 "Steps" "size" "Word", q3 "Steps" "kind" "Steps", q3 "Steps" "names" "Word", q3 "Steps" "value" "Bands", q3 "Steps" "reckoned" "Steps",
  q3 "If" "inner" "If", q3 "If" "deep" "Word", q3 "If" "size" "Word", q3 "If" "kind" "If", q3 "If" "names" "Word", q3 "If" "value" "If",
  q3 "Charter" "takes" "Charter", q3 "Charter" "lets" "Charter", q3 "Charter" "word" "Charter",
  q3 "Ledger" "need_year" "Ledger", q3 "Ledger" "need_amounts" "Ledger", q3 "Ledger" "add" "Ledger", q3 "Ledger" "mend" "Ledger", q3 "Ledger" "undo" "Ledger", q3 "Ledger" "years" "Ledger", q3 "Ledger" "reckoned" "Ledger",
  q3 "Ledger" "from_the_first" "Ledger", q3 "Ledger" "taken_in" "Ledger", q3 "Ledger" "dues_of" "Ledger", q3 "Ledger" "owed" "Ledger", q3 "Ledger" "log" "Ledger", q3 "Ledger" "does" "Ledger", q3 "Ledger" "cut" "Ledger"]
def keptL : List Str := ["plus", "less", "times", "greater", "lesser", "bands", "steps", "if", "charter", "take", "let"]
def lettersS : Str := "abcdefghijklmnopqrstuvwxyz"
abbrev q4 (x : Str) (i : Nat) (ps : List Str) : Str × Nat × List Str := (x, i, ps)
abbrev q5 (x : Str) (i : Int) : Str × Int := (x, i)
abbrev q6 (x m : Str) (i j : Nat) (ps : List Str) : Str × Str × Nat × Nat × List Str := (x, m, i, j, ps)
def gdTab : List (Str × Nat × List Str) := [
  q4 "is_whole" 13 ["thing"], q4 "common" 14 ["one", "other"], q4 "is_part" 15 ["thing"], q4 "part" 16 ["up", "under"],
  q4 "plus" 17 ["one", "other"], q4 "minus" 18 ["one", "other"], q4 "times" 19 ["one", "other"], q4 "below" 20 ["one", "other"],
  q4 "greatest" 21 ["one", "other"], q4 "least" 22 ["one", "other"], q4 "are_amounts" 25 ["thing", "names"], q4 "need_taken" 26 ["charter", "taken"],
  q4 "dues" 27 ["charter", "taken"], q4 "is_carried" 32 ["thing", "charter"], q4 "is_deed" 33 ["thing"], q4 "own" 34 ["deed"],
  q4 "is_name" 44 ["thing"], q4 "need_part" 45 ["thing"], q4 "are_rows" 46 ["thing"], q4 "need_words" 48 ["words"],
  q4 "two_of" 60 ["kind", "one", "other"], q4 "read_told" 61 ["told", "deep"], q4 "word_of" 62 ["told"], q4 "are_names" 66 ["thing"],
  q4 "is_let" 67 ["thing"], q4 "need_lets" 68 ["takes", "lets"], q4 "_law_mixed" 71 ["_law_cell", "_law_k"], q4 "_law_low" 72 ["_law_up", "_law_under_here"],
  q4 "_law_sum" 73 ["_law_one", "_law_other"], q4 "_law_rest" 74 ["_law_one", "_law_other"], q4 "_law_product" 75 ["_law_one", "_law_other"], q4 "_law_under" 76 ["_law_one", "_law_other"],
  q4 "_law_within" 77 ["_law_told_here"], q4 "_law_banded" 78 ["_law_whole", "_law_pairs"], q4 "_law_stepped" 79 ["_law_whole", "_law_pairs"], q4 "_law_value" 80 ["_law_told_here", "_law_known"],
  q4 "_law_dues" 81 ["_law_lets", "_law_taken"], q4 "_law_carried" 82 ["_law_charter", "_law_takes", "_law_cell"], q4 "_law_small" 83 ["_law_takes", "_law_cell"], q4 "_law_years" 84 ["_law_takes", "_law_lets", "_law_carried_here", "_law_rows"],
  q4 "_law_plain_lets" 85 ["_law_takes", "_law_cell"], q4 "_law_begun" 86 ["_law_script"], q4 "_law_done" 87 ["_law_ledger", "_law_m", "_law_deed_here"], q4 "_law_not_now" 88 ["_law_ledger"],
  q4 "_law_deed" 89 ["_law_m", "_law_free", "_law_cell"], q4 "_law_stands" 90 ["_law_ledger", "_law_m", "_law_takes", "_law_lets", "_law_carried_here"], q4 "_law_told" 91 ["_law_ledger"], q4 "_law_cut_right" 92 ["_law_ledger", "_law_rows_then", "_law_begun_here", "_law_at"],
  q4 "_law_long_right" 93 ["_law_cell"]]
def fdTab : List (Str × Str × Nat × Nat × List Str) := [
  q6 "Ledger" "__init__" 35 0 ["self", "charter", "carried"], q6 "Ledger" "need_year" 35 1 ["self", "year"], q6 "Ledger" "need_amounts" 35 2 ["self", "taken"], q6 "Ledger" "add" 35 3 ["self", "taken"],
  q6 "Ledger" "mend" 35 4 ["self", "year", "taken"], q6 "Ledger" "undo" 35 5 ["self"], q6 "Ledger" "years" 35 6 ["self"], q6 "Ledger" "reckoned" 35 7 ["self"],
  q6 "Ledger" "from_the_first" 35 8 ["self"], q6 "Ledger" "taken_in" 35 9 ["self", "year"], q6 "Ledger" "dues_of" 35 10 ["self", "year"], q6 "Ledger" "owed" 35 11 ["self", "let"],
  q6 "Ledger" "log" 35 12 ["self"], q6 "Ledger" "does" 35 13 ["self", "deed"], q6 "Ledger" "cut" 35 14 ["self", "count"], q6 "Word" "inner" 47 0 ["self"],
  q6 "Word" "deep" 47 1 ["self"], q6 "Word" "size" 47 2 ["self"], q6 "Word" "kind" 47 3 ["self"], q6 "Word" "names" 47 5 ["self"],
  q6 "Word" "value" 47 6 ["self", "known"], q6 "Amount" "__init__" 49 0 ["self", "part"], q6 "Amount" "kind" 49 1 ["self"], q6 "Amount" "value" 49 3 ["self", "known"],
  q6 "Name" "__init__" 50 0 ["self", "name"], q6 "Name" "kind" 50 1 ["self"], q6 "Name" "names" 50 3 ["self"], q6 "Name" "value" 50 4 ["self", "known"],
  q6 "Two" "__init__" 51 0 ["self", "one", "other"], q6 "Two" "inner" 51 1 ["self"], q6 "Two" "reckoned" 51 2 ["self", "left", "right"], q6 "Two" "value" 51 3 ["self", "known"],
  q6 "Plus" "kind" 52 0 ["self"], q6 "Plus" "reckoned" 52 1 ["self", "left", "right"], q6 "Less" "kind" 53 0 ["self"], q6 "Less" "reckoned" 53 1 ["self", "left", "right"],
  q6 "Greater" "kind" 54 0 ["self"], q6 "Greater" "reckoned" 54 1 ["self", "left", "right"], q6 "Lesser" "kind" 55 0 ["self"], q6 "Lesser" "reckoned" 55 1 ["self", "left", "right"],
  q6 "Bands" "__init__" 57 0 ["self", "one", "rows"], q6 "Bands" "inner" 57 1 ["self"], q6 "Bands" "kind" 57 2 ["self"], q6 "Bands" "reckoned" 57 4 ["self", "whole"],
  q6 "Bands" "value" 57 5 ["self", "known"], q6 "Steps" "kind" 58 0 ["self"], q6 "Steps" "reckoned" 58 1 ["self", "whole"], q6 "If" "__init__" 59 0 ["self", "one", "other", "yes", "no"],
  q6 "If" "inner" 59 1 ["self"], q6 "If" "kind" 59 2 ["self"], q6 "If" "value" 59 3 ["self", "known"], q6 "Charter" "__init__" 69 0 ["self", "name", "takes", "lets"],
  q6 "Charter" "takes" 69 2 ["self"], q6 "Charter" "lets" 69 3 ["self"], q6 "Charter" "word" 69 4 ["self", "name"]]
def intTab : List (Str × Int) := [q5 "MOST_YEARS" 200, q5 "MOST_SIGNS" 8, q5 "MOST_ROWS" 12, q5 "MOST_DEEP" 8, q5 "MOST_SIZE" 40, q5 "MOST_TAKES" 5, q5 "MOST_LETS" 20]
def noughts : List Str := ["NOUGHT_words", "NOUGHT_dues", "NOUGHT_ledgers"]
def mkTab : List (Str × Str) := [q2 "Amount" "Amount", q2 "Name" "Name", q2 "Plus" "Two", q2 "Less" "Two", q2 "Greater" "Two", q2 "Lesser" "Two", q2 "Bands" "Bands", q2 "Steps" "Bands", q2 "If" "If", q2 "Charter" "Charter", q2 "Ledger" "Ledger"]
def wordCls : List Str := ["Amount", "Name", "Plus", "Less", "Greater", "Lesser", "Bands", "Steps", "If"]
end Lv
namespace Lv
open PySem PySem.Spec PyProof.Rows L2
/-! ### what the head tells -/
def dGd (q : Str × Nat × List Str) : He.DefD := ⟨(q.1, none), q.1, q.1, defArgs (top q.2.1), defBody (top q.2.1), defScope (top q.2.1), if q.1 = "part" then [.int 1] else [], []⟩
def dFd (q : Str × Str × Nat × Nat × List Str) : He.DefD := ⟨(q.1, some q.2.1), q.2.1, q.1 ++ "." ++ q.2.1, defArgs (inC q.2.2.1 q.2.2.2.1), defBody (inC q.2.2.1 q.2.2.2.1), defScope (inC q.2.2.1 q.2.2.2.1), if q.1 = "Ledger" ∧ q.2.1 = "__init__" then [.non] else [], []⟩
def dL : He.DefD := ⟨("law", none), "law", "law", defArgs (top 94), defBody (top 94), defScope (top 94), [], []⟩
def hFn : List He.DefD := dL :: (gdTab.map dGd ++ fdTab.map dFd)
def clsNms : List Str := wordCls ++ (["Charter", "Ledger"] : List Str)
def gloNms : List Str := mkTab.map (·.1) ++ (noughts ++ (["Word", "KEPT", "WORDS", "NotNow", "LevyError"] : List Str))
def hFa : List He.Fa := gdTab.map (fun q => He.Fa.glo q.1) ++ (gloNms.map (fun x => He.Fa.glo x) ++ (blNames.map (fun x => He.Fa.free x) ++ (intTab.map (fun q => He.Fa.int q.1 q.2) ++ ([He.Fa.str "LETTERS" lettersS] ++ (clsNms.map (fun x => He.Fa.cls x) ++ (atTab.map (fun q => He.Fa.noat q.1 q.2) ++ (meTab.map (fun q => He.Fa.meth q.1 q.2.1) ++ (mkTab.map (fun q => He.Fa.mkr q.1) ++ [He.Fa.exc "NotNow", He.Fa.exm "NotNow" "LevyError" true, He.Fa.glo "law"]))))))))
def wordsKV : List (Str × He.Dv) := [("add", .int 1), ("mend", .int 2), ("undo", .int 0)]
def hTs : List He.Tab := [(fun K => He.ga K "WORDS", ["add", "mend", "undo"])]
/-- what isinstance asks of the class -/
def insB (K : PySem.W.Frag) (C : Addr) : Bool := He.eqO (PySem.W.findIn K (.ref C) "__class__") (some (some (.builtin "object.__class__"))) && (He.eqO (PySem.W.specialIn K (.builtin "object.__class__") "__get__") (some (some (.builtin "getset_descriptor.__get__"))) &&
  (decide (PySem.W.takesIn K (.builtin "object.__class__") = some true) && (decide (PySem.W.mroIn K C (.type "object") = some true) && decide (PySem.W.kitOne K (.ref C) (.ref C) = some true))))
def excB (K : PySem.W.Frag) (C : Addr) : Bool := He.eqO (PySem.W.findIn K (.ref C) "__getattribute__") (some (some (.builtin "BaseException.__getattribute__"))) && (He.eqO (PySem.W.findIn K (.ref C) "__getattr__") (some none) && (PySem.W.hasDictIn K C && insB K C))
def hEx (K : PySem.W.Frag) : Bool := (meTab.all fun q => decide (He.ma K (He.ga K q.1) q.2.1 = He.ma K (He.ga K q.2.2) q.2.1)) && ((mkTab.all fun q => decide (He.ma K (He.ga K q.1) "__init__" = He.ma K (He.ga K q.2) "__init__")) && (He.lstB K "KEPT" (keptL.map .str) &&
  ((noughts.all fun x => He.tupB K x [.int 0, .int 1]) && (He.valsB K (He.ga K "WORDS") wordsKV && ((wordCls.all fun C => insB K (He.ga K C) && decide (PySem.W.kitOne K (.ref (He.ga K C)) (.ref (He.ga K "Word")) = some true)) && excB K (He.ga K "NotNow"))))))
/-- what the top leaves that the facts ask for: its places -/
def hAs0 : List Addr := [3, 489, 488, 442, 536, 535, 602, 601, 576, 628, 627, 654, 653, 680, 679, 779, 778, 803, 802, 841, 840, 575, 441, 929, 928, 368, 367, 128, 127, 31, 30, 374, 214, 234, 373, 235, 1085, 1084, 149, 148]
def hAs1 : List Addr := [156, 155, 163, 162, 171, 170, 164, 178, 177, 185, 184, 192, 191, 199, 198, 206, 205, 213, 212, 219, 218, 226, 225, 233, 232, 242, 241, 249, 248, 256, 255, 379, 378, 386, 385, 391, 390, 451, 450, 850]
def hAs2 : List Addr := [849, 855, 854, 862, 861, 867, 866, 874, 873, 879, 878, 940, 939, 947, 946, 954, 953, 961, 960, 968, 967, 975, 974, 982, 981, 989, 988, 996, 995, 1001, 1000, 1006, 1005, 1013, 1012, 1020, 1019, 1027, 1026, 1032]
def hAs3 : List Addr := [1031, 1037, 1036, 1044, 1043, 1051, 1050, 1058, 1057, 1063, 1062, 1068, 1067, 1075, 1074, 1080, 1079, 271, 270, 264, 278, 277, 283, 282, 290, 289, 297, 296, 304, 303, 311, 310, 318, 317, 325, 324, 332, 331, 339, 338]
def hAs4 : List Addr := [346, 345, 351, 350, 358, 357, 365, 364, 405, 404, 410, 409, 415, 414, 422, 421, 432, 431, 439, 438, 465, 464, 472, 471, 486, 485, 505, 504, 512, 511, 526, 525, 533, 532, 552, 551, 559, 558, 566, 565]
def hAs5 : List Addr := [573, 572, 592, 591, 599, 598, 618, 617, 625, 624, 644, 643, 651, 650, 670, 669, 677, 676, 743, 742, 750, 749, 757, 756, 769, 768, 776, 775, 795, 794, 800, 799, 819, 818, 826, 825, 833, 832, 838, 837]
def hAs6 : List Addr := [893, 892, 907, 906, 914, 913, 921, 920]
def hAs : List Addr := hAs0 ++ (hAs1 ++ (hAs2 ++ (hAs3 ++ (hAs4 ++ (hAs5 ++ (hAs6))))))
def hObs (g : Addr → Option Obj) : He.AlT × Bool := (He.obsT hFa hFn hTs (He.frT g hAs), hEx (He.frT g hAs))
def hHk : PySem.W.Hook where
  α := He.AlT × Bool
  obs := fun s => hObs s.heap.get?
  val := fun w => (He.valT hFn hTs w, true)
  says := fun w h => ∃ K : PySem.W.Frag, K.In h ∧ He.SaysT hFa hFn hTs w K ∧ hEx K = true
  of := fun _ _ e => ⟨_, He.frT_in, congrArg (fun z : He.AlT × Bool => z.1) e, congrArg (fun z : He.AlT × Bool => z.2) e⟩
  keeps := fun _ _ _ ⟨K, hK, c⟩ k => ⟨K, PySem.W.Frag.In.keeps hK k, c⟩
def hOb (s : PySem.W.SharedT) : He.AlT × Bool := hObs (HandSHeadRun.getT s)
theorem hOb_eq (s : PySem.W.SharedT) : hOb s = hHk.obs s.abs := by
  have e : HandSHeadRun.getT s = s.abs.heap.get? := funext (HandSHeadRun.getT_eq s)
  show hObs _ = hObs _
  rw [e]
end Lv
namespace HT
open PySem PySem.W PySem.Calls PyProof.Rows
abbrev R : OpenRow := OpenLaw.row PySem.Challenge.rw_levyhouse_k72_whole_cut_anywhere
abbrev qv : Program := view R.prog [94]
def nms0 : List PySem.Str := ["_wall", "LevyError", "NoPart", "NoPlace", "NoCharter", "NoTaken", "NoLet", "NoYear", "NoDeed", "NotNow", "TooMany", "is_whole", "common", "is_part", "part", "plus", "minus", "times", "below", "greatest", "least", "NOUGHT_dues", "are_amounts", "need_taken", "dues", "MOST_YEARS", "NOUGHT_ledgers", "WORDS", "is_carried", "is_deed"]
def nms1 : List PySem.Str := ["own", "Ledger", "LETTERS", "KEPT", "MOST_SIGNS", "MOST_ROWS", "MOST_DEEP", "MOST_SIZE", "NOUGHT_words", "is_name", "need_part", "are_rows", "Word", "need_words", "Amount", "Name", "Two", "Plus", "Less", "Greater", "Lesser", "Times", "Bands", "Steps", "If", "two_of", "read_told", "word_of", "MOST_TAKES", "MOST_LETS"]
def nms2 : List PySem.Str := ["are_names", "is_let", "need_lets", "Charter", "_law_mixed", "_law_low", "_law_sum", "_law_rest", "_law_product", "_law_under", "_law_within", "_law_banded", "_law_stepped", "_law_value", "_law_dues", "_law_carried", "_law_small", "_law_years", "_law_plain_lets", "_law_begun", "_law_done", "_law_not_now", "_law_deed", "_law_stands", "_law_told", "_law_cut_right", "_law_long_right"]
def nms : List PySem.Str := nms0 ++ nms1 ++ nms2
end HT
namespace Lv
open PySem PySem.Spec PyProof.Rows L2
/-- the run in halves: the looks, what the Hook sees -/
theorem map_three {A B C D : Type} {o : Option A} {f : A → B} {g : A → C} {k : A → D} {a : B} {b : C} {c : D} (h1 : o.map (fun s => (f s, g s)) = some (a, b)) (h2 : o.map k = some c) : o.map (fun s => (f s, g s, k s)) = some (a, b, c) := by
  cases o with
  | none => cases h1
  | some x =>
    have e1 : (f x, g x) = (a, b) := Option.some.inj h1
    have e2 : k x = c := Option.some.inj h2
    show some (f x, g x, k x) = _
    rw [← e2, show f x = a from congrArg (fun z => z.1) e1, show g x = b from congrArg (fun z => z.2) e1]
open PySem.W PySem.Calls HandSHeadRun in
def RunL (w : World) : Prop := ∀ os : OsState, (endF (stepQ (denQ tabQ) HT.R.prog w) 12000 HT.R.prog w os).map (fun s => (looksF HT.R.prog (boot_heap w.params) s.abs, seenQ HT.qv HT.nms (importedModules HT.R.prog.main.body) (fun s => xlAt HT.qv [] s && recOk HT.R.toRowW.records s) s.abs)) = some (true, openGood HT.qv HT.nms)
open PySem.W PySem.Calls HandSHeadRun in
def RunO (w : World) : Prop := ∀ os : OsState, (endF (stepQ (denQ tabQ) HT.R.prog w) 12000 HT.R.prog w os).map hOb = some (hHk.val w)
theorem hRun0 (w : World) : RunL (w.withFollow "special-get-raises" false) := by
  intro os
  kernel_rfl
theorem hRun1 (w : World) : RunL (w.withFollow "special-get-raises" true) := by
  intro os
  kernel_rfl
theorem hRun2 (w : World) : RunO (w.withFollow "special-get-raises" false) := by
  intro os
  kernel_rfl
theorem hRun3 (w : World) : RunO (w.withFollow "special-get-raises" true) := by
  intro os
  kernel_rfl
theorem hRun (w : World) : HandSHeadRun.RunEq HT.R HT.qv hHk hOb 12000 HT.nms w := fun os =>
  map_three (PySem.W.byRow2 "special-get-raises" (P := RunL) hRun0 hRun1 w os) (PySem.W.byRow2 "special-get-raises" (P := RunO) hRun2 hRun3 w os)
end Lv
namespace Lv
open PySem PySem.W PySem.Calls PyProof.Rows L2
/-! ### the law's end, of what the walk gives -/
theorem hEnd (F : ∀ (w : World) (mg : Str → Option Value) (fa : Addr) (h : Heap), hHk.says w h → h.Ns mainGlobals mg → mg ("law" : Str) = some (.ref fa) →
    ∃ (K : PySem.W.Frag) (fd : FuncData) (sp : Sp), K.In h ∧ (∀ (s : Shared) (u : Value), BindsTo s fd ⟨[u], []⟩ [("_law_script", u)]) ∧
      (∀ (H : Hp) (a : Addr) (ns : List Int), ns.length ≤ 63 → Only H → SqL K H a (ns.map V.int) → sp [.ref a] H (fun v _ => v = .bl true) fun _ _ _ => False) ∧
      ∀ base : Heap, K.In base → base.Ns mainGlobals mg → FnOk (PySem.Challenge.rw_levyhouse_k72_whole_cut_anywhere).prog w K mg base CX0 30 fa fd ["_law_script"] sp) : PySem.Challenge.rw_levyhouse_k72_whole_cut_anywhere.Holds := by
  w_on; o_law
  refine HandSHeadRun.head_any (r := OpenLaw.row PySem.Challenge.rw_levyhouse_k72_whole_cut_anywhere) (q := view (OpenLaw.row PySem.Challenge.rw_levyhouse_k72_whole_cut_anywhere).prog [94]) (H := hHk) (ob := hOb) (M := 12000) (loose := HT.nms) (d := HandSHeadRun.topDef (OpenLaw.row PySem.Challenge.rw_levyhouse_k72_whole_cut_anywhere).prog 94) (kwd := []) hOb_eq
    (by kernel_rfl) (fun s => by kernel_rfl) hRun (by kernel_rfl) (by kernel_rfl) (by kernel_rfl) (by rfl) (by first | assumption | decide +kernel) (by decide +kernel) ⟨rfl, rfl, rfl, rfl, rfl, by decide +kernel⟩ ?hw ?hc
  case hw => w_witness2
  case hc =>
    refine L2.walk_ofE (l := PySem.Challenge.rw_levyhouse_k72_whole_cut_anywhere) (n := 63) (k := 30) (x := "_law_script") (CX := L2.CX0) rfl (by decide) (by kernel_rfl) ⟨rfl, by decide, by decide⟩ ?F (fun _ _ _ _ z => z)
    intro w mg fa h Y G hmg0
    have hmg : mg ("law" : PySem.Str) = some (.ref fa) := by
      have e : (HandSHeadRun.topDef (OpenLaw.row PySem.Challenge.rw_levyhouse_k72_whole_cut_anywhere).prog 94).name = ("law" : PySem.Str) := by kernel_rfl
      rw [← e]
      exact hmg0
    exact F w mg fa h Y G hmg
end Lv
/-! Lw: readings driven by the syntax: W X e is the weakest reading of an expression; one lemma a construct. -/
namespace Lv
open PySem PySem.Spec PyProof.Rows L2

/-- what stands around every def: the program, the world, the written part, the module's names, the base -/
structure Ev where
  P : Program
  w : World
  K : PySem.W.Frag
  mg : Str → Option Value
  base : Heap

/-- a context: a def's body, or a comprehension's block within it -/
structure Cxt (E : Ev) (k : Nat) (N : List Str) (sc : Scope) (d : Bool) (X : Cx) : Prop where
  hprog : X.prog = E.P
  hw : X.w = E.w
  hK : X.K = E.K
  hmg : X.mg = E.mg
  hbase : X.base = E.base
  hN : X.N = N
  nd : N.Nodup
  hsc : X.env.scope = sc
  room : L2.Room k X.A
  calm : X.calm = true
  fn : d = true → ∀ x, X.fn x = true
  xe : X.xe = fun _ _ => False

/-! ### the weakest readings -/
structure W (X : Cx) (e : Expr) (σ : L2.St) (H : Hp) (Q : VK) : Prop where
  run : ∀ pins s, Inv X pins σ H s → wpAny (model X.prog X.w) X.A (eval e X.env) (EP X pins σ Q) X.xe s
structure WT (X : Cx) (e : Expr) (σ : L2.St) (H : Hp) (Q : Bool → Hp → Prop) : Prop where
  run : ∀ pins s, Inv X pins σ H s → wpAny (model X.prog X.w) X.A (isTrue e X.env (eval e X.env)) (TP X pins σ Q) X.xe s
structure WW (X : Cx) (e : Expr) (σ : L2.St) (H : Hp) (Q : Bool → Hp → Prop) : Prop where
  run : ∀ wh pins s, Inv X pins σ H s → wpAny (model X.prog X.w) X.A (isTrue e X.env wh) (TP X pins σ Q) X.xe s
structure WA (X : Cx) (es : List Expr) (σ : L2.St) (H : Hp) (Q : List V → Hp → Prop) : Prop where
  run : ∀ pos pins s, Inv X pins σ H s → wpAny (model X.prog X.w) X.A (spliced (backTo pos (starEach es X.env))) (AP X pins σ Q) X.xe s
structure WS (X : Cx) (st : Stmt) (D : Ends) (σ : L2.St) (H : Hp) : Prop where
  run : ∀ pins s, Inv X pins σ H s → wpAny (model X.prog X.w) X.A (exec st X.env) (SP X pins D) X.xe s
structure WB (X : Cx) (sts : List Stmt) (D : Ends) (σ : L2.St) (H : Hp) : Prop where
  run : ∀ pins s, Inv X pins σ H s → wpAny (model X.prog X.w) X.A (execs sts X.env) (SP X pins D) X.xe s
structure WG (X : Cx) (tg : Expr) (v : V) (σ : L2.St) (H : Hp) (Q : L2.St → Hp → Prop) : Prop where
  run : ∀ pins s u, Inv X pins σ H s → RelV v u → wpAny (model X.prog X.w) X.A (assign tg X.env u) (fun _ s' => ∃ σ' H', Inv X pins σ' H' s' ∧ Q σ' H') X.xe s
structure WGs (X : Cx) (ts : List Expr) (vs : List V) (σ : L2.St) (H : Hp) (Q : L2.St → Hp → Prop) : Prop where
  run : ∀ pins s us, Inv X pins σ H s → Vals vs us → wpAny (model X.prog X.w) X.A (assignInOrder ((assignEach ts X.env).map (·.2)) us) (fun _ s' => ∃ σ' H', Inv X pins σ' H' s' ∧ Q σ' H') X.xe s
structure WBo (X : Cx) (op : Operator) (x y : V) (H : Hp) (Q : VK) : Prop where
  run : ∀ pins s σ v u, Inv X pins σ H s → RelV x v → RelV y u → wpAny (model X.prog X.w) X.A (binaryOp op v u) (EP X pins σ Q) X.xe s
structure WCo (X : Cx) (op : CmpOp) (x y : V) (H : Hp) (Q : VK) : Prop where
  run : ∀ pins s σ v u, Inv X pins σ H s → RelV x v → RelV y u → wpAny (model X.prog X.w) X.A (compareOp op v u) (EP X pins σ Q) X.xe s
structure WU (X : Cx) (op : UnaryOp) (x : V) (H : Hp) (Q : VK) : Prop where
  run : ∀ pins s σ v, Inv X pins σ H s → RelV x v → wpAny (model X.prog X.w) X.A (unaryOp op v) (EP X pins σ Q) X.xe s
structure WC (X : Cx) (f : Value) (xs : List V) (H : Hp) (Q : VK) : Prop where
  run : ∀ pins s σ us, Inv X pins σ H s → Vals xs us → wpAny (model X.prog X.w) X.A (call f us) (EP X pins σ Q) X.xe s
structure WX (X : Cx) (b : Expr) (x y : V) (H : Hp) (Q : VK) : Prop where
  run : ∀ value pins s σ v u, Inv X pins σ H s → RelV x v → RelV y u → wpAny (model X.prog X.w) X.A (subscriptTail value b v u) (EP X pins σ Q) X.xe s
structure WM (X : Cx) (id : String) (x : V) (xs : List V) (H : Hp) (Q : VK) : Prop where
  run : ∀ pins s σ v us, Inv X pins σ H s → RelV x v → Vals xs us → wpAny (model X.prog X.w) X.A (call (.builtin id) (v :: us)) (EP X pins σ Q) X.xe s

section
variable {X : Cx} {e a b c : Expr} {es : List Expr} {st : Stmt} {sts : List Stmt} {σ : L2.St} {H : Hp} {Q : VK} {D : Ends} {pos : Pos}
theorem w_pe : PE X e (W X e) := ⟨fun pins s σ H Q I h => h.run pins s I⟩
theorem w_of {t : TE} (h : PE X e t) (q : t σ H Q) : W X e σ H Q := ⟨fun pins s I => h.run pins s σ H Q I q⟩
theorem wt_pt : PT X e (WT X e) := ⟨fun pins s σ H Q I h => h.run pins s I⟩
theorem wt_of {Q : Bool → Hp → Prop} {t : TT} (h : PT X e t) (q : t σ H Q) : WT X e σ H Q := ⟨fun pins s I => h.run pins s σ H Q I q⟩
theorem ww_pw : PW X e (WW X e) := ⟨fun wh pins s σ H Q I h => h.run wh pins s I⟩
theorem ww_of {Q : Bool → Hp → Prop} {t : TT} (h : PW X e t) (q : t σ H Q) : WW X e σ H Q := ⟨fun wh pins s I => h.run wh pins s σ H Q I q⟩
theorem wa_pa : PA X es (WA X es) := ⟨fun pos pins s σ H Q I h => h.run pos pins s I⟩
theorem wa_of {Q : List V → Hp → Prop} {t : TA} (h : PA X es t) (q : t σ H Q) : WA X es σ H Q := ⟨fun pos pins s I => h.run pos pins s σ H Q I q⟩
theorem ws_ps : PS X st (WS X st) := ⟨fun pins s σ H D I h => h.run pins s I⟩
theorem ws_of {t : TS} (h : PS X st t) (q : t D σ H) : WS X st D σ H := ⟨fun pins s I => h.run pins s σ H D I q⟩
theorem wb_pss : PSs X sts (WB X sts) := ⟨fun pins s σ H D I h => h.run pins s I⟩
theorem wb_of {t : TS} (h : PSs X sts t) (q : t D σ H) : WB X sts D σ H := ⟨fun pins s I => h.run pins s σ H D I q⟩
theorem wg_pg {tg : Expr} : PG X tg (WG X tg) := ⟨fun pins s σ H v u Q I r h => h.run pins s u I r⟩
theorem wg_of {tg : Expr} {t : TG} {v : V} {Q : L2.St → Hp → Prop} (h : PG X tg t) (q : t v σ H Q) : WG X tg v σ H Q := ⟨fun pins s u I r => h.run pins s σ H v u Q I r q⟩
theorem wgs_pgs {ts : List Expr} : PGs X ts (WGs X ts) := ⟨fun pins s σ H vs us Q I r h => h.run pins s us I r⟩
theorem wb_rule {op : Operator} : OpR X (binaryOp op) (WBo X op) := fun pins s σ H x y v u Q I rx ry h => h.run pins s σ v u I rx ry
theorem wbo_of {op : Operator} {r : R2} {x y : V} (h : OpR X (binaryOp op) r) (q : r x y H Q) : WBo X op x y H Q := ⟨fun pins s σ v u I rx ry => h pins s σ H x y v u Q I rx ry q⟩
theorem wc_rule2 {op : CmpOp} : OpR X (compareOp op) (WCo X op) := fun pins s σ H x y v u Q I rx ry h => h.run pins s σ v u I rx ry
theorem wco_of {op : CmpOp} {r : R2} {x y : V} (h : OpR X (compareOp op) r) (q : r x y H Q) : WCo X op x y H Q := ⟨fun pins s σ v u I rx ry => h pins s σ H x y v u Q I rx ry q⟩
theorem wu_rule {op : UnaryOp} : UnR X (unaryOp op) (WU X op) := fun pins s σ H x v Q I rx h => h.run pins s σ v I rx
theorem wu_of {op : UnaryOp} {r : V → Hp → VK → Prop} {x : V} (h : UnR X (unaryOp op) r) (q : r x H Q) : WU X op x H Q := ⟨fun pins s σ v I rx => h pins s σ H x v Q I rx q⟩
theorem wc_rule {f : Value} : CallR X f (WC X f) := fun pins s σ H xs us Q I r h => h.run pins s σ us I r
theorem wc_of {f : Value} {r : List V → Hp → VK → Prop} {xs : List V} (h : CallR X f r) (q : r xs H Q) : WC X f xs H Q := ⟨fun pins s σ us I rs => h pins s σ H xs us Q I rs q⟩
theorem wm_rule {id : String} : MtR X id (WM X id) := fun pins s σ H x xs v us Q I rx rs h => h.run pins s σ v us I rx rs
theorem wm_of {id : String} {r : V → List V → Hp → VK → Prop} {x : V} {xs : List V} (h : MtR X id r) (q : r x xs H Q) : WM X id x xs H Q := ⟨fun pins s σ v us I rx rs => h pins s σ H x xs v us Q I rx rs q⟩
theorem wx_of {b : Expr} {r : R2} {x y : V} (h : IxR X r) (hs : PlainIx b) (q : r x y H Q) : WX X b x y H Q := ⟨fun value pins s σ v u I rx ry => h value b pins s σ H x y v u Q I rx ry q (hs _ _)⟩
end
end Lv
namespace Lv
open PySem PySem.Spec PyProof.Rows L2

/-! ### names -/
def visB (N : List Str) (sc : Scope) (i : Nat) (x : Str) : Bool :=
  decide (N[i]? = some x) && ((decide (sc.names.lookup x = some .local) || (decide (sc.names.lookup x = some .cell) || decide (sc.names.lookup x = some .free))) && (!(x == ("__debug__" : Str)) && !(x == ("__classdict__" : Str))))
def locB (dd : Bool) (N : List Str) (sc : Scope) (i : Nat) (x : Str) : Bool :=
  decide (N[i]? = some x) && (decide (sc.names.lookup x = some .local) || (dd && decide (sc.names.lookup x = some .cell)))
def gloB (sc : Scope) (x : Str) : Bool := decide (sc.names.lookup x = some .globalImplicit) && (!(x == ("__debug__" : Str)) && decide (x ≠ "__name__"))
theorem and2 {a b : Bool} (h : (a && b) = true) : a = true ∧ b = true := Bool.and_eq_true_iff.mp h
theorem or2 {a b : Bool} (h : (a || b) = true) : a = true ∨ b = true := Bool.or_eq_true_iff.mp h
theorem not1 {a : Bool} (h : (!a) = true) : a = false := by cases a <;> first | rfl | cases h

variable {E : Ev} {k : Nat} {N : List Str} {sc : Scope} {dd : Bool} {X : Cx} {σ : L2.St} {H : Hp} {Q : VK} {D : Ends} {pos p : Pos} {a b e o : Expr} {es : List Expr} {x : Str} {v : V} {QB : Bool → Hp → Prop} {QA : List V → Hp → Prop}

theorem Cxt.vis (c : Cxt E k N sc dd X) {i : Nat} (h : visB N sc i x = true) : X.N[i]? = some x ∧ Vis X.env.scope x ∧ (x == ("__debug__" : Str)) = false ∧ (x == ("__classdict__" : Str)) = false := by
  obtain ⟨h1, h2⟩ := and2 h
  obtain ⟨h3, h4⟩ := and2 h2
  obtain ⟨h5, h6⟩ := and2 h4
  refine ⟨by rw [c.hN]; exact of_decide_eq_true h1, ?_, not1 h5, not1 h6⟩
  rw [c.hsc]
  rcases or2 h3 with z | z
  · exact .inl (of_decide_eq_true z)
  · rcases or2 z with z | z
    · exact .inr (.inl (of_decide_eq_true z))
    · exact .inr (.inr (of_decide_eq_true z))
theorem Cxt.glo (c : Cxt E k N sc dd X) (h : gloB sc x = true) : Gl X x ∧ (x == ("__debug__" : Str)) = false ∧ x ≠ "__name__" := by
  obtain ⟨h1, h2⟩ := and2 h
  obtain ⟨h3, h4⟩ := and2 h2
  refine ⟨?_, not1 h3, of_decide_eq_true h4⟩
  show X.env.scope.names.lookup x = some .globalImplicit
  rw [c.hsc]
  exact of_decide_eq_true h1
theorem Cxt.stor (c : Cxt E k N sc dd X) {i : Nat} (h : locB dd N sc i x = true) : X.N.Nodup ∧ X.N[i]? = some x ∧ L2.Loc X.env.scope x ∧ (X.fn x = true ∨ X.env.scope.names.lookup x = some .local) := by
  obtain ⟨h1, h2⟩ := and2 h
  rw [c.hN, c.hsc]
  rcases or2 h2 with z | z
  · exact ⟨c.nd, of_decide_eq_true h1, .inl (of_decide_eq_true z), .inr (of_decide_eq_true z)⟩
  · obtain ⟨z1, z2⟩ := and2 z
    exact ⟨c.nd, of_decide_eq_true h1, .inr (of_decide_eq_true z2), .inl (c.fn z1 x)⟩

theorem w_name {i : Nat} (c : Cxt E k N sc dd X) (h : visB N sc i x = true) (hs : σ[i]? = some (some v)) (q : Q v H) : W X (.Name x p) σ H Q := by
  obtain ⟨h1, h2, h3, h4⟩ := c.vis h
  exact w_of (pe_var h1 h2 h3 h4) ⟨v, hs, q⟩
theorem w_int {i : Int} {j : Nat} (q : Q (.int i) H) : W X (.Constant (.int i) j p) σ H Q := w_of pe_int q
theorem w_bool {i : Bool} {j : Nat} (q : Q (.bl i) H) : W X (.Constant (.bool i) j p) σ H Q := w_of pe_bl q
theorem w_str {z : Str} {j : Nat} (q : Q (.str z) H) : W X (.Constant (.str z) j p) σ H Q := w_of pe_str q
theorem w_none {j : Nat} (q : Q .non H) : W X (.Constant .none j p) σ H Q := w_of pe_non q
/-- a module's name as a value -/
theorem w_glob {u : Value} (c : Cxt E k N sc dd X) (h : gloB sc x = true) (hm : E.mg x = some u) (r : RelV v u) (q : Q v H) : W X (.Name x p) σ H Q := by
  obtain ⟨h1, h2, _⟩ := c.glo h
  exact w_of (pe_glob h1 (by rw [c.hmg]; exact hm) r h2) q
/-- a built-in's name as a value -/
theorem w_bltn {u : Value} (c : Cxt E k N sc dd X) (h : gloB sc x = true) (hm : E.mg x = none) (hv : bootBuiltins x = some u) (r : RelV v u) (q : Q v H) : W X (.Name x p) σ H Q := by
  obtain ⟨h1, h2, h3⟩ := c.glo h
  exact w_of (pe_bltn h1 (by rw [c.hmg]; exact hm) hv r h3 h2) q

/-! ### operators -/
theorem w_bin {op : Operator} (q : W X a σ H fun x H1 => W X b σ H1 fun y H2 => WBo X op x y H2 Q) : W X (.BinOp a op b p) σ H Q := w_of (pe_op wb_rule w_pe w_pe) q
theorem w_un {op : UnaryOp} (q : W X a σ H fun x H1 => WU X op x H1 Q) : W X (.UnaryOp op a p) σ H Q := w_of (pe_un wu_rule w_pe) q
theorem w_cmp {op : CmpOp} (q : W X a σ H fun x H1 => W X b σ H1 fun y H2 => WCo X op x y H2 Q) (hm : behindInMarks op b = false := by first | exact nomark _ | rfl) : W X (.Compare a [op] [b] p) σ H Q :=
  w_of (pe_cmpR wc_rule2 w_pe w_pe hm) q
theorem wt_cmp {op : CmpOp} (q : W X a σ H fun x H1 => W X b σ H1 fun y H2 => WCo X op x y H2 fun z H3 => ∃ k, z = .bl k ∧ QB k H3) (hm : behindInMarks op b = false := by first | exact nomark _ | rfl) : WT X (.Compare a [op] [b] p) σ H QB :=
  wt_of (pt_cmpR wc_rule2 w_pe w_pe hm) q
theorem w_chain {op op' : CmpOp} {c : Expr} (q : W X a σ H fun x H1 => W X b σ H1 fun y H2 => WCo X op x y H2 fun z H3 => ∃ k, z = .bl k ∧ (if k = true then W X c σ H3 fun w' H4 => WCo X op' y w' H4 Q else Q (.bl false) H3)) (hm : lastMarks [op, op'] [b, c] = false := by rfl) :
    W X (.Compare a [op, op'] [b, c] p) σ H Q := w_of (pe_chain wc_rule2 wc_rule2 w_pe w_pe w_pe hm) q
theorem wt_chain {op op' : CmpOp} {c : Expr} (q : W X a σ H fun x H1 => W X b σ H1 fun y H2 => WCo X op x y H2 fun z H3 => ∃ k, z = .bl k ∧ (if k = true then W X c σ H3 fun w' H4 => WCo X op' y w' H4 fun z H5 => ∃ k, z = .bl k ∧ QB k H5 else ∃ k, V.bl false = .bl k ∧ QB k H3)) (hm : lastMarks [op, op'] [b, c] = false := by rfl) :
    WT X (.Compare a [op, op'] [b, c] p) σ H QB := wt_of (pt_chain wc_rule2 wc_rule2 w_pe w_pe w_pe hm) q
/-- an expression that gives a bool, as a test -/
theorem wt_val (he : ∀ whole, isTrue e X.env whole = (do let v ← whole; standAt e.pos; holding [v] (truthy v))) (q : W X e σ H fun x H1 => ∃ k, x = .bl k ∧ QB k H1) : WT X e σ H QB := wt_of (pt_val w_pe he) q
theorem wt_not (q : WT X a σ H fun k H1 => QB (!k) H1) : WT X (.UnaryOp .Not a p) σ H QB := wt_of (pt_not wt_pt) q
theorem wt_bool {op} (q : WW X (.BoolOp op es p) σ H QB) : WT X (.BoolOp op es p) σ H QB := wt_of (PW.pt ww_pw) q
theorem ww_and1 (q : WT X a σ H QB) : WW X (.BoolOp .And [a] p) σ H QB := ww_of (pw_and1 wt_pt) q
theorem ww_or1 (q : WT X a σ H QB) : WW X (.BoolOp .Or [a] p) σ H QB := ww_of (pw_or1 wt_pt) q
theorem ww_and (q : WT X a σ H fun c H1 => if c = true then WW X (.BoolOp .And (b :: es) p) σ H1 QB else QB false H1) : WW X (.BoolOp .And (a :: b :: es) p) σ H QB := ww_of (pw_and wt_pt ww_pw) q
theorem ww_or (q : WT X a σ H fun c H1 => if c = true then QB true H1 else WW X (.BoolOp .Or (b :: es) p) σ H1 QB) : WW X (.BoolOp .Or (a :: b :: es) p) σ H QB := ww_of (pw_or wt_pt ww_pw) q
theorem w_one {op} (q : W X a σ H Q) : W X (.BoolOp op [a] p) σ H Q := w_of (pe_one w_pe) q
theorem w_and (q : W X a σ H fun x H1 => ∃ c, x = .bl c ∧ if c = true then W X (.BoolOp .And (b :: es) p) σ H1 Q else Q (.bl false) H1) : W X (.BoolOp .And (a :: b :: es) p) σ H Q := w_of (pe_and w_pe w_pe) q
theorem w_or (q : W X a σ H fun x H1 => ∃ c, x = .bl c ∧ if c = true then Q (.bl true) H1 else W X (.BoolOp .Or (b :: es) p) σ H1 Q) : W X (.BoolOp .Or (a :: b :: es) p) σ H Q := w_of (pe_or w_pe w_pe) q
theorem w_not (q : W X a σ H fun x H1 => ∃ c, x = .bl c ∧ Q (.bl (!c)) H1) : W X (.UnaryOp .Not a p) σ H Q := w_of (pe_not w_pe) q
theorem w_if {c : Expr} (q : WT X c σ H fun k H1 => if k = true then W X a σ H1 Q else W X b σ H1 Q) : W X (.IfExp c a b p) σ H Q := w_of (pe_ifExp wt_pt w_pe w_pe) q

/-! ### by values -/
theorem o_add {i j : Int} (q : Q (.int (i + j)) H) : WBo X .Add (.int i) (.int j) H Q := wbo_of op_add ⟨i, j, rfl, rfl, q⟩
theorem o_sub {i j : Int} (q : Q (.int (i - j)) H) : WBo X .Sub (.int i) (.int j) H Q := wbo_of op_sub ⟨i, j, rfl, rfl, q⟩
theorem o_mul {i j : Int} (h : (-(2 ^ 64) < i ∧ i < 2 ^ 64) ∨ (-(2 ^ 64) < j ∧ j < 2 ^ 64)) (q : Q (.int (i * j)) H) : WBo X .Mult (.int i) (.int j) H Q := wbo_of op_mul ⟨i, j, rfl, rfl, h, q⟩
theorem o_div {i j : Int} (h : 0 < j ∧ j < 1073741824) (q : Q (.int (i / j)) H) : WBo X .FloorDiv (.int i) (.int j) H Q := wbo_of op_fdiv ⟨i, j, rfl, rfl, h, q⟩
theorem o_divN {i j : Int} (h : j ≠ 0 ∧ j.natAbs < 1073741824) (q : Q (.int (i.fdiv j)) H) : WBo X .FloorDiv (.int i) (.int j) H Q := wbo_of op_fdivN ⟨i, j, rfl, rfl, h, q⟩
theorem o_mod {i j : Int} (h : 0 < j) (q : Q (.int (i % j)) H) : WBo X .Mod (.int i) (.int j) H Q := wbo_of op_mod ⟨i, j, rfl, rfl, h, q⟩
theorem o_pow {i j : Int} (h : 0 ≤ j ∧ j ≤ 1000000 ∧ i.natAbs < 2 ^ 64) (q : Q (.int (i ^ j.toNat)) H) : WBo X .Pow (.int i) (.int j) H Q := wbo_of op_pow ⟨i, j, rfl, rfl, h, q⟩
theorem o_adds {i j : Str} (h : i.length + j.length ≤ sizeLine) (q : Q (.str (i ++ j)) H) : WBo X .Add (.str i) (.str j) H Q := wbo_of op_add_str ⟨i, j, rfl, rfl, h, q⟩
theorem o_lt {i j : Int} (q : Q (.bl (decide (i < j))) H) : WCo X .Lt (.int i) (.int j) H Q := wco_of op_lt ⟨i, j, rfl, rfl, q⟩
theorem o_le {i j : Int} (q : Q (.bl (decide (i ≤ j))) H) : WCo X .LtE (.int i) (.int j) H Q := wco_of op_le ⟨i, j, rfl, rfl, q⟩
theorem o_gt {i j : Int} (q : Q (.bl (decide (j < i))) H) : WCo X .Gt (.int i) (.int j) H Q := wco_of op_gt ⟨i, j, rfl, rfl, q⟩
theorem o_ge {i j : Int} (q : Q (.bl (decide (j ≤ i))) H) : WCo X .GtE (.int i) (.int j) H Q := wco_of op_ge ⟨i, j, rfl, rfl, q⟩
theorem o_eqI {i j : Int} (q : Q (.bl (decide (i = j))) H) : WCo X .Eq (.int i) (.int j) H Q := wco_of op_eq ⟨rfl, by rw [show decide (V.int i = V.int j) = decide (i = j) by simp]; exact q⟩
theorem o_neI {i j : Int} (q : Q (.bl (!decide (i = j))) H) : WCo X .NotEq (.int i) (.int j) H Q := wco_of op_ne ⟨rfl, by rw [show decide (V.int i = V.int j) = decide (i = j) by simp]; exact q⟩
theorem o_eqS {i j : Str} (q : Q (.bl (decide (i = j))) H) : WCo X .Eq (.str i) (.str j) H Q := wco_of op_eq ⟨rfl, by rw [show decide (V.str i = V.str j) = decide (i = j) by simp]; exact q⟩
theorem o_neS {i j : Str} (q : Q (.bl (!decide (i = j))) H) : WCo X .NotEq (.str i) (.str j) H Q := wco_of op_ne ⟨rfl, by rw [show decide (V.str i = V.str j) = decide (i = j) by simp]; exact q⟩
theorem o_eqB {i j : Bool} (q : Q (.bl (decide (i = j))) H) : WCo X .Eq (.bl i) (.bl j) H Q := wco_of op_eq ⟨rfl, by rw [show decide (V.bl i = V.bl j) = decide (i = j) by simp]; exact q⟩
theorem o_isN (q : Q (.bl (decide (v = .non))) H) : WCo X .Is v .non H Q := wco_of op_isN ⟨rfl, q⟩
theorem o_notN (q : Q (.bl (!decide (v = .non))) H) : WCo X .IsNot v .non H Q := wco_of op_notN ⟨rfl, q⟩
theorem u_neg {i : Int} (q : Q (.int (-i)) H) : WU X .USub (.int i) H Q := wu_of un_neg ⟨i, rfl, q⟩

/-! ### subscripts -/
theorem w_sub (q : W X a σ H fun x H1 => W X b σ H1 fun y H2 => WX X b x y H2 Q) : W X (.Subscript a b p) σ H Q := by
  refine ⟨fun pins s I => ?_⟩
  exact Subscript_ (binT w_pe w_pe I q fun v u s2 x y H2 I2 rx ry z => z.run a pins s2 σ v u I2 rx ry)
theorem x_tup {t : Addr} {xs : List V} {i : Int} (c : Cxt E k N sc dd X) (hs : PlainIx b) (h : SqT E.K H t xs) (ha : atI xs i = some v) (q : Q v H) : WX X b (.ref t) (.int i) H Q :=
  wx_of ix_tup hs ⟨t, xs, i, v, rfl, rfl, by rw [c.hK]; exact h, ha, q⟩
theorem x_lst {t : Addr} {xs : List V} {i : Int} (c : Cxt E k N sc dd X) (hs : PlainIx b) (h : SqL E.K H t xs) (ha : atI xs i = some v) (q : Q v H) : WX X b (.ref t) (.int i) H Q :=
  wx_of ix_list hs ⟨t, xs, i, v, rfl, rfl, by rw [c.hK]; exact h, ha, q⟩
theorem x_str {z : Str} {i : Int} {cp : Nat} (hs : PlainIx b) (hz : z.length ≤ sizeLine) (ha : atI z.cps.toList i = some cp) (q : Q (.str ⟨#[cp]⟩) H) : WX X b (.str z) (.int i) H Q :=
  wx_of ix_str hs ⟨z, i, cp, rfl, rfl, hz, ha, q⟩
theorem x_dic {t : Addr} {y : V} (c : Cxt E k N sc dd X) (hs : PlainIx b) (g : DGet H t y (some v)) (q : Q v H) : WX X b (.ref t) y H Q := by
  refine ⟨fun value pins s σ u w I rx ry => ?_⟩
  obtain rfl : u = Value.ref t := rx
  have hu : X.A.units + 1 < cLine := hu_of c.room
  exact tail_any (dict_typeIs I g) PySem.F.slot_dict_getitem.lookup (d_getItem hu I g ry fun w' s3 I3 rw' => ⟨v, H, I3, rw', q⟩) (hs _ _)
end Lv
namespace Lv
open PySem PySem.Spec PyProof.Rows L2

/-- a promise of a def that raises nothing -/
abbrev Pr := List V → Hp → VK → Prop
def up (sp : Pr) : Sp := fun vs H Q _ => sp vs H Q
/-- a def at g keeps the promise sp, at level k, every parameter given -/
def Df (E : Ev) (k : Nat) (g : Addr) (sp : Pr) : Prop := ∃ fd ps, FnOk E.P E.w E.K E.mg E.base CX0 k g fd ps (up sp) ∧ Binds E.K fd ps [] ∧ PySem.W.keepIn E.K (.ref g) = true
/-- a global def -/
def Dg (E : Ev) (k : Nat) (x : Str) (sp : Pr) : Prop := ∃ g, E.mg x = some (.ref g) ∧ Df E k g sp
/-- a method of the class at C -/
def Dm (E : Ev) (k : Nat) (C : Addr) (m : Str) (sp : Pr) : Prop := Cls E.K C ∧ ∃ g, Meth E.K C m g ∧ Df E k g sp
/-- an attribute of instances of the class at C -/
def At (E : Ev) (C : Addr) (f : Str) : Prop := Cls E.K C ∧ NoAttr E.K C f
/-- a class that is called: sp what the call promises -/
def Dk (E : Ev) (k : Nat) (x : Str) (sp : Pr) : Prop := ∃ C g spI, E.mg x = some (.ref C) ∧ Mk E.K C g ∧ Df E k g spI ∧
  ∀ vs H Q, sp vs H Q → ∀ y dx, H y = none → H dx = none → dx ≠ y → spI (.ref y :: vs) (upd (upd H dx (.own y)) y (.ins C dx [])) (fun v H2 => v = .non ∧ Q (.ref y) H2)

section
variable {E : Ev} {k k' : Nat} {N : List Str} {sc : Scope} {dd : Bool} {X : Cx} {σ : L2.St} {H : Hp} {Q : VK} {D : Ends} {pos p p' apos : Pos} {a b e o : Expr} {es : List Expr} {x m f : Str} {v : V} {QB : Bool → Hp → Prop} {QA : List V → Hp → Prop} {sp : Pr}

theorem wa_nil (q : QA [] H) : WA X [] σ H QA := wa_of pa_nil q
theorem wa_cons (q : W X e σ H fun y H1 => WA X es σ H1 fun ys H2 => QA (y :: ys) H2) (hs : starEach (e :: es) X.env = (false, eval e X.env) :: starEach es X.env := by rfl) : WA X (e :: es) σ H QA := wa_of (pa_cons w_pe wa_pa hs) q

theorem Cxt.k_ok (c : Cxt E k N sc dd X) {g : Addr} {fd : FuncData} {ps : List Str} (F : FnOk E.P E.w E.K E.mg E.base CX0 k' g fd ps (up sp)) : FnOk X.prog X.w X.K X.mg X.base CX0 k' g fd ps (up sp) := by
  rw [c.hprog, c.hw, c.hK, c.hmg, c.hbase]
  exact F
theorem Cxt.hu (c : Cxt E k N sc dd X) : X.A.units + 1 < cLine := hu_of c.room

theorem w_call (c : Cxt E k N sc dd X) (h : gloB sc x = true) (d : Dg E k' x sp) (hk : k' ≤ k) (q : WA X (e :: es) σ H fun vs H1 => sp vs H1 Q) (he : starEach (e :: es) X.env = (false, eval e X.env) :: starEach es X.env := by rfl)
    (hpl : (backTo p (starEach es X.env)).any (·.1) = false := by rfl) : W X (.Call (.Name x p') (e :: es) [] p) σ H Q := by
  obtain ⟨g, hm, fd, ps, F, B, K⟩ := d
  obtain ⟨h1, h2, _⟩ := c.glo h
  refine w_of (pe_call (c.k_ok F) (c.room.mono hk) h1 (by rw [c.hmg]; exact hm) (by rw [c.hK]; exact K) (by rw [c.hK]; exact B) .nil pass0 wa_pa h2 he hpl) ?_
  show WA X (e :: es) σ H fun vs H1 => sp (vs ++ []) H1 Q
  simpa only [List.append_nil] using q

theorem w_make (c : Cxt E k N sc dd X) (h : gloB sc x = true) (d : Dk E k' x sp) (hk : k' + 1 ≤ k) (q : WA X (e :: es) σ H fun vs H1 => sp vs H1 Q) (he : starEach (e :: es) X.env = (false, eval e X.env) :: starEach es X.env := by rfl)
    (hpl : (backTo p (starEach es X.env)).any (·.1) = false := by rfl) : W X (.Call (.Name x p') (e :: es) [] p) σ H Q := by
  obtain ⟨C, g, spI, hm, M, ⟨fd, ps, F, B, K⟩, im⟩ := d
  obtain ⟨h1, h2, _⟩ := c.glo h
  refine ⟨fun pins s I => (pe_make (f := g) (by rw [c.hK]; exact M) (c.k_ok F) (c.room.mono hk) h1 (by rw [c.hmg]; exact hm) (by rw [c.hK]; exact B) .nil pass0 wa_pa h2 he hpl).run pins s σ H Q I ?_⟩
  refine ⟨fun pos2 pins2 s2 I2 => ?_⟩
  refine thn (q.run pos2 pins2 s2 I2) fun us s3 ⟨vs, H1, I3, r, z⟩ => ⟨vs, H1, I3, r, fun y dx hy hdx ne => ?_⟩
  have z2 := im vs H1 Q z y dx hy hdx ne
  show spI (.ref y :: (vs ++ [])) _ _
  rw [List.append_nil]
  exact z2

/-- o.m(e, ..): the class is seen at the object -/
theorem w_meth {pl : Sem Bool} (c : Cxt E k N sc dd X) (q : W X o σ H fun y H1 => ∃ t C dx fs g sp k', y = .ref t ∧ H1 t = some (.ins C dx fs) ∧ fs.lookup m = none ∧ Cls E.K C ∧ Meth E.K C m g ∧ Df E k' g sp ∧ k' ≤ k ∧ WA X (e :: es) σ H1 fun vs H2 => sp (y :: vs) H2 Q)
    (hst : starEach (e :: es) X.env = (false, eval e X.env) :: starEach es X.env := by rfl) (hpl : (backTo p (starEach es X.env)).any (·.1) = false := by rfl)
    (ht : eval (.Call (.Attribute o m apos) (e :: es) [] p) X.env = (eval o X.env >>= fun ov => standAt apos.atName >>= fun _ => holding [ov] (getMethod ov m pl) >>= fun r => callWith p r.1 r.2 (backTo p (starEach (e :: es) X.env)) (backToKw p (keywordEach [] X.env))) := by rfl) :
    W X (.Call (.Attribute o m apos) (e :: es) [] p) σ H Q := by
  refine ⟨fun pins s I => ?_⟩
  refine PySem.W.methodCall_KW (pl := pl) (thn (q.run pins s I) fun u s1 ⟨y, H1, I1, rx, t, C, dx, fs, g, sp, k', ey, et, l, hC, hM, hD, hk, z⟩ => ?_) ht
  subst ey
  obtain rfl : u = Value.ref t := rx
  obtain ⟨fd, ps, F, B, K⟩ := hD
  rw [← c.hK] at hC hM B K
  refine getmeth_ok I1 et hC hM l ?_
  refine PySem.W.callWith_K (first := [.ref t]) (h₀ := X.base) I1.ok.mod.kin hM.kp (thn (z.run p pins s1 I1) fun us s2 ⟨vs, H2, I2, r, z2⟩ => ⟨I2.kIn, ?_⟩) hst hpl
  exact run_fn (us := .ref t :: us) (vs := .ref t :: vs) (c.k_ok F) (c.room.mono hk) B .nil pass0 I2 (.cons rfl r) (show sp (.ref t :: vs ++ []) H2 Q by rw [List.append_nil]; exact z2)
theorem w_meth0 {pl : Sem Bool} (c : Cxt E k N sc dd X) (q : W X o σ H fun y H1 => ∃ t C dx fs g sp k', y = .ref t ∧ H1 t = some (.ins C dx fs) ∧ fs.lookup m = none ∧ Cls E.K C ∧ Meth E.K C m g ∧ Df E k' g sp ∧ k' ≤ k ∧ sp [y] H1 Q)
    (ht : eval (.Call (.Attribute o m apos) [] [] p) X.env = (eval o X.env >>= fun ov => standAt apos.atName >>= fun _ => holding [ov] (getMethod ov m pl) >>= fun r => callWith p r.1 r.2 (backTo p (starEach [] X.env)) (backToKw p (keywordEach [] X.env))) := by rfl) :
    W X (.Call (.Attribute o m apos) [] [] p) σ H Q := by
  refine ⟨fun pins s I => ?_⟩
  refine PySem.W.methodCall_KW (pl := pl) (thn (q.run pins s I) fun u s1 ⟨y, H1, I1, rx, t, C, dx, fs, g, sp, k', ey, et, l, hC, hM, hD, hk, z⟩ => ?_) ht
  subst ey
  obtain rfl : u = Value.ref t := rx
  obtain ⟨fd, ps, F, B, K⟩ := hD
  rw [← c.hK] at hC hM B K
  refine getmeth_ok I1 et hC hM l ?_
  exact PySem.W.callWith_K0 (first := [.ref t]) I1.kIn hM.kp (run_fn (us := [.ref t]) (vs := [.ref t]) (c.k_ok F) (c.room.mono hk) B .nil pass0 I1 (.cons rfl .nil) (show sp ([.ref t] ++ []) H1 Q from z))

/-- o.f -/
theorem w_attr (c : Cxt E k N sc dd X) (q : W X o σ H fun y H1 => ∃ t C dx fs v, y = .ref t ∧ H1 t = some (.ins C dx fs) ∧ At E C f ∧ fs.lookup f = some v ∧ Q v H1) (hb : attributeBase o f X.env (eval o X.env) = eval o X.env := by rfl) : W X (.Attribute o f p) σ H Q := by
  refine ⟨fun pins s I => (pe_fld (f := f) w_pe hb).run pins s σ H Q I ?_⟩
  refine ⟨fun pins2 s2 I2 => ?_⟩
  refine thn (q.run pins2 s2 I2) fun u s1 ⟨y, H1, I1, r, t, C, dx, fs, v, e1, e2, ⟨h1, h2⟩, l, z⟩ => ⟨y, H1, I1, r, t, C, dx, fs, v, e1, e2, by rw [c.hK]; exact h1, by rw [c.hK]; exact h2, l, z⟩

/-! ### displays -/
theorem w_tup {x1} (q : WA X es σ H fun vs H1 => vs.length ≤ sizeLine ∧ ∀ t, H1 t = none → Q (.ref t) (upd H1 t (.tup vs))) : W X (.Tuple es x1 p) σ H Q := w_of (pe_tup wa_pa) q
theorem w_lst (q : WA X es σ H fun vs H1 => vs.length ≤ sizeLine ∧ ∀ t, H1 t = none → Q (.ref t) (upd H1 t (.lst vs))) : W X (.List es p) σ H Q := w_of (pe_lst wa_pa) q
theorem w_dict0 (q : ∀ t, H t = none → Q (.ref t) (upd H t (.dK []))) : W X (.Dict [] [] p) σ H Q := w_of pe_dnewK q

/-! ### built-ins by name -/
theorem w_callB {id : String} (c : Cxt E k N sc dd X) (h : gloB sc x = true) (hm : E.mg x = none) (hv : bootBuiltins x = some (.builtin id)) (q : WA X (e :: es) σ H fun vs H1 => WC X (.builtin id) vs H1 Q)
    (he : starEach (e :: es) X.env = (false, eval e X.env) :: starEach es X.env := by rfl) (hpl : (backTo p (starEach es X.env)).any (·.1) = false := by rfl) : W X (.Call (.Name x p') (e :: es) [] p) σ H Q := by
  obtain ⟨h1, h2, h3⟩ := c.glo h
  exact w_of (pe_callB wc_rule h1 (by rw [c.hmg]; exact hm) hv wa_pa h3 h2 he hpl) q
theorem w_callT {T : String} (c : Cxt E k N sc dd X) (h : gloB sc x = true) (hm : E.mg x = none) (hv : bootBuiltins x = some (.type T)) (q : WA X (e :: es) σ H fun vs H1 => WC X (.type T) vs H1 Q)
    (he : starEach (e :: es) X.env = (false, eval e X.env) :: starEach es X.env := by rfl) (hpl : (backTo p (starEach es X.env)).any (·.1) = false := by rfl) : W X (.Call (.Name x p') (e :: es) [] p) σ H Q := by
  obtain ⟨h1, h2, h3⟩ := c.glo h
  exact w_of (pe_callTy wc_rule h1 (by rw [c.hmg]; exact hm) hv wa_pa h3 h2 he hpl) q
theorem c_len_l {t : Addr} {xs : List V} (c : Cxt E k N sc dd X) (h : SqL E.K H t xs) (q : Q (.int xs.length) H) : WC X (.builtin "len") [.ref t] H Q := wc_of call_len_seq ⟨t, xs, rfl, .inl (by rw [c.hK]; exact h), q⟩
theorem c_len_t {t : Addr} {xs : List V} (c : Cxt E k N sc dd X) (h : SqT E.K H t xs) (q : Q (.int xs.length) H) : WC X (.builtin "len") [.ref t] H Q := wc_of call_len_seq ⟨t, xs, rfl, .inr (by rw [c.hK]; exact h), q⟩
theorem c_len_s {z : Str} (h : z.length ≤ sizeLine) (q : Q (.int z.length) H) : WC X (.builtin "len") [.str z] H Q := wc_of call_len_str ⟨z, rfl, h, q⟩
theorem c_len_d {t : Addr} {kvs : List (Key × V)} (h : H t = some (.dK kvs)) (q : Q (.int kvs.length) H) : WC X (.builtin "len") [.ref t] H Q := wc_of call_lenD ⟨t, kvs, rfl, h, q⟩
theorem c_abs {i : Int} (q : Q (.int (i.natAbs : Nat)) H) : WC X (.builtin "abs") [.int i] H Q := wc_of call_abs ⟨i, rfl, by rw [show (if i < 0 then -i else i) = ((i.natAbs : Nat) : Int) by omega]; exact q⟩
theorem c_min {i j : Int} (c : Cxt E k N sc dd X) (q : Q (.int (if j < i then j else i)) H) : WC X (.builtin "min") [.int i, .int j] H Q := wc_of (call_min2 c.calm) ⟨i, j, rfl, q⟩
theorem c_sum {t : Addr} {ns : List Int} (c : Cxt E k N sc dd X) (h : SqL E.K H t (ns.map V.int)) (q : Q (.int ns.sum) H) : WC X (.builtin "sum") [.ref t] H Q := wc_of (cr_sum c.calm) ⟨t, ns, rfl, by rw [c.hK]; exact h, q⟩
theorem c_all {t : Addr} {bs : List Bool} (c : Cxt E k N sc dd X) (h : SqL E.K H t (bs.map V.bl)) (q : Q (.bl (bs.all id)) H) : WC X (.builtin "all") [.ref t] H Q := wc_of (cr_all c.calm) ⟨t, bs, rfl, by rw [c.hK]; exact h, q⟩
theorem c_max {t : Addr} {ns : List Int} (c : Cxt E k N sc dd X) (h : SqL E.K H t (ns.map V.int)) (h0 : 0 < ns.length) (q : ∀ m, m ∈ ns → (∀ y, y ∈ ns → y ≤ m) → Q (.int m) H) : WC X (.builtin "max") [.ref t] H Q :=
  wc_of (cr_max c.calm) ⟨t, ns, rfl, by rw [c.hK]; exact h, h0, q⟩
theorem c_list_l {t : Addr} {xs : List V} (c : Cxt E k N sc dd X) (h : SqL E.K H t xs) (q : ∀ l, H l = none → Q (.ref l) (upd H l (.lst xs))) : WC X (.type "list") [.ref t] H Q := wc_of call_list_of ⟨t, xs, rfl, .inl (by rw [c.hK]; exact h), q⟩
theorem c_list_t {t : Addr} {xs : List V} (c : Cxt E k N sc dd X) (h : SqT E.K H t xs) (q : ∀ l, H l = none → Q (.ref l) (upd H l (.lst xs))) : WC X (.type "list") [.ref t] H Q := wc_of call_list_of ⟨t, xs, rfl, .inr (by rw [c.hK]; exact h), q⟩
theorem c_list_d {t : Addr} {kvs : List (Key × V)} (c : Cxt E k N sc dd X) (h : H t = some (.dK kvs)) (q : ∀ l, H l = none → Q (.ref l) (upd H l (.lst (kvs.map fun kv => kV kv.1)))) : WC X (.type "list") [.ref t] H Q :=
  wc_of (call_listD c.calm) ⟨t, kvs, rfl, .inl h, q⟩
theorem c_dict_d {t : Addr} {kvs : List (Key × V)} (h : H t = some (.dK kvs)) (q : ∀ l, H l = none → Q (.ref l) (upd H l (.dK kvs))) : WC X (.type "dict") [.ref t] H Q := wc_of call_dictD ⟨t, kvs, rfl, .inl h, q⟩
theorem c_int_b {k : Bool} (q : Q (.int (if k then 1 else 0)) H) : WC X (.type "int") [.bl k] H Q := wc_of call_int1 (.inr ⟨k, rfl, q⟩)
end
end Lv
namespace Lv
open PySem PySem.Spec PyProof.Rows L2

section
variable {E : Ev} {k k' : Nat} {N : List Str} {sc : Scope} {dd : Bool} {X : Cx} {σ : L2.St} {H : Hp} {Q : VK} {D : Ends} {pos p p' p2 apos : Pos} {a b e o i value tg : Expr} {es : List Expr} {st : Stmt} {sts body : List Stmt} {x m f : Str} {v : V} {QB : Bool → Hp → Prop} {QA : List V → Hp → Prop} {QG : L2.St → Hp → Prop}

/-! ### methods of built-in types -/
theorem w_append (c : Cxt E k N sc dd X) (q : W X o σ H fun y H1 => ∃ l xs, y = .ref l ∧ H1 l = some (.lst xs) ∧ W X e σ H1 fun z H2 => ∃ ys, H2 l = some (.lst ys) ∧ ys.length < sizeLine ∧ Q .non (upd H2 l (.lst (ys ++ [z]))))
    (hbase : attributeBase o "append" X.env (eval o X.env) = eval o X.env := by rfl)
    (hfew : ((backTo p (starEach (e :: []) X.env)).all (fun x => !x.1) && (backToKw p (keywordEach [] X.env)).all (fun x => x.1.isSome)
      && decide ((e :: []).length + ([] : List Keyword).length + (if ([] : List Keyword).isEmpty then 0 else 1) < 30)) = true := by rfl)
    (hline : (apos.endLine == p.line) = true := by rfl) (hs : starEach (e :: []) X.env = (false, eval e X.env) :: starEach [] X.env := by rfl) (hpl : (backTo p (starEach [] X.env)).any (·.1) = false := by rfl) :
    W X (.Call (.Attribute o "append" apos) [e] [] p) σ H Q := by
  refine ⟨fun pins s I => (pe_bm PySem.F.plainAttrs_list PySem.F.slot_list_append PySem.F.type_list_append mt_append w_pe (pa_cons w_pe pa_nil hs) hbase hfew hline hs hpl).run pins s σ H Q I ?_⟩
  refine ⟨fun pins2 s2 I2 => ?_⟩
  refine thn (q.run pins2 s2 I2) fun u s3 ⟨y, H1, I3, r, l, xs, ey, hl, z⟩ => ⟨y, H1, I3, r, ?_, ?_⟩
  · rw [ey]
    exact .inl ⟨rfl, xs, SqL.of hl⟩
  · refine ⟨fun pins4 s4 I4 => ?_⟩
    refine thn (z.run pins4 s4 I4) fun u s5 ⟨w, H2, I5, r5, ys, h1, h2, h3⟩ => ⟨w, H2, I5, r5, l, ys, w, ey, rfl, h1, h2, h3⟩
theorem w_pop (c : Cxt E k N sc dd X) (q : W X o σ H fun y H1 => ∃ l xs z, y = .ref l ∧ H1 l = some (.lst xs) ∧ xs[xs.length - 1]? = some z ∧ Q z (upd H1 l (.lst xs.dropLast)))
    (hbase : attributeBase o "pop" X.env (eval o X.env) = eval o X.env := by rfl) (hline : (apos.endLine == p.line) = true := by rfl) :
    W X (.Call (.Attribute o "pop" apos) [] [] p) σ H Q := by
  refine ⟨fun pins s I => (pe_bm0 PySem.F.plainAttrs_list PySem.F.slot_list_pop PySem.F.type_list_pop mt_pop w_pe hbase hline).run pins s σ H Q I ?_⟩
  refine ⟨fun pins2 s2 I2 => ?_⟩
  refine thn (q.run pins2 s2 I2) fun u s3 ⟨y, H1, I3, r, l, xs, z, ey, hl, hz, q2⟩ => ⟨y, H1, I3, r, ?_, l, xs, z, ey, rfl, hl, hz, q2⟩
  rw [ey]
  exact .inl ⟨rfl, xs, SqL.of hl⟩
theorem w_clear (c : Cxt E k N sc dd X) (q : W X o σ H fun y H1 => ∃ l kvs, y = .ref l ∧ H1 l = some (.dK kvs) ∧ Q .non (upd H1 l (.dK [])))
    (hbase : attributeBase o "clear" X.env (eval o X.env) = eval o X.env := by rfl) (hline : (apos.endLine == p.line) = true := by rfl) :
    W X (.Call (.Attribute o "clear" apos) [] [] p) σ H Q := by
  refine ⟨fun pins s I => (pe_dclear (apos := apos) (cpos := p) w_pe hbase hline).run pins s σ H Q I ?_⟩
  refine ⟨fun pins2 s2 I2 => ?_⟩
  refine thn (q.run pins2 s2 I2) fun u s3 ⟨y, H1, I3, r, l, kvs, ey, hl, q2⟩ => ⟨y, H1, I3, r, ?_, l, kvs, ey, rfl, hl, q2⟩
  rw [ey]
  exact .inr (.inr (.inl ⟨rfl, .inl ⟨kvs, hl⟩⟩))
theorem w_get2 {e2 : Expr} (c : Cxt E k N sc dd X) (q : W X o σ H fun y H1 => ∃ l, y = .ref l ∧ IsD H1 l ∧ W X e σ H1 fun z H2 => W X e2 σ H2 fun d H3 => ∃ r, DGet H3 l z r ∧ Q (r.getD d) H3) (m : M2 X o "get" apos e e2 p := by exact ⟨rfl, rfl, rfl, rfl⟩) :
    W X (.Call (.Attribute o "get" apos) [e, e2] [] p) σ H Q := w_of (pe_dget2 c.hu w_pe w_pe w_pe m) q

/-! ### in, not in, of dicts, lists, texts -/
theorem o_in_d {t : Addr} {y : V} {r : Option V} (c : Cxt E k N sc dd X) (g : DGet H t y r) (q : Q (.bl r.isSome) H) : WCo X .In y (.ref t) H Q := by
  refine ⟨fun pins s σ u w I ry rt => ?_⟩
  obtain rfl : w = Value.ref t := rt
  exact d_in c.hu I g ry fun s3 I3 => ⟨.bl r.isSome, H, I3, rfl, q⟩
theorem o_notin_d {t : Addr} {y : V} {r : Option V} (c : Cxt E k N sc dd X) (g : DGet H t y r) (q : Q (.bl (!r.isSome)) H) : WCo X .NotIn y (.ref t) H Q := by
  refine ⟨fun pins s σ u w I ry rt => ?_⟩
  obtain rfl : w = Value.ref t := rt
  exact d_notIn c.hu I g ry fun s3 I3 => ⟨.bl (!r.isSome), H, I3, rfl, q⟩
theorem o_in_l {t : Addr} {y : V} {xs : List V} (c : Cxt E k N sc dd X) (h : SqL E.K H t xs) (hy : flatV y = true) (hx : xs.all flatV = true) (q : Q (.bl (inV y xs)) H) : WCo X .In y (.ref t) H Q :=
  wco_of op_in_seq ⟨t, xs, rfl, .inl (by rw [c.hK]; exact h), hy, hx, q⟩
theorem o_notin_l {t : Addr} {y : V} {xs : List V} (c : Cxt E k N sc dd X) (h : SqL E.K H t xs) (hy : flatV y = true) (hx : xs.all flatV = true) (q : Q (.bl (!inV y xs)) H) : WCo X .NotIn y (.ref t) H Q :=
  wco_of op_notIn_seq ⟨t, xs, rfl, .inl (by rw [c.hK]; exact h), hy, hx, q⟩
theorem o_in_s {cp : Nat} {z : Str} (q : Q (.bl (decide (cp ∈ z.cps.toList))) H) : WCo X .In (.str ⟨#[cp]⟩) (.str z) H Q := wco_of op_in_sign ⟨cp, z, rfl, rfl, q⟩

/-! ### isinstance -/
theorem c_isi {y c' : V} {t u : Value} {r : Bool} (c : Cxt E k N sc dd X) (hc : ClsV c' u) (ht : TyX E.K H y t) (hk : PySem.W.kitOne E.K t u = some r) (q : Q (.bl r) H) : WC X (.builtin "isinstance") [y, c'] H Q :=
  wc_of call_isi ⟨y, c', t, u, r, rfl, hc, by rw [c.hK]; exact ht, by rw [c.hK]; exact hk, q⟩
theorem c_isiT {y : V} {tp : Addr} {cs : List V} {t : Value} {us : List Value} {r : Bool} (c : Cxt E k N sc dd X) (hp : H tp = some (.tup cs)) (hc : Paired ClsV cs us) (ht : TyX E.K H y t) (hk : PySem.W.kitAny E.K t us = some r) (q : Q (.bl r) H) :
    WC X (.builtin "isinstance") [y, .ref tp] H Q := wc_of call_isiT ⟨y, tp, cs, t, us, r, rfl, hp, hc, by rw [c.hK]; exact ht, by rw [c.hK]; exact hk, q⟩

/-! ### slices -/
def WP (X : Cx) (e : Option Expr) : TO := fun σ H Q => match e with
  | none => Q none H
  | some e => W X e σ H fun y H1 => ∃ i, y = .int i ∧ Q (some i) H1
theorem wp_po {e : Option Expr} : PO X e (WP X e) := by
  cases e with
  | none => exact po_none
  | some e => exact po_some w_pe
structure WL (X : Cx) (x : V) (lo hi : Option Int) (H : Hp) (Q : VK) : Prop where
  run : ∀ pins s σ v vl vu sl, Inv X pins σ H s → RelV x v → s.heap.IsSliceOf sl vl vu .none → IsPart vl lo → IsPart vu hi → ∃ T id, typeLookup (.type T) "__getitem__" = pure (some (.builtin id)) ∧ s.TypeIs v T ∧ wpAny (model X.prog X.w) X.A (getItem v (.ref sl)) (EP X pins σ Q) X.xe s
theorem wl_rule : SlR X (WL X) := fun pins s σ H x v vl vu lo hi sl Q I rx hs pl pu h => h.run pins s σ v vl vu sl I rx hs pl pu
theorem wl_of {r : V → Option Int → Option Int → Hp → VK → Prop} {y : V} {lo hi : Option Int} (h : SlR X r) (q : r y lo hi H Q) : WL X y lo hi H Q := ⟨fun pins s σ v vl vu sl I rx hs pl pu => h pins s σ H y v vl vu lo hi sl Q I rx hs pl pu q⟩
theorem w_slice {lo hi : Option Expr} (q : W X o σ H fun y H1 => WP X lo σ H1 fun l H2 => WP X hi σ H2 fun u H3 => WL X y l u H3 Q) : W X (.Subscript o (.Slice lo hi none p2) p) σ H Q := w_of (pe_slice wl_rule w_pe wp_po wp_po) q
theorem l_lst {t : Addr} {xs : List V} {lo hi : Option Int} (c : Cxt E k N sc dd X) (h : SqL E.K H t xs) (q : ∀ l, H l = none → Q (.ref l) (upd H l (.lst (cutV xs lo hi)))) : WL X (.ref t) lo hi H Q :=
  wl_of sl_list ⟨t, xs, rfl, by rw [c.hK]; exact h, q⟩

/-! ### targets -/
theorem wg_name {j : Nat} (c : Cxt E k N sc dd X) (h : locB dd N sc j x = true) (q : QG (σ.set j (some v)) H) : WG X (.Name x p) v σ H QG := by
  obtain ⟨h1, h2, h3, h4⟩ := c.stor h
  exact wg_of (pg_name h1 h2 h3 h4) q
theorem wgs_nil (q : QG σ H) : WGs X [] [] σ H QG := ⟨fun pins s us I r => pgs_nil.run pins s σ H [] us QG I r ⟨rfl, q⟩⟩
theorem wgs_cons {vs : List V} (q : WG X e v σ H fun σ1 H1 => WGs X es vs σ1 H1 QG) (hs : (assignEach (e :: es) X.env).map (·.2) = assign e X.env :: (assignEach es X.env).map (·.2) := by rfl) : WGs X (e :: es) (v :: vs) σ H QG :=
  ⟨fun pins s us I r => (pgs_cons wg_pg wgs_pgs hs).run pins s σ H (v :: vs) us QG I r ⟨v, vs, rfl, q⟩⟩
theorem wg_tup {j n : Nat} {t : Addr} {xs : List V} (c : Cxt E k N sc dd X) (h : SqT E.K H t xs) (hl : xs.length = n) (q : WGs X es xs σ H QG)
    (hn : (assignEach es X.env).length = n := by rfl) (hst : (assignEach es X.env).findIdx? (·.1) = none := by rfl) : WG X (.Tuple es j p) (.ref t) σ H QG :=
  wg_of (pg_tup c.calm wgs_pgs hn hst) ⟨t, xs, rfl, by rw [c.hK]; exact h, hl, q⟩

/-! ### statements -/
theorem wb_nil (q : D.nx σ H) : WB X [] D σ H := wb_of pss_nil q
theorem wb_cons (q : WS X st { D with nx := WB X sts D } σ H) : WB X (st :: sts) D σ H := wb_of (pss_cons ws_ps wb_pss) q
theorem wb_one (q : WS X st D σ H) : WB X [st] D σ H := wb_of (pss_one ws_ps) q
theorem ws_pass (q : D.nx σ H) : WS X (.Pass p) D σ H := ws_of ps_pass q
theorem ws_expr (q : W X e σ H fun _ H1 => D.nx σ H1) (hs : swapsWith e none p.line X.env = pure false := by rfl) : WS X (.Expr e p) D σ H := ws_of (ps_expr w_pe hs) q
theorem ws_ret (q : W X e σ H D.rt) : WS X (.Return (some e) p) D σ H := ws_of (ps_ret w_pe) q
theorem ws_retN (q : D.rt .non H) : WS X (.Return none p) D σ H := ws_of ps_retN q
theorem ws_if (q : WT X e σ H fun r H1 => if r = true then WB X body D σ H1 else WB X sts D σ H1) : WS X (.If e body sts p) D σ H := ws_of (ps_if wt_pt wb_pss wb_pss) q
theorem ws_set {j : Nat} (c : Cxt E k N sc dd X) (h : locB dd N sc j x = true) (q : W X e σ H fun y H1 => D.nx (σ.set j (some y)) H1) (hs : swapsWith e (some (.Name x p')) p.line X.env = pure false := by rfl) : WS X (.Assign [.Name x p'] e p) D σ H := by
  obtain ⟨h1, h2, h3, h4⟩ := c.stor h
  exact ws_of (ps_set h1 h2 h3 w_pe hs h4) q
theorem ws_asg (q : W X e σ H fun y H1 => WG X tg y σ H1 D.nx) (hs : swapsWithSole [tg] e p.line X.env = pure false := by rfl) (hw : swappedStores [tg] e X.env = pure none := by rfl)
    (h1 : (assignEach [tg] X.env).map (·.2) = [assign tg X.env] := by rfl) : WS X (.Assign [tg] e p) D σ H := ws_of (ps_asg w_pe wg_pg hs hw h1) q
theorem ws_attr (c : Cxt E k N sc dd X) (q : W X value σ H fun y H1 => W X o σ H1 fun z H2 => ∃ t C dx fs, z = .ref t ∧ H2 t = some (.ins C dx fs) ∧ At E C f ∧ fs.length < 1000 ∧ D.nx σ (upd H2 t (.ins C dx (putF f y fs))))
    (hs : swapsWith value (some (.Attribute o f p')) p.line X.env = pure false := by rfl) : WS X (.Assign [.Attribute o f p'] value p) D σ H := by
  refine ⟨fun pins s I => (ps_fld (f := f) w_pe w_pe hs).run pins s σ H D I ?_⟩
  refine ⟨fun pins2 s2 I2 => ?_⟩
  refine thn (q.run pins2 s2 I2) fun u s3 ⟨y, H1, I3, r, z⟩ => ⟨y, H1, I3, r, ?_⟩
  refine ⟨fun pins4 s4 I4 => ?_⟩
  refine thn (z.run pins4 s4 I4) fun u s5 ⟨w, H2, I5, r5, t, C, dx, fs, e1, e2, ⟨h1, h2⟩, l, q2⟩ => ⟨w, H2, I5, r5, t, C, dx, fs, e1, e2, by rw [c.hK]; exact h1, by rw [c.hK]; exact h2, l, q2⟩
/-- o[i] = value, by values -/
structure WI2 (X : Cx) (ov iv v : V) (H : Hp) (Q : Hp → Prop) : Prop where
  run : ∀ pins s σ a b u, Inv X pins σ H s → RelV ov a → RelV iv b → RelV v u → wpAny (model X.prog X.w) X.A (setItem a b u) (fun _ s' => ∃ H', Inv X pins σ H' s' ∧ Q H') X.xe s
theorem ws_sub (q : W X value σ H fun v H1 => W X o σ H1 fun y H2 => W X i σ H2 fun z H3 => WI2 X y z v H3 fun H4 => D.nx σ H4) (hs : swapsWith value (some (.Subscript o i p')) p.line X.env = pure false := by rfl) :
    WS X (.Assign [.Subscript o i p'] value p) D σ H := by
  refine ⟨fun pins s I => ?_⟩
  refine wpAny_Assign_Subscript (thn (q.run pins s I) fun r s1 ⟨v, H1, I1, rv, q1⟩ => thn (q1.run pins s1 I1) fun u s2 ⟨y, H2, I2, ry, q2⟩ => thn (q2.run pins s2 I2) fun iv s3 ⟨z, H3, I3, rz, q3⟩ => ?_) hs
  exact thn (q3.run pins s3 σ u iv r I3 ry rz rv) fun _ s4 ⟨H4, I4, q4⟩ => ⟨σ, H4, I4, q4⟩
theorem i_dic {t : Addr} {y : V} {H' : Hp} {Q : Hp → Prop} (c : Cxt E k N sc dd X) (g : DPut H t y v H') (q : Q H') : WI2 X (.ref t) y v H Q := by
  refine ⟨fun pins s σ a b u I ra rb ru => ?_⟩
  obtain rfl : a = Value.ref t := ra
  exact d_setItem c.hu I g rb ru fun s4 I4 => ⟨H', I4, q⟩
theorem i_lst {t : Addr} {xs : List V} {n : Int} {j : Nat} {Q : Hp → Prop} (h : H t = some (.lst xs)) (hj : ixN xs.length n = some j) (q : Q (upd H t (.lst (xs.set j v)))) : WI2 X (.ref t) (.int n) v H Q :=
  ⟨fun pins s σ a b u I ra rb ru => set_list pins s σ H (.ref t) (.int n) v a b u Q I ra rb ru ⟨t, xs, n, j, rfl, rfl, h, hj, q⟩⟩
theorem swapped_ok {env : Env} {y : Str} {px py pt : Pos} {kt k2 : Nat} {pt2 : Pos} (hb : env.scope.kind = .function) (hx : env.scope.names.lookup x = some .local) (hy : env.scope.names.lookup y = some .local) (hl : px.line = py.line) (hne : (y == x) = false)
    (ha : ∀ e q, a ≠ .Starred e q) (hb2 : ∀ e q, b ≠ .Starred e q) (hf : [a, b].all (foldedForSure 8) = false) (hc : [a, b].all (constantsAlone 8) = false) :
    swappedStores [.Tuple [.Name x px, .Name y py] kt pt] (.Tuple [a, b] k2 pt2) env = pure (some [x, y]) := by
  have kx : env.kindOf x = some .local := hx
  have ky : env.kindOf y = some .local := hy
  have kb : env.blockKind = .function := by
    unfold Env.blockKind
    rw [hb]
    rfl
  have er : [x, y].eraseDups = [x, y] := by
    rw [List.eraseDups_cons]
    simp only [List.filter_cons, hne, Bool.not_false, List.filter_nil, if_true]
    rw [List.eraseDups_cons]
    rfl
  unfold swappedStores
  simp only [List.any_cons, List.any_nil, List.filterMap_cons, List.filterMap_nil, kx, ky, kb, hf, hc, Expr.pos, hl, List.length_cons, List.length_nil, List.head?_cons, Option.map_some, Option.getD_some, beq_self_eq_true, Bool.and_self, if_true, er, bne_self_eq_false, Bool.or_false, Bool.false_eq_true, if_false, Nat.reduceAdd, Nat.reduceBEq, Bool.true_or, Bool.not_true]
/-- a, b = x, y -/
theorem ws_par {j l : Nat} {y : Str} {px py pt : Pos} {kt k2 : Nat} {pt2 : Pos} (c : Cxt E k N sc dd X) (h1 : locB dd N sc j x = true) (h2 : locB dd N sc l y = true) (hk : sc.kind = .function) (hx : sc.names.lookup x = some .local) (hy : sc.names.lookup y = some .local) (hjl : j ≠ l)
    (hne : (y == x) = false) (q : W X a σ H fun u H1 => W X b σ H1 fun w H2 => D.nx ((σ.set j (some u)).set l (some w)) H2) (hl : px.line = py.line := by rfl)
    (h6 : ∀ e q, a ≠ .Starred e q := by intro _ _ h; cases h) (h7 : ∀ e q, b ≠ .Starred e q := by intro _ _ h; cases h) (h4 : [a, b].all (foldedForSure 8) = false := by rfl) (h5 : [a, b].all (constantsAlone 8) = false := by rfl)
    (hs : swapsWithSole [.Tuple [.Name x px, .Name y py] kt pt] (.Tuple [a, b] k2 pt2) p.line X.env = pure false := by rfl)
    (n1 : starEach (a :: [b]) X.env = (false, eval a X.env) :: starEach [b] X.env := by rfl) (n2 : starEach (b :: []) X.env = (false, eval b X.env) :: starEach [] X.env := by rfl) :
    WS X (.Assign [.Tuple [.Name x px, .Name y py] kt pt] (.Tuple [a, b] k2 pt2) p) D σ H := by
  obtain ⟨g1, g2, _, _⟩ := c.stor h1
  obtain ⟨_, g3, _, _⟩ := c.stor h2
  refine ws_of (ps_par c.calm g1 g2 g3 hjl (by rw [c.hsc]; exact hx) (by rw [c.hsc]; exact hy) (pa_cons w_pe (pa_cons w_pe pa_nil n2) n1) (swapped_ok (by rw [c.hsc]; exact hk) (by rw [c.hsc]; exact hx) (by rw [c.hsc]; exact hy) hl hne h6 h7 h4 h5) hs) ?_
  refine ⟨fun pins s I => ?_⟩
  refine thn (q.run pins s I) fun u s1 ⟨y1, H1, I1, r1, z⟩ => ⟨y1, H1, I1, r1, ?_⟩
  refine ⟨fun pins2 s2 I2 => ?_⟩
  exact thn (z.run pins2 s2 I2) fun u s3 ⟨y2, H2, I3, r2, z2⟩ => ⟨y2, H2, I3, r2, y1, y2, rfl, z2⟩
/-- name += list -/
theorem ws_ext {j : Nat} (c : Cxt E k N sc dd X) (h : locB dd N sc j x = true) {l : Addr} {xs : List V} (hs : σ[j]? = some (some (.ref l))) (q : W X e σ H fun y H1 => ∃ b xs zs, y = .ref b ∧ H1 l = some (.lst xs) ∧ H1 b = some (.lst zs) ∧ xs.length + zs.length ≤ sizeLine ∧ D.nx (σ.set j (some (.ref l))) (upd H1 l (.lst (xs ++ zs)))) :
    WS X (.AugAssign (.Name x p') .Add e p) D σ H := by
  obtain ⟨h1, h2, h3, h4⟩ := c.stor h
  refine ws_of (ps_aug (ti := rExt2) h1 h2 h3 w_pe iop_ext h4) ⟨.ref l, hs, ?_⟩
  refine ⟨fun pins s I => ?_⟩
  exact thn (q.run pins s I) fun u s1 ⟨y, H1, I1, r, b, xs, zs, e1, e2, e3, e4, z⟩ => ⟨y, H1, I1, r, l, b, xs, zs, rfl, e1, e2, e3, e4, z⟩
theorem ws_no (q : False) : WS X st D σ H := q.elim
theorem wb_no (q : False) : WB X sts D σ H := q.elim
theorem Cxt.passes (c : Cxt E k N sc dd X) : PassesOwn (model X.prog X.w) X.A X.env X.xe := by
  rw [c.xe]
  exact PassesOwn.never
theorem ws_while (c : Cxt E k N sc dd X) (q : tWhile (WT X e) (WB X body) D σ H) : WS X (.While e body [] p) D σ H := ws_of (ps_while c.passes wt_pt wb_pss) q
/-- what a for walks -/
structure WI (X : Cx) (tg iter : Expr) (σ : L2.St) (H : Hp) (R : It → Hp → Prop) : Prop where
  run : ∀ pins s, Inv X pins σ H s → wpAny (model X.prog X.w) X.A (eval iter X.env) (fun v s1 => wpAny (model X.prog X.w) X.A (pyIter v) (PIE X pins σ tg R) X.xe s1) X.xe s
theorem wi_pi : PI X tg e (WI X tg e) := ⟨fun pins s σ H R I h => h.run pins s I⟩
theorem wi_of {t : TI} {R : It → Hp → Prop} (h : PI X tg e t) (q : t σ H R) : WI X tg e σ H R := ⟨fun pins s I => h.run pins s σ H R I q⟩
theorem ws_for (c : Cxt E k N sc dd X) (q : tFor (WI X tg e) (WG X tg) (WB X body) D σ H) (hs : ∀ x, foldedSetIterable e X.env x = pure x := by intro _; rfl) : WS X (.For tg e body [] p) D σ H :=
  ws_of (ps_for c.passes c.calm wi_pi wg_pg wb_pss hs) q
theorem wi_list {R : It → Hp → Prop} (c : Cxt E k N sc dd X) (q : W X e σ H fun y H1 => ∃ t, y = .ref t ∧ (∃ xs, SqL E.K H1 t xs) ∧ R (Itl E.K t) H1) : WI X tg e σ H R := by
  rw [← c.hK] at q
  exact wi_of (pi_list w_pe) q
theorem wi_tup {R : It → Hp → Prop} (c : Cxt E k N sc dd X) (q : W X e σ H fun y H1 => ∃ t, y = .ref t ∧ (∃ xs, SqT E.K H1 t xs) ∧ R (Itt E.K t) H1) : WI X tg e σ H R := by
  rw [← c.hK] at q
  exact wi_of (pi_tup w_pe) q
theorem wi_str {R : It → Hp → Prop} (c : Cxt E k N sc dd X) (q : W X e σ H fun y H1 => ∃ z, y = .str z ∧ R (Its z) H1) : WI X tg e σ H R := wi_of (pi_str w_pe) q
theorem wi_range {R : It → Hp → Prop} (c : Cxt E k N sc dd X) (h : gloB sc "range" = true) (hm : E.mg "range" = none) (q : W X e σ H fun y H1 => ∃ j : Int, y = .int j ∧ -(2 ^ 62) ≤ j ∧ j < 2 ^ 62 ∧ R (Itr 0 j.toNat) H1)
    (hs : starEach [e] X.env = [(false, eval e X.env)] := by rfl) (n1 : starEach (e :: []) X.env = (false, eval e X.env) :: starEach [] X.env := by rfl) : WI X tg (.Call (.Name "range" p') [e] [] p) σ H R := by
  obtain ⟨h1, _⟩ := c.glo h
  refine wi_of (pi_range1 h1 (by rw [c.hmg]; exact hm) (pa_cons w_pe pa_nil n1) hs) ?_
  refine ⟨fun pins s I => ?_⟩
  exact thn (q.run pins s I) fun u s1 ⟨y, H1, I1, r, j, ey, z⟩ => ⟨y, H1, I1, r, j, by rw [ey], z⟩
theorem wi_enum {R : It → Hp → Prop} {kk : Nat} {tpos : Pos} (c : Cxt E k N sc dd X) (h : gloB sc "enumerate" = true) (hm : E.mg "enumerate" = none) (q : W X e σ H fun y H1 => ∃ t xs, y = .ref t ∧ SqL E.K H1 t xs ∧ R (Ite E.K t) H1)
    (hs : starEach [e] X.env = [(false, eval e X.env)] := by rfl) (n1 : starEach (e :: []) X.env = (false, eval e X.env) :: starEach [] X.env := by rfl) : WI X (.Tuple es kk tpos) (.Call (.Name "enumerate" p') [e] [] p) σ H R := by
  obtain ⟨h1, _⟩ := c.glo h
  rw [← c.hK] at q
  refine wi_of (pi_enum h1 (by rw [c.hmg]; exact hm) (pa_cons w_pe pa_nil n1) hs) ?_
  refine ⟨fun pins s I => ?_⟩
  exact thn (q.run pins s I) fun u s1 ⟨y, H1, I1, r, t, xs, ey, z⟩ => ⟨y, H1, I1, r, t, xs, by rw [ey], z⟩
theorem wi_zip {R : It → Hp → Prop} {kk : Nat} {tpos : Pos} {e2 : Expr} (c : Cxt E k N sc dd X) (h : gloB sc "zip" = true) (hm : E.mg "zip" = none) (q : W X e σ H fun y H1 => W X e2 σ H1 fun z H2 => ∃ t u xs ys, y = .ref t ∧ z = .ref u ∧ SqL E.K H2 t xs ∧ SqL E.K H2 u ys ∧ R (Itz E.K t u) H2)
    (hs : starEach [e, e2] X.env = (false, eval e X.env) :: starEach [e2] X.env := by rfl) (n1 : starEach (e2 :: []) X.env = (false, eval e2 X.env) :: starEach [] X.env := by rfl) (hpl : (backTo p (starEach [e2] X.env)).any (·.1) = false := by rfl) :
    WI X (.Tuple es kk tpos) (.Call (.Name "zip" p') [e, e2] [] p) σ H R := by
  obtain ⟨h1, _⟩ := c.glo h
  rw [← c.hK] at q
  refine wi_of (pi_zip h1 (by rw [c.hmg]; exact hm) (pa_cons w_pe (pa_cons w_pe pa_nil n1) hs) hs hpl) ?_
  refine ⟨fun pins s I => ?_⟩
  refine thn (q.run pins s I) fun u s1 ⟨y, H1, I1, r, z⟩ => ⟨y, H1, I1, r, ?_⟩
  refine ⟨fun pins2 s2 I2 => ?_⟩
  exact thn (z.run pins2 s2 I2) fun u s3 ⟨y2, H2, I3, r2, t, u, xs, ys, e1, e2, z2⟩ => ⟨y2, H2, I3, r2, t, u, xs, ys, by rw [e1, e2], z2⟩
theorem wi_items {R : It → Hp → Prop} {kk : Nat} {tpos : Pos} (q : W X o σ H fun y H1 => ∃ d ob kvs, y = .ref d ∧ H1 d = some (.frz ob (.dK kvs)) ∧ R (Iti d ob kvs) H1)
    (hbase : attributeBase o "items" X.env (eval o X.env) = eval o X.env := by rfl) (hline : (apos.endLine == p.line) = true := by rfl) : WI X (.Tuple es kk tpos) (.Call (.Attribute o "items" apos) [] [] p) σ H R :=
  wi_of (pi_items w_pe hbase hline) q
theorem wi_values {R : It → Hp → Prop} (q : W X o σ H fun y H1 => ∃ d ob kvs, y = .ref d ∧ H1 d = some (.frz ob (.dK kvs)) ∧ R (Itd d ob kvs) H1)
    (hbase : attributeBase o "values" X.env (eval o X.env) = eval o X.env := by rfl) (hline : (apos.endLine == p.line) = true := by rfl) : WI X tg (.Call (.Attribute o "values" apos) [] [] p) σ H R :=
  wi_of (pi_values w_pe hbase hline) q
theorem ws_lock (q : tLock (WS X st) D σ H) : WS X st D σ H := ws_of (ps_lock ws_ps) q
theorem w_lock (q : tLockE (W X e) σ H Q) : W X e σ H Q := w_of (pe_lock w_pe) q

/-! ### comprehensions -/
def WTs (X : Cx) (ifs : List Expr) : TT := fun σ H Q => match ifs with
  | [] => Q true H
  | [e] => WT X e σ H Q
  | _ => False
theorem wts_pts {ifs : List Expr} : PTs X ifs (WTs X ifs) := by
  match ifs with
  | [] => exact pts_nil
  | [e] => exact pts_one wt_pt
  | _ :: _ :: _ => exact ⟨fun _ _ _ _ _ _ h => h.elim⟩
theorem relabel_eq (scope : Scope) (env : Env) : relabel scope env = relS scope env.scope := rfl
theorem Cxt.blk (c : Cxt E k N sc dd X) {scope : Scope} (s : Shared) (H : Hp) (C : Addr) (cl : List (Str × Addr)) (fp : List Addr) : Cxt E k N (relS scope sc) false (X.blk s H scope (compEnvC scope cl C X.env) fp) := by
  refine ⟨c.hprog, c.hw, c.hK, c.hmg, c.hbase, c.hN, c.nd, ?_, c.room, c.calm, fun z => (nomatch z), rfl⟩
  show relabel scope X.env = relS scope sc
  rw [relabel_eq, c.hsc]

/-- a comprehension: tg in iter, by what the walk gives; own: its names with their slots -/
def LcT (E : Ev) (k : Nat) (N : List Str) (sc' : Scope) (tg elt : Expr) (ifs : List Expr) (wi : TI) (vs : List Nat) : TE :=
  tLc wi (fun v σ H Q => ∀ Y, Cxt E k N sc' false Y → WG Y tg v σ H Q) (fun σ H Q => ∀ Y, Cxt E k N sc' false Y → WTs Y ifs σ H Q) (fun σ H Q => ∀ Y, Cxt E k N sc' false Y → W Y elt σ H Q) vs
theorem w_lc {elt iter : Expr} {ifs : List Expr} {scope : Scope} (c : Cxt E k N sc dd X) (own : List (Str × Nat)) (ok : blkC N sc scope own = true) (q : LcT E k N (relS scope sc) tg elt ifs (WI X tg iter) (own.map (·.2)) σ H Q)
    (hs : ∀ x, foldedSetIterable iter X.env x = pure x := by intro _; rfl) : W X (.ListComp elt [⟨tg, iter, ifs, 0⟩] scope p) σ H Q := by
  refine w_of (pe_lc (own := own) c.calm (by rw [c.hN]; exact c.nd) wi_pi (by rw [c.hN, c.hsc]; exact blkOk_by ok) (fun s H C cl fp => ?_) (fun s H C cl fp => ?_) (fun s H C cl fp => ?_) hs) q
  · exact ⟨fun pins s2 σ H v u Q I r h => (h _ (c.blk _ _ _ _ _)).run pins s2 u I r⟩
  · exact ⟨fun pins s2 σ H Q I h => wts_pts.run pins s2 σ H Q I (h _ (c.blk _ _ _ _ _))⟩
  · exact ⟨fun pins s2 σ H Q I h => (h _ (c.blk _ _ _ _ _)).run pins s2 I⟩
/-- name = [..], the name a plain local -/
theorem ws_setLc {elt iter : Expr} {ifs : List Expr} {scope : Scope} {j : Nat} {py : Pos} (c : Cxt E k N sc dd X) (h : locB dd N sc j x = true) (hl : sc.names.lookup x = some .local) (own : List (Str × Nat)) (ok : blkC N sc scope own = true)
    (hk : sc.kind = .function) (hp : (py.line == p2.line) = true) (ha : (scope.names.any fun (n, k) => n == x && (k == .local || k == .cell)) = false)
    (q : LcT E k N (relS scope sc) tg elt ifs (WI X tg iter) (own.map (·.2)) σ H fun y H1 => D.nx (σ.set j (some y)) H1) (hs : ∀ x, foldedSetIterable iter X.env x = pure x := by intro _; rfl) :
    WS X (.Assign [.Name x py] (.ListComp elt [⟨tg, iter, ifs, 0⟩] scope p2) p) D σ H := by
  obtain ⟨h1, h2, _⟩ := c.stor h
  refine ws_of (ps_setLc (own := own) c.calm h1 h2 (by rw [c.hsc]; exact hl) (sw_true (by rw [c.hsc]; exact hk) (by rw [c.hsc]; exact hl) hp ha) wi_pi (by rw [c.hN, c.hsc]; exact blkOk_by ok) (fun s H C cl fp => ?_) (fun s H C cl fp => ?_) (fun s H C cl fp => ?_) hs) q
  · exact ⟨fun pins s2 σ H v u Q I r h => (h _ (c.blk _ _ _ _ _)).run pins s2 u I r⟩
  · exact ⟨fun pins s2 σ H Q I h => wts_pts.run pins s2 σ H Q I (h _ (c.blk _ _ _ _ _))⟩
  · exact ⟨fun pins s2 σ H Q I h => (h _ (c.blk _ _ _ _ _)).run pins s2 I⟩
end
end Lv
namespace Lv
open PySem PySem.Spec PyProof.Rows L2

/-- a def of the text as it stands at f, its parameters ps -/
structure FD (E : Ev) (st : Stmt) (ps : List Str) (f : Addr) : Prop where
  ex : ∃ fd x qual dvs kws, FunD E.K x qual (defArgs st) (defBody st) (defScope st) dvs kws f fd ∧ Binds E.K fd ps []
/-- a global def -/
def GD (E : Ev) (x : Str) (st : Stmt) (ps : List Str) : Prop := ∃ f, E.mg x = some (.ref f) ∧ FD E st ps f

theorem df_of {E : Ev} {st : Stmt} {N ps : List Str} {f : Addr} {k : Nat} {sp : Pr} (F : FD E st ps f) (S : FnScope N ps (defScope st)) (len : ∀ vs H Q, sp vs H Q → vs.length = ps.length)
    (body : ∀ X vs H Q, Cxt E k N (defScope st) true X → sp vs H Q → WB X (defBody st) { nx := fun _ H' => Q .non H', rt := Q } (start N vs) H) : Df E (k + 1) f sp := by
  obtain ⟨fd, x, qual, dvs, kws, F, B⟩ := F.ex
  refine ⟨fd, ps, F.ok S (fun vs H Q _ h => len vs H Q h) fun cdv A outer s H vs Q Er hr h => ?_, B, F.kp⟩
  refine ⟨WB _ (defBody st), PSs.nox wb_pss, body _ vs H Q ⟨rfl, rfl, rfl, rfl, rfl, rfl, S.nd, rfl, hr, rfl, fun _ _ => rfl, rfl⟩ h⟩
theorem dg_of {E : Ev} {x : Str} {st : Stmt} {N ps : List Str} {k : Nat} {sp : Pr} (F : GD E x st ps) (S : FnScope N ps (defScope st)) (len : ∀ vs H Q, sp vs H Q → vs.length = ps.length)
    (body : ∀ X vs H Q, Cxt E k N (defScope st) true X → sp vs H Q → WB X (defBody st) { nx := fun _ H' => Q .non H', rt := Q } (start N vs) H) : Dg E (k + 1) x sp := by
  obtain ⟨f, hm, F⟩ := F
  exact ⟨f, hm, df_of F S len body⟩
theorem Df.mono {E : Ev} {j k : Nat} {g : Addr} {sp : Pr} (d : Df E j g sp) (h : j ≤ k) : Df E k g sp := by
  obtain ⟨fd, ps, F, B, K⟩ := d
  exact ⟨fd, ps, F.mono h, B, K⟩
theorem Df.imp {E : Ev} {k : Nat} {g : Addr} {sp sp' : Pr} (d : Df E k g sp) (h : ∀ vs H Q, sp' vs H Q → sp vs H Q) : Df E k g sp' := by
  obtain ⟨fd, ps, F, B, K⟩ := d
  exact ⟨fd, ps, F.imp fun vs H Q _ z => h vs H Q z, B, K⟩
theorem Dg.imp {E : Ev} {k : Nat} {x : Str} {sp sp' : Pr} (d : Dg E k x sp) (h : ∀ vs H Q, sp' vs H Q → sp vs H Q) : Dg E k x sp' := by
  obtain ⟨g, hm, D⟩ := d
  exact ⟨g, hm, D.imp h⟩

/-! ### the text by places -/
end Lv
namespace Lv
open PySem PySem.Spec PyProof.Rows L2

/-! ### parts: halves -/
/-- the pair of the number z / 2 in lowest terms -/
def cn (z : Int) : Int × Int := if z % 2 = 0 then (z / 2, 1) else (z, 2)
theorem cn_cases (z : Int) : ((cn z).2 = 1 ∧ z = 2 * (cn z).1) ∨ ((cn z).2 = 2 ∧ z = (cn z).1 ∧ z % 2 = 1) := by
  unfold cn
  by_cases h : z % 2 = 0
  · rw [if_pos h]
    left
    exact ⟨rfl, by omega⟩
  · rw [if_neg h]
    right
    exact ⟨rfl, rfl, by omega⟩
theorem cn_gcd (z : Int) : Nat.gcd (cn z).1.natAbs (cn z).2.natAbs = 1 := by
  rcases cn_cases z with ⟨h1, h2⟩ | ⟨h1, h2, h3⟩
  · rw [h1]
    exact Nat.gcd_one_right _
  · rw [h1, ← h2]
    show Nat.gcd z.natAbs 2 = 1
    have h4 : z.natAbs % 2 = 1 := by omega
    rw [Nat.gcd_comm, Nat.gcd_rec, h4]
    exact Nat.gcd_one_left 2
/-- u / d = z / 2, d one of 1, 2, 4: the quotients by the greatest divisor are z's pair -/
theorem cn_of {u d z : Int} (hd : d = 1 ∨ d = 2 ∨ d = 4) (h : 2 * u = z * d) : u.fdiv (Nat.gcd u.natAbs d.natAbs : Nat) = (cn z).1 ∧ d.fdiv (Nat.gcd u.natAbs d.natAbs : Nat) = (cn z).2 := by
  have key : ∀ g : Nat, Nat.gcd u.natAbs d.natAbs = g → g ≠ 0 → u.fdiv (g : Int) = u / g ∧ d.fdiv (g : Int) = d / g := fun g _ _ =>
    ⟨Int.fdiv_eq_ediv_of_nonneg _ (by omega), Int.fdiv_eq_ediv_of_nonneg _ (by omega)⟩
  have g2 : ∀ n : Nat, Nat.gcd n 2 = if n % 2 = 0 then 2 else 1 := fun n => by
    rw [Nat.gcd_comm, Nat.gcd_rec]
    by_cases e : n % 2 = 0
    · rw [e, if_pos rfl]; rfl
    · rw [if_neg e, show n % 2 = 1 by omega]; rfl
  have g4 : ∀ n : Nat, Nat.gcd n 4 = if n % 4 = 0 then 4 else if n % 2 = 0 then 2 else 1 := fun n => by
    rw [Nat.gcd_comm, Nat.gcd_rec]
    by_cases e : n % 4 = 0
    · rw [e, if_pos rfl]; rfl
    · rw [if_neg e]
      by_cases e2 : n % 2 = 0
      · rw [if_pos e2, show n % 4 = 2 by omega]; rfl
      · rw [if_neg e2]
        rcases (show n % 4 = 1 ∨ n % 4 = 3 by omega) with z | z <;> rw [z] <;> rfl
  rcases hd with rfl | rfl | rfl
  · have e : Nat.gcd u.natAbs (1 : Int).natAbs = 1 := Nat.gcd_one_right _
    obtain ⟨k1, k2⟩ := key 1 e (by omega)
    rw [e, k1, k2]
    have hz : z % 2 = 0 := by omega
    unfold cn
    rw [if_pos hz]
    exact ⟨by omega, by omega⟩
  · have e : Nat.gcd u.natAbs (2 : Int).natAbs = if u.natAbs % 2 = 0 then 2 else 1 := g2 _
    unfold cn
    by_cases hz : z % 2 = 0
    · rw [if_pos (by omega : u.natAbs % 2 = 0)] at e
      obtain ⟨k1, k2⟩ := key 2 e (by omega)
      rw [e, k1, k2, if_pos hz]
      exact ⟨by omega, by omega⟩
    · rw [if_neg (by omega : ¬ u.natAbs % 2 = 0)] at e
      obtain ⟨k1, k2⟩ := key 1 e (by omega)
      rw [e, k1, k2, if_neg hz]
      exact ⟨by omega, by omega⟩
  · have e : Nat.gcd u.natAbs (4 : Int).natAbs = if u.natAbs % 4 = 0 then 4 else if u.natAbs % 2 = 0 then 2 else 1 := g4 _
    unfold cn
    by_cases hz : z % 2 = 0
    · rw [if_pos (by omega : u.natAbs % 4 = 0)] at e
      obtain ⟨k1, k2⟩ := key 4 e (by omega)
      rw [e, k1, k2, if_pos hz]
      exact ⟨by omega, by omega⟩
    · rw [if_neg (by omega : ¬ u.natAbs % 4 = 0), if_pos (by omega : u.natAbs % 2 = 0)] at e
      obtain ⟨k1, k2⟩ := key 2 e (by omega)
      rw [e, k1, k2, if_neg hz]
      exact ⟨by omega, by omega⟩
theorem cn_inj {x y : Int} (h : cn x = cn y) : x = y := by
  rcases cn_cases x with ⟨a1, a2⟩ | ⟨a1, a2, _⟩ <;> rcases cn_cases y with ⟨b1, b2⟩ | ⟨b1, b2, _⟩ <;> rw [h] at a1 a2 <;> omega
/-- one[0] * other[1] < other[0] * one[1] -/
theorem cn_lt (x y : Int) : ((cn x).1 * (cn y).2 < (cn y).1 * (cn x).2) ↔ x < y := by
  rcases cn_cases x with ⟨a1, a2⟩ | ⟨a1, a2, _⟩ <;> rcases cn_cases y with ⟨b1, b2⟩ | ⟨b1, b2, _⟩ <;> rw [a1, b1] <;> omega
theorem cn_d (x y : Int) : (cn x).2 * (cn y).2 = 1 ∨ (cn x).2 * (cn y).2 = 2 ∨ (cn x).2 * (cn y).2 = 4 := by
  rcases cn_cases x with ⟨a1, _⟩ | ⟨a1, _, _⟩ <;> rcases cn_cases y with ⟨b1, _⟩ | ⟨b1, _, _⟩ <;> rw [a1, b1] <;> omega
theorem cn_add (x y : Int) : 2 * ((cn x).1 * (cn y).2 + (cn y).1 * (cn x).2) = (x + y) * ((cn x).2 * (cn y).2) := by
  rcases cn_cases x with ⟨a1, a2⟩ | ⟨a1, a2, _⟩ <;> rcases cn_cases y with ⟨b1, b2⟩ | ⟨b1, b2, _⟩ <;> rw [a1, b1] <;> omega
theorem cn_sub (x y : Int) : 2 * ((cn x).1 * (cn y).2 - (cn y).1 * (cn x).2) = (x - y) * ((cn x).2 * (cn y).2) := by
  rcases cn_cases x with ⟨a1, a2⟩ | ⟨a1, a2, _⟩ <;> rcases cn_cases y with ⟨b1, b2⟩ | ⟨b1, b2, _⟩ <;> rw [a1, b1] <;> omega
theorem cn_two (r : Int) : cn (2 * r) = (r, 1) := by
  unfold cn
  rw [if_pos (by omega)]
  congr 1
  omega
theorem cn_mul (r y : Int) : 2 * ((cn (2 * r)).1 * (cn y).1) = (r * y) * ((cn (2 * r)).2 * (cn y).2) := by
  rw [cn_two]
  show 2 * (r * (cn y).1) = (r * y) * (1 * (cn y).2)
  rcases cn_cases y with ⟨b1, b2⟩ | ⟨b1, b2, _⟩ <;> rw [b1] <;> generalize (cn y).1 = a at b2 <;> subst b2
  · rw [Int.mul_left_comm r 2 a]
    omega
  · omega
theorem cn_one (z : Int) : (cn z).2 = 1 ∨ (cn z).2 = 2 := by
  rcases cn_cases z with ⟨b1, _⟩ | ⟨b1, _, _⟩ <;> omega
theorem cn_neg (z : Int) : (cn z).1 < 0 ↔ z < 0 := by
  rcases cn_cases z with ⟨b1, b2⟩ | ⟨b1, b2, _⟩ <;> omega

/-! ### heaps that grow -/
theorem _root_.L2.Same.new {H : Hp} {p : Addr} {o : HO} (h : H p = none) : Same H (upd H p o) := fun a u e => by
  rw [upd_ne (ne_of_none e h)]
  exact e
theorem _root_.L2.Same.mut {H H' : Hp} {p : Addr} {o : HO} (e : Same H H') (h : H p = none) : Same H (upd H' p o) := fun a u ha => by
  rw [upd_ne (ne_of_none ha h)]
  exact e a u ha
theorem _root_.L2.Same.rd {H H' : Hp} {a : Addr} {u : HO} (e : Same H H') (h : Rd H a u) : Rd H' a u := by
  rcases h with h | ⟨o, h⟩
  · exact .inl (e _ _ h)
  · exact .inr ⟨o, e _ _ h⟩
theorem _root_.L2.Same.tup {K : PySem.W.Frag} {H H' : Hp} {a : Addr} {xs : List V} (e : Same H H') (h : SqT K H a xs) : SqT K H' a xs := by
  rcases h with h | h
  · exact .inl (e.rd h)
  · exact .inr h
/-- a value comes out, nothing that stood is changed -/
def Ret (H : Hp) (R : V → Hp → Prop) (Q : VK) : Prop := ∀ v H', Same H H' → R v H' → Q v H'
/-- the part z / 2 stands at t; is the value v -/
def PtA (E : Ev) (H : Hp) (t : Addr) (z : Int) : Prop := SqT E.K H t [.int (cn z).1, .int (cn z).2]
def Pt (E : Ev) (H : Hp) (v : V) (z : Int) : Prop := ∃ t, v = .ref t ∧ PtA E H t z
theorem PtA.mono {E : Ev} {H H' : Hp} {t : Addr} {z : Int} (s : Same H H') (h : PtA E H t z) : PtA E H' t z := s.tup h
theorem Pt.mono {E : Ev} {H H' : Hp} {v : V} {z : Int} (s : Same H H') (h : Pt E H v z) : Pt E H' v z := by
  obtain ⟨t, e, h⟩ := h
  exact ⟨t, e, h.mono s⟩
theorem ret_in {E : Ev} {H : Hp} {z : Int} {Q : VK} (q : ∀ t H', Same H H' → PtA E H' t z → Q (.ref t) H') : Ret H (fun v H' => Pt E H' v z) Q := fun v H' s ⟨t, e, p⟩ => by
  subst e
  exact q t H' s p
theorem seq_up {K : PySem.W.Frag} {H H' : Hp} {a : Addr} {xs : List V} (h : SqL K H a xs) (e : Same H H') : SqL K H' a xs := e.seq h
theorem tup_up {K : PySem.W.Frag} {H H' : Hp} {a : Addr} {xs : List V} (h : SqT K H a xs) (e : Same H H') : SqT K H' a xs := e.tup h
theorem pt_up {E : Ev} {H H' : Hp} {t : Addr} {z : Int} (h : PtA E H t z) (s : Same H H') : PtA E H' t z := h.mono s

section
variable {E : Ev} {k : Nat} {N : List Str} {sc : Scope} {dd : Bool} {X : Cx} {σ : L2.St} {H : Hp} {Q : VK} {t : Addr} {z : Int} {b : Expr}
theorem x_p0 (c : Cxt E k N sc dd X) (hs : PlainIx b) (h : PtA E H t z) (q : Q (.int (cn z).1) H) : WX X b (.ref t) (.int 0) H Q := x_tup c hs h rfl q
theorem x_p1 (c : Cxt E k N sc dd X) (hs : PlainIx b) (h : PtA E H t z) (q : Q (.int (cn z).2) H) : WX X b (.ref t) (.int 1) H Q := x_tup c hs h rfl q
theorem o_mulR {i : Int} (q : Q (.int (i * (cn z).2)) H) : WBo X .Mult (.int i) (.int (cn z).2) H Q := o_mul (.inr (by have := cn_one z; omega)) q
theorem o_mulL {i : Int} (q : Q (.int ((cn z).2 * i)) H) : WBo X .Mult (.int (cn z).2) (.int i) H Q := o_mul (.inl (by have := cn_one z; omega)) q
end
end Lv
namespace Lv
open PySem PySem.Spec PyProof.Rows L2

/-! ### the built-in names that the text leaves as they are -/
def Bl (E : Ev) : Prop := ∀ x ∈ blNames, E.mg x = none
section
variable {E : Ev} {k : Nat} {N : List Str} {sc : Scope} {dd : Bool} {X : Cx} {σ : L2.St} {H : Hp} {Q : VK} {t : Addr} {z : Int} {b e : Expr} {es : List Expr} {p p' : Pos}
theorem w_isi (c : Cxt E k N sc dd X) (B : Bl E) (h : gloB sc "isinstance" = true) (q : WA X (e :: es) σ H fun vs H1 => WC X (.builtin "isinstance") vs H1 Q)
    (he : starEach (e :: es) X.env = (false, eval e X.env) :: starEach es X.env := by rfl) (hpl : (backTo p (starEach es X.env)).any (·.1) = false := by rfl) : W X (.Call (.Name "isinstance" p') (e :: es) [] p) σ H Q :=
  w_callB c h (B _ (by decide +kernel)) (by decide +kernel) q he hpl
theorem w_len (c : Cxt E k N sc dd X) (B : Bl E) (h : gloB sc "len" = true) (q : WA X (e :: es) σ H fun vs H1 => WC X (.builtin "len") vs H1 Q)
    (he : starEach (e :: es) X.env = (false, eval e X.env) :: starEach es X.env := by rfl) (hpl : (backTo p (starEach es X.env)).any (·.1) = false := by rfl) : W X (.Call (.Name "len" p') (e :: es) [] p) σ H Q :=
  w_callB c h (B _ (by decide +kernel)) (by decide +kernel) q he hpl
theorem w_abs (c : Cxt E k N sc dd X) (B : Bl E) (h : gloB sc "abs" = true) (q : WA X (e :: es) σ H fun vs H1 => WC X (.builtin "abs") vs H1 Q)
    (he : starEach (e :: es) X.env = (false, eval e X.env) :: starEach es X.env := by rfl) (hpl : (backTo p (starEach es X.env)).any (·.1) = false := by rfl) : W X (.Call (.Name "abs" p') (e :: es) [] p) σ H Q :=
  w_callB c h (B _ (by decide +kernel)) (by decide +kernel) q he hpl
theorem w_all (c : Cxt E k N sc dd X) (B : Bl E) (h : gloB sc "all" = true) (q : WA X (e :: es) σ H fun vs H1 => WC X (.builtin "all") vs H1 Q)
    (he : starEach (e :: es) X.env = (false, eval e X.env) :: starEach es X.env := by rfl) (hpl : (backTo p (starEach es X.env)).any (·.1) = false := by rfl) : W X (.Call (.Name "all" p') (e :: es) [] p) σ H Q :=
  w_callB c h (B _ (by decide +kernel)) (by decide +kernel) q he hpl
theorem w_max (c : Cxt E k N sc dd X) (B : Bl E) (h : gloB sc "max" = true) (q : WA X (e :: es) σ H fun vs H1 => WC X (.builtin "max") vs H1 Q)
    (he : starEach (e :: es) X.env = (false, eval e X.env) :: starEach es X.env := by rfl) (hpl : (backTo p (starEach es X.env)).any (·.1) = false := by rfl) : W X (.Call (.Name "max" p') (e :: es) [] p) σ H Q :=
  w_callB c h (B _ (by decide +kernel)) (by decide +kernel) q he hpl
theorem w_min (c : Cxt E k N sc dd X) (B : Bl E) (h : gloB sc "min" = true) (q : WA X (e :: es) σ H fun vs H1 => WC X (.builtin "min") vs H1 Q)
    (he : starEach (e :: es) X.env = (false, eval e X.env) :: starEach es X.env := by rfl) (hpl : (backTo p (starEach es X.env)).any (·.1) = false := by rfl) : W X (.Call (.Name "min" p') (e :: es) [] p) σ H Q :=
  w_callB c h (B _ (by decide +kernel)) (by decide +kernel) q he hpl
theorem w_sum (c : Cxt E k N sc dd X) (B : Bl E) (h : gloB sc "sum" = true) (q : WA X (e :: es) σ H fun vs H1 => WC X (.builtin "sum") vs H1 Q)
    (he : starEach (e :: es) X.env = (false, eval e X.env) :: starEach es X.env := by rfl) (hpl : (backTo p (starEach es X.env)).any (·.1) = false := by rfl) : W X (.Call (.Name "sum" p') (e :: es) [] p) σ H Q :=
  w_callB c h (B _ (by decide +kernel)) (by decide +kernel) q he hpl
theorem w_list (c : Cxt E k N sc dd X) (B : Bl E) (h : gloB sc "list" = true) (q : WA X (e :: es) σ H fun vs H1 => WC X (.type "list") vs H1 Q)
    (he : starEach (e :: es) X.env = (false, eval e X.env) :: starEach es X.env := by rfl) (hpl : (backTo p (starEach es X.env)).any (·.1) = false := by rfl) : W X (.Call (.Name "list" p') (e :: es) [] p) σ H Q :=
  w_callT c h (B _ (by decide +kernel)) (by decide +kernel) q he hpl
theorem w_dict (c : Cxt E k N sc dd X) (B : Bl E) (h : gloB sc "dict" = true) (q : WA X (e :: es) σ H fun vs H1 => WC X (.type "dict") vs H1 Q)
    (he : starEach (e :: es) X.env = (false, eval e X.env) :: starEach es X.env := by rfl) (hpl : (backTo p (starEach es X.env)).any (·.1) = false := by rfl) : W X (.Call (.Name "dict" p') (e :: es) [] p) σ H Q :=
  w_callT c h (B _ (by decide +kernel)) (by decide +kernel) q he hpl
theorem w_intc (c : Cxt E k N sc dd X) (B : Bl E) (h : gloB sc "int" = true) (q : WA X (e :: es) σ H fun vs H1 => WC X (.type "int") vs H1 Q)
    (he : starEach (e :: es) X.env = (false, eval e X.env) :: starEach es X.env := by rfl) (hpl : (backTo p (starEach es X.env)).any (·.1) = false := by rfl) : W X (.Call (.Name "int" p') (e :: es) [] p) σ H Q :=
  w_callT c h (B _ (by decide +kernel)) (by decide +kernel) q he hpl
/-- a built-in class's name -/
theorem w_tn {x : Str} {T : String} (c : Cxt E k N sc dd X) (B : Bl E) (h : gloB sc x = true) (hx : x ∈ blNames) (hv : bootBuiltins x = some (.type T)) (q : Q (.ty T) H) : W X (.Name x p) σ H Q := w_bltn c h (B _ hx) hv (show RelV (.ty T) (.type T) from rfl) q
theorem w_nint (c : Cxt E k N sc dd X) (B : Bl E) (h : gloB sc "int" = true) (q : Q (.ty "int") H) : W X (.Name "int" p) σ H Q := w_tn c B h (by decide +kernel) (by decide +kernel) q
theorem w_nbool (c : Cxt E k N sc dd X) (B : Bl E) (h : gloB sc "bool" = true) (q : Q (.ty "bool") H) : W X (.Name "bool" p) σ H Q := w_tn c B h (by decide +kernel) (by decide +kernel) q
theorem w_ntuple (c : Cxt E k N sc dd X) (B : Bl E) (h : gloB sc "tuple" = true) (q : Q (.ty "tuple") H) : W X (.Name "tuple" p) σ H Q := w_tn c B h (by decide +kernel) (by decide +kernel) q
theorem w_nlist (c : Cxt E k N sc dd X) (B : Bl E) (h : gloB sc "list" = true) (q : Q (.ty "list") H) : W X (.Name "list" p) σ H Q := w_tn c B h (by decide +kernel) (by decide +kernel) q
theorem w_ndict (c : Cxt E k N sc dd X) (B : Bl E) (h : gloB sc "dict" = true) (q : Q (.ty "dict") H) : W X (.Name "dict" p) σ H Q := w_tn c B h (by decide +kernel) (by decide +kernel) q
theorem w_nstr (c : Cxt E k N sc dd X) (B : Bl E) (h : gloB sc "str" = true) (q : Q (.ty "str") H) : W X (.Name "str" p) σ H Q := w_tn c B h (by decide +kernel) (by decide +kernel) q

theorem tyx_t {K : PySem.W.Frag} {xs : List V} (h : SqT K H t xs) : TyX K H (.ref t) (.type "tuple") := by
  rcases h with (h | ⟨o, h⟩) | ⟨o, its, n, h, hc, _⟩
  · exact .base (.tup h)
  · exact .fTuple h
  · exact .kTuple h hc
theorem tyx_l {K : PySem.W.Frag} {xs : List V} (h : SqL K H t xs) : TyX K H (.ref t) (.type "list") := by
  rcases h with (h | ⟨o, h⟩) | ⟨o, its, n, h, hc, _⟩
  · exact .base (.lst h)
  · exact .base (.frz h)
  · exact .kList h hc
theorem isi_int {i : Int} (c : Cxt E k N sc dd X) (q : Q (.bl true) H) : WC X (.builtin "isinstance") [.int i, .ty "int"] H Q := c_isi c (.ty "int") (.base (.int i)) (kit_ty (by decide +kernel)) q
theorem isi_intb {i : Int} (c : Cxt E k N sc dd X) (q : Q (.bl false) H) : WC X (.builtin "isinstance") [.int i, .ty "bool"] H Q := c_isi c (.ty "bool") (.base (.int i)) (kit_ty (by decide +kernel)) q
theorem isi_str {i : Str} (c : Cxt E k N sc dd X) (q : Q (.bl true) H) : WC X (.builtin "isinstance") [.str i, .ty "str"] H Q := c_isi c (.ty "str") (.base (.str i)) (kit_ty (by decide +kernel)) q
theorem isi_tup {xs : List V} (c : Cxt E k N sc dd X) (h : SqT E.K H t xs) (q : Q (.bl true) H) : WC X (.builtin "isinstance") [.ref t, .ty "tuple"] H Q := c_isi c (.ty "tuple") (tyx_t h) (kit_ty (by decide +kernel)) q
theorem isi_dict {kvs : List (Key × V)} (c : Cxt E k N sc dd X) (h : H t = some (.dK kvs)) (q : Q (.bl true) H) : WC X (.builtin "isinstance") [.ref t, .ty "dict"] H Q := c_isi c (.ty "dict") (.base (.dK h)) (kit_ty (by decide +kernel)) q
theorem isi_lt_l {u : Addr} {xs : List V} (c : Cxt E k N sc dd X) (h : SqL E.K H t xs) (hu : H u = some (.tup [.ty "list", .ty "tuple"])) (q : Q (.bl true) H) : WC X (.builtin "isinstance") [.ref t, .ref u] H Q :=
  c_isiT c hu (.cons (.ty _) (.cons (.ty _) .nil)) (tyx_l h) (kitAny_cons (b := true) (kit_ty (by decide +kernel)) (fun z => nomatch z) (fun _ => rfl)) q
theorem isi_lt_t {u : Addr} {xs : List V} (c : Cxt E k N sc dd X) (h : SqT E.K H t xs) (hu : H u = some (.tup [.ty "list", .ty "tuple"])) (q : Q (.bl true) H) : WC X (.builtin "isinstance") [.ref t, .ref u] H Q :=
  c_isiT c hu (.cons (.ty _) (.cons (.ty _) .nil)) (tyx_t h) (kitAny_cons (b := false) (kit_ty (by decide +kernel)) (fun _ => kitAny_cons (b := true) (kit_ty (by decide +kernel)) (fun z => nomatch z) (fun _ => rfl)) (fun z => nomatch z)) q
theorem c_len_p {z : Int} (c : Cxt E k N sc dd X) (h : PtA E H t z) (q : Q (.int 2) H) : WC X (.builtin "len") [.ref t] H Q := c_len_t c h q
theorem isi_p {z : Int} (c : Cxt E k N sc dd X) (h : PtA E H t z) (q : Q (.bl true) H) : WC X (.builtin "isinstance") [.ref t, .ty "tuple"] H Q := isi_tup c h q
end

theorem le_line {n : Nat} (h : Nat.ble n 1000 = true) : n ≤ sizeLine := Nat.le_trans (Nat.le_of_ble_eq_true h) (by decide)
theorem iteC {r : Bool} {A B : Prop} (h1 : r = true → A) (h2 : r = false → B) : if r = true then A else B := by
  cases r with
  | true => exact iteT (h1 rfl)
  | false => exact iteF (h2 rfl)
theorem iteD {c A B : Prop} [Decidable c] (h : c) (q : A) : if decide c = true then A else B := by
  rw [decide_eq_true h]
  exact iteT q
theorem iteND {c A B : Prop} [Decidable c] (h : ¬ c) (q : B) : if decide c = true then A else B := by
  rw [decide_eq_false h]
  exact iteF q
theorem iteD2 {c A B : Prop} [Decidable c] (h : c) (q : B) : if (!decide c) = true then A else B := by
  rw [decide_eq_true h]
  exact iteF q
theorem iteND2 {c A B : Prop} [Decidable c] (h : ¬ c) (q : A) : if (!decide c) = true then A else B := by
  rw [decide_eq_false h]
  exact iteT q
/-! ### short promises -/
def mx (x y : Int) : Int := if x < y then y else x
def mn (x y : Int) : Int := if y < x then y else x
theorem mx_lt {x y : Int} (h : x < y) : mx x y = y := if_pos h
theorem mx_ge {x y : Int} (h : ¬ x < y) : mx x y = x := if_neg h
theorem mn_lt {x y : Int} (h : y < x) : mn x y = y := if_pos h
theorem mn_ge {x y : Int} (h : ¬ y < x) : mn x y = x := if_neg h
abbrev lt2 : Int → Int → Bool := fun x y => decide (x < y)
def sp2 (E : Ev) (f : Int → Int → Int) : Pr := fun vs H Q => ∃ s t x y, vs = [.ref s, .ref t] ∧ PtA E H s x ∧ PtA E H t y ∧ Ret H (fun v H' => Pt E H' v (f x y)) Q
def sp2b (E : Ev) (f : Int → Int → Bool) : Pr := fun vs H Q => ∃ s t x y, vs = [.ref s, .ref t] ∧ PtA E H s x ∧ PtA E H t y ∧ Q (.bl (f x y)) H
def sp2s (E : Ev) (f : Int → Int → Int) : Pr := fun vs H Q => ∃ s t x y, vs = [.ref s, .ref t] ∧ PtA E H s x ∧ PtA E H t y ∧ ∀ u, PtA E H u (f x y) → Q (.ref u) H
def mixed (i j : Int) : Int := ((i + 7919 * j) * 48271 % 2147483647) * ((i + 7919 * j) * 48271 % 2147483647 + 2 * j + 1) % 2147483629
theorem mixed_bd (i j : Int) : 0 ≤ mixed i j ∧ mixed i j < 2147483629 := ⟨Int.emod_nonneg _ (by omega), Int.emod_lt_of_pos _ (by omega)⟩
def spMixed : Pr := fun vs H Q => ∃ i j, vs = [.int i, .int j] ∧ (0 ≤ j ∧ j < 100000) ∧ Q (.int (mixed i j)) H
def spWhole : Pr := fun vs H Q => ∃ i, vs = [.int i] ∧ Q (.bl true) H
def spCommon : Pr := fun vs H Q => ∃ a b : Nat, vs = [.int a, .int b] ∧ Q (.int (Nat.gcd a b : Nat)) H
def spIsPart (E : Ev) : Pr := fun vs H Q => ∃ t z, vs = [.ref t] ∧ PtA E H t z ∧ Q (.bl true) H
def spPart (E : Ev) : Pr := fun vs H Q => ∃ u d z, vs = [.int u, .int d] ∧ (d = 1 ∨ d = 2 ∨ d = 4) ∧ 2 * u = z * d ∧ Ret H (fun v H' => Pt E H' v z) Q
def spTimes (E : Ev) : Pr := fun vs H Q => ∃ s t r y, vs = [.ref s, .ref t] ∧ PtA E H s (2 * r) ∧ PtA E H t y ∧ (-(2 ^ 64) < r ∧ r < 2 ^ 64) ∧ Ret H (fun v H' => Pt E H' v (r * y)) Q
end Lv
namespace Lv
open PySem PySem.Spec PyProof.Rows L2

section
variable {E : Ev} {k k' : Nat} {N : List Str} {sc : Scope} {dd : Bool} {X : Cx} {σ : L2.St} {H : Hp} {Q : VK} {t : Addr} {z : Int} {b e e2 o : Expr} {es : List Expr} {p p' kp apos : Pos} {x m f : Str} {v : V}
/-! ### constants of the text -/
theorem w_gint {i : Int} (c : Cxt E k N sc dd X) (h : gloB sc x = true) (hm : ∃ u, E.mg x = some (.int i u)) (q : Q (.int i) H) : W X (.Name x p) σ H Q := by
  obtain ⟨u, hm⟩ := hm
  exact w_glob c h hm (show RelV (.int i) (.int i u) from ⟨u, rfl⟩) q
theorem w_gstr {i : Str} (c : Cxt E k N sc dd X) (h : gloB sc x = true) (hm : ∃ u, E.mg x = some (.str i u)) (q : Q (.str i) H) : W X (.Name x p) σ H Q := by
  obtain ⟨u, hm⟩ := hm
  exact w_glob c h hm (show RelV (.str i) (.str i u) from ⟨u, rfl⟩) q
theorem w_gref {a : Addr} (c : Cxt E k N sc dd X) (h : gloB sc x = true) (hm : E.mg x = some (.ref a)) (q : Q (.ref a) H) : W X (.Name x p) σ H Q :=
  w_glob c h hm (show RelV (.ref a) (.ref a) from rfl) q

/-! ### max(.., default=0) -/
def mxl : List Int → Int
  | [] => 0
  | y :: ys => ys.foldl max y
theorem alike_ints (ns : List Int) : PySem.W.AlikeAll (ns.map PyData.int) := by
  constructor
  · intro a ha b hb
    obtain ⟨i, _, rfl⟩ := List.mem_map.mp ha
    obtain ⟨j, _, rfl⟩ := List.mem_map.mp hb
    rfl
  · intro a ha
    obtain ⟨i, _, rfl⟩ := List.mem_map.mp ha
    intro h
    cases h
theorem depth_ints : ∀ ns : List Int, PyData.depthAll (ns.map PyData.int) ≤ 1
  | [] => by decide
  | n :: ns => by
    have h := depth_ints ns
    simp [PyData.depthAll, PyData.depth] at h ⊢
    try omega
theorem maxd_rule {X : Cx} (hc : X.calm = true) (hu : X.A.units + 64 < cLine) : CallRK X (.builtin "max") ["default"] (fun xs zs H Q => ∃ (a : Addr) (ns : List Int), xs = [.ref a] ∧ zs = [.int 0] ∧ SqL X.K H a (ns.map V.int) ∧ Q (.int (mxl ns)) H) := by
  intro pins s σ H xs zs us ws Q I rx rz h
  obtain ⟨a, ns, rfl, rfl, hs, q⟩ := h
  obtain ⟨its, rv, hl, _⟩ := I.list hs
  rw [Vals.ref1 rx]
  obtain ⟨u, rfl, ru⟩ := vals1 rz
  obtain ⟨tk0, rfl⟩ := ru
  have hr : ReadsAll s.heap its.toArray.toList (ns.map .int) [] := by simpa using rv.ints.reads s.heap
  have hd := depth_ints ns
  refine PySem.W.max_list_default (I.ok.hd hc) hl.isList hr (alike_ints ns) (by omega) (fun e h' tk hk => ?_) fun y ys i v h' tk bs e hi rd hk => ?_
  · have e0 : ns = [] := by simpa using e
    subst e0
    exact ⟨.int 0, H, I.kept hk, ⟨_, rfl⟩, q⟩
  · cases ns with
    | nil => cases e
    | cons n ns =>
      injection e with e1 e2
      subst e1 e2
      rw [PySem.W.maxD_ints] at rd
      obtain ⟨t, rfl⟩ : ∃ t, v = Value.int (ns.foldl max n) t := by
        cases rd
        exact ⟨_, rfl⟩
      exact ⟨.int (mxl (n :: ns)), H, I.kept hk, ⟨_, rfl⟩, q⟩
theorem w_maxd {j : Nat} {p3 : Pos} (c : Cxt E k N sc dd X) (B : Bl E) (h : gloB sc "max" = true) (q : W X e σ H fun y H1 => ∃ a ns, y = .ref a ∧ SqL E.K H1 a (ns.map V.int) ∧ Q (.int (mxl ns)) H1)
    (n1 : starEach (e :: []) X.env = (false, eval e X.env) :: starEach [] X.env := by rfl)
    (he : backTo p (starEach (e :: []) X.env) = (false, eval e X.env) :: backTo p (starEach [] X.env) := by rfl) (hpl : (backTo p (starEach (e :: []) X.env)).any (·.1) = false := by rfl)
    (hall : (backToKw p (keywordEach [⟨some "default", .Constant (.int 0) j p3, kp⟩] X.env)).all (·.1.isSome) = true := by rfl) (hnone : (backToKw p (keywordEach [⟨some "default", .Constant (.int 0) j p3, kp⟩] X.env)).any (·.1.isNone) = false := by rfl)
    (hks : (backToKw p (keywordEach [⟨some "default", .Constant (.int 0) j p3, kp⟩] X.env)).filterMap (·.1) = (["default"] : List Str) := by rfl) :
    W X (.Call (.Name "max" p') [e] [⟨some "default", .Constant (.int 0) j p3, kp⟩] p) σ H Q := by
  obtain ⟨h1, h2, h3⟩ := c.glo h
  refine w_of (pe_callBK (maxd_rule c.calm c.room.units) h1 (by rw [c.hmg]; exact B _ (by decide +kernel)) (by decide +kernel) (pa_cons w_pe pa_nil n1) (pk_cons pe_int pk_nil) h3 h2 he hpl hall hnone hks) ?_
  refine ⟨fun pins s I => ?_⟩
  exact thn (q.run pins s I) fun u s1 ⟨y, H1, I1, r, a, ns, ey, hs, z⟩ => ⟨y, H1, I1, r, a, ns, by rw [ey], rfl, by rw [c.hK]; exact hs, z⟩

/-! ### classes -/
theorem lk_hd {fs : List (Str × V)} : ((f, v) :: fs).lookup f = some v := by simp [List.lookup_cons]
theorem lk_tl {g : Str} {u : V} {fs : List (Str × V)} {r : Option V} (h : (g == f) = false) (q : fs.lookup g = r) : ((f, u) :: fs).lookup g = r := by
  rw [List.lookup_cons, h]
  exact q
theorem lk_no {g : Str} : ∀ {fs : List (Str × V)}, (fs.map (·.1)).contains g = false → fs.lookup g = none
  | [], _ => rfl
  | (a, u) :: r, h => by
    rw [List.map_cons, List.contains_cons, Bool.or_eq_false_iff] at h
    rw [List.lookup_cons, h.1]
    exact lk_no h.2
theorem putF_new : ∀ {fs : List (Str × V)}, (fs.map (·.1)).contains f = false → putF f v fs = fs ++ [(f, v)]
  | [], _ => rfl
  | (a, u) :: r, h => by
    rw [List.map_cons, List.contains_cons, Bool.or_eq_false_iff] at h
    have hne : ¬ a = f := fun e => by
      rw [e] at h
      simp at h
    show (if a = f then _ else (a, u) :: putF f v r) = _
    rw [if_neg hne, putF_new h.2]
    rfl
/-- a method met at an object -/
theorem at_meth {t C dx : Addr} {fs : List (Str × V)} {sp : Pr} {R : Pr → Prop} (h : H t = some (.ins C dx fs)) (l : fs.lookup m = none) (d : Dm E k' C m sp) (hk : k' ≤ k) (q : R sp) :
    ∃ t' C dx fs g sp k', V.ref t = .ref t' ∧ H t' = some (.ins C dx fs) ∧ fs.lookup m = none ∧ Cls E.K C ∧ Meth E.K C m g ∧ Df E k' g sp ∧ k' ≤ k ∧ R sp := by
  obtain ⟨hC, g, hM, D⟩ := d
  exact ⟨t, C, dx, fs, g, sp, k', rfl, h, l, hC, hM, D, hk, q⟩
theorem at_attr {t C dx : Addr} {fs : List (Str × V)} {R : V → Prop} (h : H t = some (.ins C dx fs)) (a : At E C f) (l : fs.lookup f = some v) (q : R v) :
    ∃ t' C dx fs v, V.ref t = .ref t' ∧ H t' = some (.ins C dx fs) ∧ At E C f ∧ fs.lookup f = some v ∧ R v := ⟨t, C, dx, fs, v, rfl, h, a, l, q⟩
end
/-- the address of a class of the text -/
def Ca (E : Ev) (x : Str) : Addr := He.ga E.K x
/-- the def of a class's method -/
def Ma (E : Ev) (x m : Str) : Addr := He.fAd E.K (x, some m)
/-- what of the text its classes have: attr: no class of it has the name; meth: the name is that def -/
structure CL (E : Ev) : Prop where
  cls : ∀ C f, (C, f) ∈ atTab → At E (Ca E C) f
  meth : ∀ C m D, (C, m, D) ∈ meTab → Cls E.K (Ca E C) ∧ Meth E.K (Ca E C) m (Ma E D m)
theorem CL.at_ {E : Ev} (T : CL E) {C f : Str} (h : (C, f) ∈ atTab) : At E (Ca E C) f := T.cls C f h
theorem CL.dm {E : Ev} (T : CL E) {C m D : Str} {k : Nat} {sp : Pr} (h : (C, m, D) ∈ meTab) (d : Df E k (Ma E D m) sp) : Dm E k (Ca E C) m sp := ⟨(T.meth C m D h).1, _, (T.meth C m D h).2, d⟩
end Lv
namespace Lv
open PySem PySem.Spec PyProof.Rows L2

/-! ### pairs of lists -/
theorem pair_at {α β : Type} {R : α → β → Prop} : ∀ {xs : List α} {ys : List β}, Paired R xs ys → ∀ {i : Nat} {x : α}, xs[i]? = some x → ∃ y, ys[i]? = some y ∧ R x y
  | _, _, .nil, i, x, h => by simp at h
  | _, _, .cons r t, 0, x, h => by
    simp at h
    subst h
    exact ⟨_, rfl, r⟩
  | _, _, .cons r t, i + 1, x, h => by
    obtain ⟨y, h1, h2⟩ := pair_at t (i := i) (x := x) (by simpa using h)
    exact ⟨y, by simpa using h1, h2⟩
theorem pair_at' {α β : Type} {R : α → β → Prop} : ∀ {xs : List α} {ys : List β}, Paired R xs ys → ∀ {i : Nat} {y : β}, ys[i]? = some y → ∃ x, xs[i]? = some x ∧ R x y
  | _, _, .nil, i, x, h => by simp at h
  | _, _, .cons r t, 0, x, h => by
    simp at h
    subst h
    exact ⟨_, rfl, r⟩
  | _, _, .cons r t, i + 1, x, h => by
    obtain ⟨y, h1, h2⟩ := pair_at' t (i := i) (y := x) (by simpa using h)
    exact ⟨y, by simpa using h1, h2⟩
theorem pair_map {α β γ : Type} {R : α → β → Prop} (f : γ → α) : ∀ {zs : List γ} {ys : List β}, Paired (fun z y => R (f z) y) zs ys → Paired R (zs.map f) ys
  | _, _, .nil => .nil
  | _, _, .cons r t => .cons r (pair_map f t)
theorem pair_of {α β : Type} {R : α → β → Prop} : ∀ {xs : List α} {ys : List β}, xs.length = ys.length → (∀ (i : Nat) x y, xs[i]? = some x → ys[i]? = some y → R x y) → Paired R xs ys
  | [], [], _, _ => .nil
  | [], _ :: _, h, _ => by simp at h
  | _ :: _, [], h, _ => by simp at h
  | x :: xs, y :: ys, h, q => .cons (q 0 x y rfl rfl) (pair_of (by simpa using h) fun i a b h1 h2 => q (i + 1) a b (by simpa using h1) (by simpa using h2))

/-! ### heaps whose tuples stand -/
def TS (H H' : Hp) : Prop := ∀ a xs, Rd H a (.tup xs) → Rd H' a (.tup xs)
theorem TS.refl (H : Hp) : TS H H := fun _ _ h => h
theorem TS.trans {H H1 H2 : Hp} (a : TS H H1) (b : TS H1 H2) : TS H H2 := fun c xs h => b c xs (a c xs h)
theorem _root_.L2.Same.ts {H H' : Hp} (s : Same H H') : TS H H' := fun _ _ h => s.rd h
def noTup : HO → Bool
  | .tup _ => false
  | .frz _ _ => false
  | _ => true
theorem TS.upd {H : Hp} {p : Addr} {o o' : HO} (h : H p = some o) (n : noTup o = true) : TS H (L2.upd H p o') := fun a xs r => by
  have ne : a ≠ p := by
    rintro rfl
    rcases r with r | ⟨ob, r⟩ <;> rw [h] at r <;> cases r <;> cases n
  rcases r with r | ⟨ob, r⟩
  · exact .inl (by rw [upd_ne ne]; exact r)
  · exact .inr ⟨ob, by rw [upd_ne ne]; exact r⟩
theorem TS.mut {H H' : Hp} {p : Addr} {o' : HO} (s : TS H H') (h : ∃ o, H' p = some o ∧ noTup o = true) : TS H (L2.upd H' p o') := by
  obtain ⟨o, h, n⟩ := h
  exact s.trans (TS.upd h n)
theorem TS.sqt {K : PySem.W.Frag} {H H' : Hp} {a : Addr} {xs : List V} (s : TS H H') (h : SqT K H a xs) : SqT K H' a xs := by
  rcases h with h | h
  · exact .inl (s _ _ h)
  · exact .inr h
theorem PtA.ts {E : Ev} {H H' : Hp} {t : Addr} {z : Int} (s : TS H H') (h : PtA E H t z) : PtA E H' t z := s.sqt h
theorem Pt.ts {E : Ev} {H H' : Hp} {v : V} {z : Int} (s : TS H H') (h : Pt E H v z) : Pt E H' v z := by
  obtain ⟨t, e, h⟩ := h
  exact ⟨t, e, h.ts s⟩

/-! ### dicts from names to parts -/
abbrev Dc : Type := List (Str × Int)
def dget (d : Dc) (x : Str) : Option Int := (d.find? fun q => decide (q.1 = x)).map (·.2)
def dput (d : Dc) (x : Str) (z : Int) : Dc := if (d.any fun q => decide (q.1 = x)) = true then d.map (fun q => if q.1 = x then (q.1, z) else q) else d ++ [(x, z)]
def DRp (E : Ev) (H : Hp) (p : Key × V) (q : Str × Int) : Prop := p.1 = .inr q.1 ∧ Pt E H p.2 q.2
def DR (E : Ev) (H : Hp) : List (Key × V) → Dc → Prop := Paired (DRp E H)
def DA (E : Ev) (H : Hp) (a : Addr) (d : Dc) : Prop := ∃ kvs, H a = some (.dK kvs) ∧ DR E H kvs d
theorem DR.ts {E : Ev} {H H' : Hp} {kvs : List (Key × V)} {d : Dc} (s : TS H H') (h : DR E H kvs d) : DR E H' kvs d := Paired.mapP h fun p q z => ⟨z.1, z.2.ts s⟩
theorem DA.mono {E : Ev} {H H' : Hp} {a : Addr} {d : Dc} (s : Same H H') (h : DA E H a d) : DA E H' a d := by
  obtain ⟨kvs, h1, h2⟩ := h
  exact ⟨kvs, s _ _ h1, h2.ts s.ts⟩
theorem dr_get {E : Ev} {H : Hp} {x : Str} : ∀ {kvs : List (Key × V)} {d : Dc}, DR E H kvs d → (valV kvs (.inr x) = none ∧ dget d x = none) ∨ ∃ v z, valV kvs (.inr x) = some v ∧ dget d x = some z ∧ Pt E H v z
  | _, _, .nil => .inl ⟨rfl, rfl⟩
  | (k, v) :: kr, (y, z) :: dr, .cons r t => by
    obtain ⟨h1, h2⟩ := r
    have h1 : k = .inr y := h1
    by_cases e : y = x
    · right
      refine ⟨v, z, ?_, ?_, h2⟩
      · exact valV_pos (by rw [h1, e])
      · simp [dget, e]
    · have ne : ¬ k = .inr x := by
        rw [h1]
        intro q
        injection q with q
        exact e q
      have e1 : valV ((k, v) :: kr) (Sum.inr x : Key) = valV kr (.inr x) := valV_neg (p := (k, v)) ne
      have e2 : dget ((y, z) :: dr) x = dget dr x := by simp [dget, e]
      rw [e1, e2]
      exact dr_get t
theorem dr_any {E : Ev} {H : Hp} {x : Str} : ∀ {kvs : List (Key × V)} {d : Dc}, DR E H kvs d → (kvs.any fun kv => decide (kv.1 = (Sum.inr x : Key))) = (d.any fun q => decide (q.1 = x))
  | _, _, .nil => rfl
  | (k, v) :: _, (y, z) :: _, .cons r t => by
    have h1 : k = .inr y := r.1
    rw [List.any_cons, List.any_cons, dr_any t, h1]
    have e : decide ((Sum.inr y : Key) = .inr x) = decide (y = x) := decide_eq_decide.mpr ⟨fun q => by injection q, fun q => by rw [q]⟩
    show (decide ((Sum.inr y : Key) = .inr x) || _) = (decide (y = x) || _)
    rw [e]
theorem dr_rep {E : Ev} {H : Hp} {x : Str} {v : V} {z : Int} (p : Pt E H v z) : ∀ {kvs : List (Key × V)} {d : Dc}, DR E H kvs d →
    DR E H (kvs.map fun kv => if kv.1 = .inr x then (kv.1, v) else kv) (d.map fun q => if q.1 = x then (q.1, z) else q)
  | _, _, .nil => .nil
  | (k, u) :: _, (y, w) :: _, .cons r t => by
    have h1 : k = .inr y := r.1
    refine .cons ?_ (dr_rep p t)
    show DRp E H (if k = .inr x then (k, v) else (k, u)) (if y = x then (y, z) else (y, w))
    by_cases e : y = x
    · rw [if_pos e, if_pos (by rw [h1, e])]
      exact ⟨h1, p⟩
    · rw [if_neg e, if_neg (by rw [h1]; exact fun q => e (by injection q))]
      exact r
theorem dr_snoc {E : Ev} {H : Hp} {x : Str} {v : V} {z : Int} (p : Pt E H v z) {kvs : List (Key × V)} {d : Dc} (h : DR E H kvs d) : DR E H (kvs ++ [(.inr x, v)]) (d ++ [(x, z)]) := Paired.snoc h ⟨rfl, p⟩
theorem dr_put {E : Ev} {H : Hp} {x : Str} {v : V} {z : Int} (p : Pt E H v z) {kvs : List (Key × V)} {d : Dc} (h : DR E H kvs d) : DR E H (putK kvs (.inr x) v) (dput d x z) := by
  unfold putK dput
  rw [dr_any h]
  by_cases e : (d.any fun q => decide (q.1 = x)) = true
  · rw [if_pos e, if_pos e]
    exact dr_rep p h
  · rw [if_neg e, if_neg e]
    exact dr_snoc p h
theorem dget_cons (q : Str × Int) (d : Dc) (x : Str) : dget (q :: d) x = if q.1 = x then some q.2 else dget d x := by
  by_cases e : q.1 = x
  · simp [dget, e]
  · simp [dget, e]
theorem dget_any (x : Str) : ∀ d : Dc, (d.any fun q => decide (q.1 = x)) = (dget d x).isSome
  | [] => rfl
  | q :: r => by
    rw [List.any_cons, dget_any x r, dget_cons]
    by_cases e : q.1 = x
    · simp [e]
    · simp [e]
theorem dget_map (x y : Str) (z : Int) : ∀ d : Dc, dget (d.map fun q => if q.1 = x then (q.1, z) else q) y = (dget d y).map fun w => if y = x then z else w
  | [] => rfl
  | q :: r => by
    rw [List.map_cons, dget_cons, dget_cons, dget_map x y z r]
    by_cases e : q.1 = x
    · rw [if_pos e]
      by_cases e2 : q.1 = y
      · rw [if_pos e2, if_pos e2, ← e2, e]
        simp
      · rw [if_neg e2, if_neg e2]
    · rw [if_neg e]
      by_cases e2 : q.1 = y
      · rw [if_pos e2, if_pos e2]
        have : ¬ y = x := fun h => e (e2.trans h)
        simp [this]
      · rw [if_neg e2, if_neg e2]
theorem dget_snoc (d : Dc) (x y : Str) (z : Int) : dget d x = none → dget (d ++ [(x, z)]) y = if y = x then some z else dget d y := by
  intro hn
  induction d with
  | nil =>
    rw [List.nil_append, dget_cons]
    by_cases e : x = y
    · rw [if_pos e, if_pos e.symm]
    · rw [if_neg e, if_neg fun h => e h.symm]
  | cons q r ih =>
    rw [dget_cons] at hn
    rw [List.cons_append, dget_cons, dget_cons]
    by_cases e : q.1 = x
    · rw [if_pos e] at hn
      cases hn
    · rw [if_neg e] at hn
      rw [ih hn]
      by_cases e2 : q.1 = y
      · rw [if_pos e2, if_pos e2]
        rw [if_neg fun h => e (e2.trans h)]
      · rw [if_neg e2, if_neg e2]
theorem dget_put (d : Dc) (x y : Str) (z : Int) : dget (dput d x z) y = if y = x then some z else dget d y := by
  unfold dput
  by_cases h : (d.any fun q => decide (q.1 = x)) = true
  · rw [if_pos h, dget_map]
    by_cases e : y = x
    · subst e
      rw [dget_any] at h
      rw [if_pos rfl]
      cases q : dget d y with
      | none => rw [q] at h; cases h
      | some w => simp
    · rw [if_neg e]
      simp [e]
  · rw [if_neg h]
    refine dget_snoc d x y z ?_
    rw [dget_any] at h
    cases q : dget d x with
    | none => rfl
    | some w => rw [q] at h; exact absurd rfl h
end Lv
namespace Lv
open PySem PySem.Spec PyProof.Rows L2

/-! ### words as trees -/
inductive Tk where
  | plus | less | greater | lesser
  deriving DecidableEq
inductive Wt where
  | am (z : Int)
  | nm (x : Str)
  | two (k : Tk) (a b : Wt)
  | bands (a : Wt) (rows : List (Int × Int))
  | steps (a : Wt) (rows : List (Int × Int))
  | iff (a b c d : Wt)
def Tk.word : Tk → Str
  | .plus => "plus"
  | .less => "less"
  | .greater => "greater"
  | .lesser => "lesser"
def Tk.cls : Tk → Str
  | .plus => "Plus"
  | .less => "Less"
  | .greater => "Greater"
  | .lesser => "Lesser"
def Tk.op : Tk → Int → Int → Int
  | .plus => fun x y => x + y
  | .less => fun x y => x - y
  | .greater => mx
  | .lesser => mn
/-- the bands' sum; rows (begin, rate), both in halves -/
def bandsV : List (Int × Int) → Int → Int
  | [], _ => 0
  | [(b, r)], w => if b < w then r / 2 * (w - b) else 0
  | (b, r) :: (b2, r2) :: rest, w => (if b < mn b2 w then r / 2 * (mn b2 w - b) else 0) + bandsV ((b2, r2) :: rest) w
def stepsV (rows : List (Int × Int)) (w : Int) : Int := rows.foldl (fun a p => if w < p.1 then a else p.2) ((rows.head?.map (·.2)).getD 0)
def val (d : Dc) : Wt → Int
  | .am z => z
  | .nm x => (dget d x).getD 0
  | .two k a b => k.op (val d a) (val d b)
  | .bands a rows => bandsV rows (mx 0 (val d a))
  | .steps a rows => stepsV rows (mx 0 (val d a))
  | .iff a b c e => if val d a < val d b then val d c else val d e
def Wt.deep : Wt → Nat
  | .am _ => 1
  | .nm _ => 1
  | .two _ a b => 1 + max a.deep b.deep
  | .bands a _ => 1 + a.deep
  | .steps a _ => 1 + a.deep
  | .iff a b c d => 1 + max (max (max a.deep b.deep) c.deep) d.deep
def Wt.size : Wt → Nat
  | .am _ => 1
  | .nm _ => 1
  | .two _ a b => 1 + (a.size + b.size)
  | .bands a _ => 1 + a.size
  | .steps a _ => 1 + a.size
  | .iff a b c d => 1 + (a.size + (b.size + (c.size + d.size)))
/-- all its names are known -/
def Wt.okN (p : Str → Prop) : Wt → Prop
  | .am _ => True
  | .nm x => p x
  | .two _ a b => a.okN p ∧ b.okN p
  | .bands a _ => a.okN p
  | .steps a _ => a.okN p
  | .iff a b c d => a.okN p ∧ b.okN p ∧ c.okN p ∧ d.okN p
/-- rows as are_rows wants them; rates: whole and small -/
def rises : List (Int × Int) → Prop
  | [] => True
  | [_] => True
  | (b, _) :: (b2, r2) :: rest => b < b2 ∧ rises ((b2, r2) :: rest)
structure RowsOk (rows : List (Int × Int)) : Prop where
  len : 1 ≤ rows.length ∧ rows.length ≤ 12
  zero : ∀ p, rows[0]? = some p → p.1 = 0
  up : ∀ (i : Nat) p q, rows[i]? = some p → rows[i + 1]? = some q → p.1 < q.1
def RatesOk (rows : List (Int × Int)) : Prop := ∀ p ∈ rows, p.2 % 2 = 0 ∧ -(2 ^ 60) < p.2 ∧ p.2 < 2 ^ 60
/-- what the text's classes take -/
def Wt.good : Wt → Prop
  | .am _ => True
  | .nm _ => True
  | .two _ a b => a.good ∧ b.good
  | .bands a rows => a.good ∧ RowsOk rows ∧ RatesOk rows
  | .steps a rows => a.good ∧ RowsOk rows
  | .iff a b c d => a.good ∧ b.good ∧ c.good ∧ d.good
def Wt.cls : Wt → Str
  | .am _ => "Amount"
  | .nm _ => "Name"
  | .two k _ _ => k.cls
  | .bands _ _ => "Bands"
  | .steps _ _ => "Steps"
  | .iff _ _ _ _ => "If"
def Wt.kind : Wt → Str
  | .am _ => "amount"
  | .nm _ => "name"
  | .two k _ _ => k.word
  | .bands _ _ => "bands"
  | .steps _ _ => "steps"
  | .iff _ _ _ _ => "if"

/-! ### in the heap -/
def RowA (E : Ev) (H : Hp) (t : Addr) (p : Int × Int) : Prop := ∃ u w, SqT E.K H t [.ref u, .ref w] ∧ PtA E H u p.1 ∧ PtA E H w p.2
def RowsA (E : Ev) (H : Hp) (l : Addr) (rows : List (Int × Int)) : Prop := ∃ ts : List Addr, SqL E.K H l (ts.map V.ref) ∧ Paired (RowA E H) ts rows
/-- the told tuple of a word -/
def Told (E : Ev) (H : Hp) : Wt → V → Prop
  | .am z, v => ∃ t w, v = .ref t ∧ SqT E.K H t [.str "amount", .ref w] ∧ PtA E H w z
  | .nm x, v => ∃ t, v = .ref t ∧ SqT E.K H t [.str "name", .str x]
  | .two k a b, v => ∃ t u w, v = .ref t ∧ SqT E.K H t [.str k.word, u, w] ∧ Told E H a u ∧ Told E H b w
  | .bands a rows, v => ∃ t u l, v = .ref t ∧ SqT E.K H t [.str "bands", u, .ref l] ∧ Told E H a u ∧ RowsA E H l rows
  | .steps a rows, v => ∃ t u l, v = .ref t ∧ SqT E.K H t [.str "steps", u, .ref l] ∧ Told E H a u ∧ RowsA E H l rows
  | .iff a b c d, v => ∃ t u1 u2 u3 u4, v = .ref t ∧ SqT E.K H t [.str "if", u1, u2, u3, u4] ∧ Told E H a u1 ∧ Told E H b u2 ∧ Told E H c u3 ∧ Told E H d u4
/-- a word's object -/
def Wo (E : Ev) (H : Hp) : Wt → V → Prop
  | .am z, v => ∃ p dx w, v = .ref p ∧ H p = some (.ins (Ca E "Amount") dx [("own", .ref w)]) ∧ PtA E H w z
  | .nm x, v => ∃ p dx, v = .ref p ∧ H p = some (.ins (Ca E "Name") dx [("own", .str x)])
  | .two k a b, v => ∃ p dx u w, v = .ref p ∧ H p = some (.ins (Ca E k.cls) dx [("one", u), ("other", w)]) ∧ Wo E H a u ∧ Wo E H b w
  | .bands a rows, v => ∃ p dx u l, v = .ref p ∧ H p = some (.ins (Ca E "Bands") dx [("one", u), ("pairs", .ref l)]) ∧ Wo E H a u ∧ RowsA E H l rows
  | .steps a rows, v => ∃ p dx u l, v = .ref p ∧ H p = some (.ins (Ca E "Steps") dx [("one", u), ("pairs", .ref l)]) ∧ Wo E H a u ∧ RowsA E H l rows
  | .iff a b c d, v => ∃ p dx t1 t2 u1 u2 u3 u4, v = .ref p ∧ H p = some (.ins (Ca E "If") dx [("tested", .ref t1), ("sides", .ref t2)]) ∧ SqT E.K H t1 [u1, u2] ∧ SqT E.K H t2 [u3, u4] ∧ Wo E H a u1 ∧ Wo E H b u2 ∧ Wo E H c u3 ∧ Wo E H d u4
theorem RowA.mono {E : Ev} {H H' : Hp} {t : Addr} {p : Int × Int} (s : Same H H') (h : RowA E H t p) : RowA E H' t p := by
  obtain ⟨u, w, h1, h2, h3⟩ := h
  exact ⟨u, w, s.tup h1, h2.mono s, h3.mono s⟩
theorem RowsA.mono {E : Ev} {H H' : Hp} {l : Addr} {rows : List (Int × Int)} (s : Same H H') (h : RowsA E H l rows) : RowsA E H' l rows := by
  obtain ⟨ts, h1, h2⟩ := h
  exact ⟨ts, s.seq h1, Paired.mapP h2 fun _ _ z => z.mono s⟩
theorem Told.mono {E : Ev} {H H' : Hp} (s : Same H H') : ∀ {w : Wt} {v : V}, Told E H w v → Told E H' w v
  | .am z, v, ⟨t, w, h1, h2, h3⟩ => ⟨t, w, h1, s.tup h2, h3.mono s⟩
  | .nm x, v, ⟨t, h1, h2⟩ => ⟨t, h1, s.tup h2⟩
  | .two k a b, v, ⟨t, u, w, h1, h2, h3, h4⟩ => ⟨t, u, w, h1, s.tup h2, Told.mono s h3, Told.mono s h4⟩
  | .bands a rows, v, ⟨t, u, w, h1, h2, h3, h4⟩ => ⟨t, u, w, h1, s.tup h2, Told.mono s h3, h4.mono s⟩
  | .steps a rows, v, ⟨t, u, w, h1, h2, h3, h4⟩ => ⟨t, u, w, h1, s.tup h2, Told.mono s h3, h4.mono s⟩
  | .iff a b c d, v, ⟨t, u1, u2, u3, u4, h1, h2, h3, h4, h5, h6⟩ => ⟨t, u1, u2, u3, u4, h1, s.tup h2, Told.mono s h3, Told.mono s h4, Told.mono s h5, Told.mono s h6⟩
theorem Wo.mono {E : Ev} {H H' : Hp} (s : Same H H') : ∀ {w : Wt} {v : V}, Wo E H w v → Wo E H' w v
  | .am z, v, ⟨t, d, w, h1, h2, h3⟩ => ⟨t, d, w, h1, s _ _ h2, h3.mono s⟩
  | .nm x, v, ⟨t, d, h1, h2⟩ => ⟨t, d, h1, s _ _ h2⟩
  | .two k a b, v, ⟨t, d, u, w, h1, h2, h3, h4⟩ => ⟨t, d, u, w, h1, s _ _ h2, Wo.mono s h3, Wo.mono s h4⟩
  | .bands a rows, v, ⟨t, d, u, w, h1, h2, h3, h4⟩ => ⟨t, d, u, w, h1, s _ _ h2, Wo.mono s h3, h4.mono s⟩
  | .steps a rows, v, ⟨t, d, u, w, h1, h2, h3, h4⟩ => ⟨t, d, u, w, h1, s _ _ h2, Wo.mono s h3, h4.mono s⟩
  | .iff a b c d, v, ⟨p, dx, t1, t2, u1, u2, u3, u4, h1, h2, h3, h4, h5, h6, h7, h8⟩ => ⟨p, dx, t1, t2, u1, u2, u3, u4, h1, s _ _ h2, s.tup h3, s.tup h4, Wo.mono s h5, Wo.mono s h6, Wo.mono s h7, Wo.mono s h8⟩
/-- where the object stands -/
theorem Wo.at_ {E : Ev} {H : Hp} : ∀ {w : Wt} {v : V}, Wo E H w v → ∃ p dx fs, v = .ref p ∧ H p = some (.ins (Ca E w.cls) dx fs) ∧ (fs.map (·.1)).all (fun f => decide (f ∈ ([("own" : Str), "one", "other", "pairs", "tested", "sides"] : List Str))) = true
  | .am z, v, ⟨t, d, w, h1, h2, h3⟩ => ⟨t, d, _, h1, h2, rfl⟩
  | .nm x, v, ⟨t, d, h1, h2⟩ => ⟨t, d, _, h1, h2, rfl⟩
  | .two k a b, v, ⟨t, d, u, w, h1, h2, h3, h4⟩ => ⟨t, d, _, h1, h2, rfl⟩
  | .bands a rows, v, ⟨t, d, u, w, h1, h2, h3, h4⟩ => ⟨t, d, _, h1, h2, rfl⟩
  | .steps a rows, v, ⟨t, d, u, w, h1, h2, h3, h4⟩ => ⟨t, d, _, h1, h2, rfl⟩
  | .iff a b c d, v, ⟨p, dx, t1, t2, u1, u2, u3, u4, h1, h2, _⟩ => ⟨p, dx, _, h1, h2, rfl⟩
theorem no_meth {fs : List (Str × V)} {m : Str} (h : (fs.map (·.1)).all (fun f => decide (f ∈ ([("own" : Str), "one", "other", "pairs", "tested", "sides"] : List Str))) = true) (hm : ([("own" : Str), "one", "other", "pairs", "tested", "sides"] : List Str).contains m = false) : fs.lookup m = none := by
  refine lk_no ?_
  cases q : (fs.map (·.1)).contains m with
  | false => rfl
  | true =>
    have h1 := List.contains_iff_mem.mp q
    have h2 := of_decide_eq_true (List.all_eq_true.mp h m h1)
    rw [List.contains_iff_mem.mpr h2] at hm
    cases hm
end Lv
namespace Lv
open PySem PySem.Spec PyProof.Rows L2

section
variable {E : Ev} {k : Nat} {N : List Str} {sc : Scope} {dd : Bool} {X : Cx} {σ : L2.St} {H : Hp} {e tg elt : Expr} {ifs : List Expr} {v : V}
theorem W.mono {Q Q' : VK} (h : W X e σ H Q) (q : ∀ v H', Q v H' → Q' v H') : W X e σ H Q' := ⟨fun pins s I => thn (h.run pins s I) fun u s1 ⟨y, H1, I1, r, z⟩ => ⟨y, H1, I1, r, q y H1 z⟩⟩
theorem WT.mono {Q Q' : Bool → Hp → Prop} (h : WT X e σ H Q) (q : ∀ v H', Q v H' → Q' v H') : WT X e σ H Q' := ⟨fun pins s I => thn (h.run pins s I) fun u s1 ⟨H1, I1, z⟩ => ⟨H1, I1, q u H1 z⟩⟩
theorem WTs.mono {Q Q' : Bool → Hp → Prop} (h : WTs X ifs σ H Q) (q : ∀ v H', Q v H' → Q' v H') : WTs X ifs σ H Q' := by
  match ifs, h with
  | [], h => exact q _ _ h
  | [e], h => exact WT.mono (show WT X e σ H Q from h) q
  | _ :: _ :: _, h => exact h.elim
theorem WG.mono {Q Q' : L2.St → Hp → Prop} (h : WG X tg v σ H Q) (q : ∀ v H', Q v H' → Q' v H') : WG X tg v σ H Q' := ⟨fun pins s u I r => thn (h.run pins s u I r) fun _ s1 ⟨y, H1, I1, z⟩ => ⟨y, H1, I1, q y H1 z⟩⟩
end

/-- all but lists stands -/
def NL (H H' : Hp) : Prop := ∀ b o, H b = some o → (∀ xs, o ≠ .lst xs) → H' b = some o
theorem NL.refl (H : Hp) : NL H H := fun _ _ h _ => h
theorem NL.trans {H H1 H2 : Hp} (a : NL H H1) (b : NL H1 H2) : NL H H2 := fun c o h n => b c o (a c o h n) n
theorem _root_.L2.Same.nl {H H' : Hp} (s : Same H H') : NL H H' := fun b o h _ => s b o h
theorem NL.upd {H : Hp} {p : Addr} {xs : List V} {o : HO} (h : H p = some (.lst xs)) : NL H (L2.upd H p o) := fun b u hb n => by
  have ne : b ≠ p := by
    rintro rfl
    rw [h] at hb
    cases hb
    exact n xs rfl
  rw [upd_ne ne]
  exact hb
theorem NL.ts {H H' : Hp} (s : NL H H') : TS H H' := fun a xs r => by
  rcases r with r | ⟨ob, r⟩
  · exact .inl (s _ _ r fun _ z => by cases z)
  · exact .inr ⟨ob, s _ _ r fun _ z => by cases z⟩

/-- what is walked: n items -/
def Src (H1 : Hp) (J : It) (n : Nat) (Y : Nat → V → Hp → Prop) : Prop := ∀ H, Same H1 H → (∀ i, i < n → J.go i H ∧ ∀ x H', J.yld i H x H' → Same H H' ∧ Y i x H') ∧ J.stop n H
theorem src_list {K : PySem.W.Frag} {H1 : Hp} {a : Addr} {xs : List V} (h : SqL K H1 a xs) : Src H1 (Itl K a) xs.length fun i x _ => xs[i]? = some x := fun H s => by
  have h2 := s.seq h
  refine ⟨fun i hi => ⟨⟨xs, xs[i], h2, by simp [hi]⟩, fun x H' y => ?_⟩, ⟨xs, h2, Nat.le_refl _⟩⟩
  obtain ⟨rfl, y⟩ := y
  exact ⟨Same.refl _, y xs h2⟩
theorem src_tup {K : PySem.W.Frag} {H1 : Hp} {a : Addr} {xs : List V} (h : SqT K H1 a xs) : Src H1 (Itt K a) xs.length fun i x _ => xs[i]? = some x := fun H s => by
  have h2 := s.tup h
  refine ⟨fun i hi => ⟨⟨xs, xs[i], h2, by simp [hi]⟩, fun x H' y => ?_⟩, ⟨xs, h2, Nat.le_refl _⟩⟩
  obtain ⟨rfl, y⟩ := y
  exact ⟨Same.refl _, y xs h2⟩
theorem src_range {H1 : Hp} {n : Nat} : Src H1 (Itr 0 n) n fun i x _ => x = .int i := fun H s => by
  refine ⟨fun i hi => ⟨hi, fun x H' y => ?_⟩, Nat.le_refl n⟩
  obtain ⟨rfl, y⟩ := y
  exact ⟨Same.refl _, by rw [y, Int.zero_add]⟩
theorem src_zip {K : PySem.W.Frag} {H1 : Hp} {a b : Addr} {xs ys : List V} (h : SqL K H1 a xs) (h' : SqL K H1 b ys) : Src H1 (Itz K a b) (min xs.length ys.length) fun i x H' => ∃ T u w, x = .ref T ∧ H' T = some (.tup [u, w]) ∧ xs[i]? = some u ∧ ys[i]? = some w := fun H s => by
  have h2 := s.seq h
  have h3 := s.seq h'
  refine ⟨fun i hi => ⟨⟨xs, ys, xs[i]'(by omega), ys[i]'(by omega), h2, h3, by simp, by simp⟩, fun x H' y => ?_⟩, ⟨xs, ys, h2, h3, by omega⟩⟩
  obtain ⟨T, u, w, rfl, hT, rfl, q1, q2⟩ := y
  exact ⟨Same.new hT, T, u, w, rfl, upd_same, q1 xs h2, q2 ys h3⟩
theorem src_enum {K : PySem.W.Frag} {H1 : Hp} {a : Addr} {xs : List V} (h : SqL K H1 a xs) : Src H1 (Ite K a) xs.length fun i x H' => ∃ T u, x = .ref T ∧ H' T = some (.tup [.int (i : Nat), u]) ∧ xs[i]? = some u := fun H s => by
  have h2 := s.seq h
  refine ⟨fun i hi => ⟨⟨xs, xs[i], h2, by simp⟩, fun x H' y => ?_⟩, ⟨xs, h2, Nat.le_refl _⟩⟩
  obtain ⟨T, u, rfl, hT, rfl, q1⟩ := y
  exact ⟨Same.new hT, T, u, rfl, upd_same, q1 xs h2⟩

theorem src_str {H1 : Hp} {z : Str} : Src H1 (Its z) z.cps.size fun i x _ => ∃ c, z.cps[i]? = some c ∧ x = .str ⟨#[c]⟩ := fun H s => by
  refine ⟨fun i hi => ⟨hi, fun x H' y => ?_⟩, Nat.le_refl _⟩
  obtain ⟨rfl, y⟩ := y
  exact ⟨Same.refl _, y⟩
theorem src_vals {H1 : Hp} {a : Addr} {o : Obj} {kvs : List (Key × V)} (h : H1 a = some (.frz o (.dK kvs))) : Src H1 (Itd a o kvs) kvs.length fun i x _ => ∃ k, kvs[i]? = some (k, x) := fun H s => by
  have h2 := s _ _ h
  refine ⟨fun i hi => ⟨⟨h2, hi⟩, fun x H' y => ?_⟩, ⟨h2, Nat.le_refl _⟩⟩
  obtain ⟨rfl, y⟩ := y
  exact ⟨Same.refl _, y⟩
section
variable {E : Ev} {k : Nat} {N : List Str} {sc sc' : Scope} {dd : Bool} {X : Cx} {σ : L2.St} {H : Hp} {e tg elt : Expr} {ifs : List Expr} {v : V} {vs : List Nat}
theorem filt_yes {n : Nat} {f : Nat → Bool} (h : f n = true) : (List.range (n + 1)).filter f = (List.range n).filter f ++ [n] := by
  rw [List.range_succ, List.filter_append, List.filter_cons, if_pos h]
  rfl
theorem filt_no {n : Nat} {f : Nat → Bool} (h : f n = false) : (List.range (n + 1)).filter f = (List.range n).filter f := by
  rw [List.range_succ, List.filter_append, List.filter_cons, if_neg (by rw [h]; exact Bool.false_ne_true)]
  exact List.append_nil _
/-- a comprehension that changes nothing -/
theorem lc_src {H1 : Hp} {J : It} {n : Nat} {Yd : Nat → V → Hp → Prop} (src : Src H1 J n Yd) (hn : n < 100000) (keep : Nat → Bool) (R : Nat → V → Hp → Prop) (mono : ∀ i y H H', NL H H' → R i y H → R i y H')
    (step : ∀ i x H', i < n → Same H1 H' → Yd i x H' → ∀ Y, Cxt E k N sc' false Y → WG Y tg x (wipe σ vs) H' fun σ2 H2 => wipe σ2 vs = wipe σ vs ∧ Same H' H2 ∧ ∀ Y2, Cxt E k N sc' false Y2 → WTs Y2 ifs σ2 H2 fun b H3 => Same H2 H3 ∧ b = keep i ∧
      (keep i = true → ∀ Y3, Cxt E k N sc' false Y3 → W Y3 elt σ2 H3 fun y H4 => Same H3 H4 ∧ R i y H4))
    {Q : VK} (q : ∀ D ys H', H1 D = none → Same H1 H' → H' D = some (.lst ys) → Paired (fun i y => R i y H') ((List.range n).filter keep) ys → Q (.ref D) H') :
    ∀ D, H1 D = none → ∃ W0 : Nat → Nat → Hp → Prop, (∃ m, W0 0 m (upd H1 D (.lst []))) ∧ ∀ i m H, W0 i m H →
      (J.stop i H ∧ Q (.ref D) H) ∨ (J.go i H ∧ ∃ Nx : Hp → Prop, (∀ H', Nx H' → ∃ m', m' < m ∧ W0 (i + 1) m' H') ∧ ∀ x H', J.yld i H x H' → (∀ Y, Cxt E k N sc' false Y → WG Y tg x (wipe σ vs) H' fun σ2 H2 => wipe σ2 vs = wipe σ vs ∧ ∀ Y, Cxt E k N sc' false Y → WTs Y ifs σ2 H2 fun b H3 =>
        if b = true then ∀ Y, Cxt E k N sc' false Y → W Y elt σ2 H3 fun y H4 => ∃ acc, H4 D = some (.lst acc) ∧ acc.length < sizeLine ∧ Nx (upd H4 D (.lst (acc ++ [y]))) else Nx H3)) := by
  intro D hD
  refine ⟨fun i m H => i + m = n ∧ Same H1 H ∧ ∃ ys, H D = some (.lst ys) ∧ Paired (fun i y => R i y H) ((List.range i).filter keep) ys, ⟨n, by omega, Same.new hD, [], upd_same, .nil⟩, ?_⟩
  rintro i m H ⟨hi, s, ys, hy, p⟩
  obtain ⟨hgo, hstop⟩ := src H s
  by_cases hlt : i < n
  · right
    obtain ⟨go, yld⟩ := hgo i hlt
    refine ⟨go, fun H => Same H1 H ∧ ∃ ys, H D = some (.lst ys) ∧ Paired (fun i y => R i y H) ((List.range (i + 1)).filter keep) ys, fun H' h => ⟨m - 1, by omega, by omega, h⟩, fun x H' hx Y c => ?_⟩
    obtain ⟨s1, y1⟩ := yld x H' hx
    refine (step i x H' hlt (s.trans s1) y1 Y c).mono fun σ2 H2 ⟨w, s2, h2⟩ => ⟨w, fun Y2 c2 => ?_⟩
    refine (h2 Y2 c2).mono fun b H3 ⟨s3, eb, h3⟩ => ?_
    have s13 : Same H H3 := (s1.trans s2).trans s3
    refine iteC (fun hb => ?_) (fun hb => ?_)
    · rw [hb] at eb
      intro Y3 c3
      refine (h3 eb.symm Y3 c3).mono fun y H4 ⟨s4, r⟩ => ?_
      have s14 : Same H H4 := s13.trans s4
      have hl : ys.length < 100000 := by
        have h1 := Paired.length p
        have h2 : ((List.range i).filter keep).length ≤ (List.range i).length := List.length_filter_le _ _
        rw [List.length_range] at h2
        omega
      refine ⟨ys, s14 _ _ hy, Nat.lt_of_lt_of_le hl (by decide), Same.mut (s.trans s14) hD, ys ++ [y], upd_same, ?_⟩
      rw [filt_yes eb.symm]
      have nl : NL H4 (upd H4 D (.lst (ys ++ [y]))) := NL.upd (s14 _ _ hy)
      exact Paired.snoc (Paired.mapP p fun a b z => mono _ _ _ _ nl (mono _ _ _ _ s14.nl z)) (mono _ _ _ _ nl r)
    · rw [hb] at eb
      refine ⟨s.trans s13, ys, s13 _ _ hy, ?_⟩
      rw [filt_no eb.symm]
      exact Paired.mapP p fun a b z => mono _ _ _ _ s13.nl z
  · have e : i = n := by omega
    subst e
    exact .inl ⟨hstop, q D ys H hD s hy p⟩
theorem filt_all (n : Nat) : (List.range n).filter (fun _ => true) = List.range n := List.filter_eq_self.mpr fun _ _ => rfl
end
/-! ### names -/
def nameB (x : Str) : Bool := decide (1 ≤ x.length) && (decide (x.length ≤ 8) && (!inV (.str x) (keptL.map V.str) && x.cps.toList.all fun c => decide (c ∈ lettersS.cps.toList)))
theorem nameB_ok {x : Str} (h : nameB x = true) : 1 ≤ x.length ∧ x.length ≤ 8 ∧ inV (.str x) (keptL.map V.str) = false ∧ ∀ c ∈ x.cps.toList, c ∈ lettersS.cps.toList := by
  obtain ⟨h1, h⟩ := and2 h
  obtain ⟨h2, h⟩ := and2 h
  obtain ⟨h3, h4⟩ := and2 h
  exact ⟨of_decide_eq_true h1, of_decide_eq_true h2, not1 h3, fun c hc => of_decide_eq_true (List.all_eq_true.mp h4 c hc)⟩
theorem str_le {x : Str} (h : x.length ≤ 100000) : x.length ≤ sizeLine := Nat.le_trans h (by decide)
def spIsName : Pr := fun vs H Q => ∃ x, vs = [.str x] ∧ nameB x = true ∧ ∀ H', Same H H' → Q (.bl true) H'
end Lv
namespace Lv
open PySem PySem.Spec PyProof.Rows L2

section
variable {E : Ev} {k : Nat} {N : List Str} {sc sc' : Scope} {dd : Bool} {X : Cx} {σ : L2.St} {H : Hp} {D : Ends} {e tg elt iter : Expr} {ifs : List Expr} {v : V} {vs : List Nat} {p p2 : Pos} {x : Str}
theorem WI.mono {R R' : It → Hp → Prop} (h : WI X tg e σ H R) (q : ∀ J H', R J H' → R' J H') : WI X tg e σ H R' :=
  ⟨fun pins s I => thn (h.run pins s I) fun _ s1 h1 => thn h1 fun _ s2 ⟨it, fp, tn, J, H2, e, I2, tu, t0, fpo, r⟩ => ⟨it, fp, tn, J, H2, e, I2, tu, t0, fpo, q J H2 r⟩⟩
/-- what a comprehension that changes nothing asks of its walk -/
def LcS (E : Ev) (k : Nat) (N : List Str) (sc' : Scope) (tg elt : Expr) (ifs : List Expr) (vs : List Nat) (σ : L2.St) (J : It) (H1 : Hp) (Q : VK) : Prop :=
  ∃ (n : Nat) (Yd : Nat → V → Hp → Prop) (keep : Nat → Bool) (R : Nat → V → Hp → Prop), Src H1 J n Yd ∧ n < 100000 ∧ (∀ i y H H', NL H H' → R i y H → R i y H') ∧
    (∀ i x H', i < n → Same H1 H' → Yd i x H' → ∀ Y, Cxt E k N sc' false Y → WG Y tg x (wipe σ vs) H' fun σ2 H2 => wipe σ2 vs = wipe σ vs ∧ Same H' H2 ∧ ∀ Y2, Cxt E k N sc' false Y2 → WTs Y2 ifs σ2 H2 fun b H3 => Same H2 H3 ∧ b = keep i ∧
      (keep i = true → ∀ Y3, Cxt E k N sc' false Y3 → W Y3 elt σ2 H3 fun y H4 => Same H3 H4 ∧ R i y H4)) ∧
    ∀ D ys H', H1 D = none → Same H1 H' → H' D = some (.lst ys) → Paired (fun i y => R i y H') ((List.range n).filter keep) ys → Q (.ref D) H'
theorem lcS {J : It} {H1 : Hp} {Q : VK} {n : Nat} {Yd : Nat → V → Hp → Prop} (src : Src H1 J n Yd) (hn : n < 100000) (keep : Nat → Bool) (R : Nat → V → Hp → Prop) (mono : ∀ i y H H', NL H H' → R i y H → R i y H')
    (step : ∀ i x H', i < n → Same H1 H' → Yd i x H' → ∀ Y, Cxt E k N sc' false Y → WG Y tg x (wipe σ vs) H' fun σ2 H2 => wipe σ2 vs = wipe σ vs ∧ Same H' H2 ∧ ∀ Y2, Cxt E k N sc' false Y2 → WTs Y2 ifs σ2 H2 fun b H3 => Same H2 H3 ∧ b = keep i ∧
      (keep i = true → ∀ Y3, Cxt E k N sc' false Y3 → W Y3 elt σ2 H3 fun y H4 => Same H3 H4 ∧ R i y H4))
    (q : ∀ D ys H', H1 D = none → Same H1 H' → H' D = some (.lst ys) → Paired (fun i y => R i y H') ((List.range n).filter keep) ys → Q (.ref D) H') : LcS E k N sc' tg elt ifs vs σ J H1 Q := ⟨n, Yd, keep, R, src, hn, mono, step, q⟩
/-- with no test -/
theorem lcS0 {J : It} {H1 : Hp} {Q : VK} {n : Nat} {Yd : Nat → V → Hp → Prop} (src : Src H1 J n Yd) (hn : n < 100000) (R : Nat → V → Hp → Prop) (mono : ∀ i y H H', NL H H' → R i y H → R i y H')
    (step : ∀ i x H', i < n → Same H1 H' → Yd i x H' → ∀ Y, Cxt E k N sc' false Y → WG Y tg x (wipe σ vs) H' fun σ2 H2 => wipe σ2 vs = wipe σ vs ∧ Same H' H2 ∧ ∀ Y3, Cxt E k N sc' false Y3 → W Y3 elt σ2 H2 fun y H4 => Same H2 H4 ∧ R i y H4)
    (q : ∀ D ys H', H1 D = none → Same H1 H' → H' D = some (.lst ys) → Paired (fun i y => R i y H') (List.range n) ys → Q (.ref D) H') : LcS E k N sc' tg elt [] vs σ J H1 Q :=
  ⟨n, Yd, fun _ => true, R, src, hn, mono, fun i x H' hi s1 y1 Y c => (step i x H' hi s1 y1 Y c).mono fun σ2 H2 ⟨w, s2, h⟩ => ⟨w, s2, fun Y2 c2 => ⟨Same.refl _, rfl, fun _ Y3 c3 => h Y3 c3⟩⟩, fun D ys H' hD s1 hl pr => q D ys H' hD s1 hl (by rw [filt_all] at pr; exact pr)⟩
theorem w_lcS {scope : Scope} {Q : VK} (c : Cxt E k N sc dd X) (own : List (Str × Nat)) (ok : blkC N sc scope own = true) (q : WI X tg iter σ H fun J H1 => LcS E k N (relS scope sc) tg elt ifs (own.map (·.2)) σ J H1 Q)
    (hs : ∀ x, foldedSetIterable iter X.env x = pure x := by intro _; rfl) : W X (.ListComp elt [⟨tg, iter, ifs, 0⟩] scope p) σ H Q :=
  w_lc c own ok (q.mono fun J H1 ⟨n, Yd, keep, R, src, hn, mono, step, q⟩ => lc_src src hn keep R mono step q) hs
theorem ws_setLcS {scope : Scope} {j : Nat} {py : Pos} (c : Cxt E k N sc dd X) (h : locB dd N sc j x = true) (hl : sc.names.lookup x = some .local) (own : List (Str × Nat)) (ok : blkC N sc scope own = true)
    (hk : sc.kind = .function) (hp : (py.line == p2.line) = true) (ha : (scope.names.any fun (n, k) => n == x && (k == .local || k == .cell)) = false)
    (q : WI X tg iter σ H fun J H1 => LcS E k N (relS scope sc) tg elt ifs (own.map (·.2)) σ J H1 fun y H1 => D.nx (σ.set j (some y)) H1) (hs : ∀ x, foldedSetIterable iter X.env x = pure x := by intro _; rfl) :
    WS X (.Assign [.Name x py] (.ListComp elt [⟨tg, iter, ifs, 0⟩] scope p2) p) D σ H :=
  ws_setLc c h hl own ok hk hp ha (q.mono fun J H1 ⟨n, Yd, keep, R, src, hn, mono, step, q⟩ => lc_src (Q := fun y H1 => D.nx (σ.set j (some y)) H1) src hn keep R mono step q) hs
end
section
variable {E : Ev} {k : Nat} {N : List Str} {sc sc' : Scope} {dd : Bool} {X : Cx} {σ : L2.St} {H : Hp} {D : Ends} {e tg : Expr} {body : List Stmt} {p : Pos}
/-- a for that walks what stands in F -/
def ForS (X : Cx) (tg : Expr) (body : List Stmt) (σ : L2.St) (D : Ends) (J : It) (H1 : Hp) : Prop :=
  ∃ (F : Hp) (n : Nat) (Yd : Nat → V → Hp → Prop) (Iv : Nat → L2.St → Hp → Prop), Src F J n Yd ∧ Iv 0 σ H1 ∧ (∀ i σ H, Iv i σ H → Same F H) ∧ (∀ σ H, Iv n σ H → D.nx σ H) ∧
    ∀ i σ H x H', i < n → Iv i σ H → Same H H' → Yd i x H' → WG X tg x σ H' fun σ2 H2 => WB X body { D with nx := Iv (i + 1), ct := Iv (i + 1), bk := D.nx } σ2 H2
theorem forS {F : Hp} {J : It} {H1 : Hp} {n : Nat} {Yd : Nat → V → Hp → Prop} (src : Src F J n Yd) (Iv : Nat → L2.St → Hp → Prop) (h0 : Iv 0 σ H1) (hF : ∀ i σ H, Iv i σ H → Same F H) (hn : ∀ σ H, Iv n σ H → D.nx σ H)
    (step : ∀ i σ H x H', i < n → Iv i σ H → Same H H' → Yd i x H' → WG X tg x σ H' fun σ2 H2 => WB X body { D with nx := Iv (i + 1), ct := Iv (i + 1), bk := D.nx } σ2 H2) : ForS X tg body σ D J H1 := ⟨F, n, Yd, Iv, src, h0, hF, hn, step⟩
theorem ws_forS (c : Cxt E k N sc dd X) (q : WI X tg e σ H fun J H1 => ForS X tg body σ D J H1) (hs : ∀ x, foldedSetIterable e X.env x = pure x := by intro _; rfl) : WS X (.For tg e body [] p) D σ H := by
  refine ws_for c (q.mono fun J H1 ⟨F, n, Yd, Iv, src, h0, hF, hn, step⟩ => ?_) hs
  refine ⟨fun i m σ H => i + m = n ∧ Iv i σ H, ⟨n, by omega, h0⟩, ?_⟩
  rintro i m σ H ⟨hi, h⟩
  obtain ⟨s1, s2⟩ := src H (hF _ _ _ h)
  by_cases hlt : i < n
  · obtain ⟨go, yld⟩ := s1 i hlt
    refine .inr ⟨go, Iv (i + 1), fun σ' H' h' => ⟨m - 1, by omega, by omega, h'⟩, fun x H' hx => ?_⟩
    obtain ⟨s3, y⟩ := yld x H' hx
    exact step i σ H x H' hlt h s3 y
  · have e : i = n := by omega
    subst e
    exact .inl ⟨s2, hn _ _ h⟩
end
theorem wipe_one {σ : L2.St} {j : Nat} {x : V} : wipe ((wipe σ [j]).set j (some x)) [j] = wipe σ [j] := by
  show ((σ.set j none).set j (some x)).set j none = σ.set j none
  rw [List.set_set, List.set_set]
theorem wipe_two {σ : L2.St} {i j : Nat} {x y : V} (h : i ≠ j) : wipe (((wipe σ [i, j]).set i (some x)).set j (some y)) [i, j] = wipe σ [i, j] := by
  apply List.ext_getElem?
  intro n
  simp only [wipe, List.getElem?_set, List.length_set]
  repeat' split
  all_goals first | rfl | omega | simp_all
theorem bools_of {bs : List V} {n : Nat} (hl : bs.length = n) (h : ∀ y ∈ bs, y = .bl true) : bs = (List.replicate n true).map V.bl := by
  rw [List.map_replicate]
  exact List.eq_replicate_iff.mpr ⟨hl, h⟩
theorem pair_all {α : Type} {R : α → Prop} {ys : List α} {is : List Nat} (p : Paired (fun _ y => R y) is ys) : ∀ y ∈ ys, R y := fun y hy => by
  obtain ⟨i, hi, e⟩ := List.mem_iff_getElem.mp hy
  obtain ⟨_, _, r⟩ := pair_at' p (i := i) (y := y) (by rw [List.getElem?_eq_getElem hi, e])
  exact r
/-- all([..]) of trues -/
theorem c_allT {E : Ev} {k : Nat} {N : List Str} {sc : Scope} {dd : Bool} {X : Cx} {H : Hp} {Q : VK} {t : Addr} {ys : List V} {n : Nat} (c : Cxt E k N sc dd X) (h : H t = some (.lst ys)) (p : Paired (fun _ y => y = V.bl true) (List.range n) ys) (q : Q (.bl true) H) : WC X (.builtin "all") [.ref t] H Q := by
  refine c_all c (bs := List.replicate (List.range n).length true) (by rw [← bools_of (Paired.length p).symm (pair_all p)]; exact SqL.of h) ?_
  rw [List.all_replicate]
  cases (List.range n).length with
  | zero => exact q
  | succ m => exact q
def spNeedPart (E : Ev) : Pr := fun vs H Q => ∃ t z, vs = [.ref t] ∧ PtA E H t z ∧ Q .non H
def spAreRows (E : Ev) : Pr := fun vs H Q => ∃ l rows, vs = [.ref l] ∧ RowsA E H l rows ∧ RowsOk rows ∧ ∀ H', Same H H' → Q (.bl true) H'
end Lv
namespace Lv
open PySem PySem.Spec PyProof.Rows L2

section
variable {E : Ev} {k : Nat} {N : List Str} {sc : Scope} {dd : Bool} {X : Cx} {H : Hp} {Q : VK} {s t : Addr} {x y : Int}
theorem Cxt.hu64 (c : Cxt E k N sc dd X) : X.A.units + 64 < cLine := c.room.units
def pdP (x : Int) : PyData := .tuple [.int (cn x).1, .int (cn x).2]
theorem dp_p {K : PySem.W.Frag} (h : SqT K H t [.int (cn x).1, .int (cn x).2]) : Dp K H (.ref t) (pdP x) := .tup h (.cons (.int _) (.cons (.int _) .nil))
theorem pd_shaped (x : Int) : SeqAt.shaped (pdP x) = true := rfl
theorem pd_eqv (x y : Int) : PyData.eqv (pdP x) (pdP y) = decide (x = y) := by
  have e : PyData.eqv (pdP x) (pdP y) = (decide ((cn x).1 = (cn y).1) && (decide ((cn x).2 = (cn y).2) && true)) := rfl
  rw [e, Bool.and_true]
  by_cases h : x = y
  · rw [h]
    simp
  · rw [decide_eq_false h]
    have h2 : ¬ ((cn x).1 = (cn y).1 ∧ (cn x).2 = (cn y).2) := fun ⟨a, b⟩ => h (cn_inj (Prod.ext a b))
    cases q1 : decide ((cn x).1 = (cn y).1) <;> cases q2 : decide ((cn x).2 = (cn y).2) <;> first | rfl | exact absurd ⟨of_decide_eq_true q1, of_decide_eq_true q2⟩ h2
theorem o_eq_p (c : Cxt E k N sc dd X) (h1 : PtA E H s x) (h2 : PtA E H t y) (q : Q (.bl (decide (x = y))) H) : WCo X .Eq (.ref s) (.ref t) H Q :=
  wco_of (op_eqD c.hu64) ⟨pdP x, pdP y, by rw [c.hK]; exact dp_p h1, by rw [c.hK]; exact dp_p h2, pd_shaped x, pd_shaped y, by rw [pd_eqv]; exact q⟩
theorem o_ne_p (c : Cxt E k N sc dd X) (h1 : PtA E H s x) (h2 : PtA E H t y) (q : Q (.bl (!decide (x = y))) H) : WCo X .NotEq (.ref s) (.ref t) H Q :=
  wco_of (op_neD c.hu64) ⟨pdP x, pdP y, by rw [c.hK]; exact dp_p h1, by rw [c.hK]; exact dp_p h2, pd_shaped x, pd_shaped y, by rw [pd_eqv]; exact q⟩
end
/-- x, y from a pair -/
theorem wg_two {E : Ev} {k : Nat} {N : List Str} {sc : Scope} {dd : Bool} {X : Cx} {σ : L2.St} {H : Hp} {QG : L2.St → Hp → Prop} {i j kk : Nat} {x y : Str} {p1 p2 p : Pos} {T : Addr} {u w : V} (c : Cxt E k N sc dd X) (h1 : locB dd N sc i x = true) (h2 : locB dd N sc j y = true) (h : SqT E.K H T [u, w])
    (q : QG ((σ.set i (some u)).set j (some w)) H) : WG X (.Tuple [.Name x p1, .Name y p2] kk p) (.ref T) σ H QG :=
  wg_tup c h rfl (wgs_cons (wg_name c h1 (wgs_cons (wg_name c h2 (wgs_nil q))))) rfl rfl
theorem wp_none {X : Cx} {σ : L2.St} {H : Hp} {Q : Option Int → Hp → Prop} (q : Q none H) : WP X none σ H Q := q
theorem wp_some {X : Cx} {e : Expr} {σ : L2.St} {H : Hp} {Q : Option Int → Hp → Prop} (q : W X e σ H fun y H1 => ∃ i, y = .int i ∧ Q (some i) H1) : WP X (some e) σ H Q := q
theorem cutV_from (xs : List V) (j : Nat) : cutV xs (some (j : Int)) none = xs.drop j := by
  unfold cutV
  rw [HT.sIx_nat, HT.sIx_none]
  by_cases h : j ≤ xs.length
  · rw [Nat.min_eq_left h, List.take_of_length_le (by rw [List.length_drop]; omega)]
  · rw [Nat.min_eq_right (by omega), List.drop_eq_nil_of_le (Nat.le_refl _), List.drop_eq_nil_of_le (by omega), List.take_nil]
theorem cutV_one (xs : List V) : cutV xs (some 1) none = xs.drop 1 := cutV_from xs 1
theorem cutV_to (xs : List V) (j : Nat) : cutV xs none (some (j : Int)) = xs.take j := by
  unfold cutV
  rw [HT.sIx_nat, HT.sIx_none, List.drop_zero, Nat.sub_zero]
  by_cases h : j ≤ xs.length
  · rw [Nat.min_eq_left h]
  · rw [Nat.min_eq_right (by omega), List.take_of_length_le (Nat.le_refl _), List.take_of_length_le (by omega)]
theorem cutV_mid (xs : List V) (i j : Nat) : cutV xs (some (i : Int)) (some (j : Int)) = (xs.take j).drop i := by
  unfold cutV
  rw [HT.sIx_nat, HT.sIx_nat, List.drop_take]
  by_cases h : i ≤ xs.length
  · rw [Nat.min_eq_left h]
    by_cases h2 : j ≤ xs.length
    · rw [Nat.min_eq_left h2]
    · rw [Nat.min_eq_right (by omega), List.take_of_length_le (by rw [List.length_drop]; omega), List.take_of_length_le (by rw [List.length_drop]; omega)]
  · rw [List.drop_eq_nil_of_le (by omega : xs.length ≤ min i xs.length), List.drop_eq_nil_of_le (by omega : xs.length ≤ i), List.take_nil, List.take_nil]
/-- a row in rows -/
theorem row_at {E : Ev} {H : Hp} {ts : List Addr} {rows : List (Int × Int)} (pr : Paired (RowA E H) ts rows) {i : Nat} {v : V} (h : (ts.map V.ref)[i]? = some v) : ∃ t b r u w, v = .ref t ∧ rows[i]? = some (b, r) ∧ SqT E.K H t [.ref u, .ref w] ∧ PtA E H u b ∧ PtA E H w r := by
  rw [List.getElem?_map] at h
  cases q : ts[i]? with
  | none => rw [q] at h; cases h
  | some t =>
    rw [q] at h
    obtain ⟨⟨b, r⟩, h1, u, w, h2, h3, h4⟩ := pair_at pr q
    exact ⟨t, b, r, u, w, by cases h; rfl, h1, h2, h3, h4⟩
end Lv
namespace Lv
open PySem PySem.Spec PyProof.Rows L2

theorem le_sz {n : Nat} (h : n ≤ 100000) : n ≤ sizeLine := Nat.le_trans h (by decide)
def Wt.kids : Wt → List Wt
  | .am _ => []
  | .nm _ => []
  | .two _ a b => [a, b]
  | .bands a _ => [a]
  | .steps a _ => [a]
  | .iff a b c d => [a, b, c, d]
/-! ### what a word's methods promise -/
def spInner (E : Ev) (w : Wt) : Pr := fun vs H Q => ∃ v F, vs = [v] ∧ Wo E F w v ∧ Same F H ∧ ∀ D ys H', Same H H' → H D = none → H' D = some (.lst ys) → Paired (Wo E F) w.kids ys → Q (.ref D) H'
/-- a heap without the object at f -/
def del (H : Hp) (f : Addr) : Hp := fun a => if a = f then none else H a
theorem del_at (H : Hp) (f : Addr) : del H f f = none := if_pos rfl
theorem del_ne {H : Hp} {f a : Addr} (h : a ≠ f) : del H f a = H a := if_neg h
theorem del_same (H : Hp) (f : Addr) : Same (del H f) H := fun a u h => by
  by_cases e : a = f
  · rw [e, del_at] at h
    cases h
  · rw [del_ne e] at h
    exact h
theorem del_of {F H : Hp} {f : Addr} (s : Same F H) (h : F f = none) : Same F (del H f) := fun a u e => by
  rw [del_ne (ne_of_none e h)]
  exact s a u e
theorem wts_one {X : Cx} {e : Expr} {σ : L2.St} {H : Hp} {Q : Bool → Hp → Prop} (q : WT X e σ H Q) : WTs X [e] σ H Q := q
def spKind (z : Str) : Pr := fun vs H Q => ∃ v, vs = [v] ∧ Q (.str z) H
def spDeep (E : Ev) (w : Wt) : Pr := fun vs H Q => ∃ v, vs = [v] ∧ Wo E H w v ∧ ∀ H', Same H H' → Q (.int (w.deep : Nat)) H'
def spSize (E : Ev) (w : Wt) : Pr := fun vs H Q => ∃ v, vs = [v] ∧ Wo E H w v ∧ ∀ H', Same H H' → Q (.int (w.size : Nat)) H'
def spNames (E : Ev) (w : Wt) : Pr := fun vs H Q => ∃ v, vs = [v] ∧ Wo E H w v ∧ w.size ≤ 1000 ∧ ∀ (D : Addr) (xs : List Str) (H' : Hp), Same H H' → H D = none → H' D = some (.lst (xs.map V.str)) → xs.length ≤ w.size → (∀ p, w.okN p → ∀ x ∈ xs, p x) → Q (.ref D) H'
def spVal (E : Ev) (w : Wt) : Pr := fun vs H Q => ∃ v a d, vs = [v, .ref a] ∧ Wo E H w v ∧ w.good ∧ DA E H a d ∧ w.okN (fun x => (dget d x).isSome = true) ∧ Ret H (fun v' H' => Pt E H' v' (val d w)) Q

section
variable {E : Ev} {k : Nat} {N : List Str} {sc : Scope} {dd : Bool} {X : Cx} {σ : L2.St} {H : Hp} {Q : VK} {e o : Expr} {es : List Expr} {p apos : Pos} {m : Str}
/-- w.m() of a word -/
theorem w_mW0 {pl : Sem Bool} (c : Cxt E k N sc dd X) (q : W X o σ H fun y H1 => ∃ w sp k', Wo E H1 w y ∧ Dm E k' (Ca E w.cls) m sp ∧ k' ≤ k ∧ sp [y] H1 Q)
    (hm : ([("own" : Str), "one", "other", "pairs", "tested", "sides"] : List Str).contains m = false := by decide +kernel)
    (ht : eval (.Call (.Attribute o m apos) [] [] p) X.env = (eval o X.env >>= fun ov => standAt apos.atName >>= fun _ => holding [ov] (getMethod ov m pl) >>= fun r => callWith p r.1 r.2 (backTo p (starEach [] X.env)) (backToKw p (keywordEach [] X.env))) := by rfl) :
    W X (.Call (.Attribute o m apos) [] [] p) σ H Q :=
  w_meth0 c (q.mono fun y H1 ⟨w, sp, k', hw, hd, hk, z⟩ => by
    obtain ⟨t, dx, fs, rfl, ht, hf⟩ := hw.at_
    exact at_meth (R := fun sp => sp [.ref t] H1 Q) ht (no_meth hf hm) hd hk z) ht
theorem w_mW {pl : Sem Bool} (c : Cxt E k N sc dd X) (q : W X o σ H fun y H1 => ∃ w sp k', Wo E H1 w y ∧ Dm E k' (Ca E w.cls) m sp ∧ k' ≤ k ∧ WA X (e :: es) σ H1 fun vs H2 => sp (y :: vs) H2 Q)
    (hm : ([("own" : Str), "one", "other", "pairs", "tested", "sides"] : List Str).contains m = false := by decide +kernel)
    (hst : starEach (e :: es) X.env = (false, eval e X.env) :: starEach es X.env := by rfl) (hpl : (backTo p (starEach es X.env)).any (·.1) = false := by rfl)
    (ht : eval (.Call (.Attribute o m apos) (e :: es) [] p) X.env = (eval o X.env >>= fun ov => standAt apos.atName >>= fun _ => holding [ov] (getMethod ov m pl) >>= fun r => callWith p r.1 r.2 (backTo p (starEach (e :: es) X.env)) (backToKw p (keywordEach [] X.env))) := by rfl) :
    W X (.Call (.Attribute o m apos) (e :: es) [] p) σ H Q :=
  w_meth c (q.mono fun y H1 ⟨w, sp, k', hw, hd, hk, z⟩ => by
    obtain ⟨t, dx, fs, rfl, ht, hf⟩ := hw.at_
    exact at_meth (R := fun sp => WA X (e :: es) σ H1 fun vs H2 => sp (.ref t :: vs) H2 Q) ht (no_meth hf hm) hd hk z) hst hpl ht
/-- self.f, the fields known -/
theorem at_fld {t C dx : Addr} {f : Str} {v : V} {fs : List (Str × V)} {R : V → Hp → Prop} (h : H t = some (.ins C dx fs)) (a : At E C f) (l : fs.lookup f = some v) (q : R v H) :
    ∃ t' C dx fs v, V.ref t = .ref t' ∧ H t' = some (.ins C dx fs) ∧ At E C f ∧ fs.lookup f = some v ∧ R v H := ⟨t, C, dx, fs, v, rfl, h, a, l, q⟩
theorem o_catT {a b : Addr} {xs ys : List V} (c : Cxt E k N sc dd X) (h1 : SqT E.K H a xs) (h2 : SqT E.K H b ys) (n1 : xs ≠ []) (n2 : ys ≠ []) (hz : xs.length + ys.length ≤ sizeLine) (q : ∀ t, H t = none → Q (.ref t) (upd H t (.tup (xs ++ ys)))) : WBo X .Add (.ref a) (.ref b) H Q :=
  wbo_of op_catT ⟨a, b, xs, ys, rfl, rfl, by rw [c.hK]; exact h1, by rw [c.hK]; exact h2, n1, hz, fun e => absurd e n2, fun _ => q⟩
theorem o_catL {a b : Addr} {xs ys : List V} (h1 : H a = some (.lst xs)) (h2 : H b = some (.lst ys)) (hz : xs.length + ys.length ≤ sizeLine) (q : ∀ t, H t = none → Q (.ref t) (upd H t (.lst (xs ++ ys)))) : WBo X .Add (.ref a) (.ref b) H Q :=
  wbo_of op_cat ⟨a, b, xs, ys, rfl, rfl, h1, h2, hz, q⟩
theorem l_tup {t : Addr} {xs : List V} {lo hi : Option Int} (c : Cxt E k N sc dd X) (h : SqT E.K H t xs) (n : ¬ (HT.sIx xs.length 0 lo = 0 ∧ HT.sIx xs.length xs.length hi = xs.length)) (q : ∀ l, H l = none → Q (.ref l) (upd H l (.tup (cutV xs lo hi)))) : WL X (.ref t) lo hi H Q :=
  wl_of sl_tup ⟨t, xs, rfl, by rw [c.hK]; exact h, n, q⟩
end
theorem at_two {E : Ev} (T : CL E) (k : Tk) : At E (Ca E k.cls) "one" ∧ At E (Ca E k.cls) "other" := by
  cases k <;> exact ⟨T.at_ (by decide +kernel), T.at_ (by decide +kernel)⟩
theorem deep_dm {E : Ev} (T : CL E) {k : Nat} {sp : Pr} (d : Df E k (Ma E "Word" "deep") sp) : ∀ w : Wt, Dm E k (Ca E w.cls) "deep" sp
  | .am z => T.dm (C := "Amount") (D := "Word") (by decide +kernel) d
  | .nm x => T.dm (C := "Name") (D := "Word") (by decide +kernel) d
  | .two .plus a b => T.dm (C := "Plus") (D := "Word") (by decide +kernel) d
  | .two .less a b => T.dm (C := "Less") (D := "Word") (by decide +kernel) d
  | .two .greater a b => T.dm (C := "Greater") (D := "Word") (by decide +kernel) d
  | .two .lesser a b => T.dm (C := "Lesser") (D := "Word") (by decide +kernel) d
  | .bands a r => T.dm (C := "Bands") (D := "Word") (by decide +kernel) d
  | .steps a r => T.dm (C := "Steps") (D := "Word") (by decide +kernel) d
  | .iff a b c d' => T.dm (C := "If") (D := "Word") (by decide +kernel) d
theorem size_dm {E : Ev} (T : CL E) {k : Nat} {sp : Pr} (d : Df E k (Ma E "Word" "size") sp) : ∀ w : Wt, Dm E k (Ca E w.cls) "size" sp
  | .am z => T.dm (C := "Amount") (D := "Word") (by decide +kernel) d
  | .nm x => T.dm (C := "Name") (D := "Word") (by decide +kernel) d
  | .two .plus a b => T.dm (C := "Plus") (D := "Word") (by decide +kernel) d
  | .two .less a b => T.dm (C := "Less") (D := "Word") (by decide +kernel) d
  | .two .greater a b => T.dm (C := "Greater") (D := "Word") (by decide +kernel) d
  | .two .lesser a b => T.dm (C := "Lesser") (D := "Word") (by decide +kernel) d
  | .bands a r => T.dm (C := "Bands") (D := "Word") (by decide +kernel) d
  | .steps a r => T.dm (C := "Steps") (D := "Word") (by decide +kernel) d
  | .iff a b c d' => T.dm (C := "If") (D := "Word") (by decide +kernel) d
theorem names_dm {E : Ev} (T : CL E) {k : Nat} {sp : Pr} (d : Df E k (Ma E "Word" "names") sp) : ∀ w : Wt, (∀ x, w ≠ .nm x) → Dm E k (Ca E w.cls) "names" sp
  | .am z, _ => T.dm (C := "Amount") (D := "Word") (by decide +kernel) d
  | .nm x, h => absurd rfl (h x)
  | .two .plus a b, _ => T.dm (C := "Plus") (D := "Word") (by decide +kernel) d
  | .two .less a b, _ => T.dm (C := "Less") (D := "Word") (by decide +kernel) d
  | .two .greater a b, _ => T.dm (C := "Greater") (D := "Word") (by decide +kernel) d
  | .two .lesser a b, _ => T.dm (C := "Lesser") (D := "Word") (by decide +kernel) d
  | .bands a r, _ => T.dm (C := "Bands") (D := "Word") (by decide +kernel) d
  | .steps a r, _ => T.dm (C := "Steps") (D := "Word") (by decide +kernel) d
  | .iff a b c d', _ => T.dm (C := "If") (D := "Word") (by decide +kernel) d
theorem range_map {α : Type} (f : α → V) {l : List α} {ys : List V} (p : Paired (fun i y => ∃ a, l[i]? = some a ∧ y = f a) (List.range l.length) ys) : ys = l.map f := by
  apply List.ext_getElem?
  intro i
  have hl : l.length = ys.length := by rw [← Paired.length p, List.length_range]
  rw [List.getElem?_map]
  by_cases h : i < l.length
  · obtain ⟨j, h1, a, h2, h3⟩ := pair_at' p (i := i) (y := ys[i]'(by omega)) (List.getElem?_eq_getElem _)
    have e : j = i := by
      rw [List.getElem?_range h] at h1
      cases h1
      rfl
    subst e
    rw [List.getElem?_eq_getElem (by omega : j < ys.length), h3, h2]
    rfl
  · rw [List.getElem?_eq_none (by omega), List.getElem?_eq_none (by omega)]
    rfl
theorem kids_deep {w a : Wt} (h : a ∈ w.kids) : a.deep < w.deep := by
  cases w <;> simp [Wt.kids] at h <;> simp only [Wt.deep]
  · rcases h with rfl | rfl <;> omega
  · subst h; omega
  · subst h; omega
  · rcases h with rfl | rfl | rfl | rfl <;> omega
theorem deep_kids (w : Wt) : (w.deep : Int) = 1 + mxl (w.kids.map fun a => (a.deep : Int)) := by
  cases w <;> simp only [Wt.kids, Wt.deep, List.map_nil, List.map_cons, mxl, List.foldl_nil, List.foldl_cons] <;> omega
theorem size_kids (w : Wt) : (w.size : Int) = 1 + (w.kids.map fun a => (a.size : Int)).sum := by
  cases w <;> simp only [Wt.kids, Wt.size, List.map_nil, List.map_cons, List.sum_nil, List.sum_cons] <;> omega
theorem size_kidsN (w : Wt) : w.size = 1 + (w.kids.map fun a => a.size).sum := by
  cases w <;> simp only [Wt.kids, Wt.size, List.map_nil, List.map_cons, List.sum_nil, List.sum_cons] <;> omega
theorem kids_ok {w a : Wt} {p : Str → Prop} (h : a ∈ w.kids) (o : w.okN p) : a.okN p := by
  cases w <;> simp [Wt.kids] at h
  · rcases h with rfl | rfl
    · exact o.1
    · exact o.2
  · subst h; exact o
  · subst h; exact o
  · rcases h with rfl | rfl | rfl | rfl
    · exact o.1
    · exact o.2.1
    · exact o.2.2.1
    · exact o.2.2.2
theorem paired_strs {nms : List Str} : ∀ {is : List Nat} {ys : List V}, Paired (fun i y => ∃ x, nms[i]? = some x ∧ y = V.str x) is ys → ∃ zs : List Str, ys = zs.map V.str ∧ zs.length = is.length ∧ ∀ x ∈ zs, x ∈ nms
  | _, _, .nil => ⟨[], rfl, rfl, fun x h => by cases h⟩
  | _, _, .cons ⟨x, h1, h2⟩ t => by
    obtain ⟨zs, e, l, m⟩ := paired_strs t
    refine ⟨x :: zs, by rw [h2, e]; rfl, by rw [List.length_cons, List.length_cons, l], fun y hy => ?_⟩
    rcases List.mem_cons.mp hy with rfl | hy
    · exact List.mem_of_getElem? h1
    · exact m y hy
theorem flat_strs (xs : List Str) : (xs.map V.str).all flatV = true := by
  rw [List.all_eq_true]
  intro y hy
  obtain ⟨x, _, rfl⟩ := List.mem_map.mp hy
  rfl
theorem kids_few (w : Wt) : w.kids.length ≤ 4 := by
  cases w <;> simp [Wt.kids]
end Lv
namespace Lv
open PySem PySem.Spec PyProof.Rows L2

def spReck (E : Ev) (f : Int → Int → Int) : Pr := fun vs H Q => ∃ v s t x y, vs = [v, .ref s, .ref t] ∧ PtA E H s x ∧ PtA E H t y ∧ Ret H (fun v H' => Pt E H' v (f x y)) Q
def spReckB (E : Ev) (w : Wt) (f : Int → Int) : Pr := fun vs H Q => ∃ v s x, vs = [v, .ref s] ∧ Wo E H w v ∧ PtA E H s x ∧ 0 ≤ x ∧ Ret H (fun v H' => Pt E H' v (f x)) Q
theorem da_get {E : Ev} {H : Hp} {a : Addr} {d : Dc} {x : Str} (h : DA E H a d) (o : (dget d x).isSome = true) : ∃ t, DGet H a (.str x) (some (.ref t)) ∧ PtA E H t ((dget d x).getD 0) := by
  obtain ⟨kvs, h1, h2⟩ := h
  rcases dr_get (x := x) h2 with ⟨_, e⟩ | ⟨v, z, e1, e2, t, rfl, p⟩
  · rw [e] at o
    cases o
  · refine ⟨t, ?_, by rw [e2]; exact p⟩
    rw [← e1]
    exact DGet.k (k := .inr x) h1
theorem ret_pt {E : Ev} {H : Hp} {t : Addr} {z : Int} {Q : VK} (q : Ret H (fun v H' => Pt E H' v z) Q) (h : PtA E H t z) : Q (.ref t) H := q _ _ (Same.refl _) ⟨t, rfl, h⟩
theorem mx0 (x : Int) : 0 ≤ mx 0 x := by unfold mx; split <;> omega

/-! ### bands and steps -/
def lastOf (f : Int × Int → Bool) (rows : List (Int × Int)) (a : Int) : Int := ((rows.filter f).getLast?.map (·.2)).getD a
theorem steps_last (w : Int) : ∀ (rows : List (Int × Int)) (a : Int), rows.foldl (fun a p => if w < p.1 then a else p.2) a = lastOf (fun p => !decide (w < p.1)) rows a
  | [], a => rfl
  | p :: rs, a => by
    rw [List.foldl_cons, steps_last w rs]
    unfold lastOf
    by_cases h : w < p.1
    · rw [if_pos h, List.filter_cons, if_neg (by simp [h])]
    · rw [if_neg h, List.filter_cons, if_pos (by simp [h])]
      cases q : rs.filter (fun p => !decide (w < p.1)) with
      | nil => rfl
      | cons u us =>
        obtain ⟨z, hz⟩ : ∃ z, (u :: us).getLast? = some z := ⟨(u :: us)[us.length], by rw [List.getLast?_eq_getElem?]; exact List.getElem?_eq_getElem (by simp)⟩
        rw [List.getLast?_cons_cons, hz]
        rfl
theorem range_filter {α : Type} (f : α → Bool) (d : α) (l : List α) : ((List.range l.length).filter fun i => f (l.getD i d)).map (fun i => l.getD i d) = l.filter f := by
  have e : (List.range l.length).map (fun i => l.getD i d) = l := by
    apply List.ext_getElem?
    intro i
    rw [List.getElem?_map]
    by_cases h : i < l.length
    · rw [List.getElem?_range h]
      simp [List.getD_eq_getElem?_getD, h]
    · rw [List.getElem?_eq_none (by rw [List.length_range]; omega), List.getElem?_eq_none (by omega)]
      rfl
  have h : ((List.range l.length).map fun i => l.getD i d).filter f = ((List.range l.length).filter (f ∘ fun i => l.getD i d)).map fun i => l.getD i d := List.filter_map
  rw [e] at h
  exact h.symm
theorem pair_last {α : Type} {R : α → V → Prop} {xs : List α} {ys : List V} (p : Paired R xs ys) {x : α} (h : xs.getLast? = some x) : ∃ y, atI ys (-1) = some y ∧ R x y := by
  obtain ⟨i, e⟩ : ∃ i, xs.length = i + 1 := by
    cases xs with
    | nil => cases h
    | cons u us => exact ⟨us.length, rfl⟩
  rw [List.getLast?_eq_getElem?, e] at h
  obtain ⟨y, h1, h2⟩ := pair_at p h
  have hl := Paired.length p
  refine ⟨y, ?_, h2⟩
  obtain ⟨init, last, rfl⟩ : ∃ init last, ys = init ++ [last] := by
    rcases List.eq_nil_or_concat ys with e0 | ⟨l, b, e0⟩
    · rw [e0, e] at hl
      cases hl
    · exact ⟨l, b, by rw [e0, List.concat_eq_append]⟩
  rw [atI_last]
  rw [List.length_append] at hl
  have : init.length = i := by simp at hl; omega
  rw [← this] at h1
  simp at h1
  rw [h1]
theorem pair_two {α : Type} {R : α → V → Prop} {a b : α} {ys : List V} (p : Paired R [a, b] ys) : ∃ y z, ys = [y, z] ∧ R a y ∧ R b z := by
  match ys, p with
  | _, .cons r1 (.cons r2 .nil) => exact ⟨_, _, rfl, r1, r2⟩
theorem mn_self (x : Int) : mn x x = x := by unfold mn; simp
/-- a band's share -/
def share (rows : List (Int × Int)) (i : Nat) (w : Int) : Int :=
  let b := (rows.getD i (0, 0)).1
  let t := mn ((rows[i + 1]?.map (·.1)).getD w) w
  if b < t then (rows.getD i (0, 0)).2 / 2 * (t - b) else 0
theorem bands_step (w : Int) : ∀ (rows : List (Int × Int)) (i : Nat), i < rows.length → bandsV (rows.drop i) w = share rows i w + bandsV (rows.drop (i + 1)) w
  | [], i, h => by simp at h
  | [(b, r)], i, h => by
    have : i = 0 := by simp at h; omega
    subst this
    simp [bandsV, share, mn_self]
  | (b, r) :: (b2, r2) :: rest, 0, h => by
    simp [bandsV, share]
  | (b, r) :: (b2, r2) :: rest, i + 1, h => by
    have := bands_step w ((b2, r2) :: rest) i (by simpa using h)
    simpa [share] using this
section
variable {E : Ev} {k : Nat} {N : List Str} {sc : Scope} {dd : Bool} {X : Cx} {σ : L2.St} {H : Hp} {QG : L2.St → Hp → Prop} {es : List Expr} {p : Pos}
theorem wg_unl {j n : Nat} {t : Addr} {xs : List V} (c : Cxt E k N sc dd X) (h : SqL E.K H t xs) (hl : xs.length = n) (q : WGs X es xs σ H QG)
    (hn : (assignEach es X.env).length = n := by rfl) (hst : (assignEach es X.env).findIdx? (·.1) = none := by rfl) : WG X (.Tuple es j p) (.ref t) σ H QG :=
  wg_of (pg_unl c.calm wgs_pgs hn hst) ⟨t, xs, rfl, by rw [c.hK]; exact h, hl, q⟩
end
theorem reck_dm0 {E : Ev} (T : CL E) {n : Nat} (d : ∀ k : Tk, Df E n (Ma E k.cls "reckoned") (spReck E k.op)) : ∀ k : Tk, Dm E n (Ca E k.cls) "reckoned" (spReck E k.op)
  | .plus => T.dm (C := "Plus") (D := "Plus") (by decide +kernel) (d .plus)
  | .less => T.dm (C := "Less") (D := "Less") (by decide +kernel) (d .less)
  | .greater => T.dm (C := "Greater") (D := "Greater") (by decide +kernel) (d .greater)
  | .lesser => T.dm (C := "Lesser") (D := "Lesser") (by decide +kernel) (d .lesser)
end Lv
namespace Lv
open PySem PySem.Spec PyProof.Rows L2

/-- the text as it stands in the base -/
structure Tx (E : Ev) : Prop where
  B : Bl E
  T : CL E
  gd : ∀ x i ps, (x, i, ps) ∈ gdTab → GD E x (top i) ps
  fd : ∀ C m i j ps, (C, m, i, j, ps) ∈ fdTab → FD E (inC i j) ps (Ma E C m)
  cints : ∀ x i, (x, i) ∈ intTab → ∃ u, E.mg x = some (.int i u)
  letters : ∃ u, E.mg "LETTERS" = some (.str lettersS u)
  kept : E.mg "KEPT" = some (.ref (Ca E "KEPT"))
  keptL : ∀ H, SqL E.K H (Ca E "KEPT") (keptL.map V.str)
  no : ∀ x ∈ noughts, E.mg x = some (.ref (Ca E x)) ∧ ∀ H, PtA E H (Ca E x) 0
  words : ∃ es n, E.mg "WORDS" = some (.ref (Ca E "WORDS")) ∧ KDict E.K E.w (Ca E "WORDS") es n ∧ ∀ z i, (z, i) ∈ [q5 "add" 1, q5 "mend" 2, q5 "undo" 0] → ∃ u, PySem.W.nsIn E.K (Ca E "WORDS") z = some (some (.int i u))
  word : E.mg "Word" = some (.ref (Ca E "Word"))
  isw : ∀ C ∈ wordCls, C8.InsC E.K (Ca E C) ∧ PySem.W.kitOne E.K (.ref (Ca E C)) (.ref (Ca E "Word")) = some true
  mks : ∀ C D, (C, D) ∈ mkTab → E.mg C = some (.ref (Ca E C)) ∧ Mk E.K (Ca E C) (Ma E D "__init__")
end Lv
namespace Lv
open PySem PySem.Spec PyProof.Rows L2

/-! ### charters -/
abbrev Ls : Type := List (Str × Wt)
def KRp (R : V → Wt → Prop) (kv : Key × V) (q : Str × Wt) : Prop := kv.1 = .inr q.1 ∧ R kv.2 q.2
structure Ch (E : Ev) (H : Hp) (p : Addr) (tk : List Str) (lets : Ls) : Prop where
  ex : ∃ dx nm l d kvs, H p = some (.ins (Ca E "Charter") dx [("own", nm), ("taken_names", .ref l), ("words_by", .ref d)]) ∧ H l = some (.lst (tk.map V.str)) ∧ H d = some (.dK kvs) ∧ Paired (KRp fun v w => Wo E H w v) kvs lets
theorem Ch.mono {E : Ev} {H H' : Hp} {p : Addr} {tk : List Str} {lets : Ls} (s : Same H H') (h : Ch E H p tk lets) : Ch E H' p tk lets := by
  obtain ⟨dx, nm, l, d, kvs, h1, h2, h3, h4⟩ := h.ex
  exact ⟨dx, nm, l, d, kvs, s _ _ h1, s _ _ h2, s _ _ h3, Paired.mapP h4 fun _ _ z => ⟨z.1, z.2.mono s⟩⟩
theorem kr_keys {R : V → Wt → Prop} : ∀ {kvs : List (Key × V)} {lets : Ls}, Paired (KRp R) kvs lets → (kvs.map fun kv => kV kv.1) = (lets.map (·.1)).map V.str
  | _, _, .nil => rfl
  | kv :: _, q :: _, .cons r t => by
    rw [List.map_cons, List.map_cons, List.map_cons, kr_keys t, r.1]
    rfl
theorem kr_get {R : V → Wt → Prop} : ∀ {kvs : List (Key × V)} {lets : Ls}, Paired (KRp R) kvs lets → (lets.map (·.1)).Nodup → ∀ {i : Nat} {x : Str} {w : Wt}, lets[i]? = some (x, w) → ∃ v, valV kvs (.inr x) = some v ∧ R v w
  | _, _, .nil, _, i, x, w, h => by simp at h
  | (k, v) :: kvs, (y, w0) :: lets, .cons r t, nd, 0, x, w, h => by
    simp at h
    obtain ⟨rfl, rfl⟩ := h
    exact ⟨v, valV_pos r.1, r.2⟩
  | (k, v) :: kvs, (y, w0) :: lets, .cons r t, nd, i + 1, x, w, h => by
    have h : lets[i]? = some (x, w) := by simpa using h
    rw [List.map_cons, List.nodup_cons] at nd
    obtain ⟨v', h1, h2⟩ := kr_get t nd.2 h
    refine ⟨v', ?_, h2⟩
    have ne : ¬ k = .inr x := by
      rw [show k = .inr y from r.1]
      intro e
      injection e with e
      refine nd.1 ?_
      rw [e]
      exact List.mem_map.mpr ⟨(x, w), List.mem_of_getElem? h, rfl⟩
    have e1 : valV ((k, v) :: kvs) (Sum.inr x : Key) = valV kvs (.inr x) := valV_neg (p := (k, v)) ne
    rw [e1]
    exact h1
/-- the lets in order, what is known ahead in d -/
def duesF : Ls → Dc → Dc
  | [], _ => []
  | (x, w) :: r, d => (x, val d w) :: duesF r (dput d x (val d w))
def okLets (p : Str → Prop) : Ls → Prop
  | [] => True
  | (x, w) :: r => w.good ∧ w.okN p ∧ w.deep ≤ 8 ∧ okLets (fun y => y = x ∨ p y) r
theorem duesF_len : ∀ (l : Ls) (d : Dc), (duesF l d).length = l.length
  | [], _ => rfl
  | (x, w) :: r, d => by
    show (duesF r _).length + 1 = _
    rw [duesF_len r]
    rfl
theorem duesF_names : ∀ (l : Ls) (d : Dc), (duesF l d).map (·.1) = l.map (·.1)
  | [], _ => rfl
  | (x, w) :: r, d => by
    show x :: (duesF r _).map (·.1) = _
    rw [duesF_names r]
    rfl
theorem okN_mono {p q : Str → Prop} (h : ∀ x, p x → q x) : ∀ {w : Wt}, w.okN p → w.okN q
  | .am _, _ => trivial
  | .nm x, o => h x o
  | .two _ a b, o => ⟨okN_mono h o.1, okN_mono h o.2⟩
  | .bands a _, o => okN_mono (w := a) h o
  | .steps a _, o => okN_mono (w := a) h o
  | .iff a b c d, o => ⟨okN_mono h o.1, okN_mono h o.2.1, okN_mono h o.2.2.1, okN_mono h o.2.2.2⟩
def spTakes (E : Ev) : Pr := fun vs H Q => ∃ p tk lets, vs = [.ref p] ∧ Ch E H p tk lets ∧ ∀ l, H l = none → Q (.ref l) (upd H l (.lst (tk.map V.str)))
def spLets (E : Ev) : Pr := fun vs H Q => ∃ p tk lets, vs = [.ref p] ∧ Ch E H p tk lets ∧ ∀ l, H l = none → Q (.ref l) (upd H l (.lst ((lets.map (·.1)).map V.str)))
def spWord (E : Ev) : Pr := fun vs H Q => ∃ p tk lets F, ∃ (i : Nat) (x : Str) (w : Wt), vs = [.ref p, .str x] ∧ Ch E F p tk lets ∧ Same F H ∧ (lets.map (·.1)).Nodup ∧ lets[i]? = some (x, w) ∧ ∀ v, Wo E F w v → Q v H
/-- amounts of just these names, from nought on -/
structure AmOk (d : Dc) (nms : List Str) : Prop where
  len : d.length = nms.length
  get : ∀ x ∈ nms, (dget d x).isSome = true
  pos : ∀ q ∈ d, 0 ≤ q.2
def spAreAm (E : Ev) : Pr := fun vs H Q => ∃ a l d nms, vs = [.ref a, .ref l] ∧ DA E H a d ∧ H l = some (.lst (nms.map V.str)) ∧ AmOk d nms ∧ nms.length ≤ 1000 ∧ ∀ H', Same H H' → Q (.bl true) H'
def spNeedTaken (E : Ev) : Pr := fun vs H Q => ∃ p a tk lets d, vs = [.ref p, .ref a] ∧ Ch E H p tk lets ∧ DA E H a d ∧ AmOk d tk ∧ tk.length ≤ 1000 ∧ ∀ H', Same H H' → Q .non H'
def spDues (E : Ev) : Pr := fun vs H Q => ∃ p a tk lets d, vs = [.ref p, .ref a] ∧ Ch E H p tk lets ∧ DA E H a d ∧ AmOk d tk ∧ tk.length ≤ 1000 ∧ lets.length ≤ 1000 ∧ okLets (fun x => (dget d x).isSome = true) lets ∧ (lets.map (·.1)).Nodup ∧
  ∀ D H', Same H H' → H D = none → DA E H' D (duesF lets d) → Q (.ref D) H'
theorem lock_same {H H' : Hp} {d : Addr} {u : HO} {od : Obj} (h : H d = some u) (s : Same (upd H d (.frz od u)) H') : Same H (upd H' d u) := fun a o e => by
  by_cases ea : a = d
  · rw [ea, upd_same]
    rw [ea, h] at e
    exact e
  · rw [upd_ne ea]
    refine s a o ?_
    rw [upd_ne ea]
    exact e
theorem PtA.lock {E : Ev} {H : Hp} {d t : Addr} {kvs : List (Key × V)} {o : HO} {z : Int} (h : H d = some (.dK kvs)) (p : PtA E H t z) : PtA E (upd H d o) t z := p.ts (TS.upd h rfl)
theorem rd_get {E : Ev} {H0 H : Hp} {a : Addr} {kvs : List (Key × V)} {d : Dc} {x : Str} (h1 : Rd H a (.dK kvs)) (h2 : DR E H0 kvs d) : ∃ r, DGet H a (.str x) r ∧ (r.isSome = (dget d x).isSome) ∧ ∀ z, dget d x = some z → ∃ v, r = some v ∧ Pt E H0 v z := by
  refine ⟨valV kvs (.inr x), .inl ⟨kvs, .inr x, h1, rfl, rfl⟩, ?_⟩
  rcases dr_get (x := x) h2 with ⟨e1, e2⟩ | ⟨v, z, e1, e2, p⟩
  · rw [e1, e2]
    exact ⟨rfl, fun z e => by cases e⟩
  · rw [e1, e2]
    exact ⟨rfl, fun z' e => by cases e; exact ⟨v, rfl, p⟩⟩
theorem okLets_imp {p q : Str → Prop} (h : ∀ x, p x → q x) : ∀ {l : Ls}, okLets p l → okLets q l
  | [], _ => trivial
  | (x, w) :: r, ⟨a, b, c, d⟩ => ⟨a, okN_mono h b, c, okLets_imp (l := r) (fun y hy => hy.imp id (h y)) d⟩
theorem none_of {H H' : Hp} {a : Addr} (s : Same H H') (h : H' a = none) : H a = none := by
  cases q : H a with
  | none => rfl
  | some u => rw [s _ _ q] at h; cases h
theorem dput_new {d : Dc} {x : Str} {z : Int} (h : x ∉ d.map (·.1)) : dput d x z = d ++ [(x, z)] := by
  unfold dput
  rw [if_neg]
  intro e
  obtain ⟨q, h1, h2⟩ := List.any_eq_true.mp e
  exact h (List.mem_map.mpr ⟨q, h1, of_decide_eq_true h2⟩)
theorem dput_isSome (d : Dc) (x y : Str) (z : Int) (h : y = x ∨ (dget d y).isSome = true) : (dget (dput d x z) y).isSome = true := by
  rw [dget_put]
  by_cases e : y = x
  · rw [if_pos e]; rfl
  · rw [if_neg e]; exact h.resolve_left e
theorem dput_len (d : Dc) (x : Str) (z : Int) : (dput d x z).length ≤ d.length + 1 := by
  unfold dput
  split
  · rw [List.length_map]; omega
  · rw [List.length_append]; exact Nat.le_refl _
section
variable {E : Ev} {k : Nat} {N : List Str} {sc : Scope} {dd : Bool} {X : Cx} {σ : L2.St} {H : Hp} {Q : Hp → Prop} {a : Addr} {d : Dc} {x : Str} {v : V} {z : Int}
theorem i_da (c : Cxt E k N sc dd X) (h : DA E H a d) (hz : d.length ≤ 10000) (p : Pt E H v z) (q : ∀ kvs, DA E (upd H a (.dK kvs)) a (dput d x z) → TS H (upd H a (.dK kvs)) → Q (upd H a (.dK kvs))) : WI2 X (.ref a) (.str x) v H Q := by
  obtain ⟨kvs, h1, h2⟩ := h
  have hl : kvs.length = d.length := Paired.length h2
  have ts : TS H (upd H a (.dK (putK kvs (.inr x) v))) := TS.upd h1 rfl
  exact i_dic c (.inl ⟨kvs, .inr x, h1, rfl, Nat.lt_of_lt_of_le (show kvs.length < 100000 by omega) (by decide), rfl⟩) (q _ ⟨_, upd_same, DR.ts ts (dr_put p h2)⟩ ts)
theorem DA.off {o : HO} {b : Addr} (h : DA E H b d) (ne : b ≠ a) (ts : TS H (upd H a o)) : DA E (upd H a o) b d := by
  obtain ⟨kvs, h1, h2⟩ := h
  exact ⟨kvs, by rw [upd_ne ne]; exact h1, h2.ts ts⟩
end
end Lv
namespace Lv
open PySem PySem.Spec PyProof.Rows L2

/-! ### what a ledger tells -/
inductive Deed where
  | add (d : Dc)
  | mend (y : Nat) (d : Dc)
  | undo
abbrev Cr : Type := List (Str × Str)
def cget (c : Cr) (x : Str) : Option Str := (c.find? fun q => decide (q.1 = x)).map (·.2)
structure LS where
  tk : List Str
  lets : Ls
  car : Cr
  rows : List Dc
  past : List (List Dc)
  notes : List Deed
def freeOf (tk : List Str) (car : Cr) : List Str := tk.filter fun x => (cget car x).isNone
def takenF (tk : List Str) (car : Cr) (row ahead : Dc) : Dc := tk.map fun x => (x, match cget car x with | some l => mx 0 ((dget ahead l).getD 0) | none => (dget row x).getD 0)
def yearsF (tk : List Str) (lets : Ls) (car : Cr) : List Dc → Dc → List (Dc × Dc)
  | [], _ => []
  | row :: r, ahead => (takenF tk car row ahead, duesF lets (takenF tk car row ahead)) :: yearsF tk lets car r (duesF lets (takenF tk car row ahead))
def LS.years (S : LS) : List (Dc × Dc) := yearsF S.tk S.lets S.car S.rows []
def LS.add (S : LS) (d : Dc) : LS := { S with rows := S.rows ++ [d], past := S.past ++ [S.rows], notes := S.notes ++ [.add d] }
def LS.mend (S : LS) (y : Nat) (d : Dc) : LS := { S with rows := S.rows.set y d, past := S.past ++ [S.rows], notes := S.notes ++ [.mend y d] }
def LS.undo (S : LS) : LS := { S with rows := (S.past.getLast?).getD [], past := S.past.dropLast, notes := S.notes ++ [.undo] }
/-- a charter's parts that the text takes -/
structure ChOk (tk : List Str) (lets : Ls) (car : Cr) : Prop where
  few : tk.length ≤ 1000 ∧ lets.length ≤ 1000 ∧ car.length < tk.length
  some : lets ≠ []
  okl : okLets (fun x => x ∈ tk) lets
  nd : (lets.map (·.1)).Nodup
  ndt : tk.Nodup
  ndc : (car.map (·.1)).Nodup
  ct : ∀ q ∈ car, q.1 ∈ tk ∧ q.2 ∈ lets.map (·.1)

/-! ### in the heap -/
def carK (c : Cr) : List (Key × V) := c.map fun q => (.inr q.1, .str q.2)
def CA (H : Hp) (a : Addr) (c : Cr) : Prop := H a = some (.dK (carK c))
theorem carK_get (c : Cr) (x : Str) : valV (carK c) (.inr x) = (cget c x).map V.str := by
  induction c with
  | nil => rfl
  | cons q r ih =>
    by_cases e : q.1 = x
    · have h1 : valV (carK (q :: r)) (.inr x) = some (.str q.2) := valV_pos (show (Sum.inr q.1 : Key) = .inr x by rw [e])
      rw [h1]
      simp [cget, e]
    · have ne : ¬ (Sum.inr q.1 : Key) = .inr x := fun h => e (by injection h)
      have h1 : valV (carK (q :: r)) (.inr x) = valV (carK r) (.inr x) := valV_neg (p := ((Sum.inr q.1 : Key), V.str q.2)) ne
      have h2 : cget (q :: r) x = cget r x := by simp [cget, e]
      rw [h1, h2, ih]
/-- a dict that stands in F, its parts in H -/
def LDA (E : Ev) (F H : Hp) (a : Addr) (d : Dc) : Prop := ∃ kvs, F a = some (.dK kvs) ∧ DR E H kvs d
theorem LDA.mono {E : Ev} {F F' H H' : Hp} {a : Addr} {d : Dc} (s : Same F F') (t : TS H H') (h : LDA E F H a d) : LDA E F' H' a d := by
  obtain ⟨kvs, h1, h2⟩ := h
  exact ⟨kvs, s _ _ h1, h2.ts t⟩
theorem LDA.da {E : Ev} {F H : Hp} {a : Addr} {d : Dc} (s : Same F H) (h : LDA E F H a d) : DA E H a d := by
  obtain ⟨kvs, h1, h2⟩ := h
  exact ⟨kvs, s _ _ h1, h2⟩
def DeedA (E : Ev) (F H : Hp) : V → Deed → Prop
  | v, .add d => ∃ t a, v = .ref t ∧ SqT E.K H t [.str "add", .ref a] ∧ LDA E F H a d
  | v, .mend y d => ∃ t a, v = .ref t ∧ SqT E.K H t [.str "mend", .int (y : Nat), .ref a] ∧ LDA E F H a d
  | v, .undo => ∃ t, v = .ref t ∧ SqT E.K H t [.str "undo"]
theorem DeedA.mono {E : Ev} {F F' H H' : Hp} (s : Same F F') (ts : TS H H') : ∀ {v : V} {d : Deed}, DeedA E F H v d → DeedA E F' H' v d
  | v, .add d, ⟨t, a, h1, h2, h3⟩ => ⟨t, a, h1, ts.sqt h2, h3.mono s ts⟩
  | v, .mend y d, ⟨t, a, h1, h2, h3⟩ => ⟨t, a, h1, ts.sqt h2, h3.mono s ts⟩
  | v, .undo, ⟨t, h1, h2⟩ => ⟨t, h1, ts.sqt h2⟩
/-- a list of rows' dicts -/
def RL (E : Ev) (F H : Hp) (a : Addr) (rows : List Dc) : Prop := ∃ rs : List Addr, H a = some (.lst (rs.map V.ref)) ∧ Paired (LDA E F H) rs rows
/-- the years worked out -/
def YA (E : Ev) (F H : Hp) (v : V) (y : Dc × Dc) : Prop := ∃ t a b, v = .ref t ∧ SqT E.K H t [.ref a, .ref b] ∧ LDA E F H a y.1 ∧ LDA E F H b y.2
def YL (E : Ev) (F H : Hp) (l : Addr) (ys : List (Dc × Dc)) : Prop := ∃ vs, F l = some (.lst vs) ∧ Paired (YA E F H) vs ys
theorem YA.mono {E : Ev} {F F' H H' : Hp} {v : V} {y : Dc × Dc} (s : Same F F') (ts : TS H H') (h : YA E F H v y) : YA E F' H' v y := by
  obtain ⟨t, a, b, h1, h2, h3, h4⟩ := h
  exact ⟨t, a, b, h1, ts.sqt h2, h3.mono s ts, h4.mono s ts⟩
theorem YL.mono {E : Ev} {F F' H H' : Hp} {l : Addr} {y : List (Dc × Dc)} (s : Same F F') (ts : TS H H') (h : YL E F H l y) : YL E F' H' l y := by
  obtain ⟨vs, h1, h2⟩ := h
  exact ⟨vs, s _ _ h1, Paired.mapP h2 fun _ _ z => z.mono s ts⟩
abbrev ledF (ch cd rl pl nl : Addr) (come : V) : List (Str × V) := [("rule", .ref ch), ("carries", .ref cd), ("rows", .ref rl), ("past", .ref pl), ("notes", .ref nl), ("come", come)]
abbrev osOf (p rl pl nl : Addr) (pls : List Addr) : List Addr := p :: rl :: pl :: nl :: pls
/-- a ledger as it stands; F what of it never changes -/
structure Lr (E : Ev) (F H : Hp) (p dx ch cd rl pl nl : Addr) (pls : List Addr) (ns : List V) (come : V) (S : LS) : Prop where
  fs : Same F H
  nd : (osOf p rl pl nl pls).Nodup
  out : ∀ a ∈ osOf p rl pl nl pls, F a = none
  hp : H p = some (.ins (Ca E "Ledger") dx (ledF ch cd rl pl nl come))
  hch : Ch E (del F cd) ch S.tk S.lets
  hcd : CA F cd S.car
  hrl : RL E F H rl S.rows
  hpl : H pl = some (.lst (pls.map V.ref))
  hps : Paired (RL E F H) pls S.past
  hnl : H nl = some (.lst ns)
  hns : Paired (DeedA E F H) ns S.notes
/-- what a step keeps: F frozen, os owned -/
structure Stp (F : Hp) (os : List Addr) (H F' : Hp) (os' : List Addr) (H' : Hp) : Prop where
  ff : Same F F'
  ts : TS H H'
  keep : ∀ a u, a ∉ os → H a = some u → H' a = some u
  dom : ∀ a, H' a = none → H a = none
  fnew : ∀ a u, F' a = some u → F a = some u ∨ H a = none
  onew : ∀ a ∈ os', a ∈ os ∨ H a = none
theorem Stp.refl (F : Hp) (os : List Addr) (H : Hp) : Stp F os H F os H := ⟨Same.refl _, TS.refl _, fun _ _ _ h => h, fun _ h => h, fun _ _ h => .inl h, fun _ h => .inl h⟩
theorem Stp.trans {F H F1 H1 F2 H2 : Hp} {os os1 os2 : List Addr} (a : Stp F os H F1 os1 H1) (b : Stp F1 os1 H1 F2 os2 H2) : Stp F os H F2 os2 H2 := by
  refine ⟨a.ff.trans b.ff, a.ts.trans b.ts, fun x u hx h => ?_, fun x h => a.dom x (b.dom x h), fun x u h => ?_, fun x h => ?_⟩
  · refine b.keep x u (fun hm => ?_) (a.keep x u hx h)
    rcases a.onew x hm with h1 | h1
    · exact hx h1
    · rw [h] at h1; cases h1
  · rcases b.fnew x u h with h1 | h1
    · exact a.fnew x u h1
    · exact .inr (a.dom x h1)
  · rcases b.onew x h with h1 | h1
    · exact a.onew x h1
    · exact .inr (a.dom x h1)
theorem same_dom {H H' : Hp} (s : Same H H') : ∀ a, H' a = none → H a = none := fun _ h => none_of s h
theorem Stp.grow {F H H' : Hp} {os : List Addr} (s : Same H H') : Stp F os H F os H' := ⟨Same.refl _, s.ts, fun _ _ _ h => s _ _ h, same_dom s, fun _ _ h => .inl h, fun _ h => .inl h⟩
theorem Stp.upd {F H : Hp} {os : List Addr} {a : Addr} {o o1 : HO} (h : a ∈ os) (h1 : H a = some o1) (h2 : noTup o1 = true) : Stp F os H F os (L2.upd H a o) := by
  refine ⟨Same.refl _, TS.upd h1 h2, fun x u hx e => ?_, fun x e => ?_, fun _ _ h => .inl h, fun _ h => .inl h⟩
  · rw [upd_ne (show x ≠ a from fun z => hx (by rw [z]; exact h))]
    exact e
  · by_cases z : x = a
    · rw [z, upd_same] at e
      cases e
    · rw [upd_ne z] at e
      exact e
/-- something new, frozen -/
theorem Stp.newF {F H : Hp} {os : List Addr} {a : Addr} {u : HO} (h : H a = none) (hF : F a = none) : Stp F os H (L2.upd F a u) os (L2.upd H a u) := by
  refine ⟨Same.new hF, (Same.new h).ts, fun x v _ e => Same.new h x v e, same_dom (Same.new h), fun x v hv => ?_, fun _ h => .inl h⟩
  by_cases e : x = a
  · rw [e]
    exact .inr h
  · rw [upd_ne e] at hv
    exact .inl hv
/-- something new, owned -/
theorem Stp.newO {F H : Hp} {os : List Addr} {a : Addr} {u : HO} (h : H a = none) : Stp F os H F (os ++ [a]) (L2.upd H a u) := by
  refine ⟨Same.refl _, (Same.new h).ts, fun x v _ e => Same.new h x v e, same_dom (Same.new h), fun _ _ h => .inl h, fun x hx => ?_⟩
  rcases List.mem_append.mp hx with h1 | h1
  · exact .inl h1
  · rw [List.mem_singleton.mp h1]
    exact .inr h
/-- all that is new in H', frozen -/
def gr (F H H' : Hp) : Hp := fun a => if H a = none then H' a else F a
theorem gr_new {F H H' : Hp} {a : Addr} (h : H a = none) : gr F H H' a = H' a := if_pos h
theorem gr_old {F H H' : Hp} {a : Addr} {u : HO} (h : H a = some u) : gr F H H' a = F a := if_neg (by rw [h]; exact fun z => by cases z)
theorem gr_ff {F H H' : Hp} (s : Same F H) : Same F (gr F H H') := fun a u h => by rw [gr_old (s _ _ h)]; exact h
theorem gr_up {F H H' : Hp} (s : Same F H) (s' : Same H H') : Same (gr F H H') H' := fun a u h => by
  cases q : H a with
  | none => rw [gr_new q] at h; exact h
  | some v => rw [gr_old q] at h; exact s' _ _ (s _ _ h)
theorem Stp.growF {F H H' : Hp} {os : List Addr} (s : Same F H) (s' : Same H H') : Stp F os H (gr F H H') os H' := by
  refine ⟨gr_ff s, s'.ts, fun _ _ _ h => s' _ _ h, same_dom s', fun a u h => ?_, fun _ h => .inl h⟩
  cases q : H a with
  | none => exact .inr rfl
  | some v => rw [gr_old q] at h; exact .inl h
theorem RL.mono {E : Ev} {F F' H H' : Hp} {a : Addr} {rows : List Dc} (s : Same F F') (ts : TS H H') (ha : H' a = H a) (h : RL E F H a rows) : RL E F' H' a rows := by
  obtain ⟨rs, h1, h2⟩ := h
  exact ⟨rs, by rw [ha]; exact h1, Paired.mapP h2 fun _ _ z => z.mono s ts⟩
theorem pair_mem {α β : Type} {R R' : α → β → Prop} : ∀ {xs : List α} {ys : List β}, Paired R xs ys → (∀ x ∈ xs, ∀ y, R x y → R' x y) → Paired R' xs ys
  | _, _, .nil, _ => .nil
  | _, _, .cons r t, h => .cons (h _ List.mem_cons_self _ r) (pair_mem t fun x hx y => h x (List.mem_cons_of_mem _ hx) y)

section
variable {E : Ev} {F F' H H' : Hp} {p dx ch cd rl pl nl : Addr} {pls : List Addr} {ns : List V} {come : V} {S : LS}
theorem del_mono {c : Addr} (s : Same F F') : Same (del F c) (del F' c) := fun a u h => by
  by_cases e : a = c
  · rw [e, del_at] at h
    cases h
  · rw [del_ne e] at h ⊢
    exact s _ _ h
theorem Lr.chH (h : Lr E F H p dx ch cd rl pl nl pls ns come S) : Ch E H ch S.tk S.lets := h.hch.mono ((del_same _ _).trans h.fs)
/-- whatever keeps the owned and the frozen keeps the ledger -/
theorem Lr.keep (h : Lr E F H p dx ch cd rl pl nl pls ns come S) (ff : Same F F') (fs : Same F' H') (ts : TS H H') (hk : ∀ a ∈ osOf p rl pl nl pls, H' a = H a) (ho : ∀ a ∈ osOf p rl pl nl pls, F' a = none) : Lr E F' H' p dx ch cd rl pl nl pls ns come S := by
  have m1 : p ∈ osOf p rl pl nl pls := by simp
  have m2 : rl ∈ osOf p rl pl nl pls := by simp
  have m3 : pl ∈ osOf p rl pl nl pls := by simp
  have m4 : nl ∈ osOf p rl pl nl pls := by simp
  exact ⟨fs, h.nd, ho, by rw [hk _ m1]; exact h.hp, h.hch.mono (del_mono ff), ff _ _ h.hcd, h.hrl.mono ff ts (hk _ m2), by rw [hk _ m3]; exact h.hpl, pair_mem h.hps fun a ha y z => z.mono ff ts (hk _ (by simp [ha])), by rw [hk _ m4]; exact h.hnl, Paired.mapP h.hns fun _ _ z => z.mono ff ts⟩
/-- the owned are there -/
theorem Lr.has (h : Lr E F H p dx ch cd rl pl nl pls ns come S) : ∀ a ∈ osOf p rl pl nl pls, ∃ o, H a = some o ∧ noTup o = true := by
  intro a ha
  simp only [osOf, List.mem_cons] at ha
  rcases ha with rfl | rfl | rfl | rfl | ha
  · exact ⟨_, h.hp, rfl⟩
  · obtain ⟨rs, h1, _⟩ := h.hrl
    exact ⟨_, h1, rfl⟩
  · exact ⟨_, h.hpl, rfl⟩
  · exact ⟨_, h.hnl, rfl⟩
  · obtain ⟨i, hi, e⟩ := List.mem_iff_getElem.mp ha
    obtain ⟨y, _, rs, h1, _⟩ := pair_at h.hps (i := i) (x := a) (by rw [List.getElem?_eq_getElem hi, e])
    exact ⟨_, h1, rfl⟩
theorem Lr.grow (h : Lr E F H p dx ch cd rl pl nl pls ns come S) (s : Same H H') : Lr E F H' p dx ch cd rl pl nl pls ns come S :=
  h.keep (Same.refl _) (h.fs.trans s) s.ts (fun a ha => by obtain ⟨o, e, _⟩ := h.has a ha; rw [e, s _ _ e]) h.out
theorem Lr.growF (h : Lr E F H p dx ch cd rl pl nl pls ns come S) (s : Same H H') : Lr E (gr F H H') H' p dx ch cd rl pl nl pls ns come S :=
  h.keep (gr_ff h.fs) (gr_up h.fs s) s.ts (fun a ha => by obtain ⟨o, e, _⟩ := h.has a ha; rw [e, s _ _ e]) (fun a ha => by obtain ⟨o, e, _⟩ := h.has a ha; rw [gr_old e]; exact h.out a ha)
/-- another's change -/
theorem Lr.off {b : Addr} {o : HO} (h : Lr E F H p dx ch cd rl pl nl pls ns come S) (hb : b ∉ osOf p rl pl nl pls) (hF : F b = none) (ts : TS H (upd H b o)) : Lr E F (upd H b o) p dx ch cd rl pl nl pls ns come S :=
  h.keep (Same.refl _) (Same.mut h.fs hF) ts (fun a ha => upd_ne fun e => hb (by rw [← e]; exact ha)) h.out
theorem Lr.ne (h : Lr E F H p dx ch cd rl pl nl pls ns come S) : p ≠ rl ∧ p ≠ pl ∧ p ≠ nl ∧ p ∉ pls ∧ rl ≠ pl ∧ rl ≠ nl ∧ rl ∉ pls ∧ pl ≠ nl ∧ pl ∉ pls ∧ nl ∉ pls := by
  have nd := h.nd
  simp only [osOf, List.nodup_cons, List.mem_cons, not_or] at nd
  obtain ⟨⟨a1, a2, a3, a4⟩, ⟨b1, b2, b3⟩, ⟨c1, c2⟩, d1, _⟩ := nd
  exact ⟨a1, a2, a3, a4, b1, b2, b3, c1, c2, d1⟩
theorem mem_ne {a b : Addr} {l : List Addr} (h : a ∉ l) (hb : b ∈ l) : b ≠ a := fun e => h (e ▸ hb)
theorem Lr.rows (h : Lr E F H p dx ch cd rl pl nl pls ns come S) {rs : List Addr} {rows : List Dc} (hr : Paired (LDA E F H) rs rows) : Lr E F (upd H rl (.lst (rs.map V.ref))) p dx ch cd rl pl nl pls ns come { S with rows := rows } := by
  obtain ⟨a1, a2, a3, a4, b1, b2, b3, c1, c2, d1⟩ := h.ne
  have ho := h.out rl (by simp)
  obtain ⟨rs0, h0, _⟩ := h.hrl
  have ts : TS H (upd H rl (.lst (rs.map V.ref))) := TS.upd h0 rfl
  exact ⟨Same.mut h.fs ho, h.nd, h.out, by rw [upd_ne a1]; exact h.hp, h.hch, h.hcd, ⟨rs, upd_same, Paired.mapP hr fun _ _ z => z.mono (Same.refl _) ts⟩, by rw [upd_ne (Ne.symm b1)]; exact h.hpl,
    pair_mem h.hps fun a ha y z => z.mono (Same.refl _) ts (upd_ne (mem_ne b3 ha)), by rw [upd_ne (Ne.symm b2)]; exact h.hnl, Paired.mapP h.hns fun _ _ z => z.mono (Same.refl _) ts⟩
theorem Lr.past (h : Lr E F H p dx ch cd rl pl nl pls ns come S) {b : Addr} {rows : List Dc} (hb : b ∉ osOf p rl pl nl pls) (hF : F b = none) (hr : RL E F H b rows) : Lr E F (upd H pl (.lst ((pls ++ [b]).map V.ref))) p dx ch cd rl pl nl (pls ++ [b]) ns come { S with past := S.past ++ [rows] } := by
  obtain ⟨a1, a2, a3, a4, b1, b2, b3, c1, c2, d1⟩ := h.ne
  have hb' := hb
  simp only [osOf, List.mem_cons, not_or] at hb'
  obtain ⟨e1, e2, e3, e4, e5⟩ := hb'
  have ho := h.out pl (by simp)
  have ts : TS H (upd H pl (.lst ((pls ++ [b]).map V.ref))) := TS.upd h.hpl rfl
  refine ⟨Same.mut h.fs ho, ?_, ?_, by rw [upd_ne a2]; exact h.hp, h.hch, h.hcd, h.hrl.mono (Same.refl _) ts (upd_ne b1), upd_same,
    Paired.snoc (pair_mem h.hps fun a ha y z => z.mono (Same.refl _) ts (upd_ne (mem_ne c2 ha))) (hr.mono (Same.refl _) ts (upd_ne e3)), by rw [upd_ne (Ne.symm c1)]; exact h.hnl, Paired.mapP h.hns fun _ _ z => z.mono (Same.refl _) ts⟩
  · show (osOf p rl pl nl pls ++ [b]).Nodup
    refine List.nodup_append.mpr ⟨h.nd, by simp, fun x hx y hy e => ?_⟩
    rw [List.mem_singleton.mp hy] at e
    exact hb (e ▸ hx)
  · intro a ha
    rcases List.mem_append.mp (show a ∈ osOf p rl pl nl pls ++ [b] from ha) with ha | ha
    · exact h.out a ha
    · rw [List.mem_singleton.mp ha]
      exact hF
theorem Lr.setc (h : Lr E F H p dx ch cd rl pl nl pls ns come S) (v : V) : Lr E F (upd H p (.ins (Ca E "Ledger") dx (ledF ch cd rl pl nl v))) p dx ch cd rl pl nl pls ns v S := by
  obtain ⟨a1, a2, a3, a4, b1, b2, b3, c1, c2, d1⟩ := h.ne
  have ho := h.out p (by simp)
  have ts : TS H (upd H p (.ins (Ca E "Ledger") dx (ledF ch cd rl pl nl v))) := TS.upd h.hp rfl
  exact ⟨Same.mut h.fs ho, h.nd, h.out, upd_same, h.hch, h.hcd, h.hrl.mono (Same.refl _) ts (upd_ne (Ne.symm a1)), by rw [upd_ne (Ne.symm a2)]; exact h.hpl,
    pair_mem h.hps fun a ha y z => z.mono (Same.refl _) ts (upd_ne (mem_ne a4 ha)), by rw [upd_ne (Ne.symm a3)]; exact h.hnl, Paired.mapP h.hns fun _ _ z => z.mono (Same.refl _) ts⟩
theorem Lr.note (h : Lr E F H p dx ch cd rl pl nl pls ns come S) {v : V} {d : Deed} (hd : DeedA E F H v d) : Lr E F (upd H nl (.lst (ns ++ [v]))) p dx ch cd rl pl nl pls (ns ++ [v]) come { S with notes := S.notes ++ [d] } := by
  obtain ⟨a1, a2, a3, a4, b1, b2, b3, c1, c2, d1⟩ := h.ne
  have ho := h.out nl (by simp)
  have ts : TS H (upd H nl (.lst (ns ++ [v]))) := TS.upd h.hnl rfl
  exact ⟨Same.mut h.fs ho, h.nd, h.out, by rw [upd_ne a3]; exact h.hp, h.hch, h.hcd, h.hrl.mono (Same.refl _) ts (upd_ne b2), by rw [upd_ne c1]; exact h.hpl,
    pair_mem h.hps fun a ha y z => z.mono (Same.refl _) ts (upd_ne (mem_ne d1 ha)), upd_same, Paired.snoc (Paired.mapP h.hns fun _ _ z => z.mono (Same.refl _) ts) (hd.mono (Same.refl _) ts)⟩
theorem Lr.drop {b : Addr} {rows : List Dc} {ps : List (List Dc)} (h : Lr E F H p dx ch cd rl pl nl (pls ++ [b]) ns come S) (hS : S.past = ps ++ [rows]) :
    Lr E F (upd (upd H pl (.lst (pls.map V.ref))) p (.ins (Ca E "Ledger") dx (ledF ch cd b pl nl come))) p dx ch cd b pl nl pls ns come { S with rows := rows, past := ps } := by
  obtain ⟨a1, a2, a3, a4, b1, b2, b3, c1, c2, d1⟩ := h.ne
  simp only [List.mem_append, List.mem_singleton, not_or] at a4 b3 c2 d1
  have ho := h.out p (by simp)
  have ho2 := h.out pl (by simp)
  have hob := h.out b (by simp)
  have ts : TS H (upd (upd H pl (.lst (pls.map V.ref))) p (.ins (Ca E "Ledger") dx (ledF ch cd b pl nl come))) := (TS.upd h.hpl rfl).trans (TS.upd (by rw [upd_ne a2]; exact h.hp) rfl)
  have nd := h.nd
  have hps := h.hps
  rw [hS] at hps
  have hpl : Paired (RL E F H) pls ps ∧ RL E F H b rows := by
    have hl := Paired.length hps
    rw [List.length_append, List.length_append, List.length_singleton, List.length_singleton] at hl
    refine ⟨pair_of (by omega) fun i x y h1 h2 => ?_, ?_⟩
    · obtain ⟨y', q1, q2⟩ := pair_at hps (i := i) (x := x) (by rw [List.getElem?_append_left (List.getElem?_eq_some_iff.mp h1).1]; exact h1)
      rw [List.getElem?_append_left (List.getElem?_eq_some_iff.mp h2).1, h2] at q1
      cases q1
      exact q2
    · obtain ⟨y', q1, q2⟩ := pair_at hps (i := pls.length) (x := b) (by rw [List.getElem?_append_right (Nat.le_refl _), Nat.sub_self]; rfl)
      rw [show pls.length = ps.length by omega, List.getElem?_append_right (Nat.le_refl _), Nat.sub_self] at q1
      cases q1
      exact q2
  have hne : ∀ a, a ≠ p → a ≠ pl → upd (upd H pl (.lst (pls.map V.ref))) p (.ins (Ca E "Ledger") dx (ledF ch cd b pl nl come)) a = H a := fun a h1 h2 => by rw [upd_ne h1, upd_ne h2]
  refine ⟨Same.mut (Same.mut h.fs ho2) ho, ?_, fun a ha => ?_, upd_same, h.hch, h.hcd, hpl.2.mono (Same.refl _) ts (hne _ (Ne.symm a4.2) (Ne.symm c2.2)), by rw [upd_ne (Ne.symm a2), upd_same],
    pair_mem hpl.1 fun a ha y z => z.mono (Same.refl _) ts (hne _ (mem_ne a4.1 ha) (mem_ne c2.1 ha)), by rw [hne _ (Ne.symm a3) (Ne.symm c1)]; exact h.hnl, Paired.mapP h.hns fun _ _ z => z.mono (Same.refl _) ts⟩
  · simp only [osOf, List.nodup_cons, List.mem_cons, List.mem_append, List.mem_singleton, not_or, List.nodup_append] at nd ⊢
    obtain ⟨_, _, _, _, n1, _, n2⟩ := nd
    exact ⟨⟨a4.2, a2, a3, a4.1⟩, ⟨Ne.symm c2.2, Ne.symm d1.2, fun hm => n2 b hm b (.inl rfl) rfl⟩, ⟨c1, c2.1⟩, d1.1, n1⟩
  · simp only [osOf, List.mem_cons] at ha
    rcases ha with rfl | rfl | rfl | rfl | ha
    · exact ho
    · exact hob
    · exact ho2
    · exact h.out _ (by simp)
    · exact h.out a (by simp [ha])
end
end Lv
namespace Lv
open PySem PySem.Spec PyProof.Rows L2

def ComeA (E : Ev) (F H : Hp) (come : V) (S : LS) : Prop := come = .non ∨ ∃ cl, come = .ref cl ∧ YL E F H cl S.years
theorem ComeA.mono {E : Ev} {F F' H H' : Hp} {v : V} {S : LS} (s : Same F F') (ts : TS H H') (h : ComeA E F H v S) : ComeA E F' H' v S := by
  rcases h with h | ⟨cl, h1, h2⟩
  · exact .inl h
  · exact .inr ⟨cl, h1, h2.mono s ts⟩
structure LsOk (S : LS) : Prop where
  ch : ChOk S.tk S.lets S.car
  rows : ∀ d ∈ S.rows, AmOk d (freeOf S.tk S.car)
  past : ∀ r ∈ S.past, ∀ d ∈ r, AmOk d (freeOf S.tk S.car)
  few : S.rows.length ≤ 5000 ∧ S.past.length ≤ 5000 ∧ S.notes.length ≤ 5000
def Led (E : Ev) (F H : Hp) (p : Addr) (S : LS) (os : List Addr) : Prop :=
  ∃ dx ch cd rl pl nl pls ns come, Lr E F H p dx ch cd rl pl nl pls ns come S ∧ os = osOf p rl pl nl pls ∧ ComeA E F H come S
section
variable {E : Ev} {F F' H H' : Hp} {p : Addr} {S : LS} {os : List Addr}
theorem Led.fs (h : Led E F H p S os) : Same F H := by
  obtain ⟨_, _, _, _, _, _, _, _, _, h, _⟩ := h
  exact h.fs
theorem Led.out (h : Led E F H p S os) : ∀ a ∈ os, F a = none := by
  obtain ⟨_, _, _, _, _, _, _, _, _, h, rfl, _⟩ := h
  exact h.out
theorem Led.has (h : Led E F H p S os) : ∀ a ∈ os, ∃ o, H a = some o ∧ noTup o = true := by
  obtain ⟨_, _, _, _, _, _, _, _, _, h, rfl, _⟩ := h
  exact h.has
theorem Led.grow (h : Led E F H p S os) (s : Same H H') : Led E F H' p S os := by
  obtain ⟨dx, ch, cd, rl, pl, nl, pls, ns, come, h, e, hc⟩ := h
  exact ⟨dx, ch, cd, rl, pl, nl, pls, ns, come, h.grow s, e, hc.mono (Same.refl _) s.ts⟩
theorem Led.growF (h : Led E F H p S os) (s : Same H H') : Led E (gr F H H') H' p S os := by
  have hs := h.fs
  obtain ⟨dx, ch, cd, rl, pl, nl, pls, ns, come, h, e, hc⟩ := h
  exact ⟨dx, ch, cd, rl, pl, nl, pls, ns, come, h.growF s, e, hc.mono (gr_ff hs) s.ts⟩
theorem Led.off {b : Addr} {o : HO} (h : Led E F H p S os) (hb : b ∉ os) (hF : F b = none) (ts : TS H (upd H b o)) : Led E F (upd H b o) p S os := by
  obtain ⟨dx, ch, cd, rl, pl, nl, pls, ns, come, h, rfl, hc⟩ := h
  exact ⟨dx, ch, cd, rl, pl, nl, pls, ns, come, h.off hb hF ts, rfl, hc.mono (Same.refl _) ts⟩
end
section
variable {E : Ev} {F F' H H' : Hp} {p dx ch cd rl pl nl : Addr} {pls : List Addr} {ns : List V} {come : V} {S : LS}
theorem Lr.fresh (h : Lr E F H p dx ch cd rl pl nl pls ns come S) {b : Addr} (hb : H b = none) : b ∉ osOf p rl pl nl pls := fun hm => by
  obtain ⟨o, e, _⟩ := h.has b hm
  rw [hb] at e
  cases e
theorem Lr.noD (h : Lr E F H p dx ch cd rl pl nl pls ns come S) {b : Addr} {kvs : List (Key × V)} (hb : H b = some (.dK kvs)) : b ∉ osOf p rl pl nl pls := fun ha => by
  simp only [osOf, List.mem_cons] at ha
  rcases ha with rfl | rfl | rfl | rfl | ha
  · rw [h.hp] at hb; cases hb
  · obtain ⟨rs, h1, _⟩ := h.hrl
    rw [h1] at hb; cases hb
  · rw [h.hpl] at hb; cases hb
  · rw [h.hnl] at hb; cases hb
  · obtain ⟨i, hi, e⟩ := List.mem_iff_getElem.mp ha
    obtain ⟨y, _, rs, h1, _⟩ := pair_at h.hps (i := i) (x := b) (by rw [List.getElem?_eq_getElem hi, e])
    rw [h1] at hb; cases hb
theorem Lr.newF (h : Lr E F H p dx ch cd rl pl nl pls ns come S) {b : Addr} {u : HO} (hb : H b = none) : Lr E (upd F b u) (upd H b u) p dx ch cd rl pl nl pls ns come S := by
  have hF := none_of h.fs hb
  refine h.keep (Same.new hF) (fun a v e => ?_) (Same.new hb).ts (fun a ha => upd_ne (mem_ne (h.fresh hb) ha)) fun a ha => ?_
  · by_cases z : a = b
    · rw [z, upd_same] at e ⊢
      exact e
    · rw [upd_ne z] at e ⊢
      exact h.fs _ _ e
  · rw [upd_ne (mem_ne (h.fresh hb) ha)]
    exact h.out a ha
end
theorem putF_come {ch cd rl pl nl : Addr} {come v : V} : putF "come" v (ledF ch cd rl pl nl come) = ledF ch cd rl pl nl v := rfl
theorem putF_rows {ch cd rl pl nl b : Addr} {come : V} : putF "rows" (.ref b) (ledF ch cd rl pl nl come) = ledF ch cd b pl nl come := rfl
section
variable {E : Ev} {k : Nat} {N : List Str} {sc : Scope} {dd : Bool} {X : Cx} {σ : L2.St} {H : Hp} {Q : VK} {e o : Expr} {es : List Expr} {p apos : Pos} {m : Str}
/-- o.m(e, ..) of an object of the text -/
theorem w_mO {pl : Sem Bool} (c : Cxt E k N sc dd X) (q : W X o σ H fun y H1 => ∃ t C dx fs sp k', y = .ref t ∧ H1 t = some (.ins C dx fs) ∧ fs.lookup m = none ∧ Dm E k' C m sp ∧ k' ≤ k ∧ WA X (e :: es) σ H1 fun vs H2 => sp (.ref t :: vs) H2 Q)
    (hst : starEach (e :: es) X.env = (false, eval e X.env) :: starEach es X.env := by rfl) (hpl : (backTo p (starEach es X.env)).any (·.1) = false := by rfl)
    (ht : eval (.Call (.Attribute o m apos) (e :: es) [] p) X.env = (eval o X.env >>= fun ov => standAt apos.atName >>= fun _ => holding [ov] (getMethod ov m pl) >>= fun r => callWith p r.1 r.2 (backTo p (starEach (e :: es) X.env)) (backToKw p (keywordEach [] X.env))) := by rfl) :
    W X (.Call (.Attribute o m apos) (e :: es) [] p) σ H Q :=
  w_meth c (q.mono fun y H1 ⟨t, C, dx, fs, sp, k', ey, h, l, hd, hk, z⟩ => by
    subst ey
    exact at_meth (R := fun sp => WA X (e :: es) σ H1 fun vs H2 => sp (.ref t :: vs) H2 Q) h l hd hk z) hst hpl ht
theorem w_mO0 {pl : Sem Bool} (c : Cxt E k N sc dd X) (q : W X o σ H fun y H1 => ∃ t C dx fs sp k', y = .ref t ∧ H1 t = some (.ins C dx fs) ∧ fs.lookup m = none ∧ Dm E k' C m sp ∧ k' ≤ k ∧ sp [.ref t] H1 Q)
    (ht : eval (.Call (.Attribute o m apos) [] [] p) X.env = (eval o X.env >>= fun ov => standAt apos.atName >>= fun _ => holding [ov] (getMethod ov m pl) >>= fun r => callWith p r.1 r.2 (backTo p (starEach [] X.env)) (backToKw p (keywordEach [] X.env))) := by rfl) :
    W X (.Call (.Attribute o m apos) [] [] p) σ H Q :=
  w_meth0 c (q.mono fun y H1 ⟨t, C, dx, fs, sp, k', ey, h, l, hd, hk, z⟩ => by
    subst ey
    exact at_meth (R := fun sp => sp [.ref t] H1 Q) h l hd hk z) ht
theorem rc_empty (X : Cx) {pins : List (Addr × Obj)} {σ : L2.St} {H : Hp} {s : Shared} {a b : Addr} {xs : List V} (I : Inv X pins σ H s) (hu : X.A.units < cLine) (h1 : SqL X.K H a xs) (h2 : SqL X.K H b []) {Q : Value → Shared → Prop} (q : Q (.bool (decide (xs = []))) s) :
    wpAny (model X.prog X.w) X.A (compareOp .Eq (.ref a) (.ref b)) Q X.xe s := by
  obtain ⟨us, r1, p1, _⟩ := I.list h1
  obtain ⟨ws, r2, p2, _⟩ := I.list h2
  cases r2
  cases xs with
  | nil =>
    cases r1
    exact SeqAt.eq_listAt (e := fun _ => true) p1.isList p2.isList rfl hu (fun j h1 _ => absurd h1 (Nat.not_lt_zero j)) q
  | cons x xs =>
    cases r1
    exact SeqAt.eq_list_lengthsAt p1.isList p2.isList rfl hu q
/-- xs == [] -/
theorem o_eq_nil {a b : Addr} {xs : List V} (c : Cxt E k N sc dd X) (h1 : SqL E.K H a xs) (h2 : SqL E.K H b []) (q : Q (.bl (decide (xs = []))) H) : WCo X .Eq (.ref a) (.ref b) H Q := by
  refine ⟨fun pins s σ v u I rx ry => ?_⟩
  obtain rfl : v = Value.ref a := rx
  obtain rfl : u = Value.ref b := ry
  rw [← c.hK] at h1 h2
  exact rc_empty X I (by have := c.hu64; omega) h1 h2 ⟨.bl (decide (xs = [])), H, I, rfl, q⟩
end
theorem paired_set {α β : Type} {R : α → β → Prop} {a : α} {b : β} (r : R a b) : ∀ {xs : List α} {ys : List β} {i : Nat}, Paired R xs ys → Paired R (xs.set i a) (ys.set i b)
  | _, _, _, .nil => .nil
  | _, _, 0, .cons _ t => .cons r t
  | _, _, i + 1, .cons q t => .cons q (paired_set r t)
/-! ### promises -/
def spNeedYear (E : Ev) : Pr := fun vs H Q => ∃ F p S os, ∃ y : Nat, vs = [.ref p, .int (y : Nat)] ∧ Led E F H p S os ∧ y < S.rows.length ∧ Q .non H
def spNeedAm (E : Ev) : Pr := fun vs H Q => ∃ F p S os a d, vs = [.ref p, .ref a] ∧ Led E F H p S os ∧ LsOk S ∧ DA E H a d ∧ AmOk d (freeOf S.tk S.car) ∧ ∀ H', Same H H' → Q .non H'
def spAdd (E : Ev) : Pr := fun vs H Q => ∃ F p S os a d, vs = [.ref p, .ref a] ∧ Led E F H p S os ∧ LsOk S ∧ DA E H a d ∧ AmOk d (freeOf S.tk S.car) ∧ S.rows.length < 200 ∧
  ∀ F' os' H', Stp F os H F' os' H' → Led E F' H' p (S.add d) os' → Q (.int (S.rows.length : Nat)) H'
def spMend (E : Ev) : Pr := fun vs H Q => ∃ F p S os, ∃ y : Nat, ∃ a d, vs = [.ref p, .int (y : Nat), .ref a] ∧ Led E F H p S os ∧ LsOk S ∧ DA E H a d ∧ AmOk d (freeOf S.tk S.car) ∧ y < S.rows.length ∧
  ∀ F' os' H', Stp F os H F' os' H' → Led E F' H' p (S.mend y d) os' → Q .non H'
def spUndo (E : Ev) : Pr := fun vs H Q => ∃ F p S os, vs = [.ref p] ∧ Led E F H p S os ∧ LsOk S ∧ S.past ≠ [] ∧
  ∀ F' os' H', Stp F os H F' os' H' → Led E F' H' p S.undo os' → Q .non H'
def spYears (E : Ev) : Pr := fun vs H Q => ∃ F p S os, vs = [.ref p] ∧ Led E F H p S os ∧ Q (.int (S.rows.length : Nat)) H
theorem led_no {ch cd rl pl nl : Addr} {come : V} {m : Str} (h : (["rule", "carries", "rows", "past", "notes", "come"] : List Str).contains m = false) : (ledF ch cd rl pl nl come).lookup m = none := lk_no h
end Lv
namespace Lv
open PySem PySem.Spec PyProof.Rows L2

theorem dget_mem {d : Dc} {x : Str} {z : Int} (h : dget d x = some z) : (x, z) ∈ d := by
  unfold dget at h
  cases q : d.find? (fun q => decide (q.1 = x)) with
  | none => rw [q] at h; cases h
  | some p =>
    rw [q] at h
    have h1 := List.find?_some q
    have h2 := List.mem_of_find?_eq_some q
    have e1 : p.1 = x := of_decide_eq_true h1
    cases h
    rw [← e1]
    exact h2
theorem dget_mapF (g : Str → Int) (x : Str) : ∀ l : List Str, dget (l.map fun y => (y, g y)) x = if x ∈ l then some (g x) else none
  | [] => rfl
  | y :: r => by
    rw [List.map_cons, dget_cons, dget_mapF g x r]
    by_cases e : y = x
    · rw [if_pos e, if_pos (by rw [e]; exact List.mem_cons_self), e]
    · rw [if_neg e]
      by_cases h : x ∈ r
      · rw [if_pos h, if_pos (List.mem_cons_of_mem _ h)]
      · rw [if_neg h, if_neg (fun hm => by rcases List.mem_cons.mp hm with q | q; exact e q.symm; exact h q)]
/-- the value taken of one name -/
def takeV (car : Cr) (row ahead : Dc) (x : Str) : Int := match cget car x with | some l => mx 0 ((dget ahead l).getD 0) | none => (dget row x).getD 0
theorem takenF_eq (tk : List Str) (car : Cr) (row ahead : Dc) : takenF tk car row ahead = tk.map fun x => (x, takeV car row ahead x) := rfl
theorem takenF_ok {tk : List Str} {car : Cr} {row ahead : Dc} (am : AmOk row (freeOf tk car)) : AmOk (takenF tk car row ahead) tk := by
  refine ⟨List.length_map _, fun x hx => ?_, fun q hq => ?_⟩
  · rw [takenF_eq, dget_mapF, if_pos hx]
    rfl
  · obtain ⟨x, hx, rfl⟩ := List.mem_map.mp hq
    show 0 ≤ takeV car row ahead x
    unfold takeV
    cases e : cget car x with
    | some l => exact mx0 _
    | none =>
      have hf : x ∈ freeOf tk car := List.mem_filter.mpr ⟨hx, by rw [e]; rfl⟩
      have h1 := am.get x hf
      show 0 ≤ (dget row x).getD 0
      cases g : dget row x with
      | none => rw [g] at h1; cases h1
      | some z => exact am.pos _ (dget_mem g)
/-- years just worked out: all of it new -/
def YN (E : Ev) (H H' : Hp) (v : V) (y : Dc × Dc) : Prop := ∃ t a b, v = .ref t ∧ SqT E.K H' t [.ref a, .ref b] ∧ H a = none ∧ H b = none ∧ DA E H' a y.1 ∧ DA E H' b y.2
theorem YN.mono {E : Ev} {H H' H'' : Hp} {v : V} {y : Dc × Dc} (s : TS H' H'') (hk : ∀ a kvs, H' a = some (.dK kvs) → H'' a = some (.dK kvs)) (h : YN E H H' v y) : YN E H H'' v y := by
  obtain ⟨t, a, b, h1, h2, h3, h4, ⟨k5, h5, h6⟩, ⟨k7, h7, h8⟩⟩ := h
  exact ⟨t, a, b, h1, s.sqt h2, h3, h4, ⟨k5, hk _ _ h5, h6.ts s⟩, ⟨k7, hk _ _ h7, h8.ts s⟩⟩
def spFirst (E : Ev) : Pr := fun vs H Q => ∃ F p S os, vs = [.ref p] ∧ Led E F H p S os ∧ LsOk S ∧ ∀ l ys H', Same H H' → H l = none → H' l = some (.lst ys) → Paired (YN E H H') ys S.years → Q (.ref l) H'
def spReckoned (E : Ev) : Pr := fun vs H Q => ∃ F p S os, vs = [.ref p] ∧ Led E F H p S os ∧ LsOk S ∧ ∀ F' H' cl, Stp F os H F' os H' → Led E F' H' p S os → YL E F' H' cl S.years → Q (.ref cl) H'
/-- a dict of its own comes out -/
def spYearOf (E : Ev) (f : Dc × Dc → Dc) : Pr := fun vs H Q => ∃ F p S os, ∃ y : Nat, ∃ yr, vs = [.ref p, .int (y : Nat)] ∧ Led E F H p S os ∧ LsOk S ∧ S.years[y]? = some yr ∧
  ∀ F' H' D, Stp F os H F' os H' → Led E F' H' p S os → H D = none → F' D = none → DA E H' D (f yr) → Q (.ref D) H'
def spOwed (E : Ev) : Pr := fun vs H Q => ∃ F p S os x, vs = [.ref p, .str x] ∧ Led E F H p S os ∧ LsOk S ∧ x ∈ S.lets.map (·.1) ∧
  ∀ F' H' v, Stp F os H F' os H' → Led E F' H' p S os → Pt E H' v ((S.years.map fun y => (dget y.2 x).getD 0).sum) → Q v H'
theorem yearsF_len (tk : List Str) (lets : Ls) (car : Cr) : ∀ (rows : List Dc) (a : Dc), (yearsF tk lets car rows a).length = rows.length
  | [], _ => rfl
  | r :: rs, a => by
    show (yearsF tk lets car rs _).length + 1 = rs.length + 1
    rw [yearsF_len tk lets car rs]
theorem dget_names {d : Dc} {x : Str} (h : x ∈ d.map (·.1)) : (dget d x).isSome = true := by
  rw [← dget_any]
  obtain ⟨q, h1, h2⟩ := List.mem_map.mp h
  exact List.any_eq_true.mpr ⟨q, h1, decide_eq_true h2⟩
theorem yearsF_names (tk : List Str) (lets : Ls) (car : Cr) : ∀ (rows : List Dc) (a : Dc), ∀ y ∈ yearsF tk lets car rows a, y.2.map (·.1) = lets.map (·.1)
  | [], _, y, h => by cases h
  | r :: rs, a, y, h => by
    rcases List.mem_cons.mp h with rfl | h
    · exact duesF_names _ _
    · exact yearsF_names tk lets car rs _ y h
theorem inV_str (x : Str) : ∀ xs : List Str, inV (.str x) (xs.map V.str) = decide (x ∈ xs)
  | [] => by simp [inV]
  | y :: r => by
    have ih := inV_str x r
    simp only [inV, List.map_cons, List.any_cons, List.mem_cons] at ih ⊢
    rw [ih]
    rw [show eqV (V.str y) (V.str x) = (y == x) from rfl]
    by_cases e : x = y
    · subst e
      simp
    · have e2 : ¬ y = x := fun z => e z.symm
      simp [e, e2]
end Lv
namespace Lv
open PySem PySem.Spec PyProof.Rows L2

theorem src_items {H1 : Hp} {a : Addr} {o : Obj} {kvs : List (Key × V)} (h : H1 a = some (.frz o (.dK kvs))) : Src H1 (Iti a o kvs) kvs.length fun i x H' => ∃ T k v, kvs[i]? = some (k, v) ∧ x = .ref T ∧ H' T = some (.tup [kV k, v]) := fun H s => by
  have h2 := s _ _ h
  refine ⟨fun i hi => ⟨⟨h2, hi⟩, fun x H' y => ?_⟩, ⟨h2, Nat.le_refl _⟩⟩
  obtain ⟨T, k, v, e, rfl, hT, rfl⟩ := y
  exact ⟨Same.new hT, T, k, v, e, rfl, upd_same⟩
section
variable {E : Ev} {k : Nat} {N : List Str} {sc sc' : Scope} {dd : Bool} {X : Cx} {σ : L2.St} {H : Hp} {e tg elt iter : Expr} {v : V} {vs : List Nat} {p : Pos}
theorem wts_nil {Q : Bool → Hp → Prop} (q : Q true H) : WTs X [] σ H Q := q
/-- a comprehension by an invariant over the list so far -/
def LcI (E : Ev) (k : Nat) (N : List Str) (sc' : Scope) (tg elt : Expr) (vs : List Nat) (σ : L2.St) (J : It) (H1 : Hp) (Q : VK) : Prop :=
  ∃ (F : Hp) (n : Nat) (Yd : Nat → V → Hp → Prop) (Iv : Addr → Nat → List V → Hp → Prop), Src F J n Yd ∧ n < 100000 ∧ (∀ D, H1 D = none → Iv D 0 [] (upd H1 D (.lst []))) ∧ (∀ D i ys H, Iv D i ys H → Same F H ∧ H D = some (.lst ys) ∧ ys.length ≤ i) ∧
    (∀ D i ys H x H', H1 D = none → i < n → Iv D i ys H → Same H H' → Yd i x H' → ∀ Y, Cxt E k N sc' false Y → WG Y tg x (wipe σ vs) H' fun σ2 H2 => wipe σ2 vs = wipe σ vs ∧ ∀ Y3, Cxt E k N sc' false Y3 → W Y3 elt σ2 H2 fun y H4 => H4 D = some (.lst ys) ∧ Iv D (i + 1) (ys ++ [y]) (upd H4 D (.lst (ys ++ [y])))) ∧
    ∀ D ys H, H1 D = none → Iv D n ys H → Q (.ref D) H
theorem lcI {J : It} {F H1 : Hp} {Q : VK} {n : Nat} {Yd : Nat → V → Hp → Prop} (src : Src F J n Yd) (hn : n < 100000) (Iv : Addr → Nat → List V → Hp → Prop) (h0 : ∀ D, H1 D = none → Iv D 0 [] (upd H1 D (.lst []))) (hF : ∀ D i ys H, Iv D i ys H → Same F H ∧ H D = some (.lst ys) ∧ ys.length ≤ i)
    (step : ∀ D i ys H x H', H1 D = none → i < n → Iv D i ys H → Same H H' → Yd i x H' → ∀ Y, Cxt E k N sc' false Y → WG Y tg x (wipe σ vs) H' fun σ2 H2 => wipe σ2 vs = wipe σ vs ∧ ∀ Y3, Cxt E k N sc' false Y3 → W Y3 elt σ2 H2 fun y H4 => H4 D = some (.lst ys) ∧ Iv D (i + 1) (ys ++ [y]) (upd H4 D (.lst (ys ++ [y]))))
    (q : ∀ D ys H, H1 D = none → Iv D n ys H → Q (.ref D) H) : LcI E k N sc' tg elt vs σ J H1 Q := ⟨F, n, Yd, Iv, src, hn, h0, hF, step, q⟩
theorem LcI.run {J : It} {H1 : Hp} {Q : VK} (h : LcI E k N sc' tg elt vs σ J H1 Q) :
    ∀ D, H1 D = none → ∃ W0 : Nat → Nat → Hp → Prop, (∃ m, W0 0 m (upd H1 D (.lst []))) ∧ ∀ i m H, W0 i m H →
      (J.stop i H ∧ Q (.ref D) H) ∨ (J.go i H ∧ ∃ Nx : Hp → Prop, (∀ H', Nx H' → ∃ m', m' < m ∧ W0 (i + 1) m' H') ∧ ∀ x H', J.yld i H x H' → (∀ Y, Cxt E k N sc' false Y → WG Y tg x (wipe σ vs) H' fun σ2 H2 => wipe σ2 vs = wipe σ vs ∧ ∀ Y, Cxt E k N sc' false Y → WTs Y [] σ2 H2 fun b H3 =>
        if b = true then ∀ Y, Cxt E k N sc' false Y → W Y elt σ2 H3 fun y H4 => ∃ acc, H4 D = some (.lst acc) ∧ acc.length < sizeLine ∧ Nx (upd H4 D (.lst (acc ++ [y]))) else Nx H3)) := by
  intro D hD
  obtain ⟨F, n, Yd, Iv, src, hn, h0, hF, step, q⟩ := h
  refine ⟨fun i m H => i + m = n ∧ ∃ ys, Iv D i ys H, ⟨n, by omega, [], h0 D hD⟩, ?_⟩
  rintro i m H ⟨hi, ys, hy⟩
  obtain ⟨s1, s2, s3⟩ := hF D i ys H hy
  obtain ⟨hgo, hstop⟩ := src H s1
  by_cases hlt : i < n
  · right
    obtain ⟨go, yld⟩ := hgo i hlt
    refine ⟨go, fun H => ∃ ys, Iv D (i + 1) ys H, fun H' h => ⟨m - 1, by omega, by omega, h⟩, fun x H' hx Y c => ?_⟩
    obtain ⟨s4, y1⟩ := yld x H' hx
    refine (step D i ys H x H' hD hlt hy s4 y1 Y c).mono fun σ2 H2 ⟨w, h2⟩ => ⟨w, fun Y2 c2 => ?_⟩
    refine wts_nil (iteT fun Y3 c3 => (h2 Y3 c3).mono fun y H4 ⟨h5, h6⟩ => ⟨ys, h5, Nat.lt_of_lt_of_le (show ys.length < 100000 by omega) (by decide), _, h6⟩)
  · have e : i = n := by omega
    subst e
    exact .inl ⟨hstop, q D ys H hD hy⟩
theorem w_lcI {scope : Scope} {Q : VK} (c : Cxt E k N sc dd X) (own : List (Str × Nat)) (ok : blkC N sc scope own = true) (q : WI X tg iter σ H fun J H1 => LcI E k N (relS scope sc) tg elt (own.map (·.2)) σ J H1 Q)
    (hs : ∀ x, foldedSetIterable iter X.env x = pure x := by intro _; rfl) : W X (.ListComp elt [⟨tg, iter, [], 0⟩] scope p) σ H Q :=
  w_lc c own ok (q.mono fun J H1 h => h.run) hs
end

/-! ### deeds told -/
/-- a deed of its own: its dict, if any, at oa -/
def DeedO (E : Ev) (H : Hp) : V → Deed → Option Addr → Prop
  | v, .add d, o => ∃ t a, o = some a ∧ v = .ref t ∧ SqT E.K H t [.str "add", .ref a] ∧ DA E H a d
  | v, .mend y d, o => ∃ t a, o = some a ∧ v = .ref t ∧ SqT E.K H t [.str "mend", .int (y : Nat), .ref a] ∧ DA E H a d
  | v, .undo, o => ∃ t, o = none ∧ v = .ref t ∧ SqT E.K H t [.str "undo"]
theorem DeedO.mono {E : Ev} {H H' : Hp} (ts : TS H H') (hk : ∀ a kvs, H a = some (.dK kvs) → H' a = some (.dK kvs)) : ∀ {v : V} {d : Deed} {o : Option Addr}, DeedO E H v d o → DeedO E H' v d o
  | v, .add d, o, ⟨t, a, h1, h2, h3, ⟨kvs, h4, h5⟩⟩ => ⟨t, a, h1, h2, ts.sqt h3, ⟨kvs, hk _ _ h4, h5.ts ts⟩⟩
  | v, .mend y d, o, ⟨t, a, h1, h2, h3, ⟨kvs, h4, h5⟩⟩ => ⟨t, a, h1, h2, ts.sqt h3, ⟨kvs, hk _ _ h4, h5.ts ts⟩⟩
  | v, .undo, o, ⟨t, h1, h2, h3⟩ => ⟨t, h1, h2, ts.sqt h3⟩
def spOwn (E : Ev) : Pr := fun vs H Q => ∃ v d, vs = [v] ∧ DeedA E H H v d ∧ ∀ v' o H', Same H H' → DeedO E H' v' d o → (∀ a, o = some a → H a = none) → Q v' H'
def spIsDeed (E : Ev) : Pr := fun vs H Q => ∃ v d, vs = [v] ∧ DeedA E H H v d ∧ Q (.bl true) H
/-- a list of deeds of its own -/
structure DeedL (E : Ev) (H H' : Hp) (ys : List V) (ds : List Deed) (as : List (Option Addr)) : Prop where
  len : as.length = ds.length
  pr : Paired (fun y (q : Deed × Option Addr) => DeedO E H' y q.1 q.2) ys (ds.zip as)
  new : ∀ a, some a ∈ as → H a = none
  nd : (as.filterMap id).Nodup
def spLog (E : Ev) : Pr := fun vs H Q => ∃ F p S os, vs = [.ref p] ∧ Led E F H p S os ∧ LsOk S ∧ ∀ D ys as H', Same H H' → H D = none → H' D = some (.lst ys) → DeedL E H H' ys S.notes as → Q (.ref D) H'
def LS.does (S : LS) : Deed → LS
  | .add d => S.add d
  | .mend y d => S.mend y d
  | .undo => S.undo
def okDeed (S : LS) : Deed → Prop
  | .add d => AmOk d (freeOf S.tk S.car) ∧ S.rows.length < 200
  | .mend y d => AmOk d (freeOf S.tk S.car) ∧ y < S.rows.length
  | .undo => S.past ≠ []
def spDoes (E : Ev) : Pr := fun vs H Q => ∃ F p S os v d, vs = [.ref p, v] ∧ Led E F H p S os ∧ LsOk S ∧ DeedA E H H v d ∧ okDeed S d ∧ ∀ F' os' H', Stp F os H F' os' H' → Led E F' H' p (S.does d) os' → Q .non H'
def ls0 (tk : List Str) (lets : Ls) (car : Cr) : LS := ⟨tk, lets, car, [], [], []⟩
def spIsCarried (E : Ev) : Pr := fun vs H Q => ∃ F a p tk lets car, vs = [.ref a, .ref p] ∧ Ch E F p tk lets ∧ Same F H ∧ F a = none ∧ CA H a car ∧ ChOk tk lets car ∧ ∀ H', Same H H' → Q (.bl true) H'
/-- a new ledger -/
def spLedger (E : Ev) : Pr := fun vs H Q => ∃ F p a tk lets car, vs = [.ref p, .ref a] ∧ Ch E F p tk lets ∧ Same F H ∧ F a = none ∧ CA H a car ∧ ChOk tk lets car ∧
  ∀ F' q os H', Same H H' → Same F F' → (∀ a u, F' a = some u → F a = some u ∨ H a = none) → (∀ a ∈ os, H a = none) → Led E F' H' q (ls0 tk lets car) os → Q (.ref q) H'
def redo (S : LS) (ds : List Deed) : LS := ds.foldl LS.does S
/-- the deeds can be done one behind the other -/
def okRun (S : LS) : List Deed → Prop
  | [] => True
  | d :: r => okDeed S d ∧ LsOk S ∧ okRun (S.does d) r
def spCut (E : Ev) : Pr := fun vs H Q => ∃ F p S os, ∃ n : Nat, vs = [.ref p, .int (n : Nat)] ∧ Led E F H p S os ∧ LsOk S ∧ n ≤ S.notes.length ∧ okRun (ls0 S.tk S.lets S.car) (S.notes.take n) ∧ LsOk (redo (ls0 S.tk S.lets S.car) (S.notes.take n)) ∧
  ∀ F' p' os' H', Same H H' → (∀ a ∈ os', H a = none) → Led E F' H' p' (redo (ls0 S.tk S.lets S.car) (S.notes.take n)) os' → (∀ a u, F' a = some u → F a = some u ∨ H a = none) → Q (.ref p') H'
end Lv
namespace Lv
open PySem PySem.Spec PyProof.Rows L2

/-- what is made is frozen -/
structure Mkd (F H F' H' : Hp) : Prop where
  s : Same H H'
  ff : Same F F'
  up : Same F' H'
  new : ∀ a u, F' a = some u → F a = some u ∨ H a = none
theorem Mkd.refl {F H : Hp} (s : Same F H) : Mkd F H F H := ⟨Same.refl _, Same.refl _, s, fun _ _ h => .inl h⟩
theorem Mkd.trans {F H F1 H1 F2 H2 : Hp} (a : Mkd F H F1 H1) (b : Mkd F1 H1 F2 H2) : Mkd F H F2 H2 :=
  ⟨a.s.trans b.s, a.ff.trans b.ff, b.up, fun x u h => (b.new x u h).elim (fun z => a.new x u z) fun z => .inr (none_of a.s z)⟩
theorem Mkd.grow {F H H' : Hp} (sF : Same F H) (s : Same H H') : Mkd F H F H' := ⟨s, Same.refl _, sF.trans s, fun _ _ h => .inl h⟩
theorem Mkd.put {F H H' : Hp} {y : Addr} {o : HO} (sF : Same F H) (hy : H y = none) (s : Same H H') (h : H' y = some o) : Mkd F H (upd F y o) H' := by
  have hF := none_of sF hy
  refine ⟨s, Same.new hF, fun a u e => ?_, fun a u e => ?_⟩
  · by_cases z : a = y
    · rw [z, upd_same] at e
      rw [z, h]
      exact e
    · rw [upd_ne z] at e
      exact s _ _ (sF _ _ e)
  · by_cases z : a = y
    · rw [z]; exact .inr hy
    · rw [upd_ne z] at e; exact .inl e
def RetW (E : Ev) (F H : Hp) (w : Wt) (Q : VK) : Prop := ∀ v F' H', Mkd F H F' H' → Wo E F' w v → Q v H'
def spNeedWords (E : Ev) : Pr := fun vs H Q => ∃ F l ys ws, vs = [.ref l] ∧ Same F H ∧ H l = some (.lst ys) ∧ Paired (Wo E F) ws ys ∧ 1 ≤ ws.length ∧ ws.length ≤ 10 ∧ (∀ w ∈ ws, Wt.deep w < 8) ∧ (ws.map Wt.size).sum < 40 ∧ ∀ H', Same H H' → Q .non H'
def spMkAm (E : Ev) : Pr := fun vs H Q => ∃ F t z, vs = [.ref t] ∧ Same F H ∧ PtA E F t z ∧ RetW E F H (.am z) Q
def spMkNm (E : Ev) : Pr := fun vs H Q => ∃ F x, vs = [.str x] ∧ Same F H ∧ nameB x = true ∧ RetW E F H (.nm x) Q
def spMkTwo (E : Ev) (k : Tk) : Pr := fun vs H Q => ∃ F u v a b, vs = [u, v] ∧ Same F H ∧ Wo E F a u ∧ Wo E F b v ∧ a.deep < 8 ∧ b.deep < 8 ∧ a.size + b.size < 40 ∧ RetW E F H (.two k a b) Q
def spMkRows (E : Ev) (f : Wt → List (Int × Int) → Wt) : Pr := fun vs H Q => ∃ F u l a rows, vs = [u, .ref l] ∧ Same F H ∧ Wo E F a u ∧ RowsA E F l rows ∧ RowsOk rows ∧ a.deep < 8 ∧ a.size < 40 ∧ RetW E F H (f a rows) Q
def spMkIf (E : Ev) : Pr := fun vs H Q => ∃ F u1 u2 u3 u4 a b c d, vs = [u1, u2, u3, u4] ∧ Same F H ∧ Wo E F a u1 ∧ Wo E F b u2 ∧ Wo E F c u3 ∧ Wo E F d u4 ∧ a.deep < 8 ∧ b.deep < 8 ∧ c.deep < 8 ∧ d.deep < 8 ∧ a.size + b.size + c.size + d.size < 40 ∧ RetW E F H (.iff a b c d) Q
/-- an object's __init__ -/
def spIni (C : Ev → Addr) (f : Ev → Hp → Hp → Addr → List V → Hp → VK → Prop) (E : Ev) : Pr := fun vs H2 Q => ∃ F H y dx ws, vs = .ref y :: ws ∧ H2 y = some (.ins (C E) dx []) ∧ Same H H2 ∧ H y = none ∧ Same F H ∧ f E F H y ws H2 Q
theorem mk_of {E : Ev} {k : Nat} {C D : Str} {sp spI : Pr} (t : Tx E) (h : (C, D) ∈ mkTab) (d : Df E k (Ma E D "__init__") spI)
    (im : ∀ vs H Q, sp vs H Q → ∀ y H2 dx, H y = none → Same H H2 → H2 y = some (.ins (Ca E C) dx []) → spI (.ref y :: vs) H2 (fun v H3 => v = .non ∧ Q (.ref y) H3)) : Dk E k C sp := by
  obtain ⟨m1, m2⟩ := t.mks C D h
  refine ⟨Ca E C, _, spI, m1, m2, d, fun vs H Q hq y dx hy hdx ne => im vs H Q hq y _ dx hy ?_ upd_same⟩
  have s1 : Same H (upd H dx (.own y)) := Same.new hdx
  exact s1.trans (Same.new (by rw [upd_ne (Ne.symm ne)]; exact hy))
theorem cls_word : ∀ w : Wt, w.cls ∈ wordCls
  | .am _ => (by decide +kernel : ("Amount" : Str) ∈ wordCls)
  | .nm _ => (by decide +kernel : ("Name" : Str) ∈ wordCls)
  | .two .plus _ _ => (by decide +kernel : ("Plus" : Str) ∈ wordCls)
  | .two .less _ _ => (by decide +kernel : ("Less" : Str) ∈ wordCls)
  | .two .greater _ _ => (by decide +kernel : ("Greater" : Str) ∈ wordCls)
  | .two .lesser _ _ => (by decide +kernel : ("Lesser" : Str) ∈ wordCls)
  | .bands _ _ => (by decide +kernel : ("Bands" : Str) ∈ wordCls)
  | .steps _ _ => (by decide +kernel : ("Steps" : Str) ∈ wordCls)
  | .iff _ _ _ _ => (by decide +kernel : ("If" : Str) ∈ wordCls)
theorem Wo.word {E : Ev} {H : Hp} (t : Tx E) {w : Wt} {v : V} (h : Wo E H w v) : ∃ p, v = .ref p ∧ TyX E.K H (.ref p) (.ref (Ca E w.cls)) ∧ PySem.W.kitOne E.K (.ref (Ca E w.cls)) (.ref (Ca E "Word")) = some true := by
  obtain ⟨p, dx, fs, rfl, hp, _⟩ := h.at_
  have hm : w.cls ∈ wordCls := cls_word w
  obtain ⟨c, k⟩ := t.isw _ hm
  exact ⟨p, rfl, .base (.ins hp c.cl c.ha c.hn c.htk c.hm), k⟩
section
variable {E : Ev} {k : Nat} {N : List Str} {sc : Scope} {dd : Bool} {X : Cx} {H : Hp} {Q : VK}
theorem isi_word {w : Wt} {v : V} (t : Tx E) (c : Cxt E k N sc dd X) (h : Wo E H w v) (q : Q (.bl true) H) : WC X (.builtin "isinstance") [v, .ref (Ca E "Word")] H Q := by
  obtain ⟨p, rfl, h1, h2⟩ := h.word t
  exact c_isi c (.own _) h1 h2 q
end
theorem ws_setLcI {E : Ev} {k : Nat} {N : List Str} {sc scope : Scope} {dd : Bool} {X : Cx} {σ : L2.St} {H : Hp} {D : Ends} {x : Str} {j : Nat} {tg elt iter : Expr} {p p2 py : Pos} (c : Cxt E k N sc dd X) (h : locB dd N sc j x = true) (hl : sc.names.lookup x = some .local) (own : List (Str × Nat)) (ok : blkC N sc scope own = true)
    (hk : sc.kind = .function) (hp : (py.line == p2.line) = true) (ha : (scope.names.any fun (n, k) => n == x && (k == .local || k == .cell)) = false)
    (q : WI X tg iter σ H fun J H1 => LcI E k N (relS scope sc) tg elt (own.map (·.2)) σ J H1 fun y H1 => D.nx (σ.set j (some y)) H1) (hs : ∀ x, foldedSetIterable iter X.env x = pure x := by intro _; rfl) :
    WS X (.Assign [.Name x py] (.ListComp elt [⟨tg, iter, [], 0⟩] scope p2) p) D σ H :=
  ws_setLc c h hl own ok hk hp ha (q.mono fun J H1 h => h.run) hs
def spTwoOf (E : Ev) (k : Tk) : Pr := fun vs H Q => ∃ F u v a b, vs = [.str k.word, u, v] ∧ Same F H ∧ Wo E F a u ∧ Wo E F b v ∧ a.deep < 8 ∧ b.deep < 8 ∧ a.size + b.size < 40 ∧ RetW E F H (.two k a b) Q
def spRead (E : Ev) (w : Wt) : Pr := fun vs H Q => ∃ F v, ∃ dp : Nat, vs = [v, .int (dp : Nat)] ∧ Same F H ∧ Told E F w v ∧ w.good ∧ w.okN (fun x => nameB x = true) ∧ 1 ≤ dp ∧ dp + w.deep ≤ 9 ∧ w.size ≤ 40 ∧ RetW E F H w Q
def spWordOf (E : Ev) (w : Wt) : Pr := fun vs H Q => ∃ F v, vs = [v] ∧ Same F H ∧ Told E F w v ∧ w.good ∧ w.okN (fun x => nameB x = true) ∧ w.deep ≤ 8 ∧ w.size ≤ 40 ∧ RetW E F H w Q
theorem deep_pos (w : Wt) : 1 ≤ w.deep := by cases w <;> simp [Wt.deep]
end Lv
namespace Lv
open PySem PySem.Spec PyProof.Rows L2

/-! ### set(xs), xs a list of unlike texts -/
theorem take_any_new {xs : List Str} (nd : xs.Nodup) {i : Nat} (h : i < xs.length) : (xs.take i).any (· == xs[i]) = false := by
  rw [List.any_eq_false]
  intro y hy e
  have e : y = xs[i] := eq_of_beq e
  rw [List.mem_take_iff_getElem] at hy
  obtain ⟨j, hj, ej⟩ := hy
  exact List.pairwise_iff_getElem.mp nd j i (by omega) h (by omega) (ej.trans e)
theorem take_any_succ {xs : List Str} {i : Nat} (h : i < xs.length) (k : Str) : ((xs.take i).any (· == k) || decide (k = xs[i])) = (xs.take (i + 1)).any (· == k) := by
  rw [List.take_succ, List.getElem?_eq_getElem h, List.any_append]
  show _ = (_ || ((xs[i] == k) || false))
  rw [Bool.or_false]
  by_cases e : k = xs[i]
  · subst e
    simp
  · have e2 : (xs[i] == k) = false := beq_eq_false_iff_ne.mpr fun z => e z.symm
    rw [e2, decide_eq_false e]
section
variable {prog : Program} {w : World} {A : Around} {R : Result → Shared → Prop} {I : Addr} {fp wr : List Addr} {G : Array GenState → Array GenState → Prop} {n : Nat} {Pv : Nat → Value → Prop} {St : Nat → Shared → Prop}
/-- the set's loop over unlike texts -/
theorem set_turns (W : WalksS prog w A.in1 I fp wr G n Pv St) (a : Addr) (ha : a ∉ fp) (xs : List Str) (nd : xs.Nodup) (hl : xs.length = n) (hb : n < scanBound) (hv : ∀ j v, Pv j v → ∃ tk, v = .str (xs.getD j Str.empty) tk) :
    ∀ (m j : Nat) (s : Shared), j + m = n → St j s → s.heap.SetOf (PySem.strKind prog w) a (fun z => (xs.take j).any (· == z)) j →
      (∀ s1, Moved (a :: wr) G s s1 → s1.heap.SetOf (PySem.strKind prog w) a (fun z => (xs.take n).any (· == z)) n → R (.ok (.ret .none)) s1) → codeAny (model prog w) A (.builtin "set.update.loop" ⟨[.ref a, .ref I], []⟩) R s := by
  have nw : a ∉ wr := fun z => ha (W.sub _ z)
  have up : ∀ b ∈ wr, b ∈ a :: wr := fun b z => List.mem_cons_of_mem _ z
  have keep : ∀ {j : Nat} {s s1 : Shared}, Moved wr G s s1 → s.heap.SetOf (PySem.strKind prog w) a (fun z => (xs.take j).any (· == z)) j → s1.heap.SetOf (PySem.strKind prog w) a (fun z => (xs.take j).any (· == z)) j := fun mv ⟨o, es, ep, tb, ho, more⟩ => ⟨o, es, ep, tb, mv.heap a _ nw ho, more⟩
  intro m
  induction m with
  | zero =>
    intro j s e st hS hR
    obtain rfl : j = n := by omega
    refine codeAny_builtin PyProof.Rows.F.entry_set_update_loop (by
      rw [Around.under_plainId PyProof.Rows.F.plain_set_update_loop _]; show wpAny _ A.in1 (pyNext (.ref I) >>= _) _ _ s
      refine wpAny_bind (W.done s _ _ st fun s1 mv => ?_); show wpAny _ A.in1 (ret Value.none) _ _ s1
      exact wpAny_pure (hR s1 (mv.mono up) (keep mv hS)))
  | succ m ih =>
    intro j s e st hS hR
    have hj : j < n := by omega
    have hjl : j < xs.length := by omega
    have eg : xs.getD j Str.empty = xs[j] := by rw [List.getD_eq_getElem?_getD, List.getElem?_eq_getElem hjl]; rfl
    refine codeAny_builtin PyProof.Rows.F.entry_set_update_loop (by
      rw [Around.under_plainId PyProof.Rows.F.plain_set_update_loop _]; show wpAny _ A.in1 (pyNext (.ref I) >>= _) _ _ s
      refine wpAny_bind (W.item j s _ _ hj st fun v s1 hP st1 mv => ?_); obtain ⟨tk, rfl⟩ := hv j v hP; rw [eg]
      show wpAny _ A.in1 (holding [Value.str xs[j] tk] (setAdd a (.str xs[j] tk)) >>= _) _ _ s1
      refine wpAny_bind (wpAny_holding ?_); unfold setAdd
      refine wpAny_holding (wpAny_bind ((PySem.strKind prog w).pyHash (k := xs[j]) (strKind_is _ _ _ _) ?_))
      refine wpAny_setAddHashed_of (knd := PySem.strKind prog w) (s := { s1 with toks := s1.toks + 1 }) (strKind_is _ _ _ _) rfl (show s1.heap.SetOf (PySem.strKind prog w) a (fun z => (xs.take j).any (· == z)) j from keep mv hS) (by omega) fun h1 sb hS1 => ?_
      have hS2 : h1.SetOf (PySem.strKind prog w) a (fun z => (xs.take (j + 1)).any (· == z)) (j + 1) := SetOf_congr hS1 (fun z => take_any_succ hjl z) (by rw [take_any_new nd hjl]; rfl)
      refine wpAny_pure ⟨plainId_quiet PyProof.Rows.F.plain_set_update_loop _, ih (j + 1) _ (by omega) (W.frame _ s1 _ _ st1 (Nat.le_succ _) fun b hb o ho => ?_) hS2 fun s2 mv2 hS3 => ?_⟩
      · rw [sb.2 b (show b ≠ a from fun z => ha (by rw [← z]; exact hb))]; exact ho
      · refine hR s2 (Moved.trans W.gtrans ((mv.mono up).then_heap (Nat.le_succ _) fun b o hb ho => ?_) mv2) hS3
        rw [sb.2 b (show b ≠ a from fun z => hb (by rw [z]; exact List.mem_cons_self))]; exact ho)
end
section
variable {prog : Program} {w : World} {A : Around} {E : Value → Shared → Prop} {s : Shared}
/-- the call of set -/
theorem set_of_strs {l : Addr} {its : Array Value} {xs : List Str} {Q : Value → Shared → Prop} (hh : A.handled = none) (hl : s.heap.IsList l its) (hi : StrsAre its.toList xs) (nd : xs.Nodup) (hb : xs.length < scanBound)
    (q : ∀ (h' : Heap) (tk : Nat), h'.SetOf (PySem.strKind prog w) s.heap.objs.size (fun z => (xs.take its.size).any (· == z)) its.size → (∀ b o, b < s.heap.objs.size → s.heap.get? b = some o → h'.get? b = some o) → Q (.ref s.heap.objs.size) { s with heap := h', toks := tk }) :
    wpAny (model prog w) A (call (.type "set") [.ref l]) Q E s := by
  obtain ⟨mc, mt, mro⟩ := PySem.F.called_set.mro
  have made := PySem.F.called_set.made; have sub := PySem.F.called_set.sub
  refine wpAny_call (codeAny_of_tree ?_); show wpAny _ _ (callAny (.type "set") _) _ _ _
  refine wpAny_pure ⟨Code.quiet_builtin _ (by decide +kernel), codeAny_builtin PySem.F.entry_type_call ?_⟩; rw [Around.under_plain (weight_type_call_type "set" [.ref l] []) rfl]
  have nt := PySem.F.called_set.notType; have cc := PySem.F.called_set.canCreate; have tc := PySem.F.typeCall_set_1 (.ref l)
  repeat (any_goals (first | assumption | wp_step))
  refine codeAny_mono (code_set_new_1 (.ref l) (E := E) (Q₁ := fun v s1 => ∃ led : Bool, v = .ref s.heap.objs.size ∧ s1 = { s with heap := s.heap.push { cls := .type "set", dict := none, data := .set #[] 0 (.fresh 0 0 led) } }) fun led => ⟨led, rfl, rfl⟩) fun r s1 hr => ?_
  cases r with
  | error e => exact hr
  | ok fl => cases fl with
    | ret v =>
      obtain ⟨led, rfl, rfl⟩ := hr
      have nf : ({ data := .set #[] 0 (.fresh 0 0 led), cls := .type "set" } : Obj).isFreed = false := rfl
      have g0 : (s.heap.push ({ data := .set #[] 0 (.fresh 0 0 led), cls := .type "set" } : Obj)).get? s.heap.objs.size = some ({ data := .set #[] 0 (.fresh 0 0 led), cls := .type "set" } : Obj) := Heap.get?_push_size _ nf
      have ty : Shared.TypeIs { s with heap := s.heap.push ({ data := .set #[] 0 (.fresh 0 0 led), cls := .type "set" } : Obj) } (.ref s.heap.objs.size) "set" := ⟨_, g0, rfl⟩
      have lk := PySem.F.called_set.init.lookup; have bd := PySem.F.called_set.init.bind (.ref s.heap.objs.size)
      repeat (any_goals (first | assumption | wp_step))
      refine codeAny_mono (codeAny_call_builtin (R := wants (fun r s2 => r = .none ∧ ∃ h' tk, s2 = { s with heap := h', toks := tk } ∧ h'.SetOf (PySem.strKind prog w) s.heap.objs.size (fun z => (xs.take its.size).any (· == z)) its.size ∧ (∀ b o, b < s.heap.objs.size → s.heap.get? b = some o → h'.get? b = some o)) E) PySem.F.called_set.init.plain PySem.F.entry_set_init (check_set_init_1 ty ?_)) fun r2 s2 h2 => ?_
      · obtain ⟨⟨oc, od, odt, osl⟩, hol, e1, ln, e2⟩ := hl
        simp only at e1 e2
        subst e1 e2
        have hol1 : (s.heap.push ({ data := .set #[] 0 (.fresh 0 0 led), cls := .type "set" } : Obj)).get? l = some { cls := .type "list", dict := od, data := .seq its ln, slots := osl } := Heap.get?_push_of_some _ hol
        have sl1 := PySem.F.sub_list_set; have sl2 := PySem.F.sub_list_frozenset
        have ned : (Value.type "list" == Value.type "dict") = false := (by decide)
        have isl : (s.heap.push ({ data := .set #[] 0 (.fresh 0 0 led), cls := .type "set" } : Obj)).IsList l its := ⟨_, hol1, rfl, ln, rfl⟩
        unfold Builtin.«set.__init__» noKeywords Builtin.Frozenset.updateFrom; generalize hpi : pyIter = PI
        have pk := And.intro isl (And.intro hol hi)
        clear isl hol hi lk bd ty nf mc mt mro made sub nt cc tc
        generalize ehp : s.heap.push ({ data := .set #[] 0 (.fresh 0 0 led), cls := .type "set" } : Obj) = hp at hol1 g0 ⊢
        wp_walk
        subst hpi
        subst ehp
        obtain ⟨isl, hol, hi⟩ := pk
        refine wpAny_pyIter_list isl ?_
        refine wpAny_bind (wpAny_runValue ?_)
        have lts : l < s.heap.objs.size := Heap.lt_size hol
        have noh : A.in1.in1.in1.handled = none := (by simp [hh])
        have szp : (s.heap.push ({ data := .set #[] 0 (.fresh 0 0 led), cls := .type "set" } : Obj)).objs.size = s.heap.objs.size + 1 := (by rw [Heap.size_push])
        have nl1 : l ≠ (s.heap.push ({ data := .set #[] 0 (.fresh 0 0 led), cls := .type "set" } : Obj)).objs.size := (by rw [szp]; exact Nat.ne_of_lt (Nat.lt_succ_of_lt lts))
        have na1 : s.heap.objs.size ∉ [(s.heap.push ({ data := .set #[] 0 (.fresh 0 0 led), cls := .type "set" } : Obj)).objs.size, l] := (by rw [szp]; simp only [List.mem_cons, List.not_mem_nil, or_false, not_or]; exact ⟨Nat.ne_of_lt (Nat.lt_succ_self _), (Nat.ne_of_lt lts).symm⟩)
        have lns : xs.length = its.size := (by rw [← StrsAre.len_eq hi, Array.length_toList])
        have vals : ∀ (i : Nat) (v : Value), its[i]? = some v → ∃ t, v = .str (xs.getD i Str.empty) t := fun i v hv => SS.strs_at hi i v (by rw [Array.getElem?_toList]; exact hv)
        refine set_turns ((Walks.list noh _ l nl1 its).toS) s.heap.objs.size na1 xs nd lns (by omega) vals its.size 0 _ (by omega) ⟨⟨_, Heap.get?_push_size _ rfl, rfl, rfl⟩, (isl.push _)⟩ ?_ fun s3 mv hS => ?_
        · have g1 : ((s.heap.push ({ data := .set #[] 0 (.fresh 0 0 led), cls := .type "set" } : Obj)).push { cls := .type "list_iterator", data := .fields #[.ref l, .int 0 0] }).get? s.heap.objs.size = some ({ data := .set #[] 0 (.fresh 0 0 led), cls := .type "set" } : Obj) := Heap.get?_push_of_some _ g0
          exact SetOf_congr ((setObjOf_fresh (knd := PySem.strKind prog w) led).setOf g1 (by unfold scanBound; omega)) (fun _ => rfl) rfl
        · obtain ⟨h3, g3, d3, t3, o3⟩ := s3
          obtain rfl : g3 = s.gens := mv.gens
          obtain rfl : d3 = s.drawn := mv.drawn
          obtain rfl : o3 = s.os := mv.os
          show wpAny _ _ _ _ _ _
          refine wpAny_pure ?_
          show wpAny _ _ (ret Value.none) _ _ _
          refine wpAny_pure ⟨rfl, h3, t3, rfl, hS, fun b o hb e => mv.heap b o ?_ (Heap.get?_push_of_some _ (Heap.get?_push_of_some _ e))⟩
          rw [szp]; simp only [List.mem_cons, List.not_mem_nil, or_false, not_or]; exact ⟨Nat.ne_of_lt hb, Nat.ne_of_lt (Nat.lt_succ_of_lt hb)⟩
      · cases r2 with
        | error e => exact h2
        | ok f2 => cases f2 with
          | ret r =>
            obtain ⟨rfl, h3, t3, rfl, hS3, kp3⟩ := h2
            repeat (any_goals (first | assumption | wp_step))
            exact q _ _ hS3 kp3
          | next => exact h2
          | brk => exact h2
          | cont => exact h2
    | next => exact hr
    | brk => exact hr
    | cont => exact hr
end
section
variable {E : Ev} {k : Nat} {N : List Str} {sc : Scope} {dd : Bool} {X : Cx} {σ : L2.St} {H : Hp} {Q : VK} {a : Expr} {p p2 p3 pos : Pos}
/-- len(set(xs)) of unlike texts -/
theorem w_lenSet (c : Cxt E k N sc dd X) (B : Bl E) (h : gloB sc "len" = true) (h2 : gloB sc "set" = true) (q : W X a σ H fun x H1 => ∃ l, ∃ xs : List Str, x = .ref l ∧ SqL E.K H1 l (xs.map V.str) ∧ xs.Nodup ∧ xs.length < 1000 ∧ Q (.int xs.length) H1)
    (na : starEach [a] X.env = (false, eval a X.env) :: starEach [] X.env := by rfl) : W X (.Call (.Name "len" p) [.Call (.Name "set" p2) [a] [] p3] [] pos) σ H Q := by
  obtain ⟨g1, g2, g3⟩ := c.glo h
  obtain ⟨g4, g5, g6⟩ := c.glo h2
  have m1 : X.mg "len" = none := by rw [c.hmg]; exact B _ (by decide +kernel)
  have m2 : X.mg "set" = none := by rw [c.hmg]; exact B _ (by decide +kernel)
  refine ⟨fun pins s I => Call_ (ld_blt I g1 m1 boot_len ?_)⟩
  refine callWith_builtin1 (args_cons (Call_ (ld_blt I g4 m2 boot_set (callWith_type1 (args_cons (thn (q.run pins s I) fun v s1 ⟨x, H1, I1, r1, l, xs, ex, hq, nd, hl, q1⟩ => args_nil ?_) na) na rfl))) rfl) rfl rfl
  subst ex
  obtain rfl : v = Value.ref l := r1
  rw [← c.hK] at hq
  obtain ⟨its, rv, pl, hz⟩ := I1.list hq
  have hs : its.toArray.size = xs.length := by rw [List.size_toArray, ← rv.length, List.length_map]
  refine set_of_strs (I1.ok.hd c.calm) pl.isList (by simpa using strsAre_of rv) nd (by unfold scanBound; omega) fun h' tk hS kp => args_nil ?_
  rw [hs] at hS
  obtain ⟨o, es, ep, t, ho, hex, hd, _, _, _, hf, hn⟩ := hS
  have I2 : Inv X pins σ H1 { s1 with heap := h', toks := tk } := I1.kept fun b o e => kp b o (Heap.lt_size e) e
  exact call_len_set ho hex hd hf (by rw [hn] <;> omega) ⟨.int xs.length, H1, I2.tok _, ⟨_, by rw [hn]⟩, q1⟩
end
end Lv
namespace Lv
open PySem PySem.Spec PyProof.Rows L2

def spAreNames (E : Ev) : Pr := fun vs H Q => ∃ l, ∃ nms : List Str, vs = [.ref l] ∧ H l = some (.lst (nms.map V.str)) ∧ 1 ≤ nms.length ∧ nms.length ≤ 5 ∧ (∀ x ∈ nms, nameB x = true) ∧ nms.Nodup ∧ ∀ H', Same H H' → Q (.bl true) H'
def LetA (E : Ev) (F : Hp) (v : V) (q : Str × Wt) : Prop := ∃ t u, v = .ref t ∧ SqT E.K F t [.str q.1, u] ∧ Wo E F q.2 u
theorem LetA.mono {E : Ev} {F F' : Hp} {v : V} {q : Str × Wt} (s : Same F F') (h : LetA E F v q) : LetA E F' v q := by
  obtain ⟨t, u, h1, h2, h3⟩ := h
  exact ⟨t, u, h1, s.tup h2, h3.mono s⟩
def spIsLet (E : Ev) : Pr := fun vs H Q => ∃ v x w, vs = [v] ∧ LetA E H v (x, w) ∧ nameB x = true ∧ ∀ H', Same H H' → Q (.bl true) H'
/-- lets whose names stand ahead -/
def okNew : List Str → Ls → Prop
  | _, [] => True
  | kn, (x, w) :: r => nameB x = true ∧ x ∉ kn ∧ w.okN (fun y => y ∈ kn) ∧ w.deep ≤ 8 ∧ w.size ≤ 1000 ∧ okNew (kn ++ [x]) r
def spNeedLets (E : Ev) : Pr := fun vs H Q => ∃ F l1 l2, ∃ tk : List Str, ∃ lets ys, vs = [.ref l1, .ref l2] ∧ Same F H ∧ H l1 = some (.lst (tk.map V.str)) ∧ H l2 = some (.lst ys) ∧ Paired (LetA E F) ys lets ∧ 1 ≤ lets.length ∧ lets.length ≤ 20 ∧ tk.length ≤ 100 ∧ okNew tk lets ∧ ∀ H', Same H H' → Q .non H'
/-- a charter is made -/
def spCharter (E : Ev) : Pr := fun vs H Q => ∃ F nm l1 l2, ∃ tk : List Str, ∃ lets ys, vs = [.str nm, .ref l1, .ref l2] ∧ Same F H ∧ nameB nm = true ∧ H l1 = some (.lst (tk.map V.str)) ∧ H l2 = some (.lst ys) ∧ Paired (LetA E F) ys lets ∧ 1 ≤ tk.length ∧ tk.length ≤ 5 ∧ (∀ x ∈ tk, nameB x = true) ∧ tk.Nodup ∧
  1 ≤ lets.length ∧ lets.length ≤ 20 ∧ okNew tk lets ∧ ∀ p F' H', Mkd F H F' H' → H p = none → Ch E F' p tk lets → Q (.ref p) H'
theorem merge_go : ∀ (kvs acc : List (Key × V)), ((acc ++ kvs).map (·.1)).Nodup → mergeK acc kvs = acc ++ kvs
  | [], acc, _ => by rw [List.append_nil]; rfl
  | (a, v) :: r, acc, nd => by
    have e : mergeK acc ((a, v) :: r) = mergeK (putK acc a v) r := rfl
    have ep : putK acc a v = acc ++ [(a, v)] := by
      unfold putK
      rw [if_neg]
      intro h
      obtain ⟨q, h1, h2⟩ := List.any_eq_true.mp h
      have h2 : q.1 = a := of_decide_eq_true h2
      rw [List.map_append, List.nodup_append] at nd
      exact nd.2.2 q.1 (List.mem_map.mpr ⟨q, h1, rfl⟩) a (by simp) h2
    rw [e, ep, merge_go r (acc ++ [(a, v)]) (by rw [List.append_assoc]; exact nd), List.append_assoc]
    rfl
theorem merge_new {kvs : List (Key × V)} (nd : (kvs.map (·.1)).Nodup) : mergeK [] kvs = kvs := merge_go kvs [] nd
section
variable {E : Ev} {k : Nat} {N : List Str} {sc : Scope} {dd : Bool} {X : Cx} {H : Hp} {Q : VK}
/-- dict(pairs) -/
theorem c_dict_p {a : Addr} {ps : List Addr} {kvs : List (Key × V)} (c : Cxt E k N sc dd X) (h : SqL E.K H a (ps.map V.ref)) (hp : Paired (fun p kv => SqT E.K H p [kV kv.1, kv.2]) ps kvs) (nd : (kvs.map (·.1)).Nodup) (q : ∀ p, H p = none → Q (.ref p) (upd H p (.dK kvs))) : WC X (.type "dict") [.ref a] H Q := by
  refine wc_of (call_dictP c.calm) ⟨a, ps, kvs, rfl, by rw [c.hK]; exact h, by rw [c.hK]; exact hp, fun p hp => ?_⟩
  rw [merge_new nd]
  exact q p hp
end
end Lv
namespace Lv
open PySem PySem.Spec PyProof.Rows L2

def spWithin (E : Ev) (w : Wt) : Pr := fun vs H Q => ∃ v, vs = [v] ∧ Told E H w v ∧ ∀ D ys H', Same H H' → H D = none → H' D = some (.lst ys) → Paired (Told E H) w.kids ys → Q (.ref D) H'
def spBanded (E : Ev) (f : List (Int × Int) → Int → Int) (ok : List (Int × Int) → Prop) : Pr := fun vs H Q => ∃ s l w rows, vs = [.ref s, .ref l] ∧ PtA E H s w ∧ RowsA E H l rows ∧ ok rows ∧ Ret H (fun v H' => Pt E H' v (f rows w)) Q
def spLval (E : Ev) (w : Wt) : Pr := fun vs H Q => ∃ v a d, vs = [v, .ref a] ∧ Told E H w v ∧ w.good ∧ DA E H a d ∧ w.okN (fun x => (dget d x).isSome = true) ∧ Ret H (fun v' H' => Pt E H' v' (val d w)) Q
theorem ws_mono {X : Cx} {st : Stmt} {D D' : Ends} {σ : L2.St} {H : Hp} (h : WS X st D σ H) (h1 : ∀ σ H, D.nx σ H → D'.nx σ H) (h2 : ∀ v H, D.rt v H → D'.rt v H) (h3 : ∀ σ H, D.bk σ H → D'.bk σ H) (h4 : ∀ σ H, D.ct σ H → D'.ct σ H) : WS X st D' σ H := by
  refine ⟨fun pins s I => thn (h.run pins s I) fun f s1 q => ?_⟩
  cases f with
  | next => obtain ⟨σ', H', I', q⟩ := q; exact ⟨σ', H', I', h1 _ _ q⟩
  | ret v => obtain ⟨x, σ', H', I', r, q⟩ := q; exact ⟨x, σ', H', I', r, h2 _ _ q⟩
  | brk => obtain ⟨σ', H', I', q⟩ := q; exact ⟨σ', H', I', h3 _ _ q⟩
  | cont => obtain ⟨σ', H', I', q⟩ := q; exact ⟨σ', H', I', h4 _ _ q⟩
/-- what stands behind a statement, said once -/
theorem ws_mid {X : Cx} {st : Stmt} {D : Ends} {σ : L2.St} {H : Hp} (Mid : L2.St → Hp → Prop) (h1 : WS X st { D with nx := Mid } σ H) (h2 : ∀ σ' H', Mid σ' H' → D.nx σ' H') : WS X st D σ H :=
  ws_mono h1 h2 (fun _ _ h => h) (fun _ _ h => h) fun _ _ h => h
section
variable {E : Ev} {k : Nat} {N : List Str} {sc : Scope} {dd : Bool} {X : Cx} {σ : L2.St} {H : Hp} {Q : VK} {f e : Expr} {es : List Expr} {p : Pos}
/-- a def that an expression gives is called -/
theorem w_callV (c : Cxt E k N sc dd X) (q : W X f σ H fun y H1 => ∃ g sp k', y = .ref g ∧ Df E k' g sp ∧ k' ≤ k ∧ WA X (e :: es) σ H1 fun vs H2 => sp vs H2 Q) (hst : starEach (e :: es) X.env = (false, eval e X.env) :: starEach es X.env := by rfl)
    (hpl : (backTo p (starEach es X.env)).any (·.1) = false := by rfl) (hc : eval (.Call f (e :: es) [] p) X.env = (do callWith p (← eval f X.env) [] (backTo p (starEach (e :: es) X.env)) (backToKw p (keywordEach [] X.env))) := by rfl) : W X (.Call f (e :: es) [] p) σ H Q := by
  refine ⟨fun pins s I => Call_ (thn (q.run pins s I) fun u s1 ⟨y, H1, I1, ry, g, sp, k', ey, ⟨fd, ps, F, B, K⟩, hk, z⟩ => ?_) hc⟩
  subst ey
  obtain rfl : u = Value.ref g := ry
  rw [← c.hK] at B K
  refine PySem.W.callWith_K (first := []) (h₀ := X.base) I1.ok.mod.kin K (thn (z.run p pins s1 I1) fun us s2 ⟨vs, H2, I2, r, z2⟩ => ⟨I2.kIn, ?_⟩) hst hpl
  exact run_fn (us := us) (vs := vs) (c.k_ok F) (c.room.mono hk) B .nil pass0 I2 r (show sp (vs ++ []) H2 Q by rw [List.append_nil]; exact z2)
end
end Lv
namespace Lv
open PySem PySem.Spec PyProof.Rows L2
open PySem.W (EqTree)

/-! ### equal data: lists, tuples, dicts with text keys, flat things -/
def EqX (K : PySem.W.Frag) (H : Hp) : Nat → V → V → Prop
  | 0 => fun x y => x = y ∧ flatB x = true
  | n + 1 => fun x y => (x = y ∧ flatB x = true) ∨
      (∃ a b xs ys, x = .ref a ∧ y = .ref b ∧ SqL K H a xs ∧ SqL K H b ys ∧ Paired (EqX K H n) xs ys) ∨
      (∃ a b xs ys, x = .ref a ∧ y = .ref b ∧ SqT K H a xs ∧ SqT K H b ys ∧ Paired (EqX K H n) xs ys) ∨
      ∃ a b ks ls, x = .ref a ∧ y = .ref b ∧ H a = some (.dK ks) ∧ H b = some (.dK ls) ∧ ks.length = ls.length ∧ ∀ p ∈ ks, ∃ u, valV ls p.1 = some u ∧ EqX K H n p.2 u
theorem all_true {α : Type} (l : List α) : (l.all fun _ => true) = true := List.all_eq_true.mpr fun _ _ => rfl
section
variable {X : Cx} {pins : List (Addr × Obj)} {σ : L2.St} {H : Hp} {s : Shared}
theorem tree_items {n : Nat} {xs ys : List V} {us ws : List Value} (ih : ∀ x y v u, EqX X.K H n x y → RelV x v → RelV y u → EqTree X.prog X.w s n v u true) (pr : Paired (EqX X.K H n) xs ys) (r1 : Vals xs us) (r2 : Vals ys ws)
    (j : Nat) (h1 : j < us.toArray.size) (h2 : j < ws.toArray.size) : EqTree X.prog X.w s n us.toArray[j] ws.toArray[j] ((fun _ => true) j) := by
  have h1' : j < us.length := by simpa using h1
  have h2' : j < ws.length := by simpa using h2
  obtain ⟨x, hx, rx⟩ := pair_at' r1 (i := j) (y := us[j]) (List.getElem?_eq_getElem h1')
  obtain ⟨y, hy, ry⟩ := pair_at' r2 (i := j) (y := ws[j]) (List.getElem?_eq_getElem h2')
  obtain ⟨y', hy', e⟩ := pair_at pr hx
  rw [hy] at hy'
  cases hy'
  have t := ih x y us[j] ws[j] e rx ry
  simpa using t
theorem tree_entries {n : Nat} {ks ls : List (Key × V)} {va vb : List (Key × Value)} (ih : ∀ x y v u, EqX X.K H n x y → RelV x v → RelV y u → EqTree X.prog X.w s n v u true) (hp : ∀ p ∈ ks, ∃ u, valV ls p.1 = some u ∧ EqX X.K H n p.2 u) (ra : KV ks va) (rb : KV ls vb) :
    ∀ k v, (k, v) ∈ va → ∃ y, valueAt vb k = some y ∧ EqTree X.prog X.w s n v y true := by
  intro k v hm
  obtain ⟨i, hi, e⟩ := List.mem_iff_getElem.mp hm
  obtain ⟨p, hp1, hp2⟩ := pair_at' (show Paired (fun (p : Key × V) (q : Key × Value) => p.1 = q.1 ∧ RelV p.2 q.2) ks va from ra) (i := i) (y := va[i]) (List.getElem?_eq_getElem hi)
  rw [e] at hp2
  obtain ⟨h1, h2⟩ := hp2
  have h1 : p.1 = k := h1
  obtain ⟨u, hu, eu⟩ := hp p (List.mem_of_getElem? hp1)
  have rr : RelO (some u) (valueAt vb p.1) := by rw [← hu]; exact rb.val p.1
  obtain ⟨y, hy, ry⟩ := rr.some_of
  rw [h1] at hy
  exact ⟨y, hy, ih _ _ _ _ eu h2 ry⟩
theorem eqx_tree (I : Inv X pins σ H s) : ∀ (n : Nat) (x y : V) (v u : Value), EqX X.K H n x y → RelV x v → RelV y u → EqTree X.prog X.w s n v u true
  | 0, x, y, v, u, ⟨e, f⟩, rx, ry => by
    subst e
    exact .leaf fun A _ => eqAt_same rx ry f
  | n + 1, x, y, v, u, h, rx, ry => by
    have ih := eqx_tree I n
    rcases h with ⟨rfl, f⟩ | ⟨a, b, xs, ys, rfl, rfl, ha, hb, pr⟩ | ⟨a, b, xs, ys, rfl, rfl, ha, hb, pr⟩ | ⟨a, b, ks, ls, rfl, rfl, ha, hb, hl, hp⟩
    · exact .leaf fun A _ => eqAt_same rx ry f
    all_goals
      obtain rfl : v = Value.ref a := rx
      obtain rfl : u = Value.ref b := ry
      by_cases hne : a = b
      · subst hne
        exact .same
    · obtain ⟨us, r1, p1, _⟩ := I.list ha
      obtain ⟨ws, r2, p2, _⟩ := I.list hb
      have hsz : us.toArray.size = ws.toArray.size := by
        have := Paired.length pr
        rw [List.size_toArray, List.size_toArray, ← r1.length, ← r2.length]
        exact this
      have t := EqTree.lists (n := n) (e := fun _ => true) hne p1.isList p2.isList hsz (tree_items ih pr r1 r2)
      rw [all_true] at t
      exact t
    · obtain ⟨us, r1, p1, _⟩ := I.tuple ha
      obtain ⟨ws, r2, p2, _⟩ := I.tuple hb
      have hsz : us.toArray.size = ws.toArray.size := by
        have := Paired.length pr
        rw [List.size_toArray, List.size_toArray, ← r1.length, ← r2.length]
        exact this
      have t := EqTree.tuples (n := n) (e := fun _ => true) hne p1 p2 (tree_items ih pr r1 r2)
      rw [all_true, hsz] at t
      simpa using t
    · obtain ⟨_, ya, va, ra, da⟩ := (show ObjOk X.prog X.w H s.heap a (.dK ks) from I.hok a _ ha)
      obtain ⟨_, yb, vb, rb, db⟩ := (show ObjOk X.prog X.w H s.heap b (.dK ls) from I.hok b _ hb)
      have he := tree_entries ih hp ra rb
      have hlen : va.length = vb.length := by
        rw [← Paired.length ra, ← Paired.length rb]
        exact hl
      have t := EqTree.dicts (n := n) (e := fun _ => true) hne ya yb da db (fun k v y hm hv => by
        obtain ⟨y', h1, h2⟩ := he k v hm
        rw [hv] at h1
        cases h1
        exact h2)
      have e2 : (va.all fun p => (valueAt vb p.1).isSome && true) = true := List.all_eq_true.mpr fun q hq => by
        obtain ⟨y', h1, _⟩ := he q.1 q.2 hq
        rw [h1]
        rfl
      rw [e2, hlen] at t
      simpa using t
end

end Lv

/-! ### != of equal lists, of equal dicts -/
namespace PySem.SeqAt
open AutoSeq1 (wpAny_loadPart')
open MeetsSeq MeetsSeq2 MeetsSeq3 SeqRoads2
section
variable {prog : Program} {w : World}
abbrev lvL (a : Addr) (xs : Array Value) (n : Nat) (dd : Option Addr) (sl : Array (Option Value)) (s : Shared) : Prop := s.heap.get? a = some { cls := .type "list", dict := dd, data := .seq xs n, slots := sl }
theorem lv_ne_turns (l b : Addr) (xs ys : Array Value) (n n2 : Nat) (dd dd2 : Option Addr) (sl sl2 : Array (Option Value)) (hsz : xs.size = ys.size) (m : Nat) :
    ∀ i : Nat, xs.size - i = m → MeetsIn prog w (Builtin.«list.__eq__.loop» ⟨[.ref l, .ref b, rawInt i, rawInt 3], []⟩)
      (fun A R s => lvL l xs n dd sl s ∧ lvL b ys n2 dd2 sl2 s ∧ (∀ j (h1 : j < xs.size) (h2 : j < ys.size), EqIn prog w A.in1 s xs[j] ys[j] true) ∧ R (.ok (.ret (.bool false))) s) := by
  induction m with
  | zero =>
    intro i hk A R s h
    obtain ⟨hp, g, d, tk, os⟩ := s
    obtain ⟨q1, q2, he, h⟩ := h
    wp_walk using wpAny_loadPart' q1, wpAny_loadPart' q2
    have z1 : xs[((i : Nat) : Int).toNat]? = none := by simp; omega
    have z2 : ys[((i : Nat) : Int).toNat]? = none := by simp; omega
    rw [z1, z2]
    wp_walk using wpAny_loadPart' q1, wpAny_loadPart' q2
    show R (.ok (.ret (.bool (xs.size != ys.size)))) _
    rw [hsz]
    simpa using h
  | succ m ih =>
    intro i hk A R s h
    obtain ⟨hp, g, d, tk, os⟩ := s
    obtain ⟨q1, q2, he, h⟩ := h
    wp_walk using wpAny_loadPart' q1, wpAny_loadPart' q2
    have k1 : i < xs.size := by omega
    have k2 : i < ys.size := by omega
    have z1 : xs[((i : Nat) : Int).toNat]? = some xs[i] := by simp [k1]
    have z2 : ys[((i : Nat) : Int).toNat]? = some ys[i] := by simp [k2]
    have hc : ((i : Int) + 1) = ((i + 1 : Nat) : Int) := by push_cast; rfl
    rw [z1, z2]
    refine wpAny_bind (he i k1 k2 _ _ ?_)
    wp_walk
    rw [hc]
    exact ⟨plainId_quiet plain_eq_loop _, codeAny_builtin entry_eq_loop (by
      rw [Around.under_plainId plain_eq_loop _]
      exact ih (i + 1) (by omega) A R _ ⟨q1, q2, he, h⟩)⟩
theorem lv_list_ne (l b : Addr) (xs ys : Array Value) (n n2 : Nat) (dd dd2 : Option Addr) (sl sl2 : Array (Option Value)) (hsz : xs.size = ys.size) :
    MeetsIn prog w (Builtin.«list.__ne__» ⟨[.ref l, .ref b], []⟩)
      (fun A R s => lvL l xs n dd sl s ∧ lvL b ys n2 dd2 sl2 s ∧ (∀ j (h1 : j < xs.size) (h2 : j < ys.size), EqIn prog w A.in1 s xs[j] ys[j] true) ∧ R (.ok (.ret (.bool false))) s) := by
  intro A R s h
  obtain ⟨hp, g, d, tk, os⟩ := s
  obtain ⟨q1, q2, he, h⟩ := h
  have f3 := AutoSeq1.sub_list_list
  have hne : ¬ (xs.size != ys.size) = true := by simp [hsz]
  wp_walk using wpAny_loadPart' q1, wpAny_loadPart' q2
  exact ⟨plainId_quiet plain_eq_loop _, codeAny_builtin entry_eq_loop (by
    rw [Around.under_plainId plain_eq_loop _]
    exact lv_ne_turns l b xs ys n n2 dd dd2 sl sl2 hsz _ 0 rfl A R _ ⟨q1, q2, he, h⟩)⟩
theorem lv_rc_ne {A : Around} {s : Shared} {E : Value → Shared → Prop} {l b : Addr} {xs ys : Array Value} {Q : Value → Shared → Prop} (hl : s.heap.IsList l xs) (hb : s.heap.IsList b ys) (hsz : xs.size = ys.size) (hu : A.units < cLine)
    (he : ∀ j (h1 : j < xs.size) (h2 : j < ys.size), EqIn prog w A.in1 s xs[j] ys[j] true) (h : Q (.bool false) s) : wpAny (model prog w) A (richCompare .NotEq (.ref l) (.ref b)) Q E s := by
  obtain ⟨⟨cls, dd, data, sl⟩, g1, hc, n, hd⟩ := id hl
  obtain ⟨⟨cls2, dd2, data2, sl2⟩, g2, hc2, n2, hd2⟩ := id hb
  simp only at hc hd hc2 hd2
  subst hc hd hc2 hd2
  have ta : s.TypeIs (.ref l) "list" := ⟨_, g1, rfl⟩
  have tb : s.TypeIs (.ref b) "list" := ⟨_, g2, rfl⟩
  exact wpAny_richCompare_same_room (op := .NotEq) ta tb F.slot_list_ne (call_meetsIn F.slot_list_ne ta F.entry_list_ne (F.args_list_ne_2 _ _) (lv_list_ne l b xs ys n n2 dd dd2 sl sl2 hsz)
    ⟨g1, g2, he, show Value.bool false ≠ Value.notImplemented ∧ Q (.bool false) s from ⟨(fun x => nomatch x), h⟩⟩) hu
end
end PySem.SeqAt
namespace PySem.W
open PySem PySem.Calls PyProof.Rows PyProof.V PySem.Spec
section
variable {prog : Program} {w : World} {K : Type} [DecidableEq K] {knd : KeyKind prog w K} {A : Around} {E : Value → Shared → Prop} {s : Shared}
theorem lv_dict_ne {a b : Addr} {ka kb : List (K × Value)} {r : Bool} {Q : Value → Shared → Prop} (y1 : (a == sysModules) = false) (y2 : (b == sysModules) = false) (da : s.heap.DictOf knd a ka) (db : s.heap.DictOf knd b kb) (hu : A.units < cLine)
    (hits : ka.length = kb.length → KeqHitsIn prog w A.in1 s kb ka r) (h : Q (.bool (!(ka.length == kb.length && r))) s) : wpAny (model prog w) A (compareOp .NotEq (.ref a) (.ref b)) Q E s := by
  refine wpAny_richCompare_same_room (op := .NotEq) da.typeIs db.typeIs PySem.F.slot_dict_ne (wpAny_call_entry PySem.F.slot_dict_ne da.typeIs PySem.F.entry_dict_ne ?_ (PySem.F.args_dict_ne_2 _ _)) hu
  show wpAny _ _ (Builtin.Dict.dictSlotArgs "__ne__" ⟨[.ref a, .ref b], []⟩ >>= _) _ _ s
  refine wpAny_bind ?_
  unfold Builtin.Dict.dictSlotArgs
  refine wpAny_bind (wpAny_notOrdered_dict da.typeIs ?_)
  show wpAny _ _ (pure (Value.ref a, Value.ref b)) _ _ s
  refine wpAny_pure (wpAny_bind (wpAny_isInstance (T := "dict") db.typeIs PySem.F.sub_dict_dict ?_))
  simp only [Bool.not_true, Bool.false_eq_true, if_false]
  refine wpAny_bind (wpAny_pure (wpAny_bind (wpAny_pure (wpAny_bind (keq_samePairsIn y1 y2 da db hits ?_)))))
  refine wpAny_pure ⟨_, rfl, ?_, ?_⟩
  · exact fun x => nomatch x
  · simpa using h
end
end PySem.W
namespace Lv
open PySem PySem.Spec PyProof.Rows L2
open PySem.W (EqTree)
section
variable {E : Ev} {k : Nat} {N : List Str} {sc : Scope} {dd : Bool} {X : Cx} {H : Hp} {Q : VK} {a b : Addr} {n : Nat}
theorem o_eq_lx {xs ys : List V} (c : Cxt E k N sc dd X) (ha : SqL E.K H a xs) (hb : SqL E.K H b ys) (pr : Paired (EqX E.K H n) xs ys) (hn : n ≤ 20) (q : Q (.bl true) H) : WCo X .Eq (.ref a) (.ref b) H Q := by
  refine ⟨fun pins s σ v u I rx ry => ?_⟩
  obtain rfl : v = Value.ref a := rx
  obtain rfl : u = Value.ref b := ry
  rw [← c.hK] at ha hb pr
  obtain ⟨us, r1, p1, _⟩ := I.list ha
  obtain ⟨ws, r2, p2, _⟩ := I.list hb
  have hsz : us.toArray.size = ws.toArray.size := by
    have := Paired.length pr
    rw [List.size_toArray, List.size_toArray, ← r1.length, ← r2.length]
    exact this
  have hu := c.hu64
  refine SeqAt.rcIn_lists (e := fun _ => true) p1.isList p2.isList hsz (by omega) (fun j h1 h2 => (tree_items (eqx_tree I n) pr r1 r2 j h1 h2).at _ (by show X.A.units + 1 + n < cLine; omega)) ?_
  rw [all_true]
  exact ⟨.bl true, H, I, rfl, q⟩
theorem o_ne_lx {xs ys : List V} (c : Cxt E k N sc dd X) (ha : SqL E.K H a xs) (hb : SqL E.K H b ys) (pr : Paired (EqX E.K H n) xs ys) (hn : n ≤ 20) (q : Q (.bl false) H) : WCo X .NotEq (.ref a) (.ref b) H Q := by
  refine ⟨fun pins s σ v u I rx ry => ?_⟩
  obtain rfl : v = Value.ref a := rx
  obtain rfl : u = Value.ref b := ry
  rw [← c.hK] at ha hb pr
  obtain ⟨us, r1, p1, _⟩ := I.list ha
  obtain ⟨ws, r2, p2, _⟩ := I.list hb
  have hsz : us.toArray.size = ws.toArray.size := by
    have := Paired.length pr
    rw [List.size_toArray, List.size_toArray, ← r1.length, ← r2.length]
    exact this
  have hu := c.hu64
  exact SeqAt.lv_rc_ne p1.isList p2.isList hsz (by omega) (fun j h1 h2 => (tree_items (eqx_tree I n) pr r1 r2 j h1 h2).at _ (by show X.A.units + 1 + n < cLine; omega)) ⟨.bl false, H, I, rfl, q⟩
theorem o_ne_dx {ks ls : List (Key × V)} (c : Cxt E k N sc dd X) (ha : H a = some (.dK ks)) (hb : H b = some (.dK ls)) (hl : ks.length = ls.length) (hp : ∀ p ∈ ks, ∃ u, valV ls p.1 = some u ∧ EqX E.K H n p.2 u) (hn : n ≤ 20) (q : Q (.bl false) H) :
    WCo X .NotEq (.ref a) (.ref b) H Q := by
  refine ⟨fun pins s σ v u I rx ry => ?_⟩
  obtain rfl : v = Value.ref a := rx
  obtain rfl : u = Value.ref b := ry
  rw [← c.hK] at hp
  obtain ⟨_, ya, va, ra, da⟩ := (show ObjOk X.prog X.w H s.heap a (.dK ks) from I.hok a _ ha)
  obtain ⟨_, yb, vb, rb, db⟩ := (show ObjOk X.prog X.w H s.heap b (.dK ls) from I.hok b _ hb)
  have he := tree_entries (eqx_tree I n) hp ra rb
  have hlen : va.length = vb.length := by
    rw [← Paired.length ra, ← Paired.length rb]
    exact hl
  have hu := c.hu64
  have e2 : (va.all fun p => (valueAt vb p.1).isSome && true) = true := List.all_eq_true.mpr fun q hq => by
    obtain ⟨y', h1, _⟩ := he q.1 q.2 hq
    rw [h1]
    rfl
  refine PySem.W.lv_dict_ne (r := true) ya yb da db (by omega) (fun _ => ?_) ?_
  · have t := PySem.W.KeqHitsIn.of (prog := X.prog) (w := X.w) (A := X.A.in1) (s := s) (kb := vb) (e := fun _ => true) va fun k v y hm hv => by
      obtain ⟨y', h1, h2⟩ := he k v hm
      rw [hv] at h1
      cases h1
      exact h2.at _ (by show X.A.units + 1 + n < cLine; omega)
    rw [e2] at t
    exact t
  · rw [hlen]
    refine ⟨.bl false, H, I, ?_, q⟩
    show RelV (.bl false) (.bool (!(vb.length == vb.length && true)))
    rw [beq_self_eq_true]
    rfl
/-- d != {} -/
theorem o_ne_d0 {ks : List (Key × V)} (c : Cxt E k N sc dd X) (ha : H a = some (.dK ks)) (hb : H b = some (.dK [])) (q : Q (.bl (!decide (ks = []))) H) : WCo X .NotEq (.ref a) (.ref b) H Q := by
  refine ⟨fun pins s σ v u I rx ry => ?_⟩
  obtain rfl : v = Value.ref a := rx
  obtain rfl : u = Value.ref b := ry
  obtain ⟨_, ya, va, ra, da⟩ := (show ObjOk X.prog X.w H s.heap a (.dK ks) from I.hok a _ ha)
  obtain ⟨_, yb, vb, rb, db⟩ := (show ObjOk X.prog X.w H s.heap b (.dK []) from I.hok b _ hb)
  have hu := c.hu64
  have l1 : ks.length = va.length := Paired.length ra
  have l2 : 0 = vb.length := Paired.length rb
  have hv0 : vb = [] := List.length_eq_zero_iff.mp l2.symm
  subst hv0
  refine PySem.W.lv_dict_ne (r := true) ya yb da db (by omega) (fun e => ?_) ?_
  · have e0 : va = [] := List.length_eq_zero_iff.mp e
    subst e0
    exact .nil
  · refine ⟨.bl (!decide (ks = [])), H, I, ?_, q⟩
    have : decide (ks = []) = (va.length == ([] : List (Key × Value)).length && true) := by
      cases ks with
      | nil => rw [← l1]; rfl
      | cons p r => rw [← l1]; simp
    rw [this]
    rfl
end
end Lv
namespace Lv
open PySem PySem.Spec PyProof.Rows L2

theorem of_range {α : Type} {R : α → V → Prop} {l : List α} {ys : List V} (p : Paired (fun i y => ∃ a, l[i]? = some a ∧ R a y) (List.range l.length) ys) : Paired R l ys := by
  have hl : l.length = ys.length := by rw [← Paired.length p, List.length_range]
  refine pair_of hl fun i x y h1 h2 => ?_
  obtain ⟨j, h3, a, h4, h5⟩ := pair_at' p h2
  have hi : i < l.length := (List.getElem?_eq_some_iff.mp h1).1
  rw [List.getElem?_range hi] at h3
  injection h3 with h3
  rw [← h3, h1] at h4
  injection h4 with h4
  rw [h4]
  exact h5
/-- a list of pairs (name, part) -/
def PairA (E : Ev) (H : Hp) (q : Str × Int) (y : V) : Prop := ∃ t u, y = .ref t ∧ SqT E.K H t [.str q.1, .ref u] ∧ PtA E H u q.2
theorem PairA.ts {E : Ev} {H H' : Hp} {q : Str × Int} {y : V} (s : TS H H') (h : PairA E H q y) : PairA E H' q y := by
  obtain ⟨t, u, h1, h2, h3⟩ := h
  exact ⟨t, u, h1, s.sqt h2, h3.ts s⟩
theorem pairs_kvs {E : Ev} {H : Hp} : ∀ {d : Dc} {ys : List V}, Paired (PairA E H) d ys → ∃ (ps : List Addr) (kvs : List (Key × V)), ys = ps.map V.ref ∧ Paired (fun p kv => SqT E.K H p [kV kv.1, kv.2]) ps kvs ∧ DR E H kvs d ∧ kvs.map (·.1) = (d.map (·.1)).map Sum.inr
  | _, _, .nil => ⟨[], [], rfl, .nil, .nil, rfl⟩
  | q :: d, y :: ys, .cons r t => by
    obtain ⟨ps, kvs, e1, e2, e3, e4⟩ := pairs_kvs t
    obtain ⟨tt, u, rfl, ht, hu⟩ := r
    exact ⟨tt :: ps, (.inr q.1, .ref u) :: kvs, by rw [e1]; rfl, .cons ht e2, .cons ⟨rfl, u, rfl, hu⟩ e3, by rw [List.map_cons, List.map_cons, List.map_cons, e4]⟩
section
variable {E : Ev} {k : Nat} {N : List Str} {sc : Scope} {dd : Bool} {X : Cx} {H : Hp} {Q : VK}
/-- dict(pairs) of names and parts -/
theorem c_dict_q {a : Addr} {ys : List V} {d : Dc} (c : Cxt E k N sc dd X) (h : SqL E.K H a ys) (hp : Paired (PairA E H) d ys) (nd : (d.map (·.1)).Nodup) (q : ∀ p kvs, H p = none → DA E (upd H p (.dK kvs)) p d → Q (.ref p) (upd H p (.dK kvs))) : WC X (.type "dict") [.ref a] H Q := by
  obtain ⟨ps, kvs, rfl, e2, e3, e4⟩ := pairs_kvs hp
  have ndk : (kvs.map (·.1)).Nodup := by
    rw [e4]
    exact List.Pairwise.map _ (fun a b h z => h (by injection z)) nd
  exact c_dict_p c h e2 ndk fun p hp => q p kvs hp ⟨kvs, upd_same, e3.ts (Same.new hp).ts⟩
end
/-- the law's lets: pairs (name, told) -/
def LtA (E : Ev) (F : Hp) (v : V) (q : Str × Wt) : Prop := ∃ t u, v = .ref t ∧ SqT E.K F t [.str q.1, u] ∧ Told E F q.2 u
theorem LtA.mono {E : Ev} {F F' : Hp} {v : V} {q : Str × Wt} (s : Same F F') (h : LtA E F v q) : LtA E F' v q := by
  obtain ⟨t, u, h1, h2, h3⟩ := h
  exact ⟨t, u, h1, s.tup h2, h3.mono s⟩
def LtL (E : Ev) (F : Hp) (l : Addr) (lets : Ls) : Prop := ∃ ys, F l = some (.lst ys) ∧ Paired (LtA E F) ys lets
theorem LtL.mono {E : Ev} {F F' : Hp} {l : Addr} {lets : Ls} (s : Same F F') (h : LtL E F l lets) : LtL E F' l lets := by
  obtain ⟨ys, h1, h2⟩ := h
  exact ⟨ys, s _ _ h1, Paired.mapP h2 fun _ _ z => z.mono s⟩
def spLdues (E : Ev) : Pr := fun vs H Q => ∃ l a lets d, vs = [.ref l, .ref a] ∧ LtL E H l lets ∧ DA E H a d ∧ lets.length ≤ 1000 ∧ d.length ≤ 1000 ∧ okLets (fun x => (dget d x).isSome = true) lets ∧ (lets.map (·.1)).Nodup ∧
  ∀ D H', Same H H' → H D = none → DA E H' D (duesF lets d) → Q (.ref D) H'
/-- dues by what is known at last -/
def lookF (lets : Ls) (kd : Dc) : Dc := lets.map fun q => (q.1, (dget kd q.1).getD 0)
theorem lookF_put {l : Ls} {kd : Dc} {x : Str} {z : Int} (h : x ∉ l.map (·.1)) : lookF l (dput kd x z) = lookF l kd := by
  unfold lookF
  refine List.map_congr_left fun q hq => ?_
  have : ¬ q.1 = x := fun e => h (List.mem_map.mpr ⟨q, hq, e⟩)
  rw [dget_put, if_neg this]
theorem nodup_take {lets : Ls} (nd : (lets.map (·.1)).Nodup) {i : Nat} {x : Str} {w : Wt} (h : lets[i]? = some (x, w)) : x ∉ (lets.take i).map (·.1) := by
  intro hm
  obtain ⟨q, hq1, hq2⟩ := List.mem_map.mp hm
  rw [List.mem_take_iff_getElem] at hq1
  obtain ⟨j, hj, ej⟩ := hq1
  have hi := (List.getElem?_eq_some_iff.mp h)
  obtain ⟨hi1, hi2⟩ := hi
  have hj : j < i ∧ j < lets.length := by omega
  have e1 : (lets.map (·.1))[j]'(by rw [List.length_map]; omega) = (lets.map (·.1))[i]'(by rw [List.length_map]; omega) := by
    rw [List.getElem_map, List.getElem_map, ej, hi2]
    exact hq2
  exact List.pairwise_iff_getElem.mp nd j i _ _ hj.1 e1
end Lv
namespace Lv
open PySem PySem.Spec PyProof.Rows L2

section
variable {E : Ev} {k : Nat} {N : List Str} {sc : Scope} {dd : Bool} {X : Cx} {σ : L2.St} {H : Hp} {Q : VK} {e st : Expr} {pos p3 : Pos}
theorem pick_one (items : Array Value) : slicePick items none none (some 1) = slicePick items none none none := rfl
/-- xs[::step], the step 1 or -1 -/
theorem w_sliceS (c : Cxt E k N sc dd X) (q : W X e σ H fun y H1 => ∃ a xs, y = .ref a ∧ SqL E.K H1 a xs ∧ W X st σ H1 fun z H2 => SqL E.K H2 a xs ∧ ((z = .int 1 ∧ ∀ p, H2 p = none → Q (.ref p) (upd H2 p (.lst xs))) ∨ (z = .int (-1) ∧ ∀ p, H2 p = none → Q (.ref p) (upd H2 p (.lst xs.reverse))))) :
    W X (.Subscript e (.Slice none none (some st) p3) pos) σ H Q := by
  refine ⟨fun pins s I => ?_⟩
  refine Subscript_ (thn (q.run pins s I) fun v s1 ⟨x, H1, I1, r1, a, xs, ex, hx0, q1⟩ => ?_)
  subst ex
  obtain rfl : v = Value.ref a := r1
  refine wpAny_Slice (thn (po_none.run pins s1 σ H1 (fun o H2 => o = none ∧ H2 = H1) I1 ⟨rfl, rfl⟩) fun vl s2 ⟨l, H2, I2, pl, el, e2⟩ => ?_)
  subst el e2
  refine thn (po_none.run pins s2 σ H2 (fun o H3 => o = none ∧ H3 = H2) I2 ⟨rfl, rfl⟩) fun vu s3 ⟨u, H3, I3, pu, eu, e3⟩ => ?_
  subst eu e3
  refine thn ((po_some (X := X) (e := st) w_pe).run pins s3 σ H3 (fun o H4 => SqL E.K H4 a xs ∧ ((o = some 1 ∧ ∀ p, H4 p = none → Q (.ref p) (upd H4 p (.lst xs))) ∨ (o = some (-1) ∧ ∀ p, H4 p = none → Q (.ref p) (upd H4 p (.lst xs.reverse))))) I3 (q1.mono fun z H2 ⟨k1, k2⟩ => ?_)) fun vs s4 ⟨o, H4, I4, ps, hx, ho⟩ => ?_
  · rcases k2 with ⟨rfl, k2⟩ | ⟨rfl, k2⟩
    · exact ⟨1, rfl, k1, .inl ⟨rfl, k2⟩⟩
    · exact ⟨-1, rfl, k1, .inr ⟨rfl, k2⟩⟩
  · rw [← c.hK] at hx
    have I5 : Inv X pins σ H4 { s4 with heap := s4.heap.push { cls := .type "slice", data := .fields #[vl, vu, vs] } } := I4.kept (t' := s4.toks) fun b ob q => Heap.get?_push_of_some _ q
    obtain ⟨its, r, ht, hz⟩ := I5.list hx
    have hlen := r.length
    show wpAny (model X.prog X.w) X.A (subscriptTail e (.Slice none none (some st) p3) (.ref a) (.ref s4.heap.objs.size)) (EP X pins σ Q) X.xe { s4 with heap := s4.heap.push { cls := .type "slice", data := .fields #[vl, vu, vs] } }
    refine tail_any (ops := [.ref a, .ref s4.heap.objs.size]) ht.isList.typeIs (PySem.slot_list_getitem.lookup) ?_ (by with_unfolding_all rfl)
    rcases ho with ⟨rfl, k2⟩ | ⟨rfl, k2⟩
    · refine wpAny_getItem_list_slice ht.isList (Heap.IsSliceOf.new _ vl vu vs) pl pu ps (by decide) ?_ (by rw [List.size_toArray]; omega)
      have ec : cutV xs none none = xs := by
        unfold cutV
        rw [HT.sIx_none, HT.sIx_none, List.drop_zero, Nat.sub_zero, List.take_length]
      have ep : slicePick its.toArray none none (some 1) = its.toArray := by
        rw [pick_one, slicePick_cut, HT.sIx_none, HT.sIx_none, List.drop_zero, Nat.sub_zero, List.take_length]
      rw [ep]
      refine ⟨.ref _, _, I5.laid (t' := s4.toks) (o := .lst xs) (fun b ob q => Heap.get?_push_of_some _ q) (Nat.le_refl _) ?_, rfl, k2 _ (I5.hok.fresh (Nat.le_refl _))⟩
      exact ⟨hz, _, 0, r, Heap.get?_push_size _ rfl⟩
    · refine wpAny_getItem_list_slice ht.isList (Heap.IsSliceOf.new _ vl vu vs) pl pu ps (by decide) ?_ (by rw [List.size_toArray]; omega)
      rw [PySem.W.krv_pick]
      refine ⟨.ref _, _, I5.laid (t' := s4.toks) (o := .lst xs.reverse) (fun b ob q => Heap.get?_push_of_some _ q) (Nat.le_refl _) ?_, rfl, k2 _ (I5.hok.fresh (Nat.le_refl _))⟩
      exact ⟨by rw [List.length_reverse]; exact hz, _, 0, r.reverse, Heap.get?_push_size _ rfl⟩
end
def spLcarried (E : Ev) : Pr := fun vs H Q => ∃ p l, ∃ tk : List Str, ∃ cell : Int, ∃ lets, vs = [.ref p, .ref l, .int cell] ∧ Ch E H p tk lets ∧ H l = some (.lst (tk.map V.str)) ∧ 1 ≤ tk.length ∧ tk.length ≤ 5 ∧ tk.Nodup ∧ lets ≠ [] ∧ lets.length ≤ 1000 ∧
  ∀ D car H', Same H H' → H D = none → CA H' D car → (car.map (·.1)).Nodup → car.length < tk.length → (∀ q ∈ car, q.1 ∈ tk ∧ q.2 ∈ lets.map (·.1)) → Q (.ref D) H'
def spLsmall (E : Ev) : Pr := fun vs H Q => ∃ l, ∃ nms : List Str, ∃ cell : Int, vs = [.ref l, .int cell] ∧ H l = some (.lst (nms.map V.str)) ∧ nms.length ≤ 100 ∧ nms.Nodup ∧
  ∀ D d H', Same H H' → H D = none → DA E H' D d → AmOk d nms → Q (.ref D) H'
theorem carK_put {c : Cr} {x l : Str} (h : x ∉ c.map (·.1)) : putK (carK c) (.inr x) (.str l) = carK (c ++ [(x, l)]) := by
  unfold putK
  rw [if_neg]
  · unfold carK
    rw [List.map_append]
    rfl
  · intro e
    obtain ⟨q, h1, h2⟩ := List.any_eq_true.mp e
    obtain ⟨q0, h3, rfl⟩ := List.mem_map.mp h1
    have h2 : (Sum.inr q0.1 : Key) = .inr x := of_decide_eq_true h2
    injection h2 with h2
    exact h (List.mem_map.mpr ⟨q0, h3, h2⟩)
theorem paired_rev {α β : Type} {R : α → β → Prop} : ∀ {xs : List α} {ys : List β}, Paired R xs ys → Paired R xs.reverse ys.reverse
  | _, _, .nil => .nil
  | _, _, .cons r t => by
    rw [List.reverse_cons, List.reverse_cons]
    exact Paired.snoc (paired_rev t) r
theorem nodup_rev {α : Type} {l : List α} (h : l.Nodup) : l.reverse.Nodup := List.pairwise_reverse.mpr (List.Pairwise.imp (fun h e => h e.symm) h)
theorem strs_at {xs : List Str} {i : Nat} {y : V} (h : (xs.map V.str)[i]? = some y) : ∃ x, xs[i]? = some x ∧ y = .str x := by
  rw [List.getElem?_map] at h
  cases q : xs[i]? with
  | none => rw [q] at h; cases h
  | some x => rw [q] at h; cases h; exact ⟨x, rfl, rfl⟩
theorem at_mod {xs : List V} {m : Int} (h : xs ≠ []) : ∃ y, atI xs (m % (xs.length : Nat)) = some y ∧ y ∈ xs := by
  have hp : 0 < xs.length := List.length_pos_iff.mpr h
  have h1 := Int.emod_nonneg m (show ((xs.length : Nat) : Int) ≠ 0 by omega)
  have h2 := Int.emod_lt_of_pos m (show (0 : Int) < ((xs.length : Nat) : Int) by omega)
  obtain ⟨j, hj⟩ := Int.eq_ofNat_of_zero_le h1
  rw [hj] at h2 ⊢
  have hl : j < xs.length := by omega
  exact ⟨xs[j], atI_nat (List.getElem?_eq_getElem hl), List.getElem_mem hl⟩
end Lv
namespace Lv
open PySem PySem.Spec PyProof.Rows L2

def spLyears (E : Ev) : Pr := fun vs H Q => ∃ l1 l2 cd rl, ∃ tk : List Str, ∃ lets car rows, ∃ rs : List Addr, vs = [.ref l1, .ref l2, .ref cd, .ref rl] ∧ H l1 = some (.lst (tk.map V.str)) ∧ LtL E H l2 lets ∧ CA H cd car ∧ H rl = some (.lst (rs.map V.ref)) ∧ Paired (DA E H) rs rows ∧
  ChOk tk lets car ∧ (∀ d ∈ rows, AmOk d (freeOf tk car)) ∧ rows.length ≤ 5000 ∧
  ∀ D ys H', Same H H' → H D = none → H' D = some (.lst ys) → Paired (YN E H H') ys (yearsF tk lets car rows []) → Q (.ref D) H'
theorem few_of {α : Type} [DecidableEq α] : ∀ {l m : List α}, l.Nodup → (∀ x ∈ l, x ∈ m) → l.length ≤ m.length
  | [], _, _, _ => Nat.zero_le _
  | a :: l, m, nd, h => by
    rw [List.nodup_cons] at nd
    have ha := h a List.mem_cons_self
    have h2 : ∀ x ∈ l, x ∈ m.erase a := fun x hx => (List.mem_erase_of_ne (fun (e : x = a) => nd.1 (by rw [← e]; exact hx))).mpr (h x (List.mem_cons_of_mem _ hx))
    have h3 := few_of nd.2 h2
    rw [List.length_erase_of_mem ha] at h3
    have h4 : 0 < m.length := List.length_pos_of_mem ha
    rw [List.length_cons]
    omega
/-- just these names: none else -/
theorem AmOk.none {d : Dc} {nms : List Str} (h : AmOk d nms) (nd : nms.Nodup) {x : Str} (hx : x ∉ nms) : dget d x = none := by
  cases q : dget d x with
  | none => rfl
  | some z =>
    have h1 : x ∈ d.map (·.1) := List.mem_map.mpr ⟨_, dget_mem q, rfl⟩
    have h2 := few_of (l := x :: nms) (m := d.map (·.1)) (List.nodup_cons.mpr ⟨hx, nd⟩) fun y hy => by
      rcases List.mem_cons.mp hy with rfl | hy
      · exact h1
      · have h3 := h.get y hy
        cases q3 : dget d y with
        | none => rw [q3] at h3; cases h3
        | some w => exact List.mem_map.mpr ⟨_, dget_mem q3, rfl⟩
    rw [List.length_cons, List.length_map, h.len] at h2
    omega
theorem dput_dput {d : Dc} {x : Str} (a b : Int) (h : x ∉ d.map (·.1)) : dput (dput d x a) x b = dput d x b := by
  rw [dput_new (z := a) h, dput_new (z := b) h]
  unfold dput
  rw [if_pos (List.any_eq_true.mpr ⟨(x, a), by simp, decide_eq_true rfl⟩), List.map_append]
  congr 1
  · conv => rhs; rw [← List.map_id d]
    refine List.map_congr_left fun q hq => ?_
    have : ¬ q.1 = x := fun e => h (List.mem_map.mpr ⟨q, hq, e⟩)
    rw [if_neg this]
    rfl
  · simp
theorem free_nodup {tk : List Str} {car : Cr} (h : tk.Nodup) : (freeOf tk car).Nodup := List.Pairwise.filter _ h
theorem not_free {tk : List Str} {car : Cr} {x l : Str} (h : cget car x = some l) : x ∉ freeOf tk car := fun hm => by
  have := (List.mem_filter.mp hm).2
  rw [h] at this
  cases this
theorem cget_mem {c : Cr} {x l : Str} (h : cget c x = some l) : (x, l) ∈ c := by
  unfold cget at h
  cases q : c.find? (fun q => decide (q.1 = x)) with
  | none => rw [q] at h; cases h
  | some p =>
    rw [q] at h
    have h1 := List.find?_some q
    have h2 := List.mem_of_find?_eq_some q
    have e1 : p.1 = x := of_decide_eq_true h1
    cases h
    rw [← e1]
    exact h2
end Lv
namespace Lv
open PySem PySem.Spec PyProof.Rows L2

/-! ### the law's drawn lets -/
def letNms : List Str := ["la", "lb", "lc", "ld"]
def takeNms : List Str := ["ta", "tb", "tc", "td", "te"]
/-- a word that may stand under these names -/
structure Gd (kn : List Str) (n : Nat) (w : Wt) : Prop where
  good : w.good
  ok : w.okN (fun y => y ∈ kn)
  deep : w.deep ≤ n
  size : w.size ≤ 4 * n
def PlOk : List Str → Ls → Prop
  | _, [] => True
  | kn, (x, w) :: r => nameB x = true ∧ x ∉ kn ∧ Gd kn 8 w ∧ PlOk (kn ++ [x]) r
theorem PlOk.snoc {x : Str} {w : Wt} : ∀ {l : Ls} {kn : List Str}, PlOk kn l → nameB x = true → x ∉ kn ++ l.map (·.1) → Gd (kn ++ l.map (·.1)) 8 w → PlOk kn (l ++ [(x, w)])
  | [], kn, _, h1, h2, h3 => ⟨h1, by simpa using h2, by simpa using h3, trivial⟩
  | (y, v) :: r, kn, ⟨k1, k2, k3, k4⟩, h1, h2, h3 => by
    refine ⟨k1, k2, k3, PlOk.snoc k4 h1 ?_ ?_⟩
    · rw [List.append_assoc]
      exact h2
    · rw [List.append_assoc]
      exact h3
theorem PlOk.okLets : ∀ {l : Ls} {kn : List Str} {p : Str → Prop}, PlOk kn l → (∀ x ∈ kn, p x) → okLets p l
  | [], _, _, _, _ => trivial
  | (x, w) :: r, kn, p, ⟨k1, k2, k3, k4⟩, h => ⟨k3.good, okN_mono h k3.ok, k3.deep, PlOk.okLets k4 fun y hy => by
      rcases List.mem_append.mp hy with hy | hy
      · exact .inr (h y hy)
      · exact .inl (List.mem_singleton.mp hy)⟩
theorem PlOk.okNew : ∀ {l : Ls} {kn : List Str}, PlOk kn l → okNew kn l
  | [], _, _ => trivial
  | (x, w) :: r, kn, ⟨k1, k2, k3, k4⟩ => ⟨k1, k2, k3.ok, k3.deep, Nat.le_trans k3.size (by omega), PlOk.okNew k4⟩
theorem PlOk.each : ∀ {l : Ls} {kn : List Str}, PlOk kn l → (∀ x ∈ kn, nameB x = true) → ∀ q ∈ l, nameB q.1 = true ∧ q.2.good ∧ q.2.okN (fun x => nameB x = true) ∧ q.2.deep ≤ 8 ∧ q.2.size ≤ 40
  | [], _, _, _, q, hq => by cases hq
  | (x, w) :: r, kn, ⟨k1, k2, k3, k4⟩, h, q, hq => by
    rcases List.mem_cons.mp hq with rfl | hq
    · exact ⟨k1, k3.good, okN_mono h k3.ok, k3.deep, Nat.le_trans k3.size (by omega)⟩
    · refine PlOk.each k4 (fun y hy => ?_) q hq
      rcases List.mem_append.mp hy with hy | hy
      · exact h y hy
      · rw [List.mem_singleton.mp hy]
        exact k1
theorem pta_two {E : Ev} {H : Hp} {t : Addr} {r : Int} (h : SqT E.K H t [.int r, .int 1]) : PtA E H t (2 * r) := by
  unfold PtA
  rw [cn_two]
  exact h
/-- rows of two -/
structure Rw (rows : List (Int × Int)) : Prop where
  ok : RowsOk rows
  rates : RatesOk rows
theorem rw_two {a b : Int} (h1 : 0 ≤ a ∧ a ≤ 10) (h2 : -10 ≤ b ∧ b ≤ 10) : Rw [(2 * 0, 2 * a), (2 * 20, 2 * b)] := by
  refine ⟨⟨⟨by show 1 ≤ 2; omega, by show 2 ≤ 12; omega⟩, fun p hp => ?_, fun i p q hp hq => ?_⟩, fun p hp => ?_⟩
  · simp at hp
    rw [← hp]
  · match i, hp, hq with
    | 0, hp, hq =>
      simp at hp hq
      rw [← hp, ← hq]
      show (0 : Int) < 40
      omega
    | i + 1, hp, hq => simp at hq
  · simp at hp
    rcases hp with rfl | rfl <;> refine ⟨by omega, by omega, by omega⟩
/-- told, its rows' lists at places of p -/
def ToldP (E : Ev) (H : Hp) (p : Addr → Prop) : Wt → V → Prop
  | .am z, v => Told E H (.am z) v
  | .nm x, v => Told E H (.nm x) v
  | .two k a b, v => ∃ t u w, v = .ref t ∧ SqT E.K H t [.str k.word, u, w] ∧ ToldP E H p a u ∧ ToldP E H p b w
  | .bands a rows, v => ∃ t u l, v = .ref t ∧ SqT E.K H t [.str "bands", u, .ref l] ∧ ToldP E H p a u ∧ RowsA E H l rows ∧ p l
  | .steps a rows, v => ∃ t u l, v = .ref t ∧ SqT E.K H t [.str "steps", u, .ref l] ∧ ToldP E H p a u ∧ RowsA E H l rows ∧ p l
  | .iff a b c d, v => ∃ t u1 u2 u3 u4, v = .ref t ∧ SqT E.K H t [.str "if", u1, u2, u3, u4] ∧ ToldP E H p a u1 ∧ ToldP E H p b u2 ∧ ToldP E H p c u3 ∧ ToldP E H p d u4
theorem ToldP.told {E : Ev} {H : Hp} {p : Addr → Prop} : ∀ {w : Wt} {v : V}, ToldP E H p w v → Told E H w v
  | .am z, v, h => h
  | .nm x, v, h => h
  | .two k a b, v, ⟨t, u, w, h1, h2, h3, h4⟩ => ⟨t, u, w, h1, h2, h3.told, h4.told⟩
  | .bands a rows, v, ⟨t, u, w, h1, h2, h3, h4, _⟩ => ⟨t, u, w, h1, h2, h3.told, h4⟩
  | .steps a rows, v, ⟨t, u, w, h1, h2, h3, h4, _⟩ => ⟨t, u, w, h1, h2, h3.told, h4⟩
  | .iff a b c d, v, ⟨t, u1, u2, u3, u4, h1, h2, h3, h4, h5, h6⟩ => ⟨t, u1, u2, u3, u4, h1, h2, h3.told, h4.told, h5.told, h6.told⟩
theorem ToldP.imp {E : Ev} {H : Hp} {p q : Addr → Prop} (i : ∀ l, p l → q l) : ∀ {w : Wt} {v : V}, ToldP E H p w v → ToldP E H q w v
  | .am z, v, h => h
  | .nm x, v, h => h
  | .two k a b, v, ⟨t, u, w, h1, h2, h3, h4⟩ => ⟨t, u, w, h1, h2, h3.imp i, h4.imp i⟩
  | .bands a rows, v, ⟨t, u, w, h1, h2, h3, h4, h5⟩ => ⟨t, u, w, h1, h2, h3.imp i, h4, i _ h5⟩
  | .steps a rows, v, ⟨t, u, w, h1, h2, h3, h4, h5⟩ => ⟨t, u, w, h1, h2, h3.imp i, h4, i _ h5⟩
  | .iff a b c d, v, ⟨t, u1, u2, u3, u4, h1, h2, h3, h4, h5, h6⟩ => ⟨t, u1, u2, u3, u4, h1, h2, h3.imp i, h4.imp i, h5.imp i, h6.imp i⟩
/-- tuples stand, and the lists of p -/
structure Kp (E : Ev) (p : Addr → Prop) (H H' : Hp) : Prop where
  ts : TS H H'
  ls : ∀ l xs, p l → SqL E.K H l xs → SqL E.K H' l xs
theorem _root_.L2.Same.kp {E : Ev} {p : Addr → Prop} {H H' : Hp} (s : Same H H') : Kp E p H H' := ⟨s.ts, fun _ _ _ h => s.seq h⟩
theorem Kp.trans {E : Ev} {p : Addr → Prop} {H H1 H2 : Hp} (a : Kp E p H H1) (b : Kp E p H1 H2) : Kp E p H H2 := ⟨a.ts.trans b.ts, fun l xs hp h => b.ls l xs hp (a.ls l xs hp h)⟩
theorem Kp.upd {E : Ev} {p : Addr → Prop} {H : Hp} {b : Addr} {o o1 : HO} (h1 : H b = some o1) (h2 : noTup o1 = true) (hp : ∀ l, p l → l ≠ b) : Kp E p H (L2.upd H b o) := by
  refine ⟨TS.upd h1 h2, fun l xs hl h => ?_⟩
  have ne := hp l hl
  rcases h with (h | ⟨ob, h⟩) | h
  · exact .inl (.inl (by rw [upd_ne ne]; exact h))
  · exact .inl (.inr ⟨ob, by rw [upd_ne ne]; exact h⟩)
  · exact .inr h
theorem RowsA.kp {E : Ev} {p : Addr → Prop} {H H' : Hp} {l : Addr} {rows : List (Int × Int)} (s : Kp E p H H') (hp : p l) (h : RowsA E H l rows) : RowsA E H' l rows := by
  obtain ⟨ts, h1, h2⟩ := h
  exact ⟨ts, s.ls _ _ hp h1, Paired.mapP h2 fun _ _ ⟨u, w, k1, k2, k3⟩ => ⟨u, w, s.ts.sqt k1, k2.ts s.ts, k3.ts s.ts⟩⟩
theorem ToldP.kp {E : Ev} {p : Addr → Prop} {H H' : Hp} (s : Kp E p H H') : ∀ {w : Wt} {v : V}, ToldP E H p w v → ToldP E H' p w v
  | .am z, v, ⟨t, w, h1, h2, h3⟩ => ⟨t, w, h1, s.ts.sqt h2, h3.ts s.ts⟩
  | .nm x, v, ⟨t, h1, h2⟩ => ⟨t, h1, s.ts.sqt h2⟩
  | .two k a b, v, ⟨t, u, w, h1, h2, h3, h4⟩ => ⟨t, u, w, h1, s.ts.sqt h2, h3.kp s, h4.kp s⟩
  | .bands a rows, v, ⟨t, u, w, h1, h2, h3, h4, h5⟩ => ⟨t, u, w, h1, s.ts.sqt h2, h3.kp s, h4.kp s h5, h5⟩
  | .steps a rows, v, ⟨t, u, w, h1, h2, h3, h4, h5⟩ => ⟨t, u, w, h1, s.ts.sqt h2, h3.kp s, h4.kp s h5, h5⟩
  | .iff a b c d, v, ⟨t, u1, u2, u3, u4, h1, h2, h3, h4, h5, h6⟩ => ⟨t, u1, u2, u3, u4, h1, s.ts.sqt h2, h3.kp s, h4.kp s, h5.kp s, h6.kp s⟩
/-- things of which each tells a word -/
def AllT (E : Ev) (H : Hp) (p : Addr → Prop) (kn : List Str) (vs : List V) : Prop := ∀ v ∈ vs, ∃ w, ToldP E H p w v ∧ Gd kn 6 w
theorem AllT.kp {E : Ev} {H H' : Hp} {p : Addr → Prop} {kn : List Str} {vs : List V} (s : Kp E p H H') (h : AllT E H p kn vs) : AllT E H' p kn vs := fun v hv => by
  obtain ⟨w, h1, h2⟩ := h v hv
  exact ⟨w, h1.kp s, h2⟩
theorem AllT.mono {E : Ev} {H H' : Hp} {p : Addr → Prop} {kn : List Str} {vs : List V} (h : AllT E H p kn vs) (s : Same H H') : AllT E H' p kn vs := h.kp s.kp
theorem AllT.app {E : Ev} {H : Hp} {p : Addr → Prop} {kn : List Str} {vs us : List V} (h : AllT E H p kn vs) (h2 : AllT E H p kn us) : AllT E H p kn (vs ++ us) := fun v hv => (List.mem_append.mp hv).elim (h v) (h2 v)
theorem AllT.cons {E : Ev} {H : Hp} {p : Addr → Prop} {kn : List Str} {v : V} {w : Wt} {us : List V} (h : ToldP E H p w v) (g : Gd kn 6 w) (h2 : AllT E H p kn us) : AllT E H p kn (v :: us) := fun u hu => by
  rcases List.mem_cons.mp hu with rfl | hu
  · exact ⟨w, h, g⟩
  · exact h2 u hu
theorem AllT.nil {E : Ev} {H : Hp} {p : Addr → Prop} {kn : List Str} : AllT E H p kn [] := fun u hu => by cases hu
/-- the law's lets, their lists elsewhere -/
def LtP (E : Ev) (F : Hp) (p : Addr → Prop) (v : V) (q : Str × Wt) : Prop := ∃ t u, v = .ref t ∧ SqT E.K F t [.str q.1, u] ∧ ToldP E F p q.2 u
theorem LtP.kp {E : Ev} {H H' : Hp} {p : Addr → Prop} {v : V} {q : Str × Wt} (s : Kp E p H H') (h : LtP E H p v q) : LtP E H' p v q := by
  obtain ⟨t, u, h1, h2, h3⟩ := h
  exact ⟨t, u, h1, s.ts.sqt h2, h3.kp s⟩
theorem LtP.imp {E : Ev} {H : Hp} {p q : Addr → Prop} {v : V} {x : Str × Wt} (i : ∀ l, p l → q l) (h : LtP E H p v x) : LtP E H q v x := by
  obtain ⟨t, u, h1, h2, h3⟩ := h
  exact ⟨t, u, h1, h2, h3.imp i⟩
theorem LtP.lt {E : Ev} {H : Hp} {p : Addr → Prop} {v : V} {q : Str × Wt} (h : LtP E H p v q) : LtA E H v q := by
  obtain ⟨t, u, h1, h2, h3⟩ := h
  exact ⟨t, u, h1, h2, h3.told⟩
theorem gd_nm {kn : List Str} {x : Str} (h : x ∈ kn) : Gd kn 1 (.nm x) := ⟨trivial, h, Nat.le_refl _, by show 1 ≤ 4; omega⟩
theorem gd_am {kn : List Str} {z : Int} : Gd kn 1 (.am z) := ⟨trivial, trivial, Nat.le_refl _, by show 1 ≤ 4; omega⟩
theorem Gd.up {kn : List Str} {n m : Nat} {w : Wt} (h : Gd kn n w) (l : n ≤ m) : Gd kn m w := ⟨h.good, h.ok, Nat.le_trans h.deep l, Nat.le_trans h.size (by omega)⟩
theorem gd_two {kn : List Str} {n : Nat} {k : Tk} {a b : Wt} (h1 : Gd kn n a) (h2 : b.good ∧ b.okN (fun y => y ∈ kn) ∧ b.deep = 1 ∧ b.size = 1) (hn : 1 ≤ n) : Gd kn (n + 1) (.two k a b) := by
  obtain ⟨g1, g2, g3, g4⟩ := h2
  refine ⟨⟨h1.good, g1⟩, ⟨h1.ok, g2⟩, ?_, ?_⟩
  · have := h1.deep
    show 1 + max a.deep b.deep ≤ n + 1
    omega
  · have := h1.size
    show 1 + (a.size + b.size) ≤ 4 * (n + 1)
    omega
theorem gd_tn {kn : List Str} {n : Nat} {k : Tk} {a : Wt} {x : Str} (h1 : Gd kn n a) (hx : x ∈ kn) (hn : 1 ≤ n) : Gd kn (n + 1) (.two k a (.nm x)) := gd_two h1 ⟨trivial, hx, rfl, rfl⟩ hn
theorem gd_ta {kn : List Str} {n : Nat} {k : Tk} {a : Wt} {z : Int} (h1 : Gd kn n a) (hn : 1 ≤ n) : Gd kn (n + 1) (.two k a (.am z)) := gd_two h1 ⟨trivial, trivial, rfl, rfl⟩ hn
theorem gd_bands {kn : List Str} {x : Str} {rows : List (Int × Int)} (h : x ∈ kn) (r : Rw rows) : Gd kn 2 (.bands (.nm x) rows) := ⟨⟨trivial, r.ok, r.rates⟩, h, Nat.le_refl _, by show 1 + 1 ≤ 8; omega⟩
theorem gd_steps {kn : List Str} {x : Str} {rows : List (Int × Int)} (h : x ∈ kn) (r : Rw rows) : Gd kn 2 (.steps (.nm x) rows) := ⟨⟨trivial, r.ok⟩, h, Nat.le_refl _, by show 1 + 1 ≤ 8; omega⟩
theorem gd_if {kn : List Str} {x y : Str} {z : Int} (h : x ∈ kn) (h2 : y ∈ kn) : Gd kn 2 (.iff (.nm x) (.nm y) (.nm x) (.am z)) := ⟨⟨trivial, trivial, trivial, trivial⟩, ⟨h, h2, h, trivial⟩, Nat.le_refl _, by show 1 + (1 + (1 + (1 + 1))) ≤ 8; omega⟩
def spLplain (E : Ev) : Pr := fun vs H Q => ∃ l, ∃ tk : List Str, ∃ cell : Int, vs = [.ref l, .int cell] ∧ H l = some (.lst (tk.map V.str)) ∧ 1 ≤ tk.length ∧ tk.length ≤ 5 ∧ (∀ x ∈ tk, x ∈ takeNms) ∧
  ∀ D lets H', Same H H' → H D = none → LtL E H' D lets → PlOk tk lets → 1 ≤ lets.length → lets.length ≤ 4 → Q (.ref D) H'
theorem let_new {i : Nat} {x : Str} {tk : List Str} (hx : letNms[i]? = some x) (ht : ∀ x ∈ tk, x ∈ takeNms) : nameB x = true ∧ x ∉ tk ++ letNms.take i := by
  have hi : i < 4 := (List.getElem?_eq_some_iff.mp hx).1
  have key : ∀ j, j < 4 → ∀ y, letNms[j]? = some y → nameB y = true ∧ y ∉ takeNms ∧ y ∉ letNms.take j := by
    intro j hj y hy
    match j, hj, hy with
    | 0, _, hy => cases hy; decide +kernel
    | 1, _, hy => cases hy; decide +kernel
    | 2, _, hy => cases hy; decide +kernel
    | 3, _, hy => cases hy; decide +kernel
  obtain ⟨k1, k2, k3⟩ := key i hi x hx
  exact ⟨k1, fun hm => (List.mem_append.mp hm).elim (fun h => k2 (ht x h)) k3⟩
theorem abcd_at {i : Nat} (h : i < 4) : ∃ cp, atI ("abcd" : Str).cps.toList (i : Nat) = some cp ∧ letNms[i]? = some (("l" : Str) ++ (⟨#[cp]⟩ : Str)) := by
  match i, h with
  | 0, _ => exact ⟨97, by decide +kernel, by decide +kernel⟩
  | 1, _ => exact ⟨98, by decide +kernel, by decide +kernel⟩
  | 2, _ => exact ⟨99, by decide +kernel, by decide +kernel⟩
  | 3, _ => exact ⟨100, by decide +kernel, by decide +kernel⟩
end Lv
namespace Lv
open PySem PySem.Spec PyProof.Rows L2

def spBegun (E : Ev) : Pr := fun vs H Q => ∃ l, ∃ ns : List Int, vs = [.ref l] ∧ SqL E.K H l (ns.map V.int) ∧ ns.length ≤ 63 ∧
  ∀ F' H' T chp tkl ltl cd tk lets car, Same H F' → Same F' H' → F' T = some (.tup [.ref chp, .ref tkl, .ref ltl, .ref cd]) → Ch E F' chp tk lets → F' tkl = some (.lst (tk.map V.str)) → LtL E F' ltl lets → CA H' cd car → F' cd = none → ChOk tk lets car → tk.length ≤ 5 → lets.length ≤ 4 → Q (.ref T) H'
theorem mkd_gr {F H H' : Hp} (sF : Same F H) (s : Same H H') : Mkd F H (gr F H H') H' := by
  refine ⟨s, gr_ff sF, gr_up sF s, fun a u h => ?_⟩
  cases q : H a with
  | none => exact .inr rfl
  | some v => rw [gr_old q] at h; exact .inl h
theorem nodup_takeNms (j : Nat) : (takeNms.take j).Nodup := List.Pairwise.sublist (List.take_sublist _ _) (by decide +kernel)
theorem take_good {j : Nat} : ∀ x ∈ takeNms.take j, x ∈ takeNms ∧ nameB x = true := fun x hx => by
  have h := List.mem_of_mem_take hx
  refine ⟨h, ?_⟩
  have key : ∀ y ∈ takeNms, nameB y = true := by decide +kernel
  exact key x h
theorem Mkd.frz {F H : Hp} {t : Addr} {u : HO} (sF : Same F H) (h : H t = none) : Mkd F H (upd F t u) (upd H t u) := by
  have hF := none_of sF h
  refine ⟨Same.new h, Same.new hF, fun a v e => ?_, fun a v e => ?_⟩
  · by_cases z : a = t
    · rw [z, upd_same] at e ⊢
      exact e
    · rw [upd_ne z] at e ⊢
      exact sF _ _ e
  · by_cases z : a = t
    · rw [z]; exact .inr h
    · rw [upd_ne z] at e; exact .inl e
end Lv
namespace Lv
open PySem PySem.Spec PyProof.Rows L2

/-! ### an error caught and kept by a name -/
section
variable {X : Cx} {pins : List (Addr × Obj)} {σ : L2.St} {H : Hp} {s : Shared}
/-- behind the suite the error's object is still known -/
theorem inv_keepPin {a : Addr} {oe : Obj} (I : Inv (X.suite a ((a, oe) :: (X.pn ++ pins))) [] σ H s) (ok : X.Ok) : Inv X ((a, oe) :: pins) σ H s where
  ok := ok
  os := I.os
  bare := I.bare
  base := I.base
  loc := I.loc
  cell := I.cell
  free := I.free
  freeC := I.freeC
  hok := I.hok
  len := I.len
  pin := fun p hp => by
    refine I.pin p (List.mem_append_left _ ?_)
    rcases List.mem_append.mp hp with h | h
    · exact List.mem_cons_of_mem _ (List.mem_append_left _ h)
    · rcases List.mem_cons.mp h with h | h
      · rw [h]; exact List.mem_cons_self
      · exact List.mem_cons_of_mem _ (List.mem_append_right _ h)
theorem inv_dropPin {q : Addr × Obj} (I : Inv X (q :: pins) σ H s) : Inv X pins σ H s :=
  I.pins_of fun p hp => I.pin p (List.mem_append_right _ (List.mem_cons_of_mem _ hp))
theorem try_note {i j : Nat} {x n y : Str} {c cls : Value} {P : Hp → Prop} {body : List Stmt} {np py pn' pa pos pos' : Pos} {Q : Flow → Shared → Prop} (hs : X.stack = X.env :: X.outer) (hf : X.env.frame = some X.env.locals) (hN : X.N.Nodup) (hi : X.N[i]? = some n) (hln : X.env.kindOf n = some .local) (hc : Names X x c)
    (hj : X.N[j]? = some y) (hlj : X.env.scope.names.lookup y = some .local) (hv : Vis X.env.scope n ∧ (n == ("__debug__" : Str)) = false ∧ (n == ("__classdict__" : Str)) = false) (hl1 : i < σ.length) (hex : PySem.W.exmOne X.K cls c = some true)
    (hb : ∀ pn xe, Takes (X.tr pn xe) (fun cls' d σ' H' => cls' = cls ∧ d = none ∧ σ' = σ ∧ P H') → ∀ s, Inv (X.tr pn xe) [] σ H s → wpAny (model X.prog X.w) X.A (execs body X.env) (fun _ _ => False) xe s)
    (hsw : ∀ env, swapsWith (.Name n pn') (some (.Name y py)) pa.line env = pure false) (I : Inv X pins σ H s)
    (q : ∀ a oe H' s', P H' → Zc cls none oe → (∃ vs, oe.data = .fields vs) → Inv X ((a, oe) :: pins) (((σ.set i (some (.ref a))).set j (some (.ref a))).set i none) H' s' → Q .next s') :
    wpAny (model X.prog X.w) X.A (exec (.Try body [.ExceptHandler (some (.Name x np)) (some n) [.Assign [.Name y py] (.Name n pn') pa] pos'] [] [] pos) X.env) Q X.xe s := by
  have ok := I.ok
  have hfr : X.A.frames = some (X.env :: X.outer) := by rw [ok.frames, hs]
  refine wpAny_Try_except ?_
  refine wpAny_mono (hb (X.pn ++ pins) (fun e s₁ => wpAny (model X.prog X.w) X.A (noteFrame e X.env) (fun _ s₂ => wpAny (model X.prog X.w) X.A (setFlight e none) (fun _ s₃ =>
    wpAny (model X.prog X.w) X.A (handleBy e X.env [.ExceptHandler (some (.Name x np)) (some n) [.Assign [.Name y py] (.Name n pn') pa] pos']) Q X.xe s₃) X.xe s₂) X.xe s₁) (fun u s' xx => ?_) s (I.toTry _)) (fun f s1 hsp => hsp.elim) (fun e s1 he => he)
  obtain ⟨a, B, sI, pins', σ', H', cls', d, rfl, J', nb, up, sky, na, os, ag, rfl, rfl, rfl, hP⟩ := xx
  have J := J'.ofTry ok
  have sky' : Sky B (X.env :: X.outer) a (Zc cls' none) X.env.locals s'.heap := by rw [← hs]; exact sky
  show wpAny (model X.prog X.w) X.A (noteFrame (.ref a) X.env) _ _ _
  refine Sky.land Zc.steady hfr hf sky' fun h3 fl3 up3 => ?_
  have J3 : Inv X pins σ' H' { s' with heap := h3 } := J.landed nb fl3.1 (up.trans up3) os ag
  obtain ⟨oe3, vs3, he3, hz3, hd3⟩ := fl3.there
  have nfr : a ∉ frs (X.env :: X.outer) := fun hm => by
    obtain ⟨_, o', e', hnf⟩ := fl3.2.2.1.mem hm
    rw [he3] at e'
    cases e'
    exact hnf _ hd3
  have nL : a ≠ X.env.locals := fun z => nfr (List.mem_filterMap.mpr ⟨X.env, List.mem_cons_self, by rw [hf, z]⟩)
  have nF : a ∉ X.fs := fun hm => by
    obtain ⟨e, he, q⟩ := List.mem_filterMap.mp hm
    exact nfr (List.mem_filterMap.mpr ⟨e, List.mem_cons_of_mem _ he, q⟩)
  have S3 := J3.suite he3 hd3 na nL nF
  refine wpAny_handleBy_cons (codeAny_handlers_test ?_) (by intro q; cases q)
  have LT : PySem.W.Looks (model X.prog X.w) h3 (typeOf (.ref a)) cls' := fun A Q E s k q => wpAny_typeOf_ref (k _ _ he3) (by rw [hz3.1]; exact q)
  have LM := PySem.W.exm_one (M := model X.prog X.w) (J3.kIn) LT hex
  have test : ∀ {Q : Value → Shared → Prop} {E : Value → Shared → Prop}, Q c { s' with heap := h3 } → wpAny (model X.prog X.w) (X.A.mark (some (.ref a))) (eval (.Name x np) X.env) Q E { s' with heap := h3 } := fun {Q E} q => by
    obtain ⟨hg, hdbg, hm | ⟨hm, hv, hnn⟩⟩ := hc
    · exact ld_glob (X := X.suite a ((a, oe3) :: (X.pn ++ pins))) S3 hg hm q hdbg
    · exact ld_blt (X := X.suite a ((a, oe3) :: (X.pn ++ pins))) S3 hg hm hv q hnn hdbg
  refine test (LM.here ?_)
  refine codeAny_handlers_suite_as ?_
  refine HandSPX.lands_againZ fl3 fun h4 fl4 up4 => ?_
  have J4 : Inv X pins σ' H' { s' with heap := h4 } := J.landed nb fl4.1 ((up.trans up3).trans up4) os ag
  obtain ⟨oe4, vs4, he4, hz4, hd4⟩ := fl4.there
  have S4 := J4.suite he4 hd4 na nL nF
  refine store_ok (X := X.suite a ((a, oe4) :: (X.pn ++ pins))) (v := .ref a) S4 hN hi (.inl hln) rfl (fun s5 S5 => ?_) (.inr hln)
  have rule : PSs (X.suite a ((a, oe4) :: (X.pn ++ pins))) [.Assign [.Name y py] (.Name n pn') pa] _ := pss_one (ps_set (i := j) hN hj (.inl hlj) (pe_var hi hv.1 hv.2.1 hv.2.2) (hsw _) (.inr hlj))
  refine wpAny_mono (rule.run [] s5 _ H' { nx := fun σ6 H6 => σ6 = (σ'.set i (some (.ref a))).set j (some (.ref a)) ∧ H6 = H', rt := fun _ _ => False, bk := fun _ _ => False, ct := fun _ _ => False } S5 ⟨.ref a, by rw [List.getElem?_set_self hl1], rfl, rfl⟩) (fun f s6 hsp => ?_) (fun _ _ z => False.elim z)
  cases f with
  | next =>
    obtain ⟨σ6, H6, S6, rfl, rfl⟩ := hsp
    exact gone_ok (inv_keepPin S6 ok) hN hi hln fun s7 J7 => q a oe4 H6 s7 hP hz4 ⟨_, hd4⟩ J7
  | brk => obtain ⟨σ6, H6, S6, z⟩ := hsp; exact z.elim
  | cont => obtain ⟨σ6, H6, S6, z⟩ := hsp; exact z.elim
  | ret u => obtain ⟨v6, σ6, H6, S6, r6, z⟩ := hsp; exact z.elim
end
end Lv
namespace Lv
open PySem PySem.Spec PyProof.Rows L2

/-! ### the law's own tally -/
abbrev mo (am r pp g : Addr) (pls : List Addr) : List Addr := am :: r :: pp :: g :: pls
abbrev mK (r pp g : Addr) : List (Key × V) := [(.inr "rows", .ref r), (.inr "past", .ref pp), (.inr "log", .ref g)]
structure Md (E : Ev) (F H : Hp) (am r pp g : Addr) (pls : List Addr) (ns : List V) (rows : List Dc) (past : List (List Dc)) (notes : List Deed) : Prop where
  nd : (mo am r pp g pls).Nodup
  out : ∀ a ∈ mo am r pp g pls, F a = none
  ha : H am = some (.dK (mK r pp g))
  hr : RL E F H r rows
  hp : H pp = some (.lst (pls.map V.ref))
  hps : Paired (RL E F H) pls past
  hg : H g = some (.lst ns)
  hns : Paired (DeedA E F H) ns notes
section
variable {E : Ev} {F F' H H' : Hp} {am r pp g : Addr} {pls : List Addr} {ns : List V} {rows : List Dc} {past : List (List Dc)} {notes : List Deed}
theorem Md.keep (h : Md E F H am r pp g pls ns rows past notes) (ff : Same F F') (ts : TS H H') (hk : ∀ a ∈ mo am r pp g pls, H' a = H a) (ho : ∀ a ∈ mo am r pp g pls, F' a = none) : Md E F' H' am r pp g pls ns rows past notes := by
  have m1 : am ∈ mo am r pp g pls := by simp
  have m2 : r ∈ mo am r pp g pls := by simp
  have m3 : pp ∈ mo am r pp g pls := by simp
  have m4 : g ∈ mo am r pp g pls := by simp
  exact ⟨h.nd, ho, by rw [hk _ m1]; exact h.ha, h.hr.mono ff ts (hk _ m2), by rw [hk _ m3]; exact h.hp, pair_mem h.hps fun a ha y z => z.mono ff ts (hk _ (by simp [ha])), by rw [hk _ m4]; exact h.hg, Paired.mapP h.hns fun _ _ z => z.mono ff ts⟩
theorem Md.has (h : Md E F H am r pp g pls ns rows past notes) : ∀ a ∈ mo am r pp g pls, ∃ o, H a = some o ∧ noTup o = true := by
  intro a ha
  simp only [mo, List.mem_cons] at ha
  rcases ha with rfl | rfl | rfl | rfl | ha
  · exact ⟨_, h.ha, rfl⟩
  · obtain ⟨rs, h1, _⟩ := h.hr
    exact ⟨_, h1, rfl⟩
  · exact ⟨_, h.hp, rfl⟩
  · exact ⟨_, h.hg, rfl⟩
  · obtain ⟨i, hi, e⟩ := List.mem_iff_getElem.mp ha
    obtain ⟨y, _, rs, h1, _⟩ := pair_at h.hps (i := i) (x := a) (by rw [List.getElem?_eq_getElem hi, e])
    exact ⟨_, h1, rfl⟩
theorem Md.grow (h : Md E F H am r pp g pls ns rows past notes) (s : Same H H') : Md E F H' am r pp g pls ns rows past notes :=
  h.keep (Same.refl _) s.ts (fun a ha => by obtain ⟨o, e, _⟩ := h.has a ha; rw [e, s _ _ e]) h.out
theorem Md.growF (h : Md E F H am r pp g pls ns rows past notes) (fs : Same F H) (s : Same H H') : Md E (gr F H H') H' am r pp g pls ns rows past notes :=
  h.keep (gr_ff fs) s.ts (fun a ha => by obtain ⟨o, e, _⟩ := h.has a ha; rw [e, s _ _ e]) (fun a ha => by obtain ⟨o, e, _⟩ := h.has a ha; rw [gr_old e]; exact h.out a ha)
theorem Md.fresh (h : Md E F H am r pp g pls ns rows past notes) {b : Addr} (hb : H b = none) : b ∉ mo am r pp g pls := fun hm => by
  obtain ⟨o, e, _⟩ := h.has b hm
  rw [hb] at e
  cases e
/-- a ledger's step keeps the tally -/
theorem Md.stp {os os' : List Addr} (h : Md E F H am r pp g pls ns rows past notes) (s : Stp F os H F' os' H') (dis : ∀ a ∈ mo am r pp g pls, a ∉ os) : Md E F' H' am r pp g pls ns rows past notes ∧ ∀ a ∈ mo am r pp g pls, a ∉ os' := by
  refine ⟨h.keep s.ff s.ts (fun a ha => ?_) (fun a ha => ?_), fun a ha hm => ?_⟩
  · obtain ⟨o, e, _⟩ := h.has a ha
    rw [e, s.keep a o (dis a ha) e]
  · obtain ⟨o, e, _⟩ := h.has a ha
    cases q : F' a with
    | none => rfl
    | some u =>
      rcases s.fnew a u q with h1 | h1
      · rw [h.out a ha] at h1; cases h1
      · rw [e] at h1; cases h1
  · obtain ⟨o, e, _⟩ := h.has a ha
    rcases s.onew a hm with h1 | h1
    · exact dis a ha h1
    · rw [e] at h1; cases h1
theorem Md.ne (h : Md E F H am r pp g pls ns rows past notes) : am ≠ r ∧ am ≠ pp ∧ am ≠ g ∧ am ∉ pls ∧ r ≠ pp ∧ r ≠ g ∧ r ∉ pls ∧ pp ≠ g ∧ pp ∉ pls ∧ g ∉ pls := by
  have nd := h.nd
  simp only [mo, List.nodup_cons, List.mem_cons, not_or] at nd
  obtain ⟨⟨a1, a2, a3, a4⟩, ⟨b1, b2, b3⟩, ⟨c1, c2⟩, d1, _⟩ := nd
  exact ⟨a1, a2, a3, a4, b1, b2, b3, c1, c2, d1⟩
theorem Md.setR (h : Md E F H am r pp g pls ns rows past notes) {rs : List Addr} {rows' : List Dc} (hr : Paired (LDA E F H) rs rows') : Md E F (upd H r (.lst (rs.map V.ref))) am r pp g pls ns rows' past notes := by
  obtain ⟨a1, a2, a3, a4, b1, b2, b3, c1, c2, d1⟩ := h.ne
  obtain ⟨rs0, h0, _⟩ := h.hr
  have ts : TS H (upd H r (.lst (rs.map V.ref))) := TS.upd h0 rfl
  exact ⟨h.nd, h.out, by rw [upd_ne a1]; exact h.ha, ⟨rs, upd_same, Paired.mapP hr fun _ _ z => z.mono (Same.refl _) ts⟩, by rw [upd_ne (Ne.symm b1)]; exact h.hp,
    pair_mem h.hps fun a ha y z => z.mono (Same.refl _) ts (upd_ne (mem_ne b3 ha)), by rw [upd_ne (Ne.symm b2)]; exact h.hg, Paired.mapP h.hns fun _ _ z => z.mono (Same.refl _) ts⟩
theorem Md.setP (h : Md E F H am r pp g pls ns rows past notes) {b : Addr} {rows' : List Dc} (hb : b ∉ mo am r pp g pls) (hF : F b = none) (hr : RL E F H b rows') : Md E F (upd H pp (.lst ((pls ++ [b]).map V.ref))) am r pp g (pls ++ [b]) ns rows (past ++ [rows']) notes := by
  obtain ⟨a1, a2, a3, a4, b1, b2, b3, c1, c2, d1⟩ := h.ne
  have hb' := hb
  simp only [mo, List.mem_cons, not_or] at hb'
  obtain ⟨e1, e2, e3, e4, e5⟩ := hb'
  have ts : TS H (upd H pp (.lst ((pls ++ [b]).map V.ref))) := TS.upd h.hp rfl
  refine ⟨?_, ?_, by rw [upd_ne a2]; exact h.ha, h.hr.mono (Same.refl _) ts (upd_ne b1), upd_same,
    Paired.snoc (pair_mem h.hps fun a ha y z => z.mono (Same.refl _) ts (upd_ne (mem_ne c2 ha))) (hr.mono (Same.refl _) ts (upd_ne e3)), by rw [upd_ne (Ne.symm c1)]; exact h.hg, Paired.mapP h.hns fun _ _ z => z.mono (Same.refl _) ts⟩
  · show (mo am r pp g pls ++ [b]).Nodup
    refine List.nodup_append.mpr ⟨h.nd, by simp, fun x hx y hy e => ?_⟩
    rw [List.mem_singleton.mp hy] at e
    exact hb (e ▸ hx)
  · intro a ha
    rcases List.mem_append.mp (show a ∈ mo am r pp g pls ++ [b] from ha) with ha | ha
    · exact h.out a ha
    · rw [List.mem_singleton.mp ha]
      exact hF
theorem Md.setN (h : Md E F H am r pp g pls ns rows past notes) {v : V} {d : Deed} (hd : DeedA E F H v d) : Md E F (upd H g (.lst (ns ++ [v]))) am r pp g pls (ns ++ [v]) rows past (notes ++ [d]) := by
  obtain ⟨a1, a2, a3, a4, b1, b2, b3, c1, c2, d1⟩ := h.ne
  have ts : TS H (upd H g (.lst (ns ++ [v]))) := TS.upd h.hg rfl
  exact ⟨h.nd, h.out, by rw [upd_ne a3]; exact h.ha, h.hr.mono (Same.refl _) ts (upd_ne b2), by rw [upd_ne c1]; exact h.hp,
    pair_mem h.hps fun a ha y z => z.mono (Same.refl _) ts (upd_ne (mem_ne d1 ha)), upd_same, Paired.snoc (Paired.mapP h.hns fun _ _ z => z.mono (Same.refl _) ts) (hd.mono (Same.refl _) ts)⟩
theorem Md.drop {b : Addr} {rows' : List Dc} {ps : List (List Dc)} (h : Md E F H am r pp g (pls ++ [b]) ns rows past notes) (hS : past = ps ++ [rows']) :
    Md E F (upd (upd H pp (.lst (pls.map V.ref))) am (.dK (mK b pp g))) am b pp g pls ns rows' ps notes := by
  obtain ⟨a1, a2, a3, a4, b1, b2, b3, c1, c2, d1⟩ := h.ne
  simp only [List.mem_append, List.mem_singleton, not_or] at a4 b3 c2 d1
  have ts : TS H (upd (upd H pp (.lst (pls.map V.ref))) am (.dK (mK b pp g))) := (TS.upd h.hp rfl).trans (TS.upd (by rw [upd_ne a2]; exact h.ha) rfl)
  have nd := h.nd
  have hps := h.hps
  rw [hS] at hps
  have hpl : Paired (RL E F H) pls ps ∧ RL E F H b rows' := by
    have hl := Paired.length hps
    rw [List.length_append, List.length_append, List.length_singleton, List.length_singleton] at hl
    refine ⟨pair_of (by omega) fun i x y h1 h2 => ?_, ?_⟩
    · obtain ⟨y', q1, q2⟩ := pair_at hps (i := i) (x := x) (by rw [List.getElem?_append_left (List.getElem?_eq_some_iff.mp h1).1]; exact h1)
      rw [List.getElem?_append_left (List.getElem?_eq_some_iff.mp h2).1, h2] at q1
      cases q1
      exact q2
    · obtain ⟨y', q1, q2⟩ := pair_at hps (i := pls.length) (x := b) (by rw [List.getElem?_append_right (Nat.le_refl _), Nat.sub_self]; rfl)
      rw [show pls.length = ps.length by omega, List.getElem?_append_right (Nat.le_refl _), Nat.sub_self] at q1
      cases q1
      exact q2
  have hne : ∀ a, a ≠ am → a ≠ pp → upd (upd H pp (.lst (pls.map V.ref))) am (.dK (mK b pp g)) a = H a := fun a h1 h2 => by rw [upd_ne h1, upd_ne h2]
  refine ⟨?_, fun a ha => ?_, upd_same, hpl.2.mono (Same.refl _) ts (hne _ (Ne.symm a4.2) (Ne.symm c2.2)), by rw [upd_ne (Ne.symm a2), upd_same],
    pair_mem hpl.1 fun a ha y z => z.mono (Same.refl _) ts (hne _ (mem_ne a4.1 ha) (mem_ne c2.1 ha)), by rw [hne _ (Ne.symm a3) (Ne.symm c1)]; exact h.hg, Paired.mapP h.hns fun _ _ z => z.mono (Same.refl _) ts⟩
  · simp only [mo, List.nodup_cons, List.mem_cons, List.mem_append, List.mem_singleton, not_or, List.nodup_append] at nd ⊢
    obtain ⟨_, _, _, _, n1, _, n2⟩ := nd
    exact ⟨⟨a4.2, a2, a3, a4.1⟩, ⟨Ne.symm c2.2, Ne.symm d1.2, fun hm => n2 b hm b (.inl rfl) rfl⟩, ⟨c1, c2.1⟩, d1.1, n1⟩
  · have m : a ∈ mo am r pp g (pls ++ [b]) := by
      simp only [mo, List.mem_cons, List.mem_append] at ha ⊢
      rcases ha with rfl | rfl | rfl | rfl | ha <;> simp [*]
    exact h.out a m
end
theorem Stp.frame {F H F' H' : Hp} {os os' : List Addr} (s : Stp F os H F' os' H') (lo : List Addr) : Stp F (os ++ lo) H F' (os' ++ lo) H' := by
  refine ⟨s.ff, s.ts, fun a u ha h => s.keep a u (fun z => ha (List.mem_append_left _ z)) h, s.dom, s.fnew, fun a ha => ?_⟩
  rcases List.mem_append.mp ha with h | h
  · exact (s.onew a h).imp (fun z => List.mem_append_left _ z) id
  · exact .inl (List.mem_append_right _ h)
/-- something new since H is changed -/
theorem Stp.scr {F H F' H' : Hp} {os os' : List Addr} {h : Addr} {o o1 : HO} (s : Stp F os H F' os' H') (hn : H h = none) (h1 : H' h = some o1) (h2 : noTup o1 = true) : Stp F os H F' os' (L2.upd H' h o) := by
  refine ⟨s.ff, s.ts.trans (TS.upd h1 h2), fun a u ha e => ?_, fun a e => ?_, s.fnew, s.onew⟩
  · rw [upd_ne (ne_of_none e hn)]
    exact s.keep a u ha e
  · by_cases z : a = h
    · rw [z, upd_same] at e; cases e
    · rw [upd_ne z] at e; exact s.dom a e
theorem deedO_F {E : Ev} {F H H' : Hp} : ∀ {v : V} {d : Deed} {o : Option Addr}, DeedO E H' v d o → (∀ a, o = some a → H a = none) → DeedA E (gr F H H') H' v d
  | v, .add d, o, ⟨t, a, h1, h2, h3, ⟨kvs, h4, h5⟩⟩, n => ⟨t, a, h2, h3, kvs, by rw [gr_new (n a h1)]; exact h4, h5⟩
  | v, .mend y d, o, ⟨t, a, h1, h2, h3, ⟨kvs, h4, h5⟩⟩, n => ⟨t, a, h2, h3, kvs, by rw [gr_new (n a h1)]; exact h4, h5⟩
  | v, .undo, o, ⟨t, h1, h2, h3⟩, n => ⟨t, h2, h3⟩
/-- one deed of the law -/
def lstep (S : LS) : Deed → LS
  | .add d => S.add d
  | .mend y d => S.mend y d
  | .undo => if S.past = [] then S else S.undo
def okL (S : LS) : Deed → Prop
  | .add d => AmOk d (freeOf S.tk S.car) ∧ S.rows.length < 200
  | .mend y d => AmOk d (freeOf S.tk S.car) ∧ y < S.rows.length
  | .undo => True
theorem Led.fld {E : Ev} {F H : Hp} {p : Addr} {S : LS} {os : List Addr} (h : Led E F H p S os) : ∃ dx fs, H p = some (.ins (Ca E "Ledger") dx fs) ∧ (∀ m, (["rule", "carries", "rows", "past", "notes", "come"] : List Str).contains m = false → fs.lookup m = none) := by
  obtain ⟨dx, ch, cd, rl, pl, nl, pls, ns, come, h, _⟩ := h
  exact ⟨dx, _, h.hp, fun m hm => lk_no hm⟩
theorem Led.noD {E : Ev} {F H : Hp} {p : Addr} {S : LS} {os : List Addr} (h : Led E F H p S os) {b : Addr} {kvs : List (Key × V)} (hb : H b = some (.dK kvs)) : b ∉ os := by
  obtain ⟨dx, ch, cd, rl, pl, nl, pls, ns, come, h, rfl, _⟩ := h
  exact h.noD hb
theorem Led.fresh {E : Ev} {F H : Hp} {p : Addr} {S : LS} {os : List Addr} (h : Led E F H p S os) {b : Addr} (hb : H b = none) : b ∉ os := fun hm => by
  obtain ⟨o, e, _⟩ := h.has b hm
  rw [hb] at e
  cases e
/-- the ledger and the tally, side by side -/
structure Jt (E : Ev) (F H : Hp) (p : Addr) (S : LS) (os : List Addr) (am r pp g : Addr) (pls : List Addr) (ns : List V) : Prop where
  led : Led E F H p S os
  md : Md E F H am r pp g pls ns S.rows S.past S.notes
  dis : ∀ a ∈ mo am r pp g pls, a ∉ os
def spLdone (E : Ev) : Pr := fun vs H Q => ∃ F p S os am r pp g pls ns v d, vs = [.ref p, .ref am, v] ∧ Jt E F H p S os am r pp g pls ns ∧ LsOk S ∧ S.past.length ≤ 2000 ∧ S.notes.length ≤ 2000 ∧ DeedA E F H v d ∧ okL S d ∧
  ∀ F' os' H' r' pls' ns', Stp F (os ++ mo am r pp g pls) H F' (os' ++ mo am r' pp g pls') H' → Jt E F' H' p (lstep S d) os' am r' pp g pls' ns' → Q (.bl true) H'
end Lv
namespace Lv
open PySem PySem.Spec PyProof.Rows L2
local macro_rules | `(tactic| walk_at "same") => `(tactic| (refine Same.trans (by assumption) ?_; walk_at "same"))
local macro_rules | `(tactic| walk_at "same") => `(tactic| (refine Same.trans ?_ (Same.new (by assumption)); walk_at "same"))
local macro_rules | `(tactic| walk_at "same") => `(tactic| exact Same.new (by assumption))
local macro_rules | `(tactic| walk_at "same") => `(tactic| exact Same.refl _)
local macro_rules | `(tactic| walk_at "same") => `(tactic| assumption)
local macro_rules | `(tactic| walk_at "pt") => `(tactic| exact pt_up (by assumption) (by walk_at "same"))
local macro_rules | `(tactic| walk_at "pt") => `(tactic| assumption)
local macro_rules | `(tactic| walk_at "ix") => `(tactic| refine x_tup ‹Cxt _ _ _ _ _ _› (fun _ _ => rfl) (tup_up (by with_reducible assumption) (by walk_at "same")) (by rfl) ?_)
local macro_rules | `(tactic| walk_at "ix") => `(tactic| refine x_tup ‹Cxt _ _ _ _ _ _› (fun _ _ => rfl) (by with_reducible assumption) (by rfl) ?_)
local macro_rules | `(tactic| walk_at "ix") => `(tactic| refine x_p1 ‹Cxt _ _ _ _ _ _› (fun _ _ => rfl) (by walk_at "pt") ?_)
local macro_rules | `(tactic| walk_at "ix") => `(tactic| refine x_p0 ‹Cxt _ _ _ _ _ _› (fun _ _ => rfl) (by walk_at "pt") ?_)
local macro_rules | `(tactic| walk_at "bo") => `(tactic| refine o_mulL ?_)
local macro_rules | `(tactic| walk_at "bo") => `(tactic| refine o_mulR ?_)
local macro_rules | `(tactic| walk_at "bo") => `(tactic| refine o_sub ?_)
local macro_rules | `(tactic| walk_at "bo") => `(tactic| refine o_add ?_)
local macro_rules | `(tactic| walk_at "co") => `(tactic| refine o_notN ?_)
local macro_rules | `(tactic| walk_at "co") => `(tactic| refine o_isN ?_)
local macro_rules | `(tactic| walk_at "co") => `(tactic| refine o_ne_p ‹Cxt _ _ _ _ _ _› (by walk_at "pt") (by walk_at "pt") ?_)
local macro_rules | `(tactic| walk_at "co") => `(tactic| refine o_eq_p ‹Cxt _ _ _ _ _ _› (by walk_at "pt") (by walk_at "pt") ?_)
local macro_rules | `(tactic| walk_at "co") => `(tactic| refine o_eqB ?_)
local macro_rules | `(tactic| walk_at "co") => `(tactic| refine o_neS ?_)
local macro_rules | `(tactic| walk_at "co") => `(tactic| refine o_neI ?_)
local macro_rules | `(tactic| walk_at "co") => `(tactic| refine o_eqS ?_)
local macro_rules | `(tactic| walk_at "co") => `(tactic| refine o_eqI ?_)
local macro_rules | `(tactic| walk_at "co") => `(tactic| refine o_ge ?_)
local macro_rules | `(tactic| walk_at "co") => `(tactic| refine o_gt ?_)
local macro_rules | `(tactic| walk_at "co") => `(tactic| refine o_le ?_)
local macro_rules | `(tactic| walk_at "co") => `(tactic| refine o_lt ?_)
local macro_rules | `(tactic| walk_at "nm") => `(tactic| refine w_name (i := 19) ‹Cxt _ _ _ _ _ _› (by decide +kernel) rfl ?_)
local macro_rules | `(tactic| walk_at "nm") => `(tactic| refine w_name (i := 18) ‹Cxt _ _ _ _ _ _› (by decide +kernel) rfl ?_)
local macro_rules | `(tactic| walk_at "nm") => `(tactic| refine w_name (i := 17) ‹Cxt _ _ _ _ _ _› (by decide +kernel) rfl ?_)
local macro_rules | `(tactic| walk_at "nm") => `(tactic| refine w_name (i := 16) ‹Cxt _ _ _ _ _ _› (by decide +kernel) rfl ?_)
local macro_rules | `(tactic| walk_at "nm") => `(tactic| refine w_name (i := 15) ‹Cxt _ _ _ _ _ _› (by decide +kernel) rfl ?_)
local macro_rules | `(tactic| walk_at "nm") => `(tactic| refine w_name (i := 14) ‹Cxt _ _ _ _ _ _› (by decide +kernel) rfl ?_)
local macro_rules | `(tactic| walk_at "nm") => `(tactic| refine w_name (i := 13) ‹Cxt _ _ _ _ _ _› (by decide +kernel) rfl ?_)
local macro_rules | `(tactic| walk_at "nm") => `(tactic| refine w_name (i := 12) ‹Cxt _ _ _ _ _ _› (by decide +kernel) rfl ?_)
local macro_rules | `(tactic| walk_at "nm") => `(tactic| refine w_name (i := 11) ‹Cxt _ _ _ _ _ _› (by decide +kernel) rfl ?_)
local macro_rules | `(tactic| walk_at "nm") => `(tactic| refine w_name (i := 10) ‹Cxt _ _ _ _ _ _› (by decide +kernel) rfl ?_)
local macro_rules | `(tactic| walk_at "nm") => `(tactic| refine w_name (i := 9) ‹Cxt _ _ _ _ _ _› (by decide +kernel) rfl ?_)
local macro_rules | `(tactic| walk_at "nm") => `(tactic| refine w_name (i := 8) ‹Cxt _ _ _ _ _ _› (by decide +kernel) rfl ?_)
local macro_rules | `(tactic| walk_at "nm") => `(tactic| refine w_name (i := 7) ‹Cxt _ _ _ _ _ _› (by decide +kernel) rfl ?_)
local macro_rules | `(tactic| walk_at "nm") => `(tactic| refine w_name (i := 6) ‹Cxt _ _ _ _ _ _› (by decide +kernel) rfl ?_)
local macro_rules | `(tactic| walk_at "nm") => `(tactic| refine w_name (i := 5) ‹Cxt _ _ _ _ _ _› (by decide +kernel) rfl ?_)
local macro_rules | `(tactic| walk_at "nm") => `(tactic| refine w_name (i := 4) ‹Cxt _ _ _ _ _ _› (by decide +kernel) rfl ?_)
local macro_rules | `(tactic| walk_at "nm") => `(tactic| refine w_name (i := 3) ‹Cxt _ _ _ _ _ _› (by decide +kernel) rfl ?_)
local macro_rules | `(tactic| walk_at "nm") => `(tactic| refine w_name (i := 2) ‹Cxt _ _ _ _ _ _› (by decide +kernel) rfl ?_)
local macro_rules | `(tactic| walk_at "nm") => `(tactic| refine w_name (i := 1) ‹Cxt _ _ _ _ _ _› (by decide +kernel) rfl ?_)
local macro_rules | `(tactic| walk_at "nm") => `(tactic| refine w_name (i := 0) ‹Cxt _ _ _ _ _ _› (by decide +kernel) rfl ?_)
local macro_rules | `(tactic| walk_at "ex") => `(tactic| walk_at "nm")
local macro_rules | `(tactic| walk_at "ex") => `(tactic| refine w_un ?_)
local macro_rules | `(tactic| walk_at "ex") => `(tactic| refine w_lst ?_)
local macro_rules | `(tactic| walk_at "ex") => `(tactic| refine w_tup ?_)
local macro_rules | `(tactic| walk_at "ex") => `(tactic| refine w_bool ?_)
local macro_rules | `(tactic| walk_at "ex") => `(tactic| refine w_none ?_)
local macro_rules | `(tactic| walk_at "ex") => `(tactic| refine w_if ?_)
local macro_rules | `(tactic| walk_at "ex") => `(tactic| refine w_not ?_)
local macro_rules | `(tactic| walk_at "ex") => `(tactic| refine w_one ?_)
local macro_rules | `(tactic| walk_at "ex") => `(tactic| refine w_or ?_)
local macro_rules | `(tactic| walk_at "ex") => `(tactic| refine w_and ?_)
local macro_rules | `(tactic| walk_at "ex") => `(tactic| refine w_chain ?_)
local macro_rules | `(tactic| walk_at "ex") => `(tactic| refine w_cmp ?_)
local macro_rules | `(tactic| walk_at "ex") => `(tactic| refine w_bin ?_)
local macro_rules | `(tactic| walk_at "ex") => `(tactic| (refine w_sum ‹Cxt _ _ _ _ _ _› ‹Bl _› ?_ ?_; (first | with_reducible assumption | decide +kernel)))
local macro_rules | `(tactic| walk_at "ex") => `(tactic| (refine w_min ‹Cxt _ _ _ _ _ _› ‹Bl _› ?_ ?_; (first | with_reducible assumption | decide +kernel)))
local macro_rules | `(tactic| walk_at "ex") => `(tactic| (refine w_max ‹Cxt _ _ _ _ _ _› ‹Bl _› ?_ ?_; (first | with_reducible assumption | decide +kernel)))
local macro_rules | `(tactic| walk_at "ex") => `(tactic| (refine w_intc ‹Cxt _ _ _ _ _ _› ‹Bl _› ?_ ?_; (first | with_reducible assumption | decide +kernel)))
local macro_rules | `(tactic| walk_at "ex") => `(tactic| (refine w_dict ‹Cxt _ _ _ _ _ _› ‹Bl _› ?_ ?_; (first | with_reducible assumption | decide +kernel)))
local macro_rules | `(tactic| walk_at "ex") => `(tactic| (refine w_list ‹Cxt _ _ _ _ _ _› ‹Bl _› ?_ ?_; (first | with_reducible assumption | decide +kernel)))
local macro_rules | `(tactic| walk_at "ex") => `(tactic| (refine w_all ‹Cxt _ _ _ _ _ _› ‹Bl _› ?_ ?_; (first | with_reducible assumption | decide +kernel)))
local macro_rules | `(tactic| walk_at "ex") => `(tactic| (refine w_abs ‹Cxt _ _ _ _ _ _› ‹Bl _› ?_ ?_; (first | with_reducible assumption | decide +kernel)))
local macro_rules | `(tactic| walk_at "ex") => `(tactic| (refine w_len ‹Cxt _ _ _ _ _ _› ‹Bl _› ?_ ?_; (first | with_reducible assumption | decide +kernel)))
local macro_rules | `(tactic| walk_at "ex") => `(tactic| (refine w_lenSet ‹Cxt _ _ _ _ _ _› ‹Bl _› ?_ ?_ ?_; (first | with_reducible assumption | decide +kernel); (first | with_reducible assumption | decide +kernel)))
local macro_rules | `(tactic| walk_at "ex") => `(tactic| (refine w_isi ‹Cxt _ _ _ _ _ _› ‹Bl _› ?_ ?_; (first | with_reducible assumption | decide +kernel)))
local macro_rules | `(tactic| walk_at "ex") => `(tactic| refine w_make ‹Cxt _ _ _ _ _ _› (by first | with_reducible assumption | decide +kernel) (by with_reducible assumption) (by first | decide | omega) ?_)
local macro_rules | `(tactic| walk_at "ex") => `(tactic| refine w_call ‹Cxt _ _ _ _ _ _› (by first | with_reducible assumption | decide +kernel) (by with_reducible assumption) (by first | decide | omega) ?_)
local macro_rules | `(tactic| walk_at "ex") => `(tactic| refine w_attr ‹Cxt _ _ _ _ _ _› ?_)
local macro_rules | `(tactic| walk_at "ex") => `(tactic| refine w_sub ?_)
local macro_rules | `(tactic| walk_at "ex") => `(tactic| refine w_slice ?_)
local macro_rules | `(tactic| walk_at "ex") => `(tactic| refine w_nstr ‹Cxt _ _ _ _ _ _› ‹Bl _› (by with_reducible assumption) ?_)
local macro_rules | `(tactic| walk_at "ex") => `(tactic| refine w_ndict ‹Cxt _ _ _ _ _ _› ‹Bl _› (by with_reducible assumption) ?_)
local macro_rules | `(tactic| walk_at "ex") => `(tactic| refine w_nlist ‹Cxt _ _ _ _ _ _› ‹Bl _› (by with_reducible assumption) ?_)
local macro_rules | `(tactic| walk_at "ex") => `(tactic| refine w_ntuple ‹Cxt _ _ _ _ _ _› ‹Bl _› (by with_reducible assumption) ?_)
local macro_rules | `(tactic| walk_at "ex") => `(tactic| refine w_nbool ‹Cxt _ _ _ _ _ _› ‹Bl _› (by with_reducible assumption) ?_)
local macro_rules | `(tactic| walk_at "ex") => `(tactic| refine w_nint ‹Cxt _ _ _ _ _ _› ‹Bl _› (by with_reducible assumption) ?_)
local macro_rules | `(tactic| walk_at "ex") => `(tactic| refine w_gref ‹Cxt _ _ _ _ _ _› (by first | with_reducible assumption | decide +kernel) (by with_reducible assumption) ?_)
local macro_rules | `(tactic| walk_at "ex") => `(tactic| refine w_gstr ‹Cxt _ _ _ _ _ _› (by first | with_reducible assumption | decide +kernel) (by with_reducible assumption) ?_)
local macro_rules | `(tactic| walk_at "ex") => `(tactic| refine w_gint ‹Cxt _ _ _ _ _ _› (by first | with_reducible assumption | decide +kernel) (by with_reducible assumption) ?_)
local macro_rules | `(tactic| walk_at "ex") => `(tactic| refine w_str ?_)
local macro_rules | `(tactic| walk_at "ex") => `(tactic| refine w_int ?_)
local macro_rules | `(tactic| walk_at "ex") => `(tactic| refine w_name ‹Cxt _ _ _ _ _ _› (by first | with_reducible assumption | decide +kernel) rfl ?_)
local macro_rules | `(tactic| walk_at "te") => `(tactic| refine wt_val (by intro _; rfl) ?_)
local macro_rules | `(tactic| walk_at "te") => `(tactic| refine wt_bool ?_)
local macro_rules | `(tactic| walk_at "te") => `(tactic| refine wt_not ?_)
local macro_rules | `(tactic| walk_at "te") => `(tactic| refine wt_chain ?_)
local macro_rules | `(tactic| walk_at "te") => `(tactic| refine wt_cmp ?_)
local macro_rules | `(tactic| walk_at "st") => `(tactic| refine ws_retN ?_)
local macro_rules | `(tactic| walk_at "st") => `(tactic| refine ws_sub ?_)
local macro_rules | `(tactic| walk_at "st") => `(tactic| refine ws_expr ?_)
local macro_rules | `(tactic| walk_at "st") => `(tactic| refine ws_set ‹Cxt _ _ _ _ _ _› (by first | with_reducible assumption | decide +kernel) ?_)
local macro_rules | `(tactic| walk_at "st") => `(tactic| refine ws_if ?_)
local macro_rules | `(tactic| walk_at "st") => `(tactic| refine ws_ret ?_)
local macro_rules | `(tactic| walk_at "sq") => `(tactic| exact tup_up (by assumption) (by walk_at "same"))
local macro_rules | `(tactic| walk_at "sq") => `(tactic| exact seq_up (by assumption) (by walk_at "same"))
local macro_rules | `(tactic| walk_at "sq") => `(tactic| exact SqT.of (by assumption))
local macro_rules | `(tactic| walk_at "sq") => `(tactic| exact SqL.of (by assumption))
local macro_rules | `(tactic| walk_at "sq") => `(tactic| assumption)
local macro_rules | `(tactic| walk_at "wc") => `(tactic| refine c_dict_d (by assumption) ?_)
local macro_rules | `(tactic| walk_at "wc") => `(tactic| refine c_list_t ‹Cxt _ _ _ _ _ _› (by walk_at "sq") ?_)
local macro_rules | `(tactic| walk_at "wc") => `(tactic| refine c_list_l ‹Cxt _ _ _ _ _ _› (by walk_at "sq") ?_)
local macro_rules | `(tactic| walk_at "wc") => `(tactic| refine c_int_b ?_)
local macro_rules | `(tactic| walk_at "wc") => `(tactic| refine c_len_d (by assumption) ?_)
local macro_rules | `(tactic| walk_at "wc") => `(tactic| refine c_len_s (str_le (by omega)) ?_)
local macro_rules | `(tactic| walk_at "wc") => `(tactic| refine c_len_t ‹Cxt _ _ _ _ _ _› (by walk_at "sq") ?_)
local macro_rules | `(tactic| walk_at "wc") => `(tactic| refine c_len_l ‹Cxt _ _ _ _ _ _› (by walk_at "sq") ?_)
local macro_rules | `(tactic| walk_at "wc") => `(tactic| refine c_len_p ‹Cxt _ _ _ _ _ _› (by walk_at "pt") ?_)
local macro_rules | `(tactic| walk_at "wc") => `(tactic| refine c_abs ?_)
local macro_rules | `(tactic| walk_at "wc") => `(tactic| refine isi_dict ‹Cxt _ _ _ _ _ _› (by assumption) ?_)
local macro_rules | `(tactic| walk_at "wc") => `(tactic| refine isi_tup ‹Cxt _ _ _ _ _ _› (by walk_at "sq") ?_)
local macro_rules | `(tactic| walk_at "wc") => `(tactic| refine isi_p ‹Cxt _ _ _ _ _ _› (by walk_at "pt") ?_)
local macro_rules | `(tactic| walk_at "wc") => `(tactic| refine isi_str ‹Cxt _ _ _ _ _ _› ?_)
local macro_rules | `(tactic| walk_at "wc") => `(tactic| refine isi_intb ‹Cxt _ _ _ _ _ _› ?_)
local macro_rules | `(tactic| walk_at "wc") => `(tactic| refine isi_int ‹Cxt _ _ _ _ _ _› ?_)
local macro_rules | `(tactic| walk_at "pr") => `(tactic| ((with_reducible show sp2 _ _ _ _ _); refine ⟨_, _, _, _, rfl, by walk_at "pt", by walk_at "pt", ret_in ?_⟩; intro _ _ _ _))
local macro_rules | `(tactic| walk_at "pr") => `(tactic| ((with_reducible show sp2s _ _ _ _ _); refine ⟨_, _, _, _, rfl, by walk_at "pt", by walk_at "pt", ?_⟩; intro _ _))
local macro_rules | `(tactic| walk_at "pr") => `(tactic| ((with_reducible show sp2b _ _ _ _ _); refine ⟨_, _, _, _, rfl, by walk_at "pt", by walk_at "pt", ?_⟩))
local macro_rules | `(tactic| walk_at "pr") => `(tactic| ((with_reducible show spNeedPart _ _ _ _); refine ⟨_, _, rfl, by walk_at "pt", ?_⟩))
local macro_rules | `(tactic| walk_at "pr") => `(tactic| ((with_reducible show spIsPart _ _ _ _); refine ⟨_, _, rfl, by walk_at "pt", ?_⟩))
local macro_rules | `(tactic| walk_at "lk") => `(tactic| (refine lk_tl (by decide +kernel) ?_; walk_at "lk"))
local macro_rules | `(tactic| walk_at "lk") => `(tactic| exact lk_hd)
local macro_rules | `(tactic| walk_at "fld") => `(tactic| refine ⟨_, _, _, _, _, rfl, by with_reducible assumption, (‹Tx _›).T.at_ (by decide +kernel), by walk_at "lk", ?_⟩)
local macro_rules | `(tactic| walk_at "go1") => `(tactic| ((with_reducible show @ite _ _ _ _ _); first | refine iteT ?_ | refine iteF ?_ | refine iteD (by omega) ?_ | refine iteND (by omega) ?_ | refine iteD2 (by omega) ?_ | refine iteND2 (by omega) ?_))
local macro_rules | `(tactic| walk_at "go1") => `(tactic| refine ⟨le_line rfl, ?_⟩)
local macro_rules | `(tactic| walk_at "go1") => `(tactic| walk_at "fld")
local macro_rules | `(tactic| walk_at "go1") => `(tactic| walk_at "pr")
local macro_rules | `(tactic| walk_at "go1") => `(tactic| refine ⟨_, rfl, ?_⟩)
local macro_rules | `(tactic| walk_at "go1") => `(tactic| ((with_reducible show WB _ _ _ _ _); first | refine wb_one ?_ | refine wb_cons ?_ | refine wb_nil ?_))
local macro_rules | `(tactic| walk_at "go1") => `(tactic| ((with_reducible show WS _ _ _ _ _); walk_at "st"))
local macro_rules | `(tactic| walk_at "go1") => `(tactic| ((with_reducible show WW _ _ _ _ _); first | refine ww_and ?_ | refine ww_or ?_ | refine ww_and1 ?_ | refine ww_or1 ?_))
local macro_rules | `(tactic| walk_at "go1") => `(tactic| ((with_reducible show WT _ _ _ _ _); walk_at "te"))
local macro_rules | `(tactic| walk_at "go1") => `(tactic| ((with_reducible show WA _ _ _ _ _); first | refine wa_cons ?_ | refine wa_nil ?_))
local macro_rules | `(tactic| walk_at "go1") => `(tactic| ((with_reducible show WP _ _ _ _ _); first | refine wp_none ?_ | refine wp_some ?_))
local macro_rules | `(tactic| walk_at "go1") => `(tactic| ((with_reducible show WU _ _ _ _ _); refine u_neg ?_))
local macro_rules | `(tactic| walk_at "go1") => `(tactic| ((with_reducible show WTs _ _ _ _ _); refine wts_one ?_))
local macro_rules | `(tactic| walk_at "go1") => `(tactic| ((with_reducible show WC _ _ _ _ _); walk_at "wc"))
local macro_rules | `(tactic| walk_at "go1") => `(tactic| ((with_reducible show WX _ _ _ _ _ _); walk_at "ix"))
local macro_rules | `(tactic| walk_at "go1") => `(tactic| ((with_reducible show WCo _ _ _ _ _ _); walk_at "co"))
local macro_rules | `(tactic| walk_at "go1") => `(tactic| ((with_reducible show WBo _ _ _ _ _ _); walk_at "bo"))
local macro_rules | `(tactic| walk_at "go1") => `(tactic| ((with_reducible show W _ _ _ _ _); walk_at "ex"))
local macro_rules | `(tactic| walk_at "go") => `(tactic| repeat walk_at "go1")
section
-- 13 is_whole: ["thing"]
abbrev N13 : List Str := ["thing"]
theorem sc13 : FnScope N13 ["thing"] (defScope (top 13)) := ⟨rfl, rfl, rfl, by decide +kernel, rfl, by decide +kernel, by decide +kernel⟩
theorem nm13 : visB N13 (defScope (top 13)) 0 "thing" = true ∧ gloB (defScope (top 13)) "isinstance" = true ∧ gloB (defScope (top 13)) "int" = true ∧ gloB (defScope (top 13)) "bool" = true :=
  ⟨by decide +kernel, by decide +kernel, by decide +kernel, by decide +kernel⟩
-- obtain ⟨n0, g_isinstance, g_int, g_bool⟩ := nm13
-- 14 common: ["one", "other"]
abbrev N14 : List Str := ["one", "other"]
theorem sc14 : FnScope N14 ["one", "other"] (defScope (top 14)) := ⟨rfl, rfl, rfl, by decide +kernel, rfl, by decide +kernel, by decide +kernel⟩
theorem nm14 : visB N14 (defScope (top 14)) 1 "other" = true ∧ visB N14 (defScope (top 14)) 0 "one" = true ∧ locB true N14 (defScope (top 14)) 0 "one" = true ∧ locB true N14 (defScope (top 14)) 1 "other" = true :=
  ⟨by decide +kernel, by decide +kernel, by decide +kernel, by decide +kernel⟩
-- obtain ⟨n1, n0, l0, l1⟩ := nm14
-- 15 is_part: ["thing"]
abbrev N15 : List Str := ["thing"]
theorem sc15 : FnScope N15 ["thing"] (defScope (top 15)) := ⟨rfl, rfl, rfl, by decide +kernel, rfl, by decide +kernel, by decide +kernel⟩
theorem nm15 : visB N15 (defScope (top 15)) 0 "thing" = true ∧ gloB (defScope (top 15)) "isinstance" = true ∧ gloB (defScope (top 15)) "tuple" = true ∧ gloB (defScope (top 15)) "len" = true ∧ gloB (defScope (top 15)) "is_whole" = true ∧ gloB (defScope (top 15)) "common" = true ∧ gloB (defScope (top 15)) "abs" = true :=
  ⟨by decide +kernel, by decide +kernel, by decide +kernel, by decide +kernel, by decide +kernel, by decide +kernel, by decide +kernel⟩
-- obtain ⟨n0, g_isinstance, g_tuple, g_len, g_is_whole, g_common, g_abs⟩ := nm15
-- 16 part: ["up", "under", "by"]
abbrev N16 : List Str := ["up", "under", "by"]
theorem sc16 : FnScope N16 ["up", "under"] (defScope (top 16)) := ⟨rfl, rfl, rfl, by decide +kernel, rfl, by decide +kernel, by decide +kernel⟩
theorem nm16 : visB N16 (defScope (top 16)) 0 "up" = true ∧ visB N16 (defScope (top 16)) 1 "under" = true ∧ visB N16 (defScope (top 16)) 2 "by" = true ∧ locB true N16 (defScope (top 16)) 2 "by" = true ∧ gloB (defScope (top 16)) "is_whole" = true ∧ gloB (defScope (top 16)) "NoPart" = true ∧ gloB (defScope (top 16)) "common" = true ∧ gloB (defScope (top 16)) "abs" = true :=
  ⟨by decide +kernel, by decide +kernel, by decide +kernel, by decide +kernel, by decide +kernel, by decide +kernel, by decide +kernel, by decide +kernel⟩
-- obtain ⟨n0, n1, n2, l2, g_is_whole, g_NoPart, g_common, g_abs⟩ := nm16
-- 17 plus: ["one", "other"]
abbrev N17 : List Str := ["one", "other"]
theorem sc17 : FnScope N17 ["one", "other"] (defScope (top 17)) := ⟨rfl, rfl, rfl, by decide +kernel, rfl, by decide +kernel, by decide +kernel⟩
theorem nm17 : visB N17 (defScope (top 17)) 0 "one" = true ∧ visB N17 (defScope (top 17)) 1 "other" = true ∧ gloB (defScope (top 17)) "part" = true :=
  ⟨by decide +kernel, by decide +kernel, by decide +kernel⟩
-- obtain ⟨n0, n1, g_part⟩ := nm17
-- 18 minus: ["one", "other"]
abbrev N18 : List Str := ["one", "other"]
theorem sc18 : FnScope N18 ["one", "other"] (defScope (top 18)) := ⟨rfl, rfl, rfl, by decide +kernel, rfl, by decide +kernel, by decide +kernel⟩
theorem nm18 : visB N18 (defScope (top 18)) 0 "one" = true ∧ visB N18 (defScope (top 18)) 1 "other" = true ∧ gloB (defScope (top 18)) "part" = true :=
  ⟨by decide +kernel, by decide +kernel, by decide +kernel⟩
-- obtain ⟨n0, n1, g_part⟩ := nm18
-- 19 times: ["one", "other"]
abbrev N19 : List Str := ["one", "other"]
theorem sc19 : FnScope N19 ["one", "other"] (defScope (top 19)) := ⟨rfl, rfl, rfl, by decide +kernel, rfl, by decide +kernel, by decide +kernel⟩
theorem nm19 : visB N19 (defScope (top 19)) 0 "one" = true ∧ visB N19 (defScope (top 19)) 1 "other" = true ∧ gloB (defScope (top 19)) "part" = true :=
  ⟨by decide +kernel, by decide +kernel, by decide +kernel⟩
-- obtain ⟨n0, n1, g_part⟩ := nm19
-- 20 below: ["one", "other"]
abbrev N20 : List Str := ["one", "other"]
theorem sc20 : FnScope N20 ["one", "other"] (defScope (top 20)) := ⟨rfl, rfl, rfl, by decide +kernel, rfl, by decide +kernel, by decide +kernel⟩
theorem nm20 : visB N20 (defScope (top 20)) 0 "one" = true ∧ visB N20 (defScope (top 20)) 1 "other" = true :=
  ⟨by decide +kernel, by decide +kernel⟩
-- obtain ⟨n0, n1⟩ := nm20
-- 21 greatest: ["one", "other"]
abbrev N21 : List Str := ["one", "other"]
theorem sc21 : FnScope N21 ["one", "other"] (defScope (top 21)) := ⟨rfl, rfl, rfl, by decide +kernel, rfl, by decide +kernel, by decide +kernel⟩
theorem nm21 : visB N21 (defScope (top 21)) 0 "one" = true ∧ visB N21 (defScope (top 21)) 1 "other" = true ∧ gloB (defScope (top 21)) "below" = true :=
  ⟨by decide +kernel, by decide +kernel, by decide +kernel⟩
-- obtain ⟨n0, n1, g_below⟩ := nm21
-- 22 least: ["one", "other"]
abbrev N22 : List Str := ["one", "other"]
theorem sc22 : FnScope N22 ["one", "other"] (defScope (top 22)) := ⟨rfl, rfl, rfl, by decide +kernel, rfl, by decide +kernel, by decide +kernel⟩
theorem nm22 : visB N22 (defScope (top 22)) 1 "other" = true ∧ visB N22 (defScope (top 22)) 0 "one" = true ∧ gloB (defScope (top 22)) "below" = true :=
  ⟨by decide +kernel, by decide +kernel, by decide +kernel⟩
-- obtain ⟨n1, n0, g_below⟩ := nm22
theorem ok_whole {E : Ev} (B : Bl E) (F : GD E "is_whole" (top 13) ["thing"]) : Dg E 1 "is_whole" spWhole := by
  refine dg_of F sc13 (fun vs H Q ⟨i, e, _⟩ => by rw [e]; rfl) fun X vs H Q c ⟨i, e, q⟩ => ?_
  subst e
  obtain ⟨n0, g_isinstance, g_int, g_bool⟩ := nm13
  walk_at "go"
  exact q
theorem gcd_step (a b : Nat) (h : 0 < b) : Nat.gcd b (a % b) = Nat.gcd a b := by
  rw [Nat.gcd_comm b, ← Nat.gcd_rec, Nat.gcd_comm]
theorem ok_common {E : Ev} (F : GD E "common" (top 14) ["one", "other"]) : Dg E 1 "common" spCommon := by
  refine dg_of F sc14 (fun vs H Q ⟨_, _, e, _⟩ => by rw [e]; rfl) fun X vs H Q c ⟨a, b, e, q⟩ => ?_
  subst e
  obtain ⟨n1, n0, l0, l1⟩ := nm14
  refine wb_cons (ws_while c ?_)
  refine ⟨fun m σ H' => H' = H ∧ ∃ a' : Nat, σ = [some (.int (a' : Nat)), some (.int (m : Nat))] ∧ Nat.gcd a' m = Nat.gcd a b, ⟨b, rfl, a, rfl, rfl⟩, ?_⟩
  rintro m σ H' ⟨rfl, a', rfl, hg⟩
  walk_at "go"
  by_cases hm : 0 < m
  · rw [show decide ((0 : Int) < (m : Nat)) = true from decide_eq_true (by omega)]
    refine iteT ⟨fun σ H2 => H2 = H' ∧ ∃ a' m' : Nat, σ = [some (.int (a' : Nat)), some (.int (m' : Nat))] ∧ m' < m ∧ Nat.gcd a' m' = Nat.gcd a b, ?_, ?_⟩
    · rintro σ' H' ⟨rfl, a1, m1, rfl, h1, h2⟩
      exact ⟨m1, h1, rfl, a1, rfl, h2⟩
    · refine wb_one (ws_par c l0 l1 (by decide +kernel) (by decide +kernel) (by decide +kernel) (by decide) (by decide +kernel) ?_)
      walk_at "go"
      refine o_mod (by omega) ?_
      refine ⟨rfl, m, a' % m, rfl, Nat.mod_lt _ hm, ?_⟩
      rw [← hg]
      exact gcd_step a' m hm
  · rw [show decide ((0 : Int) < (m : Nat)) = false from decide_eq_false (by omega)]
    refine iteF ?_
    walk_at "go"
    have e : m = 0 := by omega
    rw [e, Nat.gcd_zero_right] at hg
    rw [hg]
    exact q
theorem ok_is_part {E : Ev} (B : Bl E) (F : GD E "is_part" (top 15) ["thing"]) (d1 : Dg E 1 "is_whole" spWhole) (d2 : Dg E 1 "common" spCommon) : Dg E 2 "is_part" (spIsPart E) := by
  refine dg_of F sc15 (fun vs H Q ⟨_, _, e, _⟩ => by rw [e]; rfl) fun X vs H Q c ⟨t, z, e, h, q⟩ => ?_
  subst e
  obtain ⟨n0, g_isinstance, g_tuple, g_len, g_is_whole, g_common, g_abs⟩ := nm15
  have h2 : (0 : Int) < (cn z).2 := by have := cn_one z; omega
  walk_at "go"
  refine ⟨(cn z).1.natAbs, (cn z).2.natAbs, by rw [show (((cn z).2.natAbs : Nat) : Int) = (cn z).2 by omega], ?_⟩
  rw [cn_gcd]
  walk_at "go"
  exact q
theorem ok_part {E : Ev} (B : Bl E) (F : GD E "part" (top 16) ["up", "under"]) (d1 : Dg E 1 "is_whole" spWhole) (d2 : Dg E 1 "common" spCommon) : Dg E 2 "part" (spPart E) := by
  refine dg_of F sc16 (fun vs H Q ⟨_, _, _, e, _⟩ => by rw [e]; rfl) fun X vs H Q c ⟨u, d, z, e, hd, hz, q⟩ => ?_
  subst e
  obtain ⟨n0, n1, n2, l2, g_is_whole, g_NoPart, g_common, g_abs⟩ := nm16
  walk_at "go"
  refine ⟨u.natAbs, d.natAbs, rfl, ?_⟩
  obtain ⟨e1, e2⟩ := cn_of hd hz
  have hg : ((Nat.gcd u.natAbs d.natAbs : Nat) : Int) ≠ 0 ∧ ((Nat.gcd u.natAbs d.natAbs : Nat) : Int).natAbs < 1073741824 := by
    have h1 : 0 < Nat.gcd u.natAbs d.natAbs := Nat.gcd_pos_of_pos_right _ (by omega)
    have h2 : Nat.gcd u.natAbs d.natAbs ≤ d.natAbs := Nat.gcd_le_right _ (by omega)
    omega
  generalize Nat.gcd u.natAbs d.natAbs = g at e1 e2 hg
  walk_at "go"
  refine o_divN hg ?_
  walk_at "go"
  refine o_divN hg ?_
  walk_at "go"
  rw [e1, e2]
  exact fun t ht => q _ _ (Same.new ht) ⟨t, rfl, SqT.of upd_same⟩
theorem ok_plus {E : Ev} (F : GD E "plus" (top 17) ["one", "other"]) (d1 : Dg E 2 "part" (spPart E)) : Dg E 3 "plus" (sp2 E fun x y => x + y) := by
  refine dg_of F sc17 (fun vs H Q ⟨_, _, _, _, e, _⟩ => by rw [e]; rfl) fun X vs H Q c ⟨s, t, x, y, e, h1, h2, q⟩ => ?_
  subst e
  obtain ⟨n0, n1, g_part⟩ := nm17
  walk_at "go"
  exact ⟨_, _, x + y, rfl, cn_d x y, cn_add x y, q⟩
theorem ok_minus {E : Ev} (F : GD E "minus" (top 18) ["one", "other"]) (d1 : Dg E 2 "part" (spPart E)) : Dg E 3 "minus" (sp2 E fun x y => x - y) := by
  refine dg_of F sc18 (fun vs H Q ⟨_, _, _, _, e, _⟩ => by rw [e]; rfl) fun X vs H Q c ⟨s, t, x, y, e, h1, h2, q⟩ => ?_
  subst e
  obtain ⟨n0, n1, g_part⟩ := nm18
  walk_at "go"
  exact ⟨_, _, x - y, rfl, cn_d x y, cn_sub x y, q⟩
theorem ok_times {E : Ev} (F : GD E "times" (top 19) ["one", "other"]) (d1 : Dg E 2 "part" (spPart E)) : Dg E 3 "times" (spTimes E) := by
  refine dg_of F sc19 (fun vs H Q ⟨_, _, _, _, e, _⟩ => by rw [e]; rfl) fun X vs H Q c ⟨s, t, r, y, e, h1, h2, hr, q⟩ => ?_
  subst e
  obtain ⟨n0, n1, g_part⟩ := nm19
  walk_at "go"
  refine o_mul (.inl (by rw [cn_two]; exact hr)) ?_
  walk_at "go"
  exact ⟨_, _, r * y, rfl, cn_d _ y, cn_mul r y, q⟩
theorem ok_below {E : Ev} (F : GD E "below" (top 20) ["one", "other"]) : Dg E 1 "below" (sp2b E lt2) := by
  refine dg_of F sc20 (fun vs H Q ⟨_, _, _, _, e, _⟩ => by rw [e]; rfl) fun X vs H Q c ⟨s, t, x, y, e, h1, h2, q⟩ => ?_
  subst e
  obtain ⟨n0, n1⟩ := nm20
  walk_at "go"
  rw [decide_eq_decide.mpr (cn_lt x y)]
  exact q
theorem ok_greatest {E : Ev} (F : GD E "greatest" (top 21) ["one", "other"]) (d1 : Dg E 1 "below" (sp2b E lt2)) : Dg E 2 "greatest" (sp2s E mx) := by
  refine dg_of F sc21 (fun vs H Q ⟨_, _, _, _, e, _⟩ => by rw [e]; rfl) fun X vs H Q c ⟨s, t, x, y, e, h1, h2, q⟩ => ?_
  subst e
  obtain ⟨n0, n1, g_below⟩ := nm21
  walk_at "go"
  refine iteC (fun hb => ?_) (fun hb => ?_)
  · walk_at "go"
    exact q t (by rw [mx_lt (of_decide_eq_true hb)]; exact h2)
  · walk_at "go"
    exact q s (by rw [mx_ge (of_decide_eq_false hb)]; exact h1)
theorem ok_least {E : Ev} (F : GD E "least" (top 22) ["one", "other"]) (d1 : Dg E 1 "below" (sp2b E lt2)) : Dg E 2 "least" (sp2s E mn) := by
  refine dg_of F sc22 (fun vs H Q ⟨_, _, _, _, e, _⟩ => by rw [e]; rfl) fun X vs H Q c ⟨s, t, x, y, e, h1, h2, q⟩ => ?_
  subst e
  obtain ⟨n1, n0, g_below⟩ := nm22
  walk_at "go"
  refine iteC (fun hb => ?_) (fun hb => ?_)
  · walk_at "go"
    exact q t (by rw [mn_lt (of_decide_eq_true hb)]; exact h2)
  · walk_at "go"
    exact q s (by rw [mn_ge (of_decide_eq_false hb)]; exact h1)
end
section
-- 71 _law_mixed: ["_law_cell", "_law_k", "_law_number"]
abbrev N71 : List Str := ["_law_cell", "_law_k", "_law_number"]
theorem sc71 : FnScope N71 ["_law_cell", "_law_k"] (defScope (top 71)) := ⟨rfl, rfl, rfl, by decide +kernel, rfl, by decide +kernel, by decide +kernel⟩
theorem nm71 : visB N71 (defScope (top 71)) 0 "_law_cell" = true ∧ visB N71 (defScope (top 71)) 1 "_law_k" = true ∧ visB N71 (defScope (top 71)) 2 "_law_number" = true ∧ locB true N71 (defScope (top 71)) 2 "_law_number" = true :=
  ⟨by decide +kernel, by decide +kernel, by decide +kernel, by decide +kernel⟩
-- obtain ⟨n0, n1, n2, l2⟩ := nm71
-- 72 _law_low: ["_law_up", "_law_under_here", "_law_one", "_law_other"]
abbrev N72 : List Str := ["_law_up", "_law_under_here", "_law_one", "_law_other"]
theorem sc72 : FnScope N72 ["_law_up", "_law_under_here"] (defScope (top 72)) := ⟨rfl, rfl, rfl, by decide +kernel, rfl, by decide +kernel, by decide +kernel⟩
theorem nm72 : visB N72 (defScope (top 72)) 0 "_law_up" = true ∧ visB N72 (defScope (top 72)) 1 "_law_under_here" = true ∧ visB N72 (defScope (top 72)) 3 "_law_other" = true ∧ visB N72 (defScope (top 72)) 2 "_law_one" = true ∧ locB true N72 (defScope (top 72)) 2 "_law_one" = true ∧ locB true N72 (defScope (top 72)) 3 "_law_other" = true ∧ gloB (defScope (top 72)) "abs" = true :=
  ⟨by decide +kernel, by decide +kernel, by decide +kernel, by decide +kernel, by decide +kernel, by decide +kernel, by decide +kernel⟩
-- obtain ⟨n0, n1, n3, n2, l2, l3, g_abs⟩ := nm72
-- 73 _law_sum: ["_law_one", "_law_other"]
abbrev N73 : List Str := ["_law_one", "_law_other"]
theorem sc73 : FnScope N73 ["_law_one", "_law_other"] (defScope (top 73)) := ⟨rfl, rfl, rfl, by decide +kernel, rfl, by decide +kernel, by decide +kernel⟩
theorem nm73 : visB N73 (defScope (top 73)) 0 "_law_one" = true ∧ visB N73 (defScope (top 73)) 1 "_law_other" = true ∧ gloB (defScope (top 73)) "_law_low" = true :=
  ⟨by decide +kernel, by decide +kernel, by decide +kernel⟩
-- obtain ⟨n0, n1, g__law_low⟩ := nm73
-- 74 _law_rest: ["_law_one", "_law_other"]
abbrev N74 : List Str := ["_law_one", "_law_other"]
theorem sc74 : FnScope N74 ["_law_one", "_law_other"] (defScope (top 74)) := ⟨rfl, rfl, rfl, by decide +kernel, rfl, by decide +kernel, by decide +kernel⟩
theorem nm74 : visB N74 (defScope (top 74)) 0 "_law_one" = true ∧ visB N74 (defScope (top 74)) 1 "_law_other" = true ∧ gloB (defScope (top 74)) "_law_low" = true :=
  ⟨by decide +kernel, by decide +kernel, by decide +kernel⟩
-- obtain ⟨n0, n1, g__law_low⟩ := nm74
-- 75 _law_product: ["_law_one", "_law_other"]
abbrev N75 : List Str := ["_law_one", "_law_other"]
theorem sc75 : FnScope N75 ["_law_one", "_law_other"] (defScope (top 75)) := ⟨rfl, rfl, rfl, by decide +kernel, rfl, by decide +kernel, by decide +kernel⟩
theorem nm75 : visB N75 (defScope (top 75)) 0 "_law_one" = true ∧ visB N75 (defScope (top 75)) 1 "_law_other" = true ∧ gloB (defScope (top 75)) "_law_low" = true :=
  ⟨by decide +kernel, by decide +kernel, by decide +kernel⟩
-- obtain ⟨n0, n1, g__law_low⟩ := nm75
-- 76 _law_under: ["_law_one", "_law_other"]
abbrev N76 : List Str := ["_law_one", "_law_other"]
theorem sc76 : FnScope N76 ["_law_one", "_law_other"] (defScope (top 76)) := ⟨rfl, rfl, rfl, by decide +kernel, rfl, by decide +kernel, by decide +kernel⟩
theorem nm76 : visB N76 (defScope (top 76)) 0 "_law_one" = true ∧ visB N76 (defScope (top 76)) 1 "_law_other" = true :=
  ⟨by decide +kernel, by decide +kernel⟩
-- obtain ⟨n0, n1⟩ := nm76
theorem gcd_step2 (a b : Nat) (h : 0 < b) : Nat.gcd b (a % b) = Nat.gcd a b := by
  rw [Nat.gcd_comm b, ← Nat.gcd_rec, Nat.gcd_comm]
theorem ok_mixed {E : Ev} (F : GD E "_law_mixed" (top 71) ["_law_cell", "_law_k"]) : Dg E 1 "_law_mixed" spMixed := by
  refine dg_of F sc71 (fun vs H Q ⟨_, _, e, _⟩ => by rw [e]; rfl) fun X vs H Q c ⟨i, j, e, hj, q⟩ => ?_
  subst e
  obtain ⟨n0, n1, n2, l2⟩ := nm71
  walk_at "go"
  refine o_mul (.inl (by omega)) ?_
  walk_at "go"
  refine o_mul (.inr (by omega)) ?_
  walk_at "go"
  refine o_mod (by omega) ?_
  walk_at "go"
  refine o_mul (.inl (by omega)) ?_
  walk_at "go"
  refine o_mul (.inl (by have := Int.emod_nonneg ((i + 7919 * j) * 48271) (show (2147483647 : Int) ≠ 0 by omega); have := Int.emod_lt_of_pos ((i + 7919 * j) * 48271) (show (0 : Int) < 2147483647 by omega); omega)) ?_
  walk_at "go"
  refine o_mod (by omega) ?_
  exact q
theorem ok_low {E : Ev} (B : Bl E) (F : GD E "_law_low" (top 72) ["_law_up", "_law_under_here"]) : Dg E 1 "_law_low" (spPart E) := by
  refine dg_of F sc72 (fun vs H Q ⟨_, _, _, e, _⟩ => by rw [e]; rfl) fun X vs H Q c ⟨u, d, z, e, hd, hz, q⟩ => ?_
  subst e
  obtain ⟨n0, n1, n3, n2, l2, l3, g_abs⟩ := nm72
  refine wb_cons (ws_par c l2 l3 (by decide +kernel) (by decide +kernel) (by decide +kernel) (by decide) (by decide +kernel) ?_)
  walk_at "go"
  refine ws_while c ?_
  refine ⟨fun m σ H' => H' = H ∧ ∃ a' : Nat, σ = [some (.int u), some (.int d), some (.int (a' : Nat)), some (.int (m : Nat))] ∧ Nat.gcd a' m = Nat.gcd u.natAbs d.natAbs, ⟨d.natAbs, rfl, u.natAbs, rfl, rfl⟩, ?_⟩
  rintro m σ H' ⟨rfl, a', rfl, hg⟩
  walk_at "go"
  by_cases hm : 0 < m
  · rw [show decide ((0 : Int) < (m : Nat)) = true from decide_eq_true (by omega)]
    refine iteT ⟨fun σ H2 => H2 = H' ∧ ∃ a' m' : Nat, σ = [some (.int u), some (.int d), some (.int (a' : Nat)), some (.int (m' : Nat))] ∧ m' < m ∧ Nat.gcd a' m' = Nat.gcd u.natAbs d.natAbs, ?_, ?_⟩
    · rintro σ' H' ⟨rfl, a1, m1, rfl, h1, h2⟩
      exact ⟨m1, h1, rfl, a1, rfl, h2⟩
    · refine wb_one (ws_par c l2 l3 (by decide +kernel) (by decide +kernel) (by decide +kernel) (by decide) (by decide +kernel) ?_)
      walk_at "go"
      refine o_mod (by omega) ?_
      refine ⟨rfl, m, a' % m, rfl, Nat.mod_lt _ hm, ?_⟩
      rw [← hg]
      exact gcd_step2 a' m hm
  · rw [show decide ((0 : Int) < (m : Nat)) = false from decide_eq_false (by omega)]
    refine iteF ?_
    have e : m = 0 := by omega
    rw [e, Nat.gcd_zero_right] at hg
    rw [hg]
    obtain ⟨e1, e2⟩ := cn_of hd hz
    have hg : ((Nat.gcd u.natAbs d.natAbs : Nat) : Int) ≠ 0 ∧ ((Nat.gcd u.natAbs d.natAbs : Nat) : Int).natAbs < 1073741824 := by
      have h1 : 0 < Nat.gcd u.natAbs d.natAbs := Nat.gcd_pos_of_pos_right _ (by omega)
      have h2 : Nat.gcd u.natAbs d.natAbs ≤ d.natAbs := Nat.gcd_le_right _ (by omega)
      omega
    generalize Nat.gcd u.natAbs d.natAbs = g at e1 e2 hg
    walk_at "go"
    refine o_divN hg ?_
    walk_at "go"
    refine o_divN hg ?_
    walk_at "go"
    rw [e1, e2]
    exact fun t ht => q _ _ (Same.new ht) ⟨t, rfl, SqT.of upd_same⟩
theorem ok_sum {E : Ev} (F : GD E "_law_sum" (top 73) ["_law_one", "_law_other"]) (d1 : Dg E 1 "_law_low" (spPart E)) : Dg E 2 "_law_sum" (sp2 E fun x y => x + y) := by
  refine dg_of F sc73 (fun vs H Q ⟨_, _, _, _, e, _⟩ => by rw [e]; rfl) fun X vs H Q c ⟨s, t, x, y, e, h1, h2, q⟩ => ?_
  subst e
  obtain ⟨n0, n1, g__law_low⟩ := nm73
  walk_at "go"
  exact ⟨_, _, x + y, rfl, cn_d x y, cn_add x y, q⟩
theorem ok_rest {E : Ev} (F : GD E "_law_rest" (top 74) ["_law_one", "_law_other"]) (d1 : Dg E 1 "_law_low" (spPart E)) : Dg E 2 "_law_rest" (sp2 E fun x y => x - y) := by
  refine dg_of F sc74 (fun vs H Q ⟨_, _, _, _, e, _⟩ => by rw [e]; rfl) fun X vs H Q c ⟨s, t, x, y, e, h1, h2, q⟩ => ?_
  subst e
  obtain ⟨n0, n1, g__law_low⟩ := nm74
  walk_at "go"
  exact ⟨_, _, x - y, rfl, cn_d x y, cn_sub x y, q⟩
theorem ok_product {E : Ev} (F : GD E "_law_product" (top 75) ["_law_one", "_law_other"]) (d1 : Dg E 1 "_law_low" (spPart E)) : Dg E 2 "_law_product" (spTimes E) := by
  refine dg_of F sc75 (fun vs H Q ⟨_, _, _, _, e, _⟩ => by rw [e]; rfl) fun X vs H Q c ⟨s, t, r, y, e, h1, h2, hr, q⟩ => ?_
  subst e
  obtain ⟨n0, n1, g__law_low⟩ := nm75
  walk_at "go"
  refine o_mul (.inl (by rw [cn_two]; exact hr)) ?_
  walk_at "go"
  exact ⟨_, _, r * y, rfl, cn_d _ y, cn_mul r y, q⟩
theorem ok_under {E : Ev} (F : GD E "_law_under" (top 76) ["_law_one", "_law_other"]) : Dg E 1 "_law_under" (sp2b E lt2) := by
  refine dg_of F sc76 (fun vs H Q ⟨_, _, _, _, e, _⟩ => by rw [e]; rfl) fun X vs H Q c ⟨s, t, x, y, e, h1, h2, q⟩ => ?_
  subst e
  obtain ⟨n0, n1⟩ := nm76
  walk_at "go"
  rw [decide_eq_decide.mpr (cn_lt x y)]
  exact q
end
section
-- 44 is_name: ["thing", "sign"]
abbrev N44 : List Str := ["thing", "sign"]
theorem sc44 : FnScope N44 ["thing"] (defScope (top 44)) := ⟨rfl, rfl, rfl, by decide +kernel, rfl, by decide +kernel, by decide +kernel⟩
theorem nm44 : visB N44 (defScope (top 44)) 0 "thing" = true ∧ gloB (defScope (top 44)) "isinstance" = true ∧ gloB (defScope (top 44)) "str" = true ∧ gloB (defScope (top 44)) "len" = true ∧ gloB (defScope (top 44)) "MOST_SIGNS" = true ∧ gloB (defScope (top 44)) "KEPT" = true ∧ gloB (defScope (top 44)) "all" = true :=
  ⟨by decide +kernel, by decide +kernel, by decide +kernel, by decide +kernel, by decide +kernel, by decide +kernel, by decide +kernel⟩
-- obtain ⟨n0, g_isinstance, g_str, g_len, g_MOST_SIGNS, g_KEPT, g_all⟩ := nm44
-- 45 need_part: ["thing"]
abbrev N45 : List Str := ["thing"]
theorem sc45 : FnScope N45 ["thing"] (defScope (top 45)) := ⟨rfl, rfl, rfl, by decide +kernel, rfl, by decide +kernel, by decide +kernel⟩
theorem nm45 : visB N45 (defScope (top 45)) 0 "thing" = true ∧ gloB (defScope (top 45)) "is_part" = true ∧ gloB (defScope (top 45)) "NoCharter" = true :=
  ⟨by decide +kernel, by decide +kernel, by decide +kernel⟩
-- obtain ⟨n0, g_is_part, g_NoCharter⟩ := nm45
-- 46 are_rows: ["thing", "row", "later"]
abbrev N46 : List Str := ["thing", "row", "later"]
theorem sc46 : FnScope N46 ["thing"] (defScope (top 46)) := ⟨rfl, rfl, rfl, by decide +kernel, rfl, by decide +kernel, by decide +kernel⟩
theorem nm46 : visB N46 (defScope (top 46)) 0 "thing" = true ∧ visB N46 (defScope (top 46)) 1 "row" = true ∧ locB true N46 (defScope (top 46)) 1 "row" = true ∧ gloB (defScope (top 46)) "isinstance" = true ∧ gloB (defScope (top 46)) "list" = true ∧ gloB (defScope (top 46)) "tuple" = true ∧ gloB (defScope (top 46)) "len" = true ∧ gloB (defScope (top 46)) "MOST_ROWS" = true ∧ gloB (defScope (top 46)) "is_part" = true ∧ gloB (defScope (top 46)) "NOUGHT_words" = true ∧ gloB (defScope (top 46)) "all" = true ∧ gloB (defScope (top 46)) "zip" = true :=
  ⟨by decide +kernel, by decide +kernel, by decide +kernel, by decide +kernel, by decide +kernel, by decide +kernel, by decide +kernel, by decide +kernel, by decide +kernel, by decide +kernel, by decide +kernel, by decide +kernel⟩
-- obtain ⟨n0, n1, l1, g_isinstance, g_list, g_tuple, g_len, g_MOST_ROWS, g_is_part, g_NOUGHT_words, g_all, g_zip⟩ := nm46
theorem ok_is_name {E : Ev} (B : Bl E) (F : GD E "is_name" (top 44) ["thing"]) (i1 : ∃ u, E.mg "MOST_SIGNS" = some (.int 8 u)) (i2 : E.mg "KEPT" = some (.ref (Ca E "KEPT"))) (i3 : ∀ H, SqL E.K H (Ca E "KEPT") (keptL.map V.str)) (i4 : ∃ u, E.mg "LETTERS" = some (.str lettersS u)) :
    Dg E 1 "is_name" spIsName := by
  refine dg_of F sc44 (fun vs H Q ⟨_, e, _⟩ => by rw [e]; rfl) fun X vs H Q c ⟨x, e, hx, q⟩ => ?_
  subst e
  obtain ⟨n0, g_isinstance, g_str, g_len, g_MOST_SIGNS, g_KEPT, g_all, g_LETTERS⟩ := nm44
  obtain ⟨h1, h2, h3, h4⟩ := nameB_ok hx
  walk_at "go"
  refine o_in_l c (i3 _) rfl (by decide +kernel) ?_
  rw [h3]
  walk_at "go"
  refine w_lcS c [("sign", 1)] (by decide +kernel) (wi_str c ?_)
  walk_at "go"
  refine lcS0 (src_str (z := x)) (by show x.length < 100000; omega) (fun _ y _ => y = .bl true) (fun _ _ _ _ _ h => h) (fun i y H' hi s1 ⟨cp, hc, ey⟩ Y cY => ?_) fun D ys H' hD s1 hl pr => ?_
  · subst ey
    refine wg_name cY (by decide +kernel) ⟨wipe_one, Same.refl _, fun Y3 c3 => ?_⟩
    walk_at "go"
    refine o_in_s ?_
    rw [decide_eq_true (h4 cp (by rw [← Array.getElem?_toList] at hc; exact List.mem_of_getElem? hc))]
    exact ⟨Same.refl _, rfl⟩
  · walk_at "go"
    refine c_allT c hl pr ?_
    exact q _ s1
theorem ok_need_part {E : Ev} (F : GD E "need_part" (top 45) ["thing"]) (d1 : Dg E 2 "is_part" (spIsPart E)) : Dg E 3 "need_part" (spNeedPart E) := by
  refine dg_of F sc45 (fun vs H Q ⟨_, _, e, _⟩ => by rw [e]; rfl) fun X vs H Q c ⟨t, z, e, h, q⟩ => ?_
  subst e
  obtain ⟨n0, g_is_part, g_NoCharter⟩ := nm45
  walk_at "go"
  exact q
theorem ok_are_rows {E : Ev} (B : Bl E) (F : GD E "are_rows" (top 46) ["thing"]) (i1 : ∃ u, E.mg "MOST_ROWS" = some (.int 12 u)) (i2 : E.mg "NOUGHT_words" = some (.ref (Ca E "NOUGHT_words"))) (i3 : ∀ H, PtA E H (Ca E "NOUGHT_words") 0)
    (d1 : Dg E 2 "is_part" (spIsPart E)) (d2 : Dg E 1 "below" (sp2b E lt2)) : Dg E 3 "are_rows" (spAreRows E) := by
  refine dg_of F sc46 (fun vs H Q ⟨_, _, e, _⟩ => by rw [e]; rfl) fun X vs H Q c ⟨l, rows, e, hr, ok, q⟩ => ?_
  subst e
  obtain ⟨n0, n1, l1, g_isinstance, g_list, g_tuple, g_len, g_MOST_ROWS, g_is_part, g_NOUGHT_words, g_all, g_zip⟩ := nm46
  obtain ⟨ts, hl, pr⟩ := hr
  have hn : ts.length = rows.length := Paired.length pr
  obtain ⟨⟨k1, k2⟩, kz, ku⟩ := ok
  walk_at "go"
  intro t1 ht1
  walk_at "go"
  refine isi_lt_l c ((Same.new ht1).seq hl) upd_same ?_
  walk_at "go"
  rw [List.length_map, hn]
  walk_at "go"
  generalize hH1 : upd H t1 (HO.tup [V.ty "list", V.ty "tuple"]) = H1
  have s1 : Same H H1 := hH1 ▸ Same.new ht1
  have hl1 : SqL E.K H1 l (ts.map V.ref) := s1.seq hl
  have pr1 : Paired (RowA E H1) ts rows := Paired.mapP pr fun _ _ z => z.mono s1
  refine ws_forS c (wi_list c ?_)
  walk_at "go"
  refine ⟨⟨_, hl1⟩, forS (src_list hl1) (fun i σ H => Same H1 H ∧ ∃ o, σ = [some (.ref l), o, none]) ⟨Same.refl _, none, rfl⟩ (fun i σ H h => h.1) ?_ ?_⟩
  · rintro σ H' ⟨s2, o, rfl⟩
    obtain ⟨v0, e0⟩ : ∃ v0, (ts.map V.ref)[0]? = some v0 := ⟨_, List.getElem?_eq_getElem (by rw [List.length_map]; omega)⟩
    obtain ⟨t0, b0, r0, u0, w0, rfl, er, hr, h3, h4⟩ := row_at pr1 e0
    have eb : b0 = 0 := kz _ er
    subst eb
    have hr2 := s2.tup hr
    have hl2 := s2.seq hl1
    walk_at "go"
    refine x_lst c (fun _ _ => rfl) hl2 (atI_nat (j := 0) e0) ?_
    walk_at "go"
    refine o_eq_p c (h3.mono s2) (i3 _) ?_
    walk_at "go"
    refine w_lcS c [("row", 1), ("later", 2)] (by decide +kernel) (wi_zip c (by with_reducible assumption) (B _ (by decide +kernel)) ?_)
    walk_at "go"
    refine l_lst c hl2 ?_
    rw [cutV_one]
    intro l2 hn2
    have s3 : Same H' (upd H' l2 (HO.lst (List.drop 1 (List.map V.ref ts)))) := Same.new hn2
    refine ⟨_, _, _, _, rfl, rfl, s3.seq hl2, SqL.of upd_same, ?_⟩
    refine lcS0 (src_zip (s3.seq hl2) (SqL.of upd_same)) (by rw [List.length_map]; omega) (fun _ y _ => y = .bl true) (fun _ _ _ _ _ h => h) (fun i y H4 hi s4 ⟨T, u, w, ey, hT, y1, y2⟩ Y cY => ?_) fun D ys H4 hD s4 hl4 pr4 => ?_
    · subst ey
      rw [List.getElem?_drop, Nat.add_comm] at y2
      obtain ⟨t5, b5, r5, u5, w5, rfl, er5, hr5, h5, h6⟩ := row_at pr1 y1
      obtain ⟨t7, b7, r7, u7, w7, rfl, er7, hr7, h7, h8⟩ := row_at pr1 y2
      have s5 := (s2.trans s3).trans s4
      have hr5 := s5.tup hr5
      have hr7 := s5.tup hr7
      have h5 := h5.mono s5
      have h7 := h7.mono s5
      refine wg_two cY (i := 1) (j := 2) (by decide +kernel) (by decide +kernel) (SqT.of hT) ⟨wipe_two (by decide), Same.refl _, fun Y3 c3 => ?_⟩
      walk_at "go"
      refine ⟨Same.refl _, ?_⟩
      show V.bl (decide (b5 < b7)) = V.bl true
      rw [decide_eq_true (ku _ _ _ er5 er7)]
    · walk_at "go"
      refine c_allT c hl4 pr4 ?_
      exact q _ (((s1.trans s2).trans s3).trans s4)
  · rintro i σ H' x H2 hi ⟨s1, o, rfl⟩ s2 y
    obtain ⟨t0, b0, r0, u0, w0, rfl, er, hr, h3, h4⟩ := row_at pr1 y
    have s3 := s1.trans s2
    have hr2 := s3.tup hr
    have h3 := h3.mono s3
    have h4 := h4.mono s3
    refine wg_name c l1 ?_
    walk_at "go"
    exact ⟨s3, _, rfl⟩
end
section
-- 47.0 inner: ["self"]
abbrev N47_0 : List Str := ["self"]
theorem sc47_0 : FnScope N47_0 ["self"] (defScope (inC 47 0)) := ⟨rfl, rfl, rfl, by decide +kernel, rfl, by decide +kernel, by decide +kernel⟩
-- 51.1 inner: ["self"]
abbrev N51_1 : List Str := ["self"]
theorem sc51_1 : FnScope N51_1 ["self"] (defScope (inC 51 1)) := ⟨rfl, rfl, rfl, by decide +kernel, rfl, by decide +kernel, by decide +kernel⟩
theorem nm51_1 : visB N51_1 (defScope (inC 51 1)) 0 "self" = true :=
  by decide +kernel
-- obtain ⟨n0⟩ := nm51_1
-- 57.1 inner: ["self"]
abbrev N57_1 : List Str := ["self"]
theorem sc57_1 : FnScope N57_1 ["self"] (defScope (inC 57 1)) := ⟨rfl, rfl, rfl, by decide +kernel, rfl, by decide +kernel, by decide +kernel⟩
theorem nm57_1 : visB N57_1 (defScope (inC 57 1)) 0 "self" = true :=
  by decide +kernel
-- obtain ⟨n0⟩ := nm57_1
-- 59.1 inner: ["self"]
abbrev N59_1 : List Str := ["self"]
theorem sc59_1 : FnScope N59_1 ["self"] (defScope (inC 59 1)) := ⟨rfl, rfl, rfl, by decide +kernel, rfl, by decide +kernel, by decide +kernel⟩
theorem nm59_1 : visB N59_1 (defScope (inC 59 1)) 0 "self" = true ∧ gloB (defScope (inC 59 1)) "list" = true :=
  ⟨by decide +kernel, by decide +kernel⟩
-- obtain ⟨n0, g_list⟩ := nm59_1
-- 49.1 kind: ["self"]
abbrev N49_1 : List Str := ["self"]
theorem sc49_1 : FnScope N49_1 ["self"] (defScope (inC 49 1)) := ⟨rfl, rfl, rfl, by decide +kernel, rfl, by decide +kernel, by decide +kernel⟩
-- 50.1 kind: ["self"]
abbrev N50_1 : List Str := ["self"]
theorem sc50_1 : FnScope N50_1 ["self"] (defScope (inC 50 1)) := ⟨rfl, rfl, rfl, by decide +kernel, rfl, by decide +kernel, by decide +kernel⟩
-- 52.0 kind: ["self"]
abbrev N52_0 : List Str := ["self"]
theorem sc52_0 : FnScope N52_0 ["self"] (defScope (inC 52 0)) := ⟨rfl, rfl, rfl, by decide +kernel, rfl, by decide +kernel, by decide +kernel⟩
-- 53.0 kind: ["self"]
abbrev N53_0 : List Str := ["self"]
theorem sc53_0 : FnScope N53_0 ["self"] (defScope (inC 53 0)) := ⟨rfl, rfl, rfl, by decide +kernel, rfl, by decide +kernel, by decide +kernel⟩
-- 54.0 kind: ["self"]
abbrev N54_0 : List Str := ["self"]
theorem sc54_0 : FnScope N54_0 ["self"] (defScope (inC 54 0)) := ⟨rfl, rfl, rfl, by decide +kernel, rfl, by decide +kernel, by decide +kernel⟩
-- 55.0 kind: ["self"]
abbrev N55_0 : List Str := ["self"]
theorem sc55_0 : FnScope N55_0 ["self"] (defScope (inC 55 0)) := ⟨rfl, rfl, rfl, by decide +kernel, rfl, by decide +kernel, by decide +kernel⟩
-- 57.2 kind: ["self"]
abbrev N57_2 : List Str := ["self"]
theorem sc57_2 : FnScope N57_2 ["self"] (defScope (inC 57 2)) := ⟨rfl, rfl, rfl, by decide +kernel, rfl, by decide +kernel, by decide +kernel⟩
-- 58.0 kind: ["self"]
abbrev N58_0 : List Str := ["self"]
theorem sc58_0 : FnScope N58_0 ["self"] (defScope (inC 58 0)) := ⟨rfl, rfl, rfl, by decide +kernel, rfl, by decide +kernel, by decide +kernel⟩
-- 59.2 kind: ["self"]
abbrev N59_2 : List Str := ["self"]
theorem sc59_2 : FnScope N59_2 ["self"] (defScope (inC 59 2)) := ⟨rfl, rfl, rfl, by decide +kernel, rfl, by decide +kernel, by decide +kernel⟩
theorem in_word {E : Ev} {w : Wt} (hw : w.kids = []) (F : FD E (inC 47 0) ["self"] (Ma E "Word" "inner")) : Df E 1 (Ma E "Word" "inner") (spInner E w) := by
  refine df_of F sc47_0 (fun vs H Q ⟨_, _, e, _⟩ => by rw [e]; rfl) fun X vs H Q c ⟨v, F0, e, h, s0, q⟩ => ?_
  subst e
  walk_at "go"
  exact fun t ht => q t [] _ (Same.new ht) ht upd_same (by rw [hw]; exact .nil)
theorem in_two {E : Ev} (T : CL E) (k : Tk) (a b : Wt) (F : FD E (inC 51 1) ["self"] (Ma E "Two" "inner")) : Df E 1 (Ma E "Two" "inner") (spInner E (.two k a b)) := by
  refine df_of F sc51_1 (fun vs H Q ⟨_, _, e, _⟩ => by rw [e]; rfl) fun X vs H Q c ⟨v, F0, e, hw0, s0, q⟩ => ?_
  obtain ⟨p, dx, u, w, rfl, hp, hu, hw⟩ := hw0
  subst e
  obtain ⟨a1, a2⟩ := at_two T k
  have n0 := nm51_1
  walk_at "go"
  refine ⟨_, _, _, _, _, rfl, s0 _ _ hp, a1, lk_hd, ?_⟩
  walk_at "go"
  refine ⟨_, _, _, _, _, rfl, s0 _ _ hp, a2, (lk_tl (by decide +kernel) lk_hd), ?_⟩
  walk_at "go"
  exact fun t ht => q t _ _ (Same.new ht) ht upd_same (.cons hu (.cons hw .nil))
theorem in_bands {E : Ev} (T : CL E) (a : Wt) (rows : List (Int × Int)) (F : FD E (inC 57 1) ["self"] (Ma E "Bands" "inner")) : Df E 1 (Ma E "Bands" "inner") (spInner E (.bands a rows)) := by
  refine df_of F sc57_1 (fun vs H Q ⟨_, _, e, _⟩ => by rw [e]; rfl) fun X vs H Q c ⟨v, F0, e, hw0, s0, q⟩ => ?_
  obtain ⟨p, dx, u, l, rfl, hp, hu, hl⟩ := hw0
  subst e
  have n0 := nm57_1
  walk_at "go"
  refine ⟨_, _, _, _, _, rfl, s0 _ _ hp, (T.at_ (C := "Bands") (by decide +kernel)), lk_hd, ?_⟩
  walk_at "go"
  exact fun t ht => q t _ _ (Same.new ht) ht upd_same (.cons hu .nil)
theorem in_steps {E : Ev} (T : CL E) (a : Wt) (rows : List (Int × Int)) (F : FD E (inC 57 1) ["self"] (Ma E "Bands" "inner")) : Df E 1 (Ma E "Bands" "inner") (spInner E (.steps a rows)) := by
  refine df_of F sc57_1 (fun vs H Q ⟨_, _, e, _⟩ => by rw [e]; rfl) fun X vs H Q c ⟨v, F0, e, hw0, s0, q⟩ => ?_
  obtain ⟨p, dx, u, l, rfl, hp, hu, hl⟩ := hw0
  subst e
  have n0 := nm57_1
  walk_at "go"
  refine ⟨_, _, _, _, _, rfl, s0 _ _ hp, (T.at_ (C := "Steps") (by decide +kernel)), lk_hd, ?_⟩
  walk_at "go"
  exact fun t ht => q t _ _ (Same.new ht) ht upd_same (.cons hu .nil)
theorem in_if {E : Ev} (B : Bl E) (T : CL E) (a b c d : Wt) (F : FD E (inC 59 1) ["self"] (Ma E "If" "inner")) : Df E 1 (Ma E "If" "inner") (spInner E (.iff a b c d)) := by
  refine df_of F sc59_1 (fun vs H Q ⟨_, _, e, _⟩ => by rw [e]; rfl) fun X vs H Q cx ⟨v, F0, e, hw0, s0, q⟩ => ?_
  obtain ⟨p, dx, t1, t2, u1, u2, u3, u4, rfl, hp, h1, h2, w1, w2, w3, w4⟩ := hw0
  subst e
  obtain ⟨n0, g_list⟩ := nm59_1
  walk_at "go"
  refine ⟨_, _, _, _, _, rfl, s0 _ _ hp, (T.at_ (C := "If") (by decide +kernel)), lk_hd, ?_⟩
  walk_at "go"
  refine ⟨_, _, _, _, _, rfl, s0 _ _ hp, (T.at_ (C := "If") (by decide +kernel)), (lk_tl (by decide +kernel) lk_hd), ?_⟩
  walk_at "go"
  refine o_catT cx (s0.tup h1) (s0.tup h2) (by simp) (by simp) (le_line rfl) fun t ht => ?_
  walk_at "go"
  refine c_list_t cx (SqT.of upd_same) fun l hl => ?_
  have s : Same H (upd (upd H t (.tup ([u1, u2] ++ [u3, u4]))) l (.lst ([u1, u2] ++ [u3, u4]))) := (Same.new ht).trans (Same.new hl)
  refine q l _ _ s ?_ upd_same (.cons w1 (.cons w2 (.cons w3 (.cons w4 .nil))))
  by_cases e : l = t
  · rw [e]
    exact ht
  · rw [upd_ne e] at hl
    exact hl
theorem inner_dm {E : Ev} (B : Bl E) (T : CL E) (F1 : FD E (inC 47 0) ["self"] (Ma E "Word" "inner")) (F2 : FD E (inC 51 1) ["self"] (Ma E "Two" "inner")) (F3 : FD E (inC 57 1) ["self"] (Ma E "Bands" "inner")) (F4 : FD E (inC 59 1) ["self"] (Ma E "If" "inner")) :
    ∀ w : Wt, Dm E 1 (Ca E w.cls) "inner" (spInner E w)
  | .am z => T.dm (C := "Amount") (D := "Word") (by decide +kernel) (in_word rfl F1)
  | .nm x => T.dm (C := "Name") (D := "Word") (by decide +kernel) (in_word rfl F1)
  | .two .plus a b => T.dm (C := "Plus") (D := "Two") (by decide +kernel) (in_two T _ a b F2)
  | .two .less a b => T.dm (C := "Less") (D := "Two") (by decide +kernel) (in_two T _ a b F2)
  | .two .greater a b => T.dm (C := "Greater") (D := "Two") (by decide +kernel) (in_two T _ a b F2)
  | .two .lesser a b => T.dm (C := "Lesser") (D := "Two") (by decide +kernel) (in_two T _ a b F2)
  | .bands a r => T.dm (C := "Bands") (D := "Bands") (by decide +kernel) (in_bands T a r F3)
  | .steps a r => T.dm (C := "Steps") (D := "Bands") (by decide +kernel) (in_steps T a r F3)
  | .iff a b c d => T.dm (C := "If") (D := "If") (by decide +kernel) (in_if B T a b c d F4)
theorem kd {E : Ev} {st : Stmt} {f : Addr} {z : Str} {p1 p2 : Pos} (F : FD E st ["self"] f) (S : FnScope ["self"] ["self"] (defScope st)) (hb : defBody st = [.Return (some (.Constant (.str z) 0 p1)) p2]) : Df E 1 f (spKind z) := by
  refine df_of F S (fun vs H Q ⟨_, e, _⟩ => by rw [e]; rfl) fun X vs H Q c ⟨v, e, q⟩ => ?_
  subst e
  rw [hb]
  walk_at "go"
  exact q
theorem kind_dm {E : Ev} (T : CL E) (F1 : FD E (inC 49 1) ["self"] (Ma E "Amount" "kind")) (F2 : FD E (inC 50 1) ["self"] (Ma E "Name" "kind")) (F3 : FD E (inC 52 0) ["self"] (Ma E "Plus" "kind")) (F4 : FD E (inC 53 0) ["self"] (Ma E "Less" "kind"))
    (F5 : FD E (inC 54 0) ["self"] (Ma E "Greater" "kind")) (F6 : FD E (inC 55 0) ["self"] (Ma E "Lesser" "kind")) (F7 : FD E (inC 57 2) ["self"] (Ma E "Bands" "kind")) (F8 : FD E (inC 58 0) ["self"] (Ma E "Steps" "kind")) (F9 : FD E (inC 59 2) ["self"] (Ma E "If" "kind")) :
    ∀ w : Wt, Dm E 1 (Ca E w.cls) "kind" (spKind w.kind)
  | .am z => T.dm (C := "Amount") (D := "Amount") (by decide +kernel) (kd F1 sc49_1 rfl)
  | .nm x => T.dm (C := "Name") (D := "Name") (by decide +kernel) (kd F2 sc50_1 rfl)
  | .two .plus a b => T.dm (C := "Plus") (D := "Plus") (by decide +kernel) (kd F3 sc52_0 rfl)
  | .two .less a b => T.dm (C := "Less") (D := "Less") (by decide +kernel) (kd F4 sc53_0 rfl)
  | .two .greater a b => T.dm (C := "Greater") (D := "Greater") (by decide +kernel) (kd F5 sc54_0 rfl)
  | .two .lesser a b => T.dm (C := "Lesser") (D := "Lesser") (by decide +kernel) (kd F6 sc55_0 rfl)
  | .bands a r => T.dm (C := "Bands") (D := "Bands") (by decide +kernel) (kd F7 sc57_2 rfl)
  | .steps a r => T.dm (C := "Steps") (D := "Steps") (by decide +kernel) (kd F8 sc58_0 rfl)
  | .iff a b c d => T.dm (C := "If") (D := "If") (by decide +kernel) (kd F9 sc59_2 rfl)
end
section
-- 47.1 deep: ["self", "word"]
abbrev N47_1 : List Str := ["self", "word"]
theorem sc47_1 : FnScope N47_1 ["self"] (defScope (inC 47 1)) := ⟨rfl, rfl, rfl, by decide +kernel, rfl, by decide +kernel, by decide +kernel⟩
theorem nm47_1 : visB N47_1 (defScope (inC 47 1)) 0 "self" = true ∧ gloB (defScope (inC 47 1)) "max" = true :=
  ⟨by decide +kernel, by decide +kernel⟩
-- obtain ⟨n0, g_max⟩ := nm47_1
-- 47.2 size: ["self", "word"]
abbrev N47_2 : List Str := ["self", "word"]
theorem sc47_2 : FnScope N47_2 ["self"] (defScope (inC 47 2)) := ⟨rfl, rfl, rfl, by decide +kernel, rfl, by decide +kernel, by decide +kernel⟩
theorem nm47_2 : visB N47_2 (defScope (inC 47 2)) 0 "self" = true ∧ gloB (defScope (inC 47 2)) "sum" = true :=
  ⟨by decide +kernel, by decide +kernel⟩
-- obtain ⟨n0, g_sum⟩ := nm47_2
-- 47.5 names: ["self", "found", "word", "name"]
abbrev N47_5 : List Str := ["self", "found", "word", "name"]
theorem sc47_5 : FnScope N47_5 ["self"] (defScope (inC 47 5)) := ⟨rfl, rfl, rfl, by decide +kernel, rfl, by decide +kernel, by decide +kernel⟩
theorem nm47_5 : visB N47_5 (defScope (inC 47 5)) 0 "self" = true ∧ visB N47_5 (defScope (inC 47 5)) 2 "word" = true ∧ visB N47_5 (defScope (inC 47 5)) 1 "found" = true ∧ locB true N47_5 (defScope (inC 47 5)) 1 "found" = true ∧ locB true N47_5 (defScope (inC 47 5)) 2 "word" = true :=
  ⟨by decide +kernel, by decide +kernel, by decide +kernel, by decide +kernel, by decide +kernel⟩
-- obtain ⟨n0, n2, n1, l1, l2⟩ := nm47_5
-- 50.3 names: ["self"]
abbrev N50_3 : List Str := ["self"]
theorem sc50_3 : FnScope N50_3 ["self"] (defScope (inC 50 3)) := ⟨rfl, rfl, rfl, by decide +kernel, rfl, by decide +kernel, by decide +kernel⟩
theorem nm50_3 : visB N50_3 (defScope (inC 50 3)) 0 "self" = true :=
  by decide +kernel
-- obtain ⟨n0⟩ := nm50_3
theorem wd_deep {E : Ev} (B : Bl E) (T : CL E) (F : FD E (inC 47 1) ["self"] (Ma E "Word" "deep")) (di : ∀ w : Wt, Dm E 1 (Ca E w.cls) "inner" (spInner E w)) : ∀ n w, Wt.deep w ≤ n → Dm E (n + 2) (Ca E w.cls) "deep" (spDeep E w) := by
  intro n
  induction n with
  | zero => intro w h; exact absurd h (by cases w <;> simp [Wt.deep])
  | succ n ih =>
    intro w hw
    refine deep_dm T (df_of F sc47_1 (fun vs H Q ⟨_, e, _⟩ => by rw [e]; rfl) fun X vs H Q c ⟨v, e, h, q⟩ => ?_) w
    subst e
    obtain ⟨n0, g_max⟩ := nm47_1
    refine wb_one (ws_ret (w_bin ?_))
    walk_at "go"
    refine w_maxd c B g_max (w_lcS c [("word", 1)] (by decide +kernel) (wi_list c (w_mW0 c ?_)))
    walk_at "go"
    refine ⟨w, _, 1, h, di w, by omega, _, _, rfl, h, Same.refl _, fun D ys H1 s1 hD hl pk => ?_⟩
    refine ⟨D, rfl, ⟨ys, SqL.of hl⟩, ?_⟩
    have hlen : w.kids.length = ys.length := Paired.length pk
    have hfew := kids_few w
    refine lcS0 (src_list (SqL.of hl)) (by omega) (fun i y _ => ∃ a, w.kids[i]? = some a ∧ y = .int (a.deep : Nat)) (fun _ _ _ _ _ h => h) (fun i y H2 hi s2 hy Y cY => ?_) fun D2 ys2 H2 hD2 s2 hl2 pr2 => ?_
    · obtain ⟨a, ha, hwa⟩ := pair_at' pk hy
      have hwa := hwa.mono (s1.trans s2)
      refine wg_name cY (by decide +kernel) ⟨wipe_one, Same.refl _, fun Y3 c3 => w_mW0 c3 ?_⟩
      walk_at "go"
      have hd := kids_deep (List.mem_of_getElem? ha)
      exact ⟨a, _, _, hwa, ih a (by omega), by omega, _, rfl, hwa, fun H4 s4 => ⟨s4, a, ha, rfl⟩⟩
    · rw [← hlen] at pr2
      rw [range_map _ pr2, show (w.kids.map fun a : Wt => V.int (a.deep : Nat)) = (w.kids.map fun a : Wt => (a.deep : Int)).map V.int by rw [List.map_map]; rfl] at hl2
      refine ⟨D2, _, rfl, SqL.of hl2, ?_⟩
      walk_at "go"
      rw [← deep_kids]
      exact q _ (s1.trans s2)
theorem wd_size {E : Ev} (B : Bl E) (T : CL E) (F : FD E (inC 47 2) ["self"] (Ma E "Word" "size")) (di : ∀ w : Wt, Dm E 1 (Ca E w.cls) "inner" (spInner E w)) : ∀ n w, Wt.deep w ≤ n → Dm E (n + 2) (Ca E w.cls) "size" (spSize E w) := by
  intro n
  induction n with
  | zero => intro w h; exact absurd h (by cases w <;> simp [Wt.deep])
  | succ n ih =>
    intro w hw
    refine size_dm T (df_of F sc47_2 (fun vs H Q ⟨_, e, _⟩ => by rw [e]; rfl) fun X vs H Q c ⟨v, e, h, q⟩ => ?_) w
    subst e
    obtain ⟨n0, g_sum⟩ := nm47_2
    walk_at "go"
    refine w_lcS c [("word", 1)] (by decide +kernel) (wi_list c (w_mW0 c ?_))
    walk_at "go"
    refine ⟨w, _, 1, h, di w, by omega, _, _, rfl, h, Same.refl _, fun D ys H1 s1 hD hl pk => ?_⟩
    refine ⟨D, rfl, ⟨ys, SqL.of hl⟩, ?_⟩
    have hlen : w.kids.length = ys.length := Paired.length pk
    have hfew := kids_few w
    refine lcS0 (src_list (SqL.of hl)) (by omega) (fun i y _ => ∃ a, w.kids[i]? = some a ∧ y = .int (a.size : Nat)) (fun _ _ _ _ _ h => h) (fun i y H2 hi s2 hy Y cY => ?_) fun D2 ys2 H2 hD2 s2 hl2 pr2 => ?_
    · obtain ⟨a, ha, hwa⟩ := pair_at' pk hy
      have hwa := hwa.mono (s1.trans s2)
      refine wg_name cY (by decide +kernel) ⟨wipe_one, Same.refl _, fun Y3 c3 => w_mW0 c3 ?_⟩
      walk_at "go"
      have hd := kids_deep (List.mem_of_getElem? ha)
      exact ⟨a, _, _, hwa, ih a (by omega), by omega, _, rfl, hwa, fun H4 s4 => ⟨s4, a, ha, rfl⟩⟩
    · rw [← hlen] at pr2
      rw [range_map _ pr2, show (w.kids.map fun a : Wt => V.int (a.size : Nat)) = (w.kids.map fun a : Wt => (a.size : Int)).map V.int by rw [List.map_map]; rfl] at hl2
      walk_at "go"
      refine c_sum c (SqL.of hl2) ?_
      walk_at "go"
      rw [← size_kids]
      exact q _ (s1.trans s2)
theorem wd_nameN {E : Ev} (T : CL E) (x : Str) (F : FD E (inC 50 3) ["self"] (Ma E "Name" "names")) : Df E 1 (Ma E "Name" "names") (spNames E (.nm x)) := by
  refine df_of F sc50_3 (fun vs H Q ⟨_, e, _⟩ => by rw [e]; rfl) fun X vs H Q c ⟨v, e, h, hz, q⟩ => ?_
  obtain ⟨p, dx, rfl, hp⟩ := h
  subst e
  have n0 := nm50_3
  walk_at "go"
  refine ⟨_, _, _, _, _, rfl, hp, T.at_ (C := "Name") (by decide +kernel), lk_hd, ?_⟩
  walk_at "go"
  refine fun t ht => q t [x] _ (Same.new ht) ht upd_same (by show 1 ≤ 1; omega) fun p o y hy => ?_
  rcases List.mem_cons.mp hy with rfl | hy
  · exact o
  · cases hy
theorem wd_names {E : Ev} (B : Bl E) (T : CL E) (F : FD E (inC 47 5) ["self"] (Ma E "Word" "names")) (F2 : FD E (inC 50 3) ["self"] (Ma E "Name" "names")) (di : ∀ w : Wt, Dm E 1 (Ca E w.cls) "inner" (spInner E w)) : ∀ n w, Wt.deep w ≤ n → Dm E (n + 2) (Ca E w.cls) "names" (spNames E w) := by
  intro n
  induction n with
  | zero => intro w h; exact absurd h (by cases w <;> simp [Wt.deep])
  | succ n ih =>
    intro w hw
    by_cases hx : ∃ x, w = .nm x
    · obtain ⟨x, rfl⟩ := hx
      exact T.dm (C := "Name") (D := "Name") (by decide +kernel) ((wd_nameN T x F2).mono (by omega))
    refine names_dm T (df_of F sc47_5 (fun vs H Q ⟨_, e, _⟩ => by rw [e]; rfl) fun X vs H Q c ⟨v, e, h, hz, q⟩ => ?_) w fun x e => hx ⟨x, e⟩
    subst e
    obtain ⟨n0, n2, n1, l1, l2⟩ := nm47_5
    walk_at "go"
    intro f hf
    walk_at "go"
    refine ws_forS c (wi_list c (w_mW0 c ?_))
    walk_at "go"
    have sf : Same H (upd H f (.lst [])) := Same.new hf
    refine ⟨w, _, 1, h.mono sf, di w, by omega, _, H, rfl, h, sf, fun D ys H1 s1 hD hl pk => ?_⟩
    have hDf : D ≠ f := fun e => by rw [e, upd_same] at hD; cases hD
    have hl0 : (del H1 f) D = some (.lst ys) := by rw [del_ne hDf]; exact hl
    have hlen : w.kids.length = ys.length := Paired.length pk
    have hfew := kids_few w
    refine ⟨D, rfl, ⟨ys, SqL.of hl⟩, forS (src_list (SqL.of hl0)) (fun i σ H' => Same (del H1 f) H' ∧ Same H H' ∧ ∃ xs o, H' f = some (.lst (xs.map V.str)) ∧ xs.length + ((w.kids.drop i).map fun a => a.size).sum + 1 ≤ w.size ∧ (∀ p, w.okN p → ∀ x ∈ xs, p x) ∧ σ = [some v, some (.ref f), o, none])
      ⟨del_same _ _, sf.trans s1, [], none, s1 _ _ upd_same, by rw [size_kidsN w]; simp only [List.length_nil, List.drop_zero]; omega, fun _ _ x hx => (nomatch hx), rfl⟩ (fun i σ H h => h.1) ?_ ?_⟩
    · rintro σ H' ⟨s2, s3, xs, o, hx, hsz, hok, rfl⟩
      walk_at "go"
      exact q f xs H' s3 hf hx (by omega) hok
    · rintro i σ H' x H2 hi ⟨s2, s3, xs, o, hx, hsz, hok, rfl⟩ s4 hy
      obtain ⟨a, ha, hwa⟩ := pair_at' pk hy
      have hka := List.mem_of_getElem? ha
      have hd := kids_deep hka
      have hd2 : w.kids.drop i = a :: w.kids.drop (i + 1) := by
        rw [List.drop_eq_getElem_cons (by omega)]
        rw [List.getElem?_eq_getElem (by omega)] at ha
        injection ha with ha
        rw [ha]
      rw [hd2, List.map_cons, List.sum_cons] at hsz
      refine wg_name c l2 ?_
      walk_at "go"
      refine ws_ext c l1 (xs := []) (l := f) rfl (w_lcS c [("name", 3)] (by decide +kernel) (wi_list c (w_mW0 c ?_)))
      walk_at "go"
      have hwa2 := hwa.mono (s3.trans s4)
      refine ⟨a, _, _, hwa2, ih a (by omega), by omega, _, rfl, hwa2, by omega, fun D2 nms H3 s5 hD2 hl2 hn2 ok2 => ?_⟩
      refine ⟨D2, rfl, ⟨_, SqL.of hl2⟩, ?_⟩
      have hx3 : H3 f = some (.lst (xs.map V.str)) := s5 _ _ (s4 _ _ hx)
      refine lcS (src_list (SqL.of hl2)) (by rw [List.length_map]; omega) (fun i => !inV ((nms.map V.str).getD i .non) (xs.map V.str)) (fun i y _ => ∃ x, nms[i]? = some x ∧ y = .str x) (fun _ _ _ _ _ h => h) (fun j y H4 hj s6 hy4 Y cY => ?_) fun D3 ys3 H4 hD3 s6 hl3 pr3 => ?_
      · rw [List.getElem?_map] at hy4
        obtain ⟨z, hz1, rfl⟩ : ∃ z, nms[j]? = some z ∧ y = .str z := by
          cases q : nms[j]? with
          | none => rw [q] at hy4; cases hy4
          | some z => rw [q] at hy4; cases hy4; exact ⟨z, rfl, rfl⟩
        refine wg_name cY (by decide +kernel) ⟨wipe_one, Same.refl _, fun Y3 c3 => ?_⟩
        walk_at "go"
        refine o_notin_l c3 (SqL.of (s6 _ _ hx3)) rfl (flat_strs xs) ?_
        refine ⟨_, rfl, Same.refl _, ?_, fun _ Y4 c4 => ?_⟩
        · rw [List.getD_eq_getElem?_getD, List.getElem?_map, hz1]
          rfl
        · walk_at "go"
          exact ⟨Same.refl _, z, hz1, rfl⟩
      · obtain ⟨zs, e1, e2, e3⟩ := paired_strs pr3
        have e4 : zs.length ≤ nms.length := by
          have := List.length_filter_le (fun i => !inV ((nms.map V.str).getD i .non) (xs.map V.str)) (List.range (nms.map V.str).length)
          rw [List.length_range, ← e2] at this
          rw [List.length_map] at this
          exact this
        have hx4 := s6 _ _ hx3
        subst e1
        refine ⟨D3, _, _, rfl, hx4, hl3, by rw [List.length_map, List.length_map]; exact le_sz (by omega), ?_⟩
        have hff : del H1 f f = none := del_at _ _
        refine ⟨Same.mut (((s2.trans s4).trans s5).trans s6) hff, Same.mut (((s3.trans s4).trans s5).trans s6) hf, xs ++ zs, some x, by rw [upd_same, List.map_append], by rw [List.length_append]; omega, fun p o y hy => ?_, rfl⟩
        rcases List.mem_append.mp hy with hy | hy
        · exact hok p o y hy
        · exact ok2 p (kids_ok hka o) y (e3 y hy)
end
section
-- 49.3 value: ["self", "known"]
abbrev N49_3 : List Str := ["self", "known"]
theorem sc49_3 : FnScope N49_3 ["self", "known"] (defScope (inC 49 3)) := ⟨rfl, rfl, rfl, by decide +kernel, rfl, by decide +kernel, by decide +kernel⟩
theorem nm49_3 : visB N49_3 (defScope (inC 49 3)) 0 "self" = true :=
  by decide +kernel
-- obtain ⟨n0⟩ := nm49_3
-- 50.4 value: ["self", "known"]
abbrev N50_4 : List Str := ["self", "known"]
theorem sc50_4 : FnScope N50_4 ["self", "known"] (defScope (inC 50 4)) := ⟨rfl, rfl, rfl, by decide +kernel, rfl, by decide +kernel, by decide +kernel⟩
theorem nm50_4 : visB N50_4 (defScope (inC 50 4)) 1 "known" = true ∧ visB N50_4 (defScope (inC 50 4)) 0 "self" = true :=
  ⟨by decide +kernel, by decide +kernel⟩
-- obtain ⟨n1, n0⟩ := nm50_4
-- 51.3 value: ["self", "known"]
abbrev N51_3 : List Str := ["self", "known"]
theorem sc51_3 : FnScope N51_3 ["self", "known"] (defScope (inC 51 3)) := ⟨rfl, rfl, rfl, by decide +kernel, rfl, by decide +kernel, by decide +kernel⟩
theorem nm51_3 : visB N51_3 (defScope (inC 51 3)) 0 "self" = true ∧ visB N51_3 (defScope (inC 51 3)) 1 "known" = true :=
  ⟨by decide +kernel, by decide +kernel⟩
-- obtain ⟨n0, n1⟩ := nm51_3
-- 52.1 reckoned: ["self", "left", "right"]
abbrev N52_1 : List Str := ["self", "left", "right"]
theorem sc52_1 : FnScope N52_1 ["self", "left", "right"] (defScope (inC 52 1)) := ⟨rfl, rfl, rfl, by decide +kernel, rfl, by decide +kernel, by decide +kernel⟩
theorem nm52_1 : visB N52_1 (defScope (inC 52 1)) 1 "left" = true ∧ visB N52_1 (defScope (inC 52 1)) 2 "right" = true ∧ gloB (defScope (inC 52 1)) "plus" = true :=
  ⟨by decide +kernel, by decide +kernel, by decide +kernel⟩
-- obtain ⟨n1, n2, g_plus⟩ := nm52_1
-- 53.1 reckoned: ["self", "left", "right"]
abbrev N53_1 : List Str := ["self", "left", "right"]
theorem sc53_1 : FnScope N53_1 ["self", "left", "right"] (defScope (inC 53 1)) := ⟨rfl, rfl, rfl, by decide +kernel, rfl, by decide +kernel, by decide +kernel⟩
theorem nm53_1 : visB N53_1 (defScope (inC 53 1)) 1 "left" = true ∧ visB N53_1 (defScope (inC 53 1)) 2 "right" = true ∧ gloB (defScope (inC 53 1)) "minus" = true :=
  ⟨by decide +kernel, by decide +kernel, by decide +kernel⟩
-- obtain ⟨n1, n2, g_minus⟩ := nm53_1
-- 54.1 reckoned: ["self", "left", "right"]
abbrev N54_1 : List Str := ["self", "left", "right"]
theorem sc54_1 : FnScope N54_1 ["self", "left", "right"] (defScope (inC 54 1)) := ⟨rfl, rfl, rfl, by decide +kernel, rfl, by decide +kernel, by decide +kernel⟩
theorem nm54_1 : visB N54_1 (defScope (inC 54 1)) 1 "left" = true ∧ visB N54_1 (defScope (inC 54 1)) 2 "right" = true ∧ gloB (defScope (inC 54 1)) "greatest" = true :=
  ⟨by decide +kernel, by decide +kernel, by decide +kernel⟩
-- obtain ⟨n1, n2, g_greatest⟩ := nm54_1
-- 55.1 reckoned: ["self", "left", "right"]
abbrev N55_1 : List Str := ["self", "left", "right"]
theorem sc55_1 : FnScope N55_1 ["self", "left", "right"] (defScope (inC 55 1)) := ⟨rfl, rfl, rfl, by decide +kernel, rfl, by decide +kernel, by decide +kernel⟩
theorem nm55_1 : visB N55_1 (defScope (inC 55 1)) 1 "left" = true ∧ visB N55_1 (defScope (inC 55 1)) 2 "right" = true ∧ gloB (defScope (inC 55 1)) "least" = true :=
  ⟨by decide +kernel, by decide +kernel, by decide +kernel⟩
-- obtain ⟨n1, n2, g_least⟩ := nm55_1
-- 57.5 value: ["self", "known"]
abbrev N57_5 : List Str := ["self", "known"]
theorem sc57_5 : FnScope N57_5 ["self", "known"] (defScope (inC 57 5)) := ⟨rfl, rfl, rfl, by decide +kernel, rfl, by decide +kernel, by decide +kernel⟩
theorem nm57_5 : visB N57_5 (defScope (inC 57 5)) 0 "self" = true ∧ visB N57_5 (defScope (inC 57 5)) 1 "known" = true ∧ gloB (defScope (inC 57 5)) "greatest" = true ∧ gloB (defScope (inC 57 5)) "NOUGHT_words" = true :=
  ⟨by decide +kernel, by decide +kernel, by decide +kernel, by decide +kernel⟩
-- obtain ⟨n0, n1, g_greatest, g_NOUGHT_words⟩ := nm57_5
-- 59.3 value: ["self", "known", "one", "other", "word"]
abbrev N59_3 : List Str := ["self", "known", "one", "other", "word"]
theorem sc59_3 : FnScope N59_3 ["self", "known"] (defScope (inC 59 3)) := ⟨rfl, rfl, rfl, by decide +kernel, rfl, by decide +kernel, by decide +kernel⟩
theorem nm59_3 : visB N59_3 (defScope (inC 59 3)) 0 "self" = true ∧ visB N59_3 (defScope (inC 59 3)) 1 "known" = true ∧ visB N59_3 (defScope (inC 59 3)) 2 "one" = true ∧ visB N59_3 (defScope (inC 59 3)) 3 "other" = true ∧ locB true N59_3 (defScope (inC 59 3)) 2 "one" = true ∧ locB true N59_3 (defScope (inC 59 3)) 3 "other" = true ∧ gloB (defScope (inC 59 3)) "int" = true ∧ gloB (defScope (inC 59 3)) "below" = true :=
  ⟨by decide +kernel, by decide +kernel, by decide +kernel, by decide +kernel, by decide +kernel, by decide +kernel, by decide +kernel, by decide +kernel⟩
-- obtain ⟨n0, n1, n2, n3, l2, l3, g_int, g_below⟩ := nm59_3
theorem rk_plus {E : Ev} (F : FD E (inC 52 1) ["self", "left", "right"] (Ma E "Plus" "reckoned")) (d1 : Dg E 3 "plus" (sp2 E fun x y => x + y)) : Df E 4 (Ma E "Plus" "reckoned") (spReck E (Tk.op .plus)) := by
  refine df_of F sc52_1 (fun vs H Q ⟨_, _, _, _, _, e, _⟩ => by rw [e]; rfl) fun X vs H Q c ⟨v, s, t, x, y, e, h1, h2, q⟩ => ?_
  subst e
  obtain ⟨n1, n2, g_plus⟩ := nm52_1
  walk_at "go"
  exact q _ _ (by assumption) ⟨_, rfl, by assumption⟩
theorem rk_less {E : Ev} (F : FD E (inC 53 1) ["self", "left", "right"] (Ma E "Less" "reckoned")) (d1 : Dg E 3 "minus" (sp2 E fun x y => x - y)) : Df E 4 (Ma E "Less" "reckoned") (spReck E (Tk.op .less)) := by
  refine df_of F sc53_1 (fun vs H Q ⟨_, _, _, _, _, e, _⟩ => by rw [e]; rfl) fun X vs H Q c ⟨v, s, t, x, y, e, h1, h2, q⟩ => ?_
  subst e
  obtain ⟨n1, n2, g_minus⟩ := nm53_1
  walk_at "go"
  exact q _ _ (by assumption) ⟨_, rfl, by assumption⟩
theorem rk_greater {E : Ev} (F : FD E (inC 54 1) ["self", "left", "right"] (Ma E "Greater" "reckoned")) (d1 : Dg E 2 "greatest" (sp2s E mx)) : Df E 4 (Ma E "Greater" "reckoned") (spReck E (Tk.op .greater)) := by
  refine df_of F sc54_1 (fun vs H Q ⟨_, _, _, _, _, e, _⟩ => by rw [e]; rfl) fun X vs H Q c ⟨v, s, t, x, y, e, h1, h2, q⟩ => ?_
  subst e
  obtain ⟨n1, n2, g_greatest⟩ := nm54_1
  walk_at "go"
  exact ret_pt q (by assumption)
theorem rk_lesser {E : Ev} (F : FD E (inC 55 1) ["self", "left", "right"] (Ma E "Lesser" "reckoned")) (d1 : Dg E 2 "least" (sp2s E mn)) : Df E 4 (Ma E "Lesser" "reckoned") (spReck E (Tk.op .lesser)) := by
  refine df_of F sc55_1 (fun vs H Q ⟨_, _, _, _, _, e, _⟩ => by rw [e]; rfl) fun X vs H Q c ⟨v, s, t, x, y, e, h1, h2, q⟩ => ?_
  subst e
  obtain ⟨n1, n2, g_least⟩ := nm55_1
  walk_at "go"
  exact ret_pt q (by assumption)
theorem vl_am {E : Ev} (T : CL E) (z : Int) (F : FD E (inC 49 3) ["self", "known"] (Ma E "Amount" "value")) : Df E 1 (Ma E "Amount" "value") (spVal E (.am z)) := by
  refine df_of F sc49_3 (fun vs H Q ⟨_, _, _, e, _⟩ => by rw [e]; rfl) fun X vs H Q c ⟨v, a, d, e, h, g, hd, hok, q⟩ => ?_
  obtain ⟨p, dx, u, rfl, hp, hu⟩ := h
  subst e
  have n0 := nm49_3
  walk_at "go"
  exact ⟨_, _, _, _, _, rfl, hp, T.at_ (C := "Amount") (by decide +kernel), lk_hd, ret_pt q hu⟩
theorem vl_nm {E : Ev} (T : CL E) (x : Str) (F : FD E (inC 50 4) ["self", "known"] (Ma E "Name" "value")) : Df E 1 (Ma E "Name" "value") (spVal E (.nm x)) := by
  refine df_of F sc50_4 (fun vs H Q ⟨_, _, _, e, _⟩ => by rw [e]; rfl) fun X vs H Q c ⟨v, a, d, e, h, g, hd, hok, q⟩ => ?_
  obtain ⟨p, dx, rfl, hp⟩ := h
  subst e
  obtain ⟨n1, n0⟩ := nm50_4
  walk_at "go"
  refine ⟨_, _, _, _, _, rfl, hp, T.at_ (C := "Name") (by decide +kernel), lk_hd, ?_⟩
  obtain ⟨t, g1, g2⟩ := da_get hd hok
  exact x_dic c (fun _ _ => rfl) g1 (ret_pt q g2)
theorem vl_two {E : Ev} (T : CL E) {n : Nat} (k : Tk) (a b : Wt) (F : FD E (inC 51 3) ["self", "known"] (Ma E "Two" "value")) (dr : ∀ k : Tk, Dm E 4 (Ca E k.cls) "reckoned" (spReck E k.op))
    (da : Dm E (n + 6) (Ca E a.cls) "value" (spVal E a)) (db : Dm E (n + 6) (Ca E b.cls) "value" (spVal E b)) : Df E (n + 7) (Ma E "Two" "value") (spVal E (.two k a b)) := by
  refine df_of F sc51_3 (fun vs H Q ⟨_, _, _, e, _⟩ => by rw [e]; rfl) fun X vs H Q c ⟨v, ad, d, e, h, g, hd, hok, q⟩ => ?_
  have h0 := h
  obtain ⟨p, dx, u, w, rfl, hp, hu, hw⟩ := h
  subst e
  obtain ⟨n0, n1⟩ := nm51_3
  obtain ⟨a1, a2⟩ := at_two T k
  refine wb_one (ws_ret (w_mW c ?_))
  walk_at "go"
  refine ⟨.two k a b, _, _, h0, dr k, by omega, ?_⟩
  refine wa_cons (w_mW c ?_)
  walk_at "go"
  refine ⟨_, _, _, _, _, rfl, hp, a1, lk_hd, ⟨a, _, _, hu, da, by omega, ?_⟩⟩
  walk_at "go"
  refine ⟨u, ad, d, rfl, hu, g.1, hd, hok.1, fun v1 H1 s1 ⟨t1, e1, p1⟩ => ?_⟩
  subst e1
  refine wa_cons (w_mW c ?_)
  walk_at "go"
  refine ⟨_, _, _, _, _, rfl, s1 _ _ hp, a2, (lk_tl (by decide +kernel) lk_hd), ⟨b, _, _, hw.mono s1, db, by omega, ?_⟩⟩
  walk_at "go"
  refine ⟨w, ad, d, rfl, hw.mono s1, g.2, hd.mono s1, hok.2, fun v2 H2 s2 ⟨t2, e2, p2⟩ => ?_⟩
  subst e2
  walk_at "go"
  exact ⟨_, t1, t2, _, _, rfl, p1.mono s2, p2, fun v3 H3 s3 p3 => q _ _ ((s1.trans s2).trans s3) p3⟩
theorem vl_bands {E : Ev} (T : CL E) {n : Nat} (a w : Wt) (rows : List (Int × Int)) (f : Int → Int) {C : Str} (hC : Ca E w.cls = Ca E C) (ha : (C, ("one" : Str)) ∈ atTab) (hwo : ∀ H v, Wo E H w v → ∃ p dx u l, v = .ref p ∧ H p = some (.ins (Ca E C) dx [("one", u), ("pairs", .ref l)]) ∧ Wo E H a u)
    (hg : w.good → a.good) (hk : ∀ p, w.okN p → a.okN p) (hv : ∀ d, val d w = f (mx 0 (val d a))) (i2 : E.mg "NOUGHT_words" = some (.ref (Ca E "NOUGHT_words"))) (i3 : ∀ H, PtA E H (Ca E "NOUGHT_words") 0)
    (F : FD E (inC 57 5) ["self", "known"] (Ma E "Bands" "value")) (d1 : Dg E 2 "greatest" (sp2s E mx)) (dr : w.good → Dm E 4 (Ca E C) "reckoned" (spReckB E w f))
    (da : Dm E (n + 6) (Ca E a.cls) "value" (spVal E a)) : Df E (n + 7) (Ma E "Bands" "value") (spVal E w) := by
  refine df_of F sc57_5 (fun vs H Q ⟨_, _, _, e, _⟩ => by rw [e]; rfl) fun X vs H Q c ⟨v, ad, d, e, h, g, hd, hok, q⟩ => ?_
  obtain ⟨p, dx, u, l, rfl, hp, hu⟩ := hwo _ _ h
  subst e
  obtain ⟨n0, n1, g_greatest, g_NOUGHT_words⟩ := nm57_5
  refine wb_one (ws_ret (w_mW c ?_))
  walk_at "go"
  refine ⟨w, _, 4, h, by rw [hC]; exact dr g, by omega, ?_⟩
  refine wa_cons (w_call c g_greatest d1 (by omega) ?_)
  walk_at "go"
  refine w_mW c ?_
  walk_at "go"
  refine ⟨_, _, _, _, _, rfl, hp, T.at_ ha, lk_hd, ⟨a, _, _, hu, da, by omega, ?_⟩⟩
  walk_at "go"
  refine ⟨u, ad, d, rfl, hu, hg g, hd, hk _ hok, fun v1 H1 s1 ⟨t1, e1, p1⟩ => ?_⟩
  subst e1
  walk_at "go"
  refine ⟨_, t1, 0, _, rfl, i3 _, p1, fun t2 p2 => ?_⟩
  walk_at "go"
  exact ⟨_, t2, _, rfl, h.mono s1, p2, mx0 _, fun v3 H3 s3 p3 => q _ _ (s1.trans s3) (by rw [hv]; exact p3)⟩
theorem vl_if {E : Ev} (B : Bl E) (T : CL E) {n : Nat} (a b y z : Wt) (F : FD E (inC 59 3) ["self", "known"] (Ma E "If" "value")) (d1 : Dg E 1 "below" (sp2b E lt2))
    (dv : ∀ w ∈ [a, b, y, z], Dm E (n + 6) (Ca E w.cls) "value" (spVal E w)) : Df E (n + 7) (Ma E "If" "value") (spVal E (.iff a b y z)) := by
  refine df_of F sc59_3 (fun vs H Q ⟨_, _, _, e, _⟩ => by rw [e]; rfl) fun X vs H Q c ⟨v, ad, d, e, h, g, hd, hok, q⟩ => ?_
  obtain ⟨p, dx, t1, t2, u1, u2, u3, u4, rfl, hp, h1, h2, w1, w2, w3, w4⟩ := h
  subst e
  obtain ⟨n0, n1, n2, n3, l2, l3, g_int, g_below⟩ := nm59_3
  obtain ⟨g1, g2, g3, g4⟩ := g
  obtain ⟨k1, k2, k3, k4⟩ := hok
  refine wb_cons (ws_asg (w_lcS c [("word", 4)] (by decide +kernel) (wi_tup c ?_)))
  walk_at "go"
  refine ⟨_, _, _, _, _, rfl, hp, T.at_ (C := "If") (by decide +kernel), lk_hd, ⟨t1, rfl, ⟨_, h1⟩, ?_⟩⟩
  refine lcS0 (src_tup h1) (by show 2 < 100000; omega) (fun i y H => ∃ w, [a, b][i]? = some w ∧ ∃ t, y = .ref t ∧ PtA E H t (val d w)) (fun _ _ _ _ nl ⟨w, h1, t, h2, h3⟩ => ⟨w, h1, t, h2, h3.ts nl.ts⟩) (fun i x H1 hi s1 hx Y cY => ?_) fun D ys H1 hD s1 hl pr => ?_
  · obtain ⟨w, hw, ht⟩ : ∃ w, [a, b][i]? = some w ∧ Wo E H w x := by
      match i, hx with
      | 0, hx => cases hx; exact ⟨a, rfl, w1⟩
      | 1, hx => cases hx; exact ⟨b, rfl, w2⟩
    obtain ⟨hwm, gw, kw⟩ : w ∈ [a, b, y, z] ∧ w.good ∧ w.okN (fun x => (dget d x).isSome = true) := by
      match i, hw with
      | 0, hw => cases hw; exact ⟨by simp, g1, k1⟩
      | 1, hw => cases hw; exact ⟨by simp, g2, k2⟩
    have ht := ht.mono s1
    refine wg_name cY (by decide +kernel) ⟨wipe_one, Same.refl _, fun Y3 c3 => w_mW c3 ?_⟩
    walk_at "go"
    refine ⟨w, _, _, ht, dv w hwm, by omega, ?_⟩
    walk_at "go"
    exact ⟨x, ad, d, rfl, ht, gw, hd.mono s1, kw, fun v1 H2 s2 ⟨t, e, pt⟩ => ⟨s2, w, hw, t, e, pt⟩⟩
  · have pr : Paired _ [0, 1] ys := pr
    obtain ⟨y1, y2, rfl, r1, r2⟩ := pair_two pr
    obtain ⟨x1, q1, t5, rfl, p1⟩ := r1
    obtain ⟨x2, q2, t6, rfl, p2⟩ := r2
    cases q1
    cases q2
    refine wg_unl c (SqL.of hl) rfl (wgs_cons (wg_name c l2 (wgs_cons (wg_name c l3 (wgs_nil ?_)))))
    refine wb_one (ws_ret (w_mW c ?_))
    walk_at "go"
    refine ⟨_, _, _, _, _, rfl, s1 _ _ hp, T.at_ (C := "If") (by decide +kernel), (lk_tl (by decide +kernel) lk_hd), ?_⟩
    walk_at "go"
    have s1h := s1.tup h2
    cases hb : lt2 (val d a) (val d b)
    · refine x_tup c (fun _ _ => rfl) s1h (v := u4) (by rfl) ?_
      refine ⟨z, _, _, w4.mono s1, dv z (by simp), by omega, ?_⟩
      walk_at "go"
      refine ⟨u4, ad, d, rfl, w4.mono s1, g4, hd.mono s1, k4, fun v3 H3 s3 p3 => q _ _ (s1.trans s3) ?_⟩
      have e : val d (.iff a b y z) = val d z := if_neg (of_decide_eq_false hb)
      rw [e]
      exact p3
    · refine x_tup c (fun _ _ => rfl) s1h (v := u3) (by rfl) ?_
      refine ⟨y, _, _, w3.mono s1, dv y (by simp), by omega, ?_⟩
      walk_at "go"
      refine ⟨u3, ad, d, rfl, w3.mono s1, g3, hd.mono s1, k3, fun v3 H3 s3 p3 => q _ _ (s1.trans s3) ?_⟩
      have e : val d (.iff a b y z) = val d y := if_pos (of_decide_eq_true hb)
      rw [e]
      exact p3
end
section
-- 57.4 reckoned: ["self", "whole", "found", "ends", "begin", "rate", "row", "end", "top"]
abbrev N57_4 : List Str := ["self", "whole", "found", "ends", "begin", "rate", "row", "end", "top"]
theorem sc57_4 : FnScope N57_4 ["self", "whole"] (defScope (inC 57 4)) := ⟨rfl, rfl, rfl, by decide +kernel, rfl, by decide +kernel, by decide +kernel⟩
theorem nm57_4 : visB N57_4 (defScope (inC 57 4)) 0 "self" = true ∧ visB N57_4 (defScope (inC 57 4)) 1 "whole" = true ∧ visB N57_4 (defScope (inC 57 4)) 3 "ends" = true ∧ visB N57_4 (defScope (inC 57 4)) 7 "end" = true ∧ visB N57_4 (defScope (inC 57 4)) 6 "row" = true ∧ visB N57_4 (defScope (inC 57 4)) 8 "top" = true ∧ visB N57_4 (defScope (inC 57 4)) 2 "found" = true ∧ locB true N57_4 (defScope (inC 57 4)) 2 "found" = true ∧ locB true N57_4 (defScope (inC 57 4)) 3 "ends" = true ∧ locB true N57_4 (defScope (inC 57 4)) 6 "row" = true ∧ locB true N57_4 (defScope (inC 57 4)) 7 "end" = true ∧ locB true N57_4 (defScope (inC 57 4)) 8 "top" = true ∧ gloB (defScope (inC 57 4)) "NOUGHT_words" = true ∧ gloB (defScope (inC 57 4)) "zip" = true ∧ gloB (defScope (inC 57 4)) "least" = true ∧ gloB (defScope (inC 57 4)) "below" = true ∧ gloB (defScope (inC 57 4)) "plus" = true ∧ gloB (defScope (inC 57 4)) "times" = true ∧ gloB (defScope (inC 57 4)) "minus" = true :=
  ⟨by decide +kernel, by decide +kernel, by decide +kernel, by decide +kernel, by decide +kernel, by decide +kernel, by decide +kernel, by decide +kernel, by decide +kernel, by decide +kernel, by decide +kernel, by decide +kernel, by decide +kernel, by decide +kernel, by decide +kernel, by decide +kernel, by decide +kernel, by decide +kernel, by decide +kernel⟩
-- obtain ⟨n0, n1, n3, n7, n6, n8, n2, l2, l3, l6, l7, l8, g_NOUGHT_words, g_zip, g_least, g_below, g_plus, g_times, g_minus⟩ := nm57_4
-- 58.1 reckoned: ["self", "whole", "begin", "value"]
abbrev N58_1 : List Str := ["self", "whole", "begin", "value"]
theorem sc58_1 : FnScope N58_1 ["self", "whole"] (defScope (inC 58 1)) := ⟨rfl, rfl, rfl, by decide +kernel, rfl, by decide +kernel, by decide +kernel⟩
theorem nm58_1 : visB N58_1 (defScope (inC 58 1)) 0 "self" = true ∧ visB N58_1 (defScope (inC 58 1)) 1 "whole" = true :=
  ⟨by decide +kernel, by decide +kernel⟩
-- obtain ⟨n0, n1⟩ := nm58_1
theorem rk_bands {E : Ev} (T : CL E) (a : Wt) (rows : List (Int × Int)) (ok : RowsOk rows) (rt : RatesOk rows) (i2 : E.mg "NOUGHT_words" = some (.ref (Ca E "NOUGHT_words"))) (i3 : ∀ H, PtA E H (Ca E "NOUGHT_words") 0) (B : Bl E)
    (F : FD E (inC 57 4) ["self", "whole"] (Ma E "Bands" "reckoned")) (d1 : Dg E 2 "least" (sp2s E mn)) (d2 : Dg E 1 "below" (sp2b E lt2)) (d3 : Dg E 3 "plus" (sp2 E fun x y => x + y)) (d4 : Dg E 3 "minus" (sp2 E fun x y => x - y)) (d5 : Dg E 3 "times" (spTimes E)) :
    Df E 4 (Ma E "Bands" "reckoned") (spReckB E (.bands a rows) (bandsV rows)) := by
  refine df_of F sc57_4 (fun vs H Q ⟨_, _, _, e, _⟩ => by rw [e]; rfl) fun X vs H Q c ⟨v, s, w, e, h, h1, h2, q⟩ => ?_
  obtain ⟨p, dx, u, l, rfl, hp, hu, ts, hl, pr⟩ := h
  subst e
  obtain ⟨n0, n1, n3, n7, n6, n8, n2, l2, l3, l6, l7, l8, g_NOUGHT_words, g_zip, g_least, g_below, g_plus, g_times, g_minus⟩ := nm57_4
  have hn : ts.length = rows.length := Paired.length pr
  obtain ⟨⟨k1, k2⟩, kz, ku⟩ := ok
  refine wb_cons (ws_set c l2 ?_)
  walk_at "go"
  refine w_lcS c [("begin", 4), ("rate", 5)] (by decide +kernel) (wi_list c ?_)
  walk_at "go"
  refine ⟨_, _, _, _, _, rfl, hp, T.at_ (C := "Bands") (by decide +kernel), (lk_tl (by decide +kernel) lk_hd), ?_⟩
  walk_at "go"
  refine l_lst c hl ?_
  rw [cutV_one]
  intro l1 hl1
  have s1 : Same H (upd H l1 (.lst ((ts.map V.ref).drop 1))) := Same.new hl1
  refine ⟨l1, rfl, ⟨_, SqL.of upd_same⟩, ?_⟩
  refine lcS0 (src_list (SqL.of upd_same)) (by rw [List.length_drop, List.length_map]; omega) (fun i y H => ∃ t, y = .ref t ∧ ∃ p, rows[i + 1]? = some p ∧ PtA E H t p.1) (fun _ _ _ _ nl ⟨t, e, p, h1, h2⟩ => ⟨t, e, p, h1, h2.ts nl.ts⟩) (fun i x H1 hi s2 hx Y cY => ?_) fun D ys H1 hD s2 hys prd => ?_
  · rw [List.getElem?_drop, Nat.add_comm] at hx
    obtain ⟨t5, b5, r5, u5, w5, rfl, er5, hr5, h5, h6⟩ := row_at pr hx
    have s3 := s1.trans s2
    have h5 := h5.mono s3
    refine wg_two cY (i := 4) (j := 5) (by decide +kernel) (by decide +kernel) (s3.tup hr5) ⟨wipe_two (by decide), Same.refl _, fun Y3 c3 => ?_⟩
    walk_at "go"
    exact ⟨Same.refl _, u5, rfl, _, er5, h5⟩
  · walk_at "go"
    intro l4 hl4
    have s3 : Same H1 (upd H1 l4 (.lst [V.ref s])) := Same.new hl4
    have hyl : ys.length + 1 = rows.length := by
      have := Paired.length prd
      rw [List.length_range, List.length_drop, List.length_map] at this
      omega
    refine o_catL (s3 _ _ hys) upd_same (le_sz (by rw [List.length_cons, List.length_nil]; omega)) fun E1 hE1 => ?_
    generalize hH2 : upd (upd H1 l4 (.lst [V.ref s])) E1 (.lst (ys ++ [V.ref s])) = H2
    have s4 : Same H1 H2 := hH2 ▸ s3.trans (Same.new hE1)
    have hE2 : H2 E1 = some (.lst (ys ++ [V.ref s])) := by rw [← hH2]; exact upd_same
    have s5 : Same H H2 := (s1.trans s2).trans s4
    walk_at "go"
    refine ws_forS c (wi_zip c g_zip (B _ (by decide +kernel)) ?_)
    walk_at "go"
    refine ⟨_, _, _, _, _, rfl, s5 _ _ hp, T.at_ (C := "Bands") (by decide +kernel), (lk_tl (by decide +kernel) lk_hd), ?_⟩
    walk_at "go"
    refine ⟨_, _, _, _, rfl, rfl, s5.seq hl, SqL.of hE2, ?_⟩
    refine forS (src_zip (s5.seq hl) (SqL.of hE2)) (fun i σ H' => Same H2 H' ∧ ∃ t acc o6 o7 o8, PtA E H' t acc ∧ acc + bandsV (rows.drop i) w = bandsV rows w ∧ σ = [some (.ref p), some (.ref s), some (.ref t), some (.ref E1), none, none, o6, o7, o8])
      ⟨Same.refl _, _, 0, none, none, none, i3 _, by rw [List.drop_zero]; omega, rfl⟩ (fun i σ H h => h.1) ?_ ?_
    · rintro σ H' ⟨s6, t, acc, o6, o7, o8, ht, hacc, rfl⟩
      walk_at "go"
      refine q _ _ (s5.trans s6) ⟨t, rfl, ?_⟩
      rw [List.length_map, List.length_append, List.length_singleton, List.drop_eq_nil_of_le (by omega)] at hacc
      have e0 : acc = bandsV rows w := by rw [← hacc]; simp [bandsV]
      rw [← e0]
      exact ht
    · rintro i σ H' x H3 hi ⟨s6, t, acc, o6, o7, o8, ht, hacc, rfl⟩ s7 ⟨T0, y1, y2, rfl, hT0, hy1, hy2⟩
      obtain ⟨t5, b5, r5, u5, w5, rfl, er5, hr5, h5, h6⟩ := row_at pr hy1
      have s8 := (s5.trans s6).trans s7
      have hr5 := s8.tup hr5
      have h5 := h5.mono s8
      have h6 := h6.mono s8
      have ht := ht.mono s7
      have h1 := h1.mono s8
      obtain ⟨e7, rfl, he7⟩ : ∃ e7, y2 = .ref e7 ∧ PtA E H3 e7 ((rows[i + 1]?.map (·.1)).getD w) := by
        by_cases hi2 : i < ys.length
        · rw [List.getElem?_append_left hi2] at hy2
          obtain ⟨j, hj, t7, e7, p7, er7, h7⟩ := pair_at' prd hy2
          have ej : j = i := by
            rw [List.getElem?_range (by rw [List.length_drop, List.length_map]; omega)] at hj
            injection hj with hj
            exact hj.symm
          subst ej
          refine ⟨t7, e7, ?_⟩
          rw [er7]
          exact h7.mono ((s4.trans s6).trans s7)
        · have ei : i = ys.length := by
            rw [List.length_map, List.length_append, List.length_singleton] at hi
            omega
          subst ei
          rw [List.getElem?_append_right (Nat.le_refl _), Nat.sub_self] at hy2
          injection hy2 with hy2
          refine ⟨s, hy2.symm, ?_⟩
          rw [List.getElem?_eq_none (by omega)]
          exact h1
      have hst := bands_step w rows i (by rw [List.length_map, List.length_append, List.length_singleton] at hi; omega)
      rw [hst] at hacc
      have eg : rows.getD i (0, 0) = (b5, r5) := by rw [List.getD_eq_getElem?_getD, er5]; rfl
      have esh : share rows i w = if b5 < mn ((rows[i + 1]?.map (·.1)).getD w) w then r5 / 2 * (mn ((rows[i + 1]?.map (·.1)).getD w) w - b5) else 0 := by
        unfold share
        rw [eg]
      rw [esh] at hacc
      generalize (rows[i + 1]?.map (·.1)).getD w = ew at he7 hacc
      refine wg_two c l6 l7 (SqT.of hT0) ?_
      walk_at "go"
      refine iteC (fun hb => ?_) (fun hb => ?_)
      · have hb := of_decide_eq_true hb
        rw [if_pos hb] at hacc
        obtain ⟨r1, r2, r3⟩ := rt _ (List.mem_of_getElem? er5)
        have h62 : PtA E H3 w5 (2 * (r5 / 2)) := by rw [show 2 * (r5 / 2) = r5 by omega]; exact h6
        walk_at "go"
        refine ⟨w5, _, r5 / 2, _, rfl, h62.mono (by assumption), by assumption, by omega, ret_in fun t9 H9 s9 p9 => ?_⟩
        walk_at "go"
        exact ⟨by walk_at "same", _, _, _, _, _, by assumption, by show acc + r5 / 2 * (mn ew w - b5) + bandsV (rows.drop (i + 1)) w = bandsV rows w; omega, rfl⟩
      · have hb := of_decide_eq_false hb
        rw [if_neg hb] at hacc
        walk_at "go"
        exact ⟨s6.trans s7, t, acc, _, _, _, ht, by omega, rfl⟩
theorem rk_steps {E : Ev} (T : CL E) (a : Wt) (rows : List (Int × Int)) (ok : RowsOk rows) (F : FD E (inC 58 1) ["self", "whole"] (Ma E "Steps" "reckoned")) (d2 : Dg E 1 "below" (sp2b E lt2)) :
    Df E 4 (Ma E "Steps" "reckoned") (spReckB E (.steps a rows) (stepsV rows)) := by
  refine (df_of (k := 1) F sc58_1 (fun vs H Q ⟨_, _, _, e, _⟩ => by rw [e]; rfl) fun X vs H Q c ⟨v, s, w, e, h, h1, h2, q⟩ => ?_).mono (by omega)
  obtain ⟨p, dx, u, l, rfl, hp, hu, ts, hl, pr⟩ := h
  subst e
  obtain ⟨n0, n1⟩ := nm58_1
  have hn : ts.length = rows.length := Paired.length pr
  obtain ⟨⟨k1, k2⟩, kz, ku⟩ := ok
  walk_at "go"
  refine w_lcS c [("begin", 2), ("value", 3)] (by decide +kernel) (wi_list c ?_)
  walk_at "go"
  refine ⟨_, _, _, _, _, rfl, hp, T.at_ (C := "Steps") (by decide +kernel), (lk_tl (by decide +kernel) lk_hd), ?_⟩
  refine ⟨l, rfl, ⟨_, hl⟩, ?_⟩
  refine lcS (src_list hl) (by rw [List.length_map]; omega) (fun i => (fun p : Int × Int => !decide (w < p.1)) (rows.getD i (0, 0))) (fun i y H => ∃ t, y = .ref t ∧ PtA E H t (rows.getD i (0, 0)).2) (fun _ _ _ _ nl ⟨t, e, h2⟩ => ⟨t, e, h2.ts nl.ts⟩) (fun i x H1 hi s2 hx Y cY => ?_) fun D ys H1 hD s2 hys prd => ?_
  · obtain ⟨t5, b5, r5, u5, w5, rfl, er5, hr5, h5, h6⟩ := row_at pr hx
    have h5 := h5.mono s2
    have h6 := h6.mono s2
    have h1 := h1.mono s2
    have eg : rows.getD i (0, 0) = (b5, r5) := by rw [List.getD_eq_getElem?_getD, er5]; rfl
    refine wg_two cY (i := 2) (j := 3) (by decide +kernel) (by decide +kernel) (s2.tup hr5) ⟨wipe_two (by decide), Same.refl _, fun Y3 c3 => ?_⟩
    walk_at "go"
    refine ⟨Same.refl _, by rw [eg], fun _ Y4 c4 => ?_⟩
    walk_at "go"
    exact ⟨Same.refl _, w5, rfl, by rw [eg]; exact h6⟩
  · walk_at "go"
    rw [List.length_map, hn] at prd
    have p2 := pair_map (R := fun (p : Int × Int) y => ∃ t, y = V.ref t ∧ PtA E H1 t p.2) (fun i => rows.getD i (0, 0)) prd
    rw [range_filter (fun p : Int × Int => !decide (w < p.1)) (0, 0) rows] at p2
    obtain ⟨z, hz⟩ : ∃ z, (rows.filter fun p => !decide (w < p.1)).getLast? = some z := by
      have hm : rows[0] ∈ rows.filter fun p => !decide (w < p.1) := by
        refine List.mem_filter.mpr ⟨List.getElem_mem _, ?_⟩
        rw [kz _ (List.getElem?_eq_getElem (by omega)), decide_eq_false (by omega)]
        rfl
      rw [List.getLast?_eq_getElem?]
      exact ⟨_, List.getElem?_eq_getElem (by have := List.length_pos_of_mem hm; omega)⟩
    obtain ⟨y, hy, t, rfl, ht⟩ := pair_last p2 hz
    refine x_lst c (fun _ _ => rfl) (SqL.of hys) hy (q _ _ s2 ⟨t, rfl, ?_⟩)
    have e : stepsV rows w = z.2 := by
      unfold stepsV
      rw [steps_last]
      unfold lastOf
      rw [hz]
      rfl
    rw [e]
    exact ht
end
section
section
variable {E : Ev} (t : Tx E)
include t
theorem p_whole : Dg E 1 "is_whole" spWhole := ok_whole t.B (t.gd _ _ _ (by decide +kernel))
theorem p_common : Dg E 1 "common" spCommon := ok_common (t.gd _ _ _ (by decide +kernel))
theorem p_is_part : Dg E 2 "is_part" (spIsPart E) := ok_is_part t.B (t.gd _ _ _ (by decide +kernel)) (p_whole t) (p_common t)
theorem p_part : Dg E 2 "part" (spPart E) := ok_part t.B (t.gd _ _ _ (by decide +kernel)) (p_whole t) (p_common t)
theorem p_plus : Dg E 3 "plus" (sp2 E fun x y => x + y) := ok_plus (t.gd _ _ _ (by decide +kernel)) (p_part t)
theorem p_minus : Dg E 3 "minus" (sp2 E fun x y => x - y) := ok_minus (t.gd _ _ _ (by decide +kernel)) (p_part t)
theorem p_times : Dg E 3 "times" (spTimes E) := ok_times (t.gd _ _ _ (by decide +kernel)) (p_part t)
theorem p_below : Dg E 1 "below" (sp2b E lt2) := ok_below (t.gd _ _ _ (by decide +kernel))
theorem p_greatest : Dg E 2 "greatest" (sp2s E mx) := ok_greatest (t.gd _ _ _ (by decide +kernel)) (p_below t)
theorem p_least : Dg E 2 "least" (sp2s E mn) := ok_least (t.gd _ _ _ (by decide +kernel)) (p_below t)
theorem p_mixed : Dg E 1 "_law_mixed" spMixed := ok_mixed (t.gd _ _ _ (by decide +kernel))
theorem p_low : Dg E 1 "_law_low" (spPart E) := ok_low t.B (t.gd _ _ _ (by decide +kernel))
theorem p_sum : Dg E 2 "_law_sum" (sp2 E fun x y => x + y) := ok_sum (t.gd _ _ _ (by decide +kernel)) (p_low t)
theorem p_rest : Dg E 2 "_law_rest" (sp2 E fun x y => x - y) := ok_rest (t.gd _ _ _ (by decide +kernel)) (p_low t)
theorem p_product : Dg E 2 "_law_product" (spTimes E) := ok_product (t.gd _ _ _ (by decide +kernel)) (p_low t)
theorem p_under : Dg E 1 "_law_under" (sp2b E lt2) := ok_under (t.gd _ _ _ (by decide +kernel))
theorem p_is_name : Dg E 1 "is_name" spIsName := ok_is_name t.B (t.gd _ _ _ (by decide +kernel)) (t.cints _ _ (by decide +kernel)) t.kept t.keptL t.letters
theorem p_need_part : Dg E 3 "need_part" (spNeedPart E) := ok_need_part (t.gd _ _ _ (by decide +kernel)) (p_is_part t)
theorem p_are_rows : Dg E 3 "are_rows" (spAreRows E) := ok_are_rows t.B (t.gd _ _ _ (by decide +kernel)) (t.cints _ _ (by decide +kernel)) (t.no _ (by decide +kernel)).1 (t.no _ (by decide +kernel)).2 (p_is_part t) (p_below t)
theorem m_inner : ∀ w : Wt, Dm E 1 (Ca E w.cls) "inner" (spInner E w) := inner_dm t.B t.T (t.fd _ _ _ _ _ (by decide +kernel)) (t.fd _ _ _ _ _ (by decide +kernel)) (t.fd _ _ _ _ _ (by decide +kernel)) (t.fd _ _ _ _ _ (by decide +kernel))
theorem m_kind : ∀ w : Wt, Dm E 1 (Ca E w.cls) "kind" (spKind w.kind) := kind_dm t.T (t.fd _ _ _ _ _ (by decide +kernel)) (t.fd _ _ _ _ _ (by decide +kernel)) (t.fd _ _ _ _ _ (by decide +kernel)) (t.fd _ _ _ _ _ (by decide +kernel)) (t.fd _ _ _ _ _ (by decide +kernel)) (t.fd _ _ _ _ _ (by decide +kernel)) (t.fd _ _ _ _ _ (by decide +kernel)) (t.fd _ _ _ _ _ (by decide +kernel)) (t.fd _ _ _ _ _ (by decide +kernel))
theorem m_deep : ∀ n w, Wt.deep w ≤ n → Dm E (n + 2) (Ca E w.cls) "deep" (spDeep E w) := wd_deep t.B t.T (t.fd _ _ _ _ _ (by decide +kernel)) (m_inner t)
theorem m_size : ∀ n w, Wt.deep w ≤ n → Dm E (n + 2) (Ca E w.cls) "size" (spSize E w) := wd_size t.B t.T (t.fd _ _ _ _ _ (by decide +kernel)) (m_inner t)
theorem m_names : ∀ n w, Wt.deep w ≤ n → Dm E (n + 2) (Ca E w.cls) "names" (spNames E w) := wd_names t.B t.T (t.fd _ _ _ _ _ (by decide +kernel)) (t.fd _ _ _ _ _ (by decide +kernel)) (m_inner t)
theorem m_reck : ∀ k : Tk, Dm E 4 (Ca E k.cls) "reckoned" (spReck E k.op) := reck_dm0 t.T fun k => match k with
  | .plus => rk_plus (t.fd _ _ _ _ _ (by decide +kernel)) (p_plus t)
  | .less => rk_less (t.fd _ _ _ _ _ (by decide +kernel)) (p_minus t)
  | .greater => rk_greater (t.fd _ _ _ _ _ (by decide +kernel)) (p_greatest t)
  | .lesser => rk_lesser (t.fd _ _ _ _ _ (by decide +kernel)) (p_least t)
theorem m_value : ∀ n w, Wt.deep w ≤ n → Dm E (n + 6) (Ca E w.cls) "value" (spVal E w) := by
  intro n
  induction n with
  | zero => intro w h; exact absurd h (by cases w <;> simp [Wt.deep])
  | succ n ih =>
    intro w hw
    have F := t.fd "Two" "value" 51 3 ["self", "known"] (by decide +kernel)
    have G := t.fd "Bands" "value" 57 5 ["self", "known"] (by decide +kernel)
    have i2 := t.no "NOUGHT_words" (by decide +kernel)
    match w, hw with
    | .am z, hw => exact t.T.dm (C := "Amount") (D := "Amount") (by decide +kernel) ((vl_am t.T z (t.fd _ _ _ _ _ (by decide +kernel))).mono (by omega))
    | .nm x, hw => exact t.T.dm (C := "Name") (D := "Name") (by decide +kernel) ((vl_nm t.T x (t.fd _ _ _ _ _ (by decide +kernel))).mono (by omega))
    | .two k a b, hw =>
      have d := vl_two (n := n) t.T k a b F (m_reck t) (ih a (by simp only [Wt.deep] at hw; omega)) (ih b (by simp only [Wt.deep] at hw; omega))
      cases k with
      | plus => exact t.T.dm (C := "Plus") (D := "Two") (by decide +kernel) d
      | less => exact t.T.dm (C := "Less") (D := "Two") (by decide +kernel) d
      | greater => exact t.T.dm (C := "Greater") (D := "Two") (by decide +kernel) d
      | lesser => exact t.T.dm (C := "Lesser") (D := "Two") (by decide +kernel) d
    | .bands a rows, hw =>
      exact t.T.dm (C := "Bands") (D := "Bands") (by decide +kernel) (vl_bands (n := n) t.T a (.bands a rows) rows (bandsV rows) (C := "Bands") rfl (by decide +kernel) (fun H v ⟨p, dx, u, l, h1, h2, h3, _⟩ => ⟨p, dx, u, l, h1, h2, h3⟩) (fun g => g.1) (fun p o => o) (fun d => rfl) i2.1 i2.2 G (p_greatest t)
        (fun g => t.T.dm (C := "Bands") (D := "Bands") (by decide +kernel) (rk_bands t.T a rows g.2.1 g.2.2 i2.1 i2.2 t.B (t.fd _ _ _ _ _ (by decide +kernel)) (p_least t) (p_below t) (p_plus t) (p_minus t) (p_times t)))
        (ih a (by simp only [Wt.deep] at hw; omega)))
    | .steps a rows, hw =>
      exact t.T.dm (C := "Steps") (D := "Bands") (by decide +kernel) (vl_bands (n := n) t.T a (.steps a rows) rows (stepsV rows) (C := "Steps") rfl (by decide +kernel) (fun H v ⟨p, dx, u, l, h1, h2, h3, _⟩ => ⟨p, dx, u, l, h1, h2, h3⟩) (fun g => g.1) (fun p o => o) (fun d => rfl) i2.1 i2.2 G (p_greatest t)
        (fun g => t.T.dm (C := "Steps") (D := "Steps") (by decide +kernel) (rk_steps t.T a rows g.2 (t.fd _ _ _ _ _ (by decide +kernel)) (p_below t)))
        (ih a (by simp only [Wt.deep] at hw; omega)))
    | .iff a b y z, hw =>
      refine t.T.dm (C := "If") (D := "If") (by decide +kernel) (vl_if (n := n) t.B t.T a b y z (t.fd _ _ _ _ _ (by decide +kernel)) (p_below t) fun w hm => ih w ?_)
      have h1 : w.deep < (Wt.iff a b y z).deep := kids_deep (w := .iff a b y z) hm
      omega
end
end
section
-- 25 are_amounts: ["thing", "names", "name", "value"]
abbrev N25 : List Str := ["thing", "names", "name", "value"]
theorem sc25 : FnScope N25 ["thing", "names"] (defScope (top 25)) := ⟨rfl, rfl, rfl, by decide +kernel, rfl, by decide +kernel, by decide +kernel⟩
theorem nm25 : visB N25 (defScope (top 25)) 0 "thing" = true ∧ visB N25 (defScope (top 25)) 1 "names" = true ∧ gloB (defScope (top 25)) "isinstance" = true ∧ gloB (defScope (top 25)) "dict" = true ∧ gloB (defScope (top 25)) "len" = true ∧ gloB (defScope (top 25)) "all" = true :=
  ⟨by decide +kernel, by decide +kernel, by decide +kernel, by decide +kernel, by decide +kernel, by decide +kernel⟩
-- obtain ⟨n0, n1, g_isinstance, g_dict, g_len, g_all⟩ := nm25
-- 26 need_taken: ["charter", "taken"]
abbrev N26 : List Str := ["charter", "taken"]
theorem sc26 : FnScope N26 ["charter", "taken"] (defScope (top 26)) := ⟨rfl, rfl, rfl, by decide +kernel, rfl, by decide +kernel, by decide +kernel⟩
theorem nm26 : visB N26 (defScope (top 26)) 1 "taken" = true ∧ visB N26 (defScope (top 26)) 0 "charter" = true ∧ gloB (defScope (top 26)) "are_amounts" = true ∧ gloB (defScope (top 26)) "NoTaken" = true :=
  ⟨by decide +kernel, by decide +kernel, by decide +kernel, by decide +kernel⟩
-- obtain ⟨n1, n0, g_are_amounts, g_NoTaken⟩ := nm26
-- 27 dues: ["charter", "taken", "known", "found", "name"]
abbrev N27 : List Str := ["charter", "taken", "known", "found", "name"]
theorem sc27 : FnScope N27 ["charter", "taken"] (defScope (top 27)) := ⟨rfl, rfl, rfl, by decide +kernel, rfl, by decide +kernel, by decide +kernel⟩
theorem nm27 : visB N27 (defScope (top 27)) 0 "charter" = true ∧ visB N27 (defScope (top 27)) 1 "taken" = true ∧ visB N27 (defScope (top 27)) 3 "found" = true ∧ visB N27 (defScope (top 27)) 4 "name" = true ∧ visB N27 (defScope (top 27)) 2 "known" = true ∧ locB true N27 (defScope (top 27)) 2 "known" = true ∧ locB true N27 (defScope (top 27)) 3 "found" = true ∧ locB true N27 (defScope (top 27)) 4 "name" = true ∧ gloB (defScope (top 27)) "need_taken" = true ∧ gloB (defScope (top 27)) "dict" = true :=
  ⟨by decide +kernel, by decide +kernel, by decide +kernel, by decide +kernel, by decide +kernel, by decide +kernel, by decide +kernel, by decide +kernel, by decide +kernel, by decide +kernel⟩
-- obtain ⟨n0, n1, n3, n4, n2, l2, l3, l4, g_need_taken, g_dict⟩ := nm27
-- 69.2 takes: ["self"]
abbrev N69_2 : List Str := ["self"]
theorem sc69_2 : FnScope N69_2 ["self"] (defScope (inC 69 2)) := ⟨rfl, rfl, rfl, by decide +kernel, rfl, by decide +kernel, by decide +kernel⟩
theorem nm69_2 : visB N69_2 (defScope (inC 69 2)) 0 "self" = true ∧ gloB (defScope (inC 69 2)) "list" = true :=
  ⟨by decide +kernel, by decide +kernel⟩
-- obtain ⟨n0, g_list⟩ := nm69_2
-- 69.3 lets: ["self"]
abbrev N69_3 : List Str := ["self"]
theorem sc69_3 : FnScope N69_3 ["self"] (defScope (inC 69 3)) := ⟨rfl, rfl, rfl, by decide +kernel, rfl, by decide +kernel, by decide +kernel⟩
theorem nm69_3 : visB N69_3 (defScope (inC 69 3)) 0 "self" = true ∧ gloB (defScope (inC 69 3)) "list" = true :=
  ⟨by decide +kernel, by decide +kernel⟩
-- obtain ⟨n0, g_list⟩ := nm69_3
-- 69.4 word: ["self", "name"]
abbrev N69_4 : List Str := ["self", "name"]
theorem sc69_4 : FnScope N69_4 ["self", "name"] (defScope (inC 69 4)) := ⟨rfl, rfl, rfl, by decide +kernel, rfl, by decide +kernel, by decide +kernel⟩
theorem nm69_4 : visB N69_4 (defScope (inC 69 4)) 1 "name" = true ∧ visB N69_4 (defScope (inC 69 4)) 0 "self" = true ∧ gloB (defScope (inC 69 4)) "isinstance" = true ∧ gloB (defScope (inC 69 4)) "str" = true ∧ gloB (defScope (inC 69 4)) "NoLet" = true :=
  ⟨by decide +kernel, by decide +kernel, by decide +kernel, by decide +kernel, by decide +kernel⟩
-- obtain ⟨n1, n0, g_isinstance, g_str, g_NoLet⟩ := nm69_4
theorem ok_takes {E : Ev} (t : Tx E) : Dm E 1 (Ca E "Charter") "takes" (spTakes E) := by
  refine t.T.dm (D := "Charter") (by decide +kernel) (df_of (t.fd _ _ _ _ _ (by decide +kernel)) sc69_2 (fun vs H Q ⟨_, _, _, e, _⟩ => by rw [e]; rfl) fun X vs H Q c ⟨p, tk, lets, e, h, q⟩ => ?_)
  subst e
  obtain ⟨dx, nm, l, d, kvs, h1, h2, h3, h4⟩ := h.ex
  have B := t.B
  obtain ⟨n0, g_list⟩ := nm69_2
  walk_at "go"
  exact q
theorem ok_lets {E : Ev} (t : Tx E) : Dm E 1 (Ca E "Charter") "lets" (spLets E) := by
  refine t.T.dm (D := "Charter") (by decide +kernel) (df_of (t.fd _ _ _ _ _ (by decide +kernel)) sc69_3 (fun vs H Q ⟨_, _, _, e, _⟩ => by rw [e]; rfl) fun X vs H Q c ⟨p, tk, lets, e, h, q⟩ => ?_)
  subst e
  obtain ⟨dx, nm, l, d, kvs, h1, h2, h3, h4⟩ := h.ex
  have B := t.B
  obtain ⟨n0, g_list⟩ := nm69_3
  walk_at "go"
  refine c_list_d c h3 ?_
  rw [kr_keys h4]
  exact q
theorem ok_word {E : Ev} (t : Tx E) : Dm E 1 (Ca E "Charter") "word" (spWord E) := by
  refine t.T.dm (D := "Charter") (by decide +kernel) (df_of (t.fd _ _ _ _ _ (by decide +kernel)) sc69_4 (fun vs H Q ⟨_, _, _, _, _, _, _, e, _⟩ => by rw [e]; rfl) fun X vs H Q c ⟨p, tk, lets, F, i, x, w, e, h, s, nd, hi, q⟩ => ?_)
  subst e
  obtain ⟨dx, nm, l, d, kvs, h1, h2, h3, h4⟩ := h.ex
  have B := t.B
  obtain ⟨n1, n0, g_isinstance, g_str, g_NoLet⟩ := nm69_4
  obtain ⟨v, e1, e2⟩ := kr_get h4 nd hi
  have g : DGet H d (.str x) (some v) := by rw [← e1]; exact DGet.k (k := .inr x) (s _ _ h3)
  walk_at "go"
  refine ⟨_, _, _, _, _, rfl, s _ _ h1, t.T.at_ (C := "Charter") (by decide +kernel), (lk_tl (by decide +kernel) (lk_tl (by decide +kernel) lk_hd)), ?_⟩
  refine o_notin_d c g ?_
  walk_at "go"
  refine ⟨_, _, _, _, _, rfl, s _ _ h1, t.T.at_ (C := "Charter") (by decide +kernel), (lk_tl (by decide +kernel) (lk_tl (by decide +kernel) lk_hd)), ?_⟩
  walk_at "go"
  exact x_dic c (fun _ _ => rfl) g (q v e2)
theorem ok_are_am {E : Ev} (t : Tx E) (d1 : Dg E 2 "is_part" (spIsPart E)) (d2 : Dg E 1 "below" (sp2b E lt2)) : Dg E 3 "are_amounts" (spAreAm E) := by
  refine dg_of (t.gd _ _ _ (by decide +kernel)) sc25 (fun vs H Q ⟨_, _, _, _, e, _⟩ => by rw [e]; rfl) fun X vs H Q c ⟨a, l, d, nms, e, hd, hl, ok, hz, q⟩ => ?_
  subst e
  have B := t.B
  obtain ⟨n0, n1, g_isinstance, g_dict, g_len, g_all⟩ := nm25
  have hd0 := hd
  obtain ⟨kvs, h1, h2⟩ := hd
  obtain ⟨k1, k2, k3⟩ := ok
  have hk : kvs.length = d.length := Paired.length h2
  obtain ⟨i1, i2⟩ := t.no "NOUGHT_dues" (by decide +kernel)
  walk_at "go"
  rw [List.length_map]
  walk_at "go"
  refine w_lcS c [("name", 2)] (by decide +kernel) (wi_list c ?_)
  walk_at "go"
  refine ⟨⟨_, SqL.of hl⟩, lcS0 (src_list (SqL.of hl)) (by rw [List.length_map]; omega) (fun _ y _ => y = .bl true) (fun _ _ _ _ _ h => h) (fun i y H' hi s1 hy Y cY => ?_) fun D ys H' hD s1 hl1 pr => ?_⟩
  · rw [List.getElem?_map] at hy
    obtain ⟨x, hx, rfl⟩ : ∃ x, nms[i]? = some x ∧ y = .str x := by
      cases q : nms[i]? with
      | none => rw [q] at hy; cases hy
      | some x => rw [q] at hy; cases hy; exact ⟨x, rfl, rfl⟩
    refine wg_name cY (by decide +kernel) ⟨wipe_one, Same.refl _, fun Y3 c3 => ?_⟩
    walk_at "go"
    obtain ⟨r, g1, g2, _⟩ := rd_get (x := x) (.inl (s1 _ _ h1)) h2
    refine o_in_d c3 g1 ⟨Same.refl _, ?_⟩
    rw [g2, k2 _ (List.mem_of_getElem? hx)]
  · walk_at "go"
    refine c_allT c hl1 pr ?_
    walk_at "go"
    have h3 := s1 _ _ h1
    refine w_lock ⟨a, _, h3, trivial, fun od => ?_⟩
    refine w_lcS c [("value", 3)] (by decide +kernel) (wi_values ?_)
    walk_at "go"
    refine ⟨_, _, _, rfl, upd_same, ?_⟩
    refine lcS0 (src_vals upd_same) (by omega) (fun _ y _ => y = .bl true) (fun _ _ _ _ _ h => h) (fun i y H2 hi s2 hy Y cY => ?_) fun D2 ys2 H2 hD2 s2 hl2 pr2 => ?_
    · obtain ⟨k, hk2⟩ := hy
      obtain ⟨⟨x, z⟩, hq, hp1, t1, ht1, hp2⟩ := pair_at h2 hk2
      have hp2 : PtA E H2 t1 z := ((hp2.mono s1).lock h3).mono s2
      have hz0 : 0 ≤ z := k3 _ (List.mem_of_getElem? hq)
      have ht1 : y = .ref t1 := ht1
      subst ht1
      have hn := i2 H2
      refine wg_name cY (by decide +kernel) ⟨wipe_one, Same.refl _, fun Y3 c3 => ?_⟩
      walk_at "go"
      refine ⟨Same.refl _, ?_⟩
      show V.bl (!decide (z < 0)) = .bl true
      rw [decide_eq_false (by omega)]
      rfl
    · refine ⟨s2 _ _ upd_same, ?_⟩
      have s3 := lock_same h3 s2
      have ne : D2 ≠ a := fun e => by rw [e, upd_same] at hD2; cases hD2
      walk_at "go"
      refine c_allT c (by rw [upd_ne ne]; exact hl2) pr2 ?_
      exact q _ (s1.trans s3)
theorem ok_need_taken {E : Ev} (t : Tx E) (d1 : Dg E 3 "are_amounts" (spAreAm E)) : Dg E 4 "need_taken" (spNeedTaken E) := by
  refine dg_of (t.gd _ _ _ (by decide +kernel)) sc26 (fun vs H Q ⟨_, _, _, _, _, e, _⟩ => by rw [e]; rfl) fun X vs H Q c ⟨p, a, tk, lets, d, e, hc, hd, ok, hz, q⟩ => ?_
  subst e
  obtain ⟨n1, n0, g_are_amounts, g_NoTaken⟩ := nm26
  obtain ⟨dx, nm, l, d', kvs, h1, h2, h3, h4⟩ := hc.ex
  walk_at "go"
  refine w_meth0 c ?_
  walk_at "go"
  refine at_meth (R := fun sp => sp [.ref p] H _) h1 (lk_tl (by decide +kernel) (lk_tl (by decide +kernel) (lk_tl (by decide +kernel) rfl))) (ok_takes t) (by omega) ⟨p, tk, lets, rfl, hc, fun l2 hl2 => ?_⟩
  walk_at "go"
  refine ⟨a, l2, d, tk, rfl, hd.mono (Same.new hl2), upd_same, ok, hz, fun H' s' => ?_⟩
  walk_at "go"
  exact q _ ((Same.new hl2).trans s')
theorem ok_dues {E : Ev} (t : Tx E) (d1 : Dg E 4 "need_taken" (spNeedTaken E)) (dv : ∀ w, Wt.deep w ≤ 8 → Dm E 14 (Ca E w.cls) "value" (spVal E w)) : Dg E 15 "dues" (spDues E) := by
  refine dg_of (t.gd _ _ _ (by decide +kernel)) sc27 (fun vs H Q ⟨_, _, _, _, _, e, _⟩ => by rw [e]; rfl) fun X vs H Q c ⟨p, a, tk, lets, d, e, hc, hd, ok, hz, hz2, okl, nd, q⟩ => ?_
  subst e
  have B := t.B
  obtain ⟨n0, n1, n3, n4, n2, l2, l3, l4, g_need_taken, g_dict⟩ := nm27
  obtain ⟨dx, nm, l0, d', kvs', h1, h2, h3, h4⟩ := hc.ex
  have hno : ∀ m, (("own" : Str) == m) = false → True := fun _ _ => trivial
  walk_at "go"
  refine ⟨p, a, tk, lets, d, rfl, hc, hd, ok, hz, fun H1 s1 => ?_⟩
  walk_at "go"
  obtain ⟨kvs, hk1, hk2⟩ := hd.mono s1
  refine c_dict_d hk1 fun k hk => ?_
  walk_at "go"
  refine w_dict0 fun f hf => ?_
  walk_at "go"
  generalize hH2 : upd (upd H1 k (.dK kvs)) f (.dK []) = H2
  have ne : k ≠ f := fun e => by rw [← e, upd_same] at hf; cases hf
  have s2 : Same H H2 := hH2 ▸ s1.trans ((Same.new hk).trans (Same.new hf))
  have ts : TS H1 H2 := hH2 ▸ ((Same.new hk).trans (Same.new hf)).ts
  have k0 : H k = none := none_of s1 hk
  have f0 : H f = none := none_of (s1.trans (Same.new hk)) hf
  have dk : DA E H2 k d := ⟨kvs, by rw [← hH2, upd_ne ne, upd_same], hk2.ts ts⟩
  have df : DA E H2 f [] := ⟨[], by rw [← hH2, upd_same], .nil⟩
  clear hH2
  refine ws_forS c (wi_list c (w_meth0 c ?_))
  walk_at "go"
  refine at_meth (R := fun sp => sp [.ref p] H2 _) (s2 _ _ h1) (lk_tl (by decide +kernel) (lk_tl (by decide +kernel) (lk_tl (by decide +kernel) rfl))) (ok_lets t) (by omega) ⟨p, tk, lets, rfl, hc.mono s2, fun l hl => ?_⟩
  refine ⟨l, rfl, ⟨_, SqL.of upd_same⟩, ?_⟩
  generalize hH3 : upd H2 l (.lst ((lets.map (·.1)).map V.str)) = H3
  have s3 : Same H2 H3 := hH3 ▸ Same.new hl
  have hl3 : H3 l = some (.lst ((lets.map (·.1)).map V.str)) := by rw [← hH3, upd_same]
  have nkl : l ≠ k := fun e => by obtain ⟨_, z, _⟩ := dk; rw [e] at hl; rw [hl] at z; cases z
  have nfl : l ≠ f := fun e => by obtain ⟨_, z, _⟩ := df; rw [e] at hl; rw [hl] at z; cases z
  have hlF : (del (del H3 k) f) l = some (.lst ((lets.map (·.1)).map V.str)) := by rw [del_ne nfl, del_ne nkl]; exact hl3
  refine forS (src_list (SqL.of hlF)) (fun i σ H' => Same (del (del H3 k) f) H' ∧ Same H H' ∧ σ[0]? = some (some (.ref p)) ∧ ∃ kd fd, DA E H' k kd ∧ DA E H' f fd ∧ duesF lets d = fd ++ duesF (lets.drop i) kd ∧ okLets (fun x => (dget kd x).isSome = true) (lets.drop i) ∧ fd.map (·.1) = (lets.take i).map (·.1) ∧ kd.length ≤ d.length + i ∧
      ∃ o, σ = [some (.ref p), some (.ref a), some (.ref k), some (.ref f), o]) ⟨?_, s2.trans s3, rfl, d, [], dk.mono s3, df.mono s3, rfl, okl, rfl, Nat.le_refl _, none, rfl⟩ (fun i σ H h => h.1) ?_ ?_
  · exact (del_same _ _).trans (del_same _ _)
  · rintro σ H' ⟨s4, s5, _, kd, fd, hkd, hfd, hdf, _, _, _, o, rfl⟩
    walk_at "go"
    rw [List.length_map, List.length_map, List.drop_length] at hdf
    have e : fd = duesF lets d := by rw [hdf]; exact (List.append_nil _).symm
    exact q f H' s5 f0 (e ▸ hfd)
  · rintro i σ H' x H4 hi ⟨s4, s5, _, kd, fd, hkd, hfd, hdf, okd, hnm, hlen, o, rfl⟩ s6 hy
    rw [List.length_map, List.length_map] at hi
    rw [List.getElem?_map, List.getElem?_map, List.getElem?_eq_getElem hi] at hy
    obtain ⟨⟨nmx, w⟩, hw⟩ : ∃ xw, lets[i] = xw := ⟨_, rfl⟩
    have hy2 : x = .str nmx := by rw [hw] at hy; injection hy with hy; exact hy.symm
    have hgi : lets[i]? = some (nmx, w) := by rw [List.getElem?_eq_getElem hi, hw]
    subst hy2
    have hdr : lets.drop i = (nmx, w) :: lets.drop (i + 1) := by rw [List.drop_eq_getElem_cons hi, hw]
    rw [hdr] at okd hdf
    obtain ⟨gw, kw, dw, okr⟩ := okd
    have s7 : Same H H4 := s5.trans s6
    refine wg_name c l4 ?_
    refine wb_cons (ws_sub (w_mW c (w_meth c ?_)))
    walk_at "go"
    refine at_meth (R := fun sp => WA X _ _ H4 fun vs H2 => sp (.ref p :: vs) H2 _) (s7 _ _ h1) (lk_tl (by decide +kernel) (lk_tl (by decide +kernel) (lk_tl (by decide +kernel) rfl))) (ok_word t) (by omega) ?_
    walk_at "go"
    refine ⟨p, tk, lets, H, i, nmx, w, rfl, hc, s7, nd, hgi, fun v hv => ?_⟩
    have hv4 := hv.mono s7
    refine ⟨w, _, _, hv4, dv w dw, by omega, ?_⟩
    walk_at "go"
    refine ⟨v, k, kd, rfl, hv4, gw, hkd.mono s6, kw, fun v5 H5 s8 p5 => ?_⟩
    walk_at "go"
    have s9 := s6.trans s8
    have hfl : fd.length ≤ lets.length := by
      have := congrArg List.length hnm
      rw [List.length_map, List.length_map, List.length_take] at this
      omega
    have hkl : kd.length ≤ 2000 := by have := ok.len; omega
    have nnew : nmx ∉ fd.map (·.1) := by
      rw [hnm]
      intro hm
      obtain ⟨q, hq1, hq2⟩ := List.mem_map.mp hm
      rw [List.mem_take_iff_getElem] at hq1
      obtain ⟨j, hj, ej⟩ := hq1
      have hj : j < i ∧ j < lets.length := by omega
      have e1 : (lets.map (·.1))[j]'(by rw [List.length_map]; omega) = (lets.map (·.1))[i]'(by rw [List.length_map]; omega) := by
        rw [List.getElem_map, List.getElem_map, ej, hw]
        exact hq2
      exact List.pairwise_iff_getElem.mp nd j i _ _ hj.1 e1
    refine i_da c ((hfd.mono s6).mono s8) (by omega) p5 fun kvs6 hf6 ts6 => ?_
    have hk6 : DA E (upd H5 f (.dK kvs6)) k kd := ((hkd.mono s6).mono s8).off ne ts6
    have p6 : Pt E (upd H5 f (.dK kvs6)) v5 (val kd w) := p5.ts ts6
    obtain ⟨t6, g6, pt6⟩ := da_get (x := nmx) hf6 (dput_isSome _ _ _ _ (.inl rfl))
    rw [dget_put, if_pos rfl] at pt6
    walk_at "go"
    refine x_dic c (fun _ _ => rfl) g6 ?_
    walk_at "go"
    refine i_da c hk6 (by omega) ⟨t6, rfl, pt6⟩ fun kvs7 hk7 ts7 => ?_
    have hf7 := hf6.off ne.symm ts7
    have hff : (del (del H3 k) f) f = none := del_at _ _
    have hkk : (del (del H3 k) f) k = none := by rw [del_ne ne, del_at]
    refine ⟨Same.mut (Same.mut ((s4.trans s6).trans s8) hff) hkk, Same.mut (Same.mut ((s5.trans s6).trans s8) f0) k0, rfl, _, _, hk7, hf7, ?_, ?_, ?_, ?_, _, rfl⟩
    · rw [dput_new nnew, hdf, List.append_assoc]
      rfl
    · exact okLets_imp (fun y hy => dput_isSome _ _ _ _ hy) okr
    · rw [dput_new nnew, List.map_append, hnm, List.take_succ, List.map_append, hgi]
      rfl
    · exact Nat.le_trans (dput_len _ _ _) (by omega)
end
section
-- 35.1 need_year: ["self", "year"]
abbrev N35_1 : List Str := ["self", "year"]
theorem sc35_1 : FnScope N35_1 ["self", "year"] (defScope (inC 35 1)) := ⟨rfl, rfl, rfl, by decide +kernel, rfl, by decide +kernel, by decide +kernel⟩
theorem nm35_1 : visB N35_1 (defScope (inC 35 1)) 1 "year" = true ∧ visB N35_1 (defScope (inC 35 1)) 0 "self" = true ∧ gloB (defScope (inC 35 1)) "is_whole" = true ∧ gloB (defScope (inC 35 1)) "len" = true ∧ gloB (defScope (inC 35 1)) "NoYear" = true :=
  ⟨by decide +kernel, by decide +kernel, by decide +kernel, by decide +kernel, by decide +kernel⟩
-- obtain ⟨n1, n0, g_is_whole, g_len, g_NoYear⟩ := nm35_1
-- 35.2 need_amounts: ["self", "taken", "take"]
abbrev N35_2 : List Str := ["self", "taken", "take"]
theorem sc35_2 : FnScope N35_2 ["self", "taken"] (defScope (inC 35 2)) := ⟨rfl, rfl, rfl, by decide +kernel, rfl, by decide +kernel, by decide +kernel⟩
theorem nm35_2 : visB N35_2 (defScope (inC 35 2)) 1 "taken" = true ∧ visB N35_2 (defScope (inC 35 2)) 0 "self" = true ∧ gloB (defScope (inC 35 2)) "are_amounts" = true ∧ gloB (defScope (inC 35 2)) "NoTaken" = true :=
  ⟨by decide +kernel, by decide +kernel, by decide +kernel, by decide +kernel⟩
-- obtain ⟨n1, n0, g_are_amounts, g_NoTaken⟩ := nm35_2
-- 35.3 add: ["self", "taken"]
abbrev N35_3 : List Str := ["self", "taken"]
theorem sc35_3 : FnScope N35_3 ["self", "taken"] (defScope (inC 35 3)) := ⟨rfl, rfl, rfl, by decide +kernel, rfl, by decide +kernel, by decide +kernel⟩
theorem nm35_3 : visB N35_3 (defScope (inC 35 3)) 0 "self" = true ∧ visB N35_3 (defScope (inC 35 3)) 1 "taken" = true ∧ gloB (defScope (inC 35 3)) "len" = true ∧ gloB (defScope (inC 35 3)) "MOST_YEARS" = true ∧ gloB (defScope (inC 35 3)) "TooMany" = true ∧ gloB (defScope (inC 35 3)) "list" = true ∧ gloB (defScope (inC 35 3)) "dict" = true :=
  ⟨by decide +kernel, by decide +kernel, by decide +kernel, by decide +kernel, by decide +kernel, by decide +kernel, by decide +kernel⟩
-- obtain ⟨n0, n1, g_len, g_MOST_YEARS, g_TooMany, g_list, g_dict⟩ := nm35_3
-- 35.6 years: ["self"]
abbrev N35_6 : List Str := ["self"]
theorem sc35_6 : FnScope N35_6 ["self"] (defScope (inC 35 6)) := ⟨rfl, rfl, rfl, by decide +kernel, rfl, by decide +kernel, by decide +kernel⟩
theorem nm35_6 : visB N35_6 (defScope (inC 35 6)) 0 "self" = true ∧ gloB (defScope (inC 35 6)) "len" = true :=
  ⟨by decide +kernel, by decide +kernel⟩
-- obtain ⟨n0, g_len⟩ := nm35_6
theorem ok_years {E : Ev} (t : Tx E) : Dm E 1 (Ca E "Ledger") "years" (spYears E) := by
  refine t.T.dm (D := "Ledger") (by decide +kernel) (df_of (t.fd _ _ _ _ _ (by decide +kernel)) sc35_6 (fun vs H Q ⟨_, _, _, _, e, _⟩ => by rw [e]; rfl) fun X vs H Q c ⟨F, p, S, os, e, h, q⟩ => ?_)
  subst e
  obtain ⟨dx, ch, cd, rl, pl, nl, pls, ns, come, h, e, hc⟩ := h
  have B := t.B
  obtain ⟨n0, g_len⟩ := nm35_6
  obtain ⟨rs, hr, pr⟩ := h.hrl
  have hp := h.hp
  walk_at "go"
  rw [List.length_map, Paired.length pr]
  exact q
theorem ok_need_year {E : Ev} (t : Tx E) (d1 : Dg E 1 "is_whole" spWhole) : Dm E 2 (Ca E "Ledger") "need_year" (spNeedYear E) := by
  refine t.T.dm (D := "Ledger") (by decide +kernel) (df_of (t.fd _ _ _ _ _ (by decide +kernel)) sc35_1 (fun vs H Q ⟨_, _, _, _, _, e, _⟩ => by rw [e]; rfl) fun X vs H Q c ⟨F, p, S, os, y, e, h, hy, q⟩ => ?_)
  subst e
  obtain ⟨dx, ch, cd, rl, pl, nl, pls, ns, come, h, e, hc⟩ := h
  have B := t.B
  obtain ⟨n1, n0, g_is_whole, g_len, g_NoYear⟩ := nm35_1
  obtain ⟨rs, hr, pr⟩ := h.hrl
  have hp := h.hp
  have hl := Paired.length pr
  walk_at "go"
  rw [List.length_map]
  walk_at "go"
  exact q
theorem ok_need_am {E : Ev} (t : Tx E) (d1 : Dg E 3 "are_amounts" (spAreAm E)) : Dm E 4 (Ca E "Ledger") "need_amounts" (spNeedAm E) := by
  refine t.T.dm (D := "Ledger") (by decide +kernel) (df_of (t.fd _ _ _ _ _ (by decide +kernel)) sc35_2 (fun vs H Q ⟨_, _, _, _, _, _, e, _⟩ => by rw [e]; rfl) fun X vs H Q c ⟨F, p, S, os, a, d, e, h, ok, hd, am, q⟩ => ?_)
  subst e
  obtain ⟨dx, ch, cd, rl, pl, nl, pls, ns, come, h, e, hc⟩ := h
  have B := t.B
  obtain ⟨n1, n0, g_are_amounts, g_NoTaken⟩ := nm35_2
  have hp := h.hp
  have hch := h.chH
  obtain ⟨dx2, nm, l0, d', kvs', h1, h2, h3, h4⟩ := hch.ex
  have hcd : CA H cd S.car := h.fs _ _ h.hcd
  walk_at "go"
  refine w_lcS c [("take", 2)] (by decide +kernel) (wi_list c (w_meth0 c ?_))
  walk_at "go"
  refine at_meth (R := fun sp => sp [.ref ch] H _) h1 (lk_tl (by decide +kernel) (lk_tl (by decide +kernel) (lk_tl (by decide +kernel) rfl))) (ok_takes t) (by omega) ⟨ch, S.tk, S.lets, rfl, hch, fun l hl => ?_⟩
  have s1 : Same H (upd H l (.lst (S.tk.map V.str))) := Same.new hl
  refine ⟨l, rfl, ⟨_, SqL.of upd_same⟩, ?_⟩
  refine lcS (src_list (SqL.of upd_same)) (by rw [List.length_map]; have := ok.ch.few; omega) (fun i => (fun x => (cget S.car x).isNone) (S.tk.getD i "")) (fun i y _ => y = .str (S.tk.getD i "")) (fun _ _ _ _ _ h => h) (fun i y H' hi s2 hy Y cY => ?_) fun D ys H' hD s2 hl2 pr => ?_
  · obtain ⟨x, hx, rfl⟩ : ∃ x, S.tk[i]? = some x ∧ y = .str x := by
      rw [List.getElem?_map] at hy
      cases q : S.tk[i]? with
      | none => rw [q] at hy; cases hy
      | some x => rw [q] at hy; cases hy; exact ⟨x, rfl, rfl⟩
    have eg : S.tk.getD i "" = x := by rw [List.getD_eq_getElem?_getD, hx]; rfl
    have hcd2 : CA H' cd S.car := (s1.trans s2) _ _ hcd
    have hp2 := (s1.trans s2) _ _ hp
    refine wg_name cY (by decide +kernel) ⟨wipe_one, Same.refl _, fun Y3 c3 => ?_⟩
    walk_at "go"
    refine o_notin_d c3 (DGet.k (k := .inr x) hcd2) ?_
    refine ⟨_, rfl, Same.refl _, ?_, fun _ Y4 c4 => ?_⟩
    · rw [eg, carK_get]
      show (!((cget S.car x).map V.str).isSome) = (cget S.car x).isNone
      cases cget S.car x <;> rfl
    · walk_at "go"
      exact ⟨Same.refl _, by rw [eg]⟩
  · walk_at "go"
    rw [List.length_map] at pr
    have p2 := pair_map (R := fun (x : Str) y => y = V.str x) (fun i => S.tk.getD i "") pr
    rw [range_filter (fun x => (cget S.car x).isNone) "" S.tk] at p2
    have ey : ys = (freeOf S.tk S.car).map V.str := by
      apply List.ext_getElem?
      intro i
      have hln := Paired.length p2
      rw [List.getElem?_map]
      cases q : (freeOf S.tk S.car)[i]? with
      | none => rw [List.getElem?_eq_none_iff] at q; rw [List.getElem?_eq_none (by rw [← hln]; exact q)]; rfl
      | some x => obtain ⟨y, h1, h2⟩ := pair_at p2 q; rw [h1, h2]; rfl
    rw [ey] at hl2
    refine ⟨a, D, d, _, rfl, hd.mono (s1.trans s2), hl2, am, ?_, fun H3 s3 => ?_⟩
    · have h1 : (freeOf S.tk S.car).length ≤ S.tk.length := List.length_filter_le _ _
      have := ok.ch.few
      omega
    · walk_at "go"
      exact q _ ((s1.trans s2).trans s3)
theorem ok_add {E : Ev} (t : Tx E) (da : Dm E 4 (Ca E "Ledger") "need_amounts" (spNeedAm E)) : Dm E 5 (Ca E "Ledger") "add" (spAdd E) := by
  refine t.T.dm (D := "Ledger") (by decide +kernel) (df_of (t.fd _ _ _ _ _ (by decide +kernel)) sc35_3 (fun vs H Q ⟨_, _, _, _, _, _, e, _⟩ => by rw [e]; rfl) fun X vs H Q c ⟨F, p, S, os, a, d, e, hL, ok, hd, am, hlt, q⟩ => ?_)
  subst e
  obtain ⟨dx, ch, cd, rl, pl, nl, pls, ns, come, h, e, hc⟩ := id hL
  have B := t.B
  obtain ⟨n0, n1, g_len, g_MOST_YEARS, g_TooMany, g_list, g_dict⟩ := nm35_3
  have i1 := t.cints "MOST_YEARS" 200 (by decide +kernel)
  obtain ⟨rs, hr, pr⟩ := h.hrl
  have hp := h.hp
  have hln := Paired.length pr
  obtain ⟨f1, f2, f3⟩ := ok.few
  walk_at "go"
  rw [List.length_map]
  walk_at "go"
  refine w_mO c ?_
  walk_at "go"
  refine ⟨p, _, _, _, _, _, rfl, hp, led_no rfl, da, by omega, ?_⟩
  walk_at "go"
  refine ⟨F, p, S, os, a, d, rfl, hL, ok, hd, am, fun H1 s1 => ?_⟩
  have h1 := h.grow s1
  have hp1 := h1.hp
  have hr1 : H1 rl = some (.lst (rs.map V.ref)) := s1 _ _ hr
  walk_at "go"
  refine w_append c ?_
  walk_at "go"
  refine ⟨pl, _, rfl, h1.hpl, ?_⟩
  walk_at "go"
  intro b hb
  have hbo := h1.fresh hb
  have hbF := none_of h1.fs hb
  have h2 := h1.grow (Same.new (p := b) (o := .lst (rs.map V.ref)) hb)
  have pr2 : Paired (LDA E F (upd H1 b (.lst (rs.map V.ref)))) rs S.rows := Paired.mapP pr fun _ _ z => z.mono (Same.refl _) (s1.trans (Same.new hb)).ts
  have h3 := h2.past (b := b) (rows := S.rows) hbo hbF ⟨rs, upd_same, pr2⟩
  have st3 : Stp F os H F (os ++ [b]) (upd (upd H1 b (.lst (rs.map V.ref))) pl (.lst ((pls ++ [b]).map V.ref))) :=
    ((Stp.grow s1).trans (Stp.newO hb)).trans (Stp.upd (by rw [e]; simp) h2.hpl rfl)
  refine ⟨_, h2.hpl, by rw [List.length_map, Paired.length h.hps]; exact Nat.lt_of_lt_of_le (show _ < 100000 by omega) (by decide), ?_⟩
  rw [show pls.map V.ref ++ [V.ref b] = (pls ++ [b]).map V.ref by rw [List.map_append]; rfl]
  generalize hH3 : upd (upd H1 b (.lst (rs.map V.ref))) pl (.lst ((pls ++ [b]).map V.ref)) = H3 at h3 st3
  obtain ⟨kvs, hk, hkd⟩ := id hd
  have hao := h.noD hk
  have hk3 : H3 a = some (.dK kvs) := st3.keep a _ (by rw [e]; exact hao) hk
  have hkd3 := DR.ts st3.ts hkd
  have hp3 := h3.hp
  have pr3 : Paired (LDA E F H3) rs S.rows := Paired.mapP pr fun _ _ z => z.mono (Same.refl _) st3.ts
  obtain ⟨rs3, hr3, _⟩ := h3.hrl
  have ers : rs3.map V.ref = rs.map V.ref := by
    have : H3 rl = some (.lst (rs.map V.ref)) := by
      obtain ⟨a1, a2, a3, a4, b1, b2, b3, c1, c2, d1⟩ := h.ne
      rw [← hH3, upd_ne b1, upd_ne (fun z => hbo (by rw [← z]; simp)), hr1]
    rw [this] at hr3
    injection hr3 with e1
    injection e1 with e2
    exact e2.symm
  rw [ers] at hr3
  clear hH3
  walk_at "go"
  refine w_append c ?_
  walk_at "go"
  refine ⟨rl, _, rfl, hr3, ?_⟩
  walk_at "go"
  intro cc hcc
  have h4 := h3.newF (u := .dK kvs) hcc
  have hccF := none_of h3.fs hcc
  have st4 := st3.trans (Stp.newF (u := .dK kvs) hcc hccF)
  have n4 : rl ≠ cc := fun z => h3.fresh hcc (by rw [← z]; simp)
  refine ⟨_, by rw [upd_ne n4]; exact hr3, by rw [List.length_map]; exact Nat.lt_of_lt_of_le (show _ < 100000 by omega) (by decide), ?_⟩
  rw [show rs.map V.ref ++ [V.ref cc] = (rs ++ [cc]).map V.ref by rw [List.map_append]; rfl]
  have ldc : LDA E (upd F cc (.dK kvs)) (upd H3 cc (.dK kvs)) cc d := ⟨kvs, upd_same, hkd3.ts (Same.new hcc).ts⟩
  have h5 := h4.rows (rs := rs ++ [cc]) (rows := S.rows ++ [d]) (Paired.snoc (Paired.mapP pr3 fun _ _ z => z.mono (Same.new hccF) (Same.new hcc).ts) ldc)
  have st5 := st4.trans (Stp.upd (a := rl) (o := .lst ((rs ++ [cc]).map V.ref)) (by rw [e]; simp) (by rw [upd_ne n4]; exact hr3) rfl)
  have hp5 := h5.hp
  refine wb_cons (ws_attr c ?_)
  walk_at "go"
  refine ⟨p, _, _, _, rfl, hp5, t.T.at_ (C := "Ledger") (by decide +kernel), (show 6 < 1000 by decide), ?_⟩
  rw [putF_come]
  have h6 := h5.setc .non
  have st6 := st5.trans (Stp.upd (a := p) (o := .ins (Ca E "Ledger") dx (ledF ch cd rl pl nl .non)) (by rw [e]; simp) hp5 rfl)
  generalize upd (upd (upd H3 cc (.dK kvs)) rl (.lst ((rs ++ [cc]).map V.ref))) p (.ins (Ca E "Ledger") dx (ledF ch cd rl pl nl .non)) = H6 at h6 st6
  have hp6 := h6.hp
  have hk6 : H6 a = some (.dK kvs) := st6.keep a _ (by rw [e]; exact hao) hk
  have hkd6 := DR.ts st6.ts hkd
  walk_at "go"
  refine w_append c ?_
  walk_at "go"
  refine ⟨nl, _, rfl, h6.hnl, ?_⟩
  walk_at "go"
  intro ee hee
  walk_at "go"
  intro tt htt
  have heeF := none_of h6.fs hee
  have h7 := (h6.newF (u := .dK kvs) hee).grow (Same.new (o := .tup [.str "add", .ref ee]) htt)
  have st7 := (st6.trans (Stp.newF (u := .dK kvs) hee heeF)).trans (Stp.grow (Same.new (o := .tup [.str "add", .ref ee]) htt))
  refine ⟨_, h7.hnl, by rw [Paired.length h6.hns]; exact Nat.lt_of_lt_of_le (show S.notes.length < 100000 by omega) (by decide), ?_⟩
  have h8 := h7.note (v := .ref tt) (d := .add d) ⟨tt, ee, rfl, SqT.of upd_same, ⟨kvs, upd_same, hkd6.ts ((Same.new hee).trans (Same.new htt)).ts⟩⟩
  have st8 := st7.trans (Stp.upd (a := nl) (o := .lst (ns ++ [.ref tt])) (by rw [e]; simp) h7.hnl rfl)
  have hp8 := h8.hp
  obtain ⟨rs8, hr8, pr8⟩ := h8.hrl
  have hl8 : rs8.length = (S.rows ++ [d]).length := Paired.length pr8
  rw [List.length_append, List.length_singleton] at hl8
  walk_at "go"
  rw [List.length_map, hl8, show (((S.rows.length + 1 : Nat) : Int) - 1) = (S.rows.length : Nat) by omega]
  exact q _ _ _ st8 ⟨dx, ch, cd, rl, pl, nl, _, _, _, h8, by rw [e]; rfl, .inl rfl⟩
end
section
-- 35.4 mend: ["self", "year", "taken"]
abbrev N35_4 : List Str := ["self", "year", "taken"]
theorem sc35_4 : FnScope N35_4 ["self", "year", "taken"] (defScope (inC 35 4)) := ⟨rfl, rfl, rfl, by decide +kernel, rfl, by decide +kernel, by decide +kernel⟩
theorem nm35_4 : visB N35_4 (defScope (inC 35 4)) 0 "self" = true ∧ visB N35_4 (defScope (inC 35 4)) 1 "year" = true ∧ visB N35_4 (defScope (inC 35 4)) 2 "taken" = true ∧ gloB (defScope (inC 35 4)) "list" = true ∧ gloB (defScope (inC 35 4)) "dict" = true :=
  ⟨by decide +kernel, by decide +kernel, by decide +kernel, by decide +kernel, by decide +kernel⟩
-- obtain ⟨n0, n1, n2, g_list, g_dict⟩ := nm35_4
-- 35.5 undo: ["self"]
abbrev N35_5 : List Str := ["self"]
theorem sc35_5 : FnScope N35_5 ["self"] (defScope (inC 35 5)) := ⟨rfl, rfl, rfl, by decide +kernel, rfl, by decide +kernel, by decide +kernel⟩
theorem nm35_5 : visB N35_5 (defScope (inC 35 5)) 0 "self" = true ∧ gloB (defScope (inC 35 5)) "NotNow" = true :=
  ⟨by decide +kernel, by decide +kernel⟩
-- obtain ⟨n0, g_NotNow⟩ := nm35_5
theorem ok_mend {E : Ev} (t : Tx E) (dy : Dm E 2 (Ca E "Ledger") "need_year" (spNeedYear E)) (da : Dm E 4 (Ca E "Ledger") "need_amounts" (spNeedAm E)) : Dm E 5 (Ca E "Ledger") "mend" (spMend E) := by
  refine t.T.dm (D := "Ledger") (by decide +kernel) (df_of (t.fd _ _ _ _ _ (by decide +kernel)) sc35_4 (fun vs H Q ⟨_, _, _, _, _, _, _, e, _⟩ => by rw [e]; rfl) fun X vs H Q c ⟨F, p, S, os, y, a, d, e, hL, ok, hd, am, hlt, q⟩ => ?_)
  subst e
  obtain ⟨dx, ch, cd, rl, pl, nl, pls, ns, come, h, e, hc⟩ := id hL
  have B := t.B
  obtain ⟨n0, n1, n2, g_list, g_dict⟩ := nm35_4
  obtain ⟨rs, hr, pr⟩ := h.hrl
  have hp := h.hp
  have hln := Paired.length pr
  obtain ⟨f1, f2, f3⟩ := ok.few
  walk_at "go"
  refine w_mO c ?_
  walk_at "go"
  refine ⟨p, _, _, _, _, _, rfl, hp, led_no rfl, dy, by omega, ?_⟩
  walk_at "go"
  refine ⟨F, p, S, os, y, rfl, hL, hlt, ?_⟩
  walk_at "go"
  refine w_mO c ?_
  walk_at "go"
  refine ⟨p, _, _, _, _, _, rfl, hp, led_no rfl, da, by omega, ?_⟩
  walk_at "go"
  refine ⟨F, p, S, os, a, d, rfl, hL, ok, hd, am, fun H1 s1 => ?_⟩
  have h1 := h.grow s1
  have hp1 := h1.hp
  have hr1 : H1 rl = some (.lst (rs.map V.ref)) := s1 _ _ hr
  walk_at "go"
  refine w_append c ?_
  walk_at "go"
  refine ⟨pl, _, rfl, h1.hpl, ?_⟩
  walk_at "go"
  intro b hb
  have hbo := h1.fresh hb
  have hbF := none_of h1.fs hb
  have h2 := h1.grow (Same.new (p := b) (o := .lst (rs.map V.ref)) hb)
  have pr2 : Paired (LDA E F (upd H1 b (.lst (rs.map V.ref)))) rs S.rows := Paired.mapP pr fun _ _ z => z.mono (Same.refl _) (s1.trans (Same.new hb)).ts
  have h3 := h2.past (b := b) (rows := S.rows) hbo hbF ⟨rs, upd_same, pr2⟩
  have st3 : Stp F os H F (os ++ [b]) (upd (upd H1 b (.lst (rs.map V.ref))) pl (.lst ((pls ++ [b]).map V.ref))) :=
    ((Stp.grow s1).trans (Stp.newO hb)).trans (Stp.upd (by rw [e]; simp) h2.hpl rfl)
  refine ⟨_, h2.hpl, by rw [List.length_map, Paired.length h.hps]; exact Nat.lt_of_lt_of_le (show _ < 100000 by omega) (by decide), ?_⟩
  rw [show pls.map V.ref ++ [V.ref b] = (pls ++ [b]).map V.ref by rw [List.map_append]; rfl]
  generalize hH3 : upd (upd H1 b (.lst (rs.map V.ref))) pl (.lst ((pls ++ [b]).map V.ref)) = H3 at h3 st3
  obtain ⟨kvs, hk, hkd⟩ := id hd
  have hao := h.noD hk
  have hk3 : H3 a = some (.dK kvs) := st3.keep a _ (by rw [e]; exact hao) hk
  have hkd3 := DR.ts st3.ts hkd
  have hp3 := h3.hp
  have pr3 : Paired (LDA E F H3) rs S.rows := Paired.mapP pr fun _ _ z => z.mono (Same.refl _) st3.ts
  obtain ⟨rs3, hr3, _⟩ := h3.hrl
  have ers : rs3.map V.ref = rs.map V.ref := by
    have : H3 rl = some (.lst (rs.map V.ref)) := by
      obtain ⟨a1, a2, a3, a4, b1, b2, b3, c1, c2, d1⟩ := h.ne
      rw [← hH3, upd_ne b1, upd_ne (fun z => hbo (by rw [← z]; simp)), hr1]
    rw [this] at hr3
    injection hr3 with e1
    injection e1 with e2
    exact e2.symm
  rw [ers] at hr3
  clear hH3
  walk_at "go"
  intro cc hcc
  have h4 := h3.newF (u := .dK kvs) hcc
  have hccF := none_of h3.fs hcc
  have st4 := st3.trans (Stp.newF (u := .dK kvs) hcc hccF)
  have n4 : rl ≠ cc := fun z => h3.fresh hcc (by rw [← z]; simp)
  have hp4 := h4.hp
  have hr4 : upd H3 cc (.dK kvs) rl = some (.lst (rs.map V.ref)) := by rw [upd_ne n4]; exact hr3
  walk_at "go"
  refine i_lst hr4 (j := y) (by unfold ixN; rw [if_pos (by omega), if_pos (by rw [List.length_map]; omega)]; simp) ?_
  rw [show (rs.map V.ref).set y (V.ref cc) = (rs.set y cc).map V.ref by rw [List.map_set]]
  have ldc : LDA E (upd F cc (.dK kvs)) (upd H3 cc (.dK kvs)) cc d := ⟨kvs, upd_same, hkd3.ts (Same.new hcc).ts⟩
  have h5 := h4.rows (rs := rs.set y cc) (rows := S.rows.set y d) (paired_set ldc (Paired.mapP pr3 fun _ _ z => z.mono (Same.new hccF) (Same.new hcc).ts))
  have st5 := st4.trans (Stp.upd (a := rl) (o := .lst ((rs.set y cc).map V.ref)) (by rw [e]; simp) (by rw [upd_ne n4]; exact hr3) rfl)
  have hp5 := h5.hp
  refine wb_cons (ws_attr c ?_)
  walk_at "go"
  refine ⟨p, _, _, _, rfl, hp5, t.T.at_ (C := "Ledger") (by decide +kernel), (show 6 < 1000 by decide), ?_⟩
  rw [putF_come]
  have h6 := h5.setc .non
  have st6 := st5.trans (Stp.upd (a := p) (o := .ins (Ca E "Ledger") dx (ledF ch cd rl pl nl .non)) (by rw [e]; simp) hp5 rfl)
  generalize upd (upd (upd H3 cc (.dK kvs)) rl (.lst ((rs.set y cc).map V.ref))) p (.ins (Ca E "Ledger") dx (ledF ch cd rl pl nl .non)) = H6 at h6 st6
  have hp6 := h6.hp
  have hk6 : H6 a = some (.dK kvs) := st6.keep a _ (by rw [e]; exact hao) hk
  have hkd6 := DR.ts st6.ts hkd
  walk_at "go"
  refine w_append c ?_
  walk_at "go"
  refine ⟨nl, _, rfl, h6.hnl, ?_⟩
  walk_at "go"
  intro ee hee
  walk_at "go"
  intro tt htt
  have heeF := none_of h6.fs hee
  have h7 := (h6.newF (u := .dK kvs) hee).grow (Same.new (o := .tup [.str "mend", .int (y : Nat), .ref ee]) htt)
  have st7 := (st6.trans (Stp.newF (u := .dK kvs) hee heeF)).trans (Stp.grow (Same.new (o := .tup [.str "mend", .int (y : Nat), .ref ee]) htt))
  refine ⟨_, h7.hnl, by rw [Paired.length h6.hns]; exact Nat.lt_of_lt_of_le (show S.notes.length < 100000 by omega) (by decide), ?_⟩
  have h8 := h7.note (v := .ref tt) (d := .mend y d) ⟨tt, ee, rfl, SqT.of upd_same, ⟨kvs, upd_same, hkd6.ts ((Same.new hee).trans (Same.new htt)).ts⟩⟩
  have st8 := st7.trans (Stp.upd (a := nl) (o := .lst (ns ++ [.ref tt])) (by rw [e]; simp) h7.hnl rfl)
  walk_at "go"
  exact q _ _ _ st8 ⟨dx, ch, cd, rl, pl, nl, _, _, _, h8, by rw [e]; rfl, .inl rfl⟩

theorem ok_undo {E : Ev} (t : Tx E) : Dm E 1 (Ca E "Ledger") "undo" (spUndo E) := by
  refine t.T.dm (D := "Ledger") (by decide +kernel) (df_of (t.fd _ _ _ _ _ (by decide +kernel)) sc35_5 (fun vs H Q ⟨_, _, _, _, e, _⟩ => by rw [e]; rfl) fun X vs H Q c ⟨F, p, S, os, e, hL, ok, hne, q⟩ => ?_)
  subst e
  obtain ⟨dx, ch, cd, rl, pl, nl, pls, ns, come, h, e, hc⟩ := id hL
  have n0 := nm35_5.1
  have hp := h.hp
  obtain ⟨f1, f2, f3⟩ := ok.few
  obtain ⟨ps, last, hS⟩ : ∃ ps last, S.past = ps ++ [last] := by
    rcases List.eq_nil_or_concat S.past with e0 | ⟨l, b, e0⟩
    · exact absurd e0 hne
    · exact ⟨l, b, by rw [e0, List.concat_eq_append]⟩
  have hpl := Paired.length h.hps
  obtain ⟨pl0, b, rfl⟩ : ∃ pl0 b, pls = pl0 ++ [b] := by
    rcases List.eq_nil_or_concat pls with e0 | ⟨l, b, e0⟩
    · rw [e0, hS] at hpl
      simp at hpl
    · exact ⟨l, b, by rw [e0, List.concat_eq_append]⟩
  walk_at "go"
  intro l hl
  have s1 : Same H (upd H l (.lst [])) := Same.new hl
  refine o_eq_nil c (SqL.of (s1 _ _ h.hpl)) (SqL.of upd_same) ?_
  refine ⟨_, rfl, ?_⟩
  rw [decide_eq_false (by simp)]
  refine iteF ?_
  have h1 := h.grow s1
  have hp1 := h1.hp
  walk_at "go"
  refine ws_attr c (w_pop c ?_)
  walk_at "go"
  refine ⟨pl, _, .ref b, rfl, h1.hpl, by rw [List.map_append, List.length_append]; simp, ?_⟩
  have ed : ((pl0 ++ [b]).map V.ref).dropLast = pl0.map V.ref := by rw [List.map_append]; exact List.dropLast_concat
  rw [ed]
  obtain ⟨a1, a2, a3, a4, b1, b2, b3, c1, c2, d1⟩ := h.ne
  have hp2 : upd (upd H l (.lst [])) pl (.lst (pl0.map V.ref)) p = some (.ins (Ca E "Ledger") dx (ledF ch cd rl pl nl come)) := by rw [upd_ne a2]; exact hp1
  walk_at "go"
  refine ⟨p, _, _, _, rfl, hp2, t.T.at_ (C := "Ledger") (by decide +kernel), (show 6 < 1000 by decide), ?_⟩
  rw [putF_rows]
  have h3 := h1.drop hS
  have st3 := ((Stp.grow (F := F) (os := os) s1).trans (Stp.upd (a := pl) (o := .lst (pl0.map V.ref)) (by rw [e]; simp) h1.hpl rfl)).trans (Stp.upd (a := p) (o := .ins (Ca E "Ledger") dx (ledF ch cd b pl nl come)) (by rw [e]; simp) hp2 rfl)
  generalize upd (upd (upd H l (.lst [])) pl (.lst (pl0.map V.ref))) p (.ins (Ca E "Ledger") dx (ledF ch cd b pl nl come)) = H3 at h3 st3
  have hp3 := h3.hp
  refine wb_cons (ws_attr c ?_)
  walk_at "go"
  refine ⟨p, _, _, _, rfl, hp3, t.T.at_ (C := "Ledger") (by decide +kernel), (show 6 < 1000 by decide), ?_⟩
  rw [putF_come]
  have h4 := h3.setc .non
  have st4 := st3.trans (Stp.upd (a := p) (o := .ins (Ca E "Ledger") dx (ledF ch cd b pl nl .non)) (by rw [e]; simp) hp3 rfl)
  generalize upd H3 p (.ins (Ca E "Ledger") dx (ledF ch cd b pl nl .non)) = H4 at h4 st4
  have hp4 := h4.hp
  walk_at "go"
  refine w_append c ?_
  walk_at "go"
  refine ⟨nl, _, rfl, h4.hnl, ?_⟩
  walk_at "go"
  intro tt htt
  have h5 := h4.grow (Same.new (o := .tup [.str "undo"]) htt)
  have st5 := st4.trans (Stp.grow (Same.new (o := .tup [.str "undo"]) htt))
  refine ⟨_, h5.hnl, by rw [Paired.length h.hns]; exact Nat.lt_of_lt_of_le (show S.notes.length < 100000 by omega) (by decide), ?_⟩
  have h6 := h5.note (v := .ref tt) (d := .undo) ⟨tt, rfl, SqT.of upd_same⟩
  have st6 := st5.trans (Stp.upd (a := nl) (o := .lst (ns ++ [.ref tt])) (by rw [e]; simp) h5.hnl rfl)
  walk_at "go"
  have eS : S.undo = { S with rows := last, past := ps, notes := S.notes ++ [.undo] } := by
    unfold LS.undo
    rw [hS, List.getLast?_concat, List.dropLast_concat]
    rfl
  refine q F (osOf p b pl nl pl0) _ ⟨st6.ff, st6.ts, st6.keep, st6.dom, st6.fnew, fun x hx => .inl ?_⟩ ⟨dx, ch, cd, b, pl, nl, pl0, _, _, by rw [eS]; exact h6, rfl, .inl rfl⟩
  rw [e]
  simp only [osOf, List.mem_cons, List.mem_append, List.mem_singleton] at hx ⊢
  rcases hx with rfl | rfl | rfl | rfl | hx
  · exact .inl rfl
  · exact .inr (.inr (.inr (.inr (.inr (.inl rfl)))))
  · exact .inr (.inr (.inl rfl))
  · exact .inr (.inr (.inr (.inl rfl)))
  · exact .inr (.inr (.inr (.inr (.inl hx))))
end
section
-- 35.8 from_the_first: ["self", "found", "ahead", "row", "taken", "take"]
abbrev N35_8 : List Str := ["self", "found", "ahead", "row", "taken", "take"]
theorem sc35_8 : FnScope N35_8 ["self"] (defScope (inC 35 8)) := ⟨rfl, rfl, rfl, by decide +kernel, rfl, by decide +kernel, by decide +kernel⟩
theorem nm35_8 : visB N35_8 (defScope (inC 35 8)) 0 "self" = true ∧ visB N35_8 (defScope (inC 35 8)) 5 "take" = true ∧ visB N35_8 (defScope (inC 35 8)) 4 "taken" = true ∧ visB N35_8 (defScope (inC 35 8)) 2 "ahead" = true ∧ visB N35_8 (defScope (inC 35 8)) 3 "row" = true ∧ visB N35_8 (defScope (inC 35 8)) 1 "found" = true ∧ locB true N35_8 (defScope (inC 35 8)) 1 "found" = true ∧ locB true N35_8 (defScope (inC 35 8)) 2 "ahead" = true ∧ locB true N35_8 (defScope (inC 35 8)) 3 "row" = true ∧ locB true N35_8 (defScope (inC 35 8)) 4 "taken" = true ∧ locB true N35_8 (defScope (inC 35 8)) 5 "take" = true ∧ gloB (defScope (inC 35 8)) "greatest" = true ∧ gloB (defScope (inC 35 8)) "NOUGHT_ledgers" = true ∧ gloB (defScope (inC 35 8)) "dues" = true :=
  ⟨by decide +kernel, by decide +kernel, by decide +kernel, by decide +kernel, by decide +kernel, by decide +kernel, by decide +kernel, by decide +kernel, by decide +kernel, by decide +kernel, by decide +kernel, by decide +kernel, by decide +kernel, by decide +kernel⟩
-- obtain ⟨n0, n5, n4, n2, n3, n1, l1, l2, l3, l4, l5, g_greatest, g_NOUGHT_ledgers, g_dues⟩ := nm35_8
theorem ok_first {E : Ev} (t : Tx E) (dg : Dg E 2 "greatest" (sp2s E mx)) (dd : Dg E 15 "dues" (spDues E)) : Dm E 16 (Ca E "Ledger") "from_the_first" (spFirst E) := by
  refine t.T.dm (D := "Ledger") (by decide +kernel) (df_of (t.fd _ _ _ _ _ (by decide +kernel)) sc35_8 (fun vs H Q ⟨_, _, _, _, e, _⟩ => by rw [e]; rfl) fun X vs H Q c ⟨F, p, S, os, e, hL, ok, q⟩ => ?_)
  subst e
  obtain ⟨dx, ch, cd, rl, pl, nl, pls, ns, come, h, e, hc⟩ := id hL
  obtain ⟨n0, n5, n4, n2, n3, n1, l1, l2, l3, l4, l5, g_greatest, g_NOUGHT_ledgers, g_dues⟩ := nm35_8
  have hp := h.hp
  obtain ⟨rs, hr, pr⟩ := h.hrl
  have hln := Paired.length pr
  obtain ⟨f1, f2, f3⟩ := ok.few
  obtain ⟨⟨c1, c2, c3⟩, csome, okl, nd, ndt, ndc, ct⟩ := ok.ch
  have hch := h.chH
  obtain ⟨dx2, nm, l0, d', kvs', j1, j2, j3, j4⟩ := hch.ex
  have hcd : CA H cd S.car := h.fs _ _ h.hcd
  obtain ⟨i1, i2⟩ := t.no "NOUGHT_ledgers" (by decide +kernel)
  have prH : Paired (DA E H) rs S.rows := Paired.mapP pr fun _ _ z => z.da h.fs
  walk_at "go"
  intro f hf
  have sf : Same H (upd H f (.lst [])) := Same.new hf
  walk_at "go"
  refine w_dict0 fun a0 ha0 => ?_
  have s0 : Same H (upd (upd H f (.lst [])) a0 (.dK [])) := sf.trans (Same.new ha0)
  have na0 : a0 ≠ f := fun z => by rw [z, upd_same] at ha0; cases ha0
  have hf0 : upd (upd H f (.lst [])) a0 (.dK []) f = some (.lst []) := Same.new ha0 _ _ upd_same
  have da0 : DA E (upd (upd H f (.lst [])) a0 (.dK [])) a0 [] := ⟨[], upd_same, .nil⟩
  generalize upd (upd H f (.lst [])) a0 (.dK []) = H0 at s0 hf0 da0
  have hp0 := s0 _ _ hp
  walk_at "go"
  refine ws_forS c (wi_list c ?_)
  walk_at "go"
  refine ⟨⟨_, SqL.of (s0 _ _ hr)⟩, forS (src_list (SqL.of hr)) (fun i σ H' => Same H H' ∧ ∃ vs ys ad a o1 o2 o3, H' f = some (.lst vs) ∧ Paired (YN E H H') vs ys ∧ ys.length = i ∧ ys ++ yearsF S.tk S.lets S.car (S.rows.drop i) a = S.years ∧ DA E H' ad a ∧ H ad = none ∧ ad ≠ f ∧ σ = [some (.ref p), some (.ref f), some (.ref ad), o1, o2, o3])
    ⟨s0, [], [], a0, [], none, none, none, hf0, .nil, rfl, rfl, da0, none_of sf ha0, na0, rfl⟩ (fun i σ H h => h.1) ?_ ?_⟩
  · rintro σ H' ⟨s1, vs, ys, ad, a, o1, o2, o3, hv, pv, hyl, hys, had, hadn, hadf, rfl⟩
    walk_at "go"
    refine q f vs H' s1 hf hv ?_
    rw [List.length_map, List.drop_eq_nil_of_le (by omega)] at hys
    have : ys = S.years := by rw [← hys]; exact (List.append_nil _).symm
    rw [← this]
    exact pv
  · rintro i σ H' x H2 hi ⟨s1, vs, ys, ad, a, o1, o2, o3, hv, pv, hyl, hys, had, hadn, hadf, rfl⟩ s2 hy
    rw [List.length_map] at hi
    obtain ⟨rd, hrd, rfl⟩ : ∃ rd, rs[i]? = some rd ∧ x = .ref rd := by
      rw [List.getElem?_map, List.getElem?_eq_getElem hi] at hy
      exact ⟨rs[i], List.getElem?_eq_getElem hi, by injection hy with hy; exact hy.symm⟩
    obtain ⟨row, hrow, hda⟩ := pair_at prH hrd
    have am := ok.rows row (List.mem_of_getElem? hrow)
    have s12 := s1.trans s2
    have hp2 := s12 _ _ hp
    refine wg_name c l3 ?_
    walk_at "go"
    refine w_dict0 fun T hT => ?_
    walk_at "go"
    have sT : Same H2 (upd H2 T (.dK [])) := Same.new hT
    have hp3 := sT _ _ hp2
    refine ws_forS c (wi_list c (w_mO0 c ?_))
    walk_at "go"
    have h3c := ((s12.trans sT) _ _ j1)
    refine ⟨ch, _, _, _, _, _, rfl, h3c, (lk_tl (by decide +kernel) (lk_tl (by decide +kernel) (lk_tl (by decide +kernel) rfl))), ok_takes t, by omega, ch, S.tk, S.lets, rfl, hch.mono (s12.trans sT), fun l hl => ?_⟩
    refine ⟨l, rfl, ⟨_, SqL.of upd_same⟩, ?_⟩
    have sl : Same (upd H2 T (.dK [])) (upd (upd H2 T (.dK [])) l (.lst (S.tk.map V.str))) := Same.new hl
    have nlT : l ≠ T := fun z => by rw [z, upd_same] at hl; cases hl
    have hTn : H T = none := none_of s12 hT
    generalize hH4 : upd (upd H2 T (.dK [])) l (.lst (S.tk.map V.str)) = H4 at sl
    have hlF : (del H4 T) l = some (.lst (S.tk.map V.str)) := by rw [del_ne nlT, ← hH4, upd_same]
    have hT4 : DA E H4 T [] := ⟨[], sl _ _ upd_same, .nil⟩
    have s24 : Same H2 H4 := sT.trans sl
    refine forS (src_list (SqL.of hlF)) (fun j σ H' => Same (del H4 T) H' ∧ Same H2 H' ∧ DA E H' T (((S.tk.take j).map fun x => (x, takeV S.car row a x))) ∧ ∃ o, σ = [some (.ref p), some (.ref f), some (.ref ad), some (.ref rd), some (.ref T), o])
      ⟨del_same _ _, s24, hT4, o3, rfl⟩ (fun i σ H h => h.1) ?_ ?_
    · rintro σ H5 ⟨s5, s6, hT5, o, rfl⟩
      rw [List.length_map, List.take_length] at hT5
      have s16 := s12.trans s6
      have hp5 := s16 _ _ hp
      walk_at "go"
      refine ⟨ch, T, S.tk, S.lets, _, rfl, hch.mono s16, hT5, takenF_ok am, by omega, by omega, okLets_imp (fun y hy => (takenF_ok (row := row) (ahead := a) am).get y hy) okl, nd, fun D H6 s7 hD hDA => ?_⟩
      walk_at "go"
      refine w_append c ?_
      walk_at "go"
      have hv6 := s7 _ _ (s6 _ _ (s2 _ _ hv))
      refine ⟨f, _, rfl, hv6, ?_⟩
      walk_at "go"
      intro tt htt
      have st : Same H6 (upd H6 tt (.tup [.ref T, .ref D])) := Same.new htt
      refine ⟨vs, st _ _ hv6, by rw [Paired.length pv, hyl]; exact Nat.lt_of_lt_of_le (show i < 100000 by omega) (by decide), ?_⟩
      have hDn : H D = none := none_of s16 hD
      have nTf : T ≠ f := fun z => by rw [z, s2 _ _ hv] at hT; cases hT
      have nDf : D ≠ f := fun z => by rw [z] at hD; rw [s6 _ _ (s2 _ _ hv)] at hD; cases hD
      have sH : Same H (upd (upd H6 tt (.tup [.ref T, .ref D])) f (.lst (vs ++ [.ref tt]))) := Same.mut ((s16.trans s7).trans st) hf
      have ts : TS H' (upd (upd H6 tt (.tup [.ref T, .ref D])) f (.lst (vs ++ [.ref tt]))) := ((((s2.trans s6).trans s7).trans st).ts).trans (TS.upd (st _ _ hv6) rfl)
      have tsf : TS H6 (upd (upd H6 tt (.tup [.ref T, .ref D])) f (.lst (vs ++ [.ref tt]))) := st.ts.trans (TS.upd (st _ _ hv6) rfl)
      have hk : ∀ b kvs, H6 b = some (.dK kvs) → (upd (upd H6 tt (.tup [.ref T, .ref D])) f (.lst (vs ++ [.ref tt]))) b = some (.dK kvs) := fun b kvs hb => by
        rw [upd_ne (show b ≠ f from fun z => by rw [z, hv6] at hb; cases hb)]
        exact st _ _ hb
      have hDA2 : DA E (upd (upd H6 tt (.tup [.ref T, .ref D])) f (.lst (vs ++ [.ref tt]))) D (duesF S.lets (takenF S.tk S.car row a)) := by
        obtain ⟨kv, k1, k2⟩ := hDA
        exact ⟨kv, hk _ _ k1, k2.ts tsf⟩
      have hTA2 : DA E (upd (upd H6 tt (.tup [.ref T, .ref D])) f (.lst (vs ++ [.ref tt]))) T (takenF S.tk S.car row a) := by
        obtain ⟨kv, k1, k2⟩ := hT5.mono s7
        exact ⟨kv, hk _ _ k1, k2.ts tsf⟩
      refine ⟨sH, vs ++ [.ref tt], ys ++ [(takenF S.tk S.car row a, duesF S.lets (takenF S.tk S.car row a))], D, _, _, _, _, upd_same, ?_, by rw [List.length_append, hyl]; rfl, ?_, hDA2, hDn, nDf, rfl⟩
      · refine Paired.snoc (Paired.mapP pv fun _ _ z => z.mono ts fun b kvs hb => hk b kvs (s7 _ _ (s6 _ _ (s2 _ _ hb)))) ⟨tt, T, D, rfl, (TS.upd (st _ _ hv6) rfl).sqt (SqT.of upd_same), hTn, hDn, hTA2, hDA2⟩
      · rw [← hys, List.append_assoc]
        rw [List.drop_eq_getElem_cons (by omega : i < S.rows.length)]
        rw [List.getElem?_eq_getElem (by omega)] at hrow
        injection hrow with hrow
        rw [hrow]
        rfl
    · rintro j σ H5 x H6 hj ⟨s5, s6, hT5, o, rfl⟩ s7 hy
      rw [List.length_map] at hj
      obtain ⟨nm2, hnm, rfl⟩ : ∃ x', S.tk[j]? = some x' ∧ x = .str x' := by
        rw [List.getElem?_map, List.getElem?_eq_getElem hj] at hy
        exact ⟨S.tk[j], List.getElem?_eq_getElem hj, by injection hy with hy; exact hy.symm⟩
      have s26 := s6.trans s7
      have s16 := s12.trans s26
      have hp6 := s16 _ _ hp
      have hcd6 := s16 _ _ hcd
      have hT6 := hT5.mono s7
      have had6 := (had.mono s2).mono s26
      have hrow6 := hda.mono s16
      have e3 : ((S.tk.take (j + 1)).map fun x => (x, takeV S.car row a x)) = dput ((S.tk.take j).map fun x => (x, takeV S.car row a x)) nm2 (takeV S.car row a nm2) := by
        rw [dput_new, List.take_succ, hnm, List.map_append]
        · rfl
        · rw [List.map_map]
          intro hm
          obtain ⟨x', hx', e'⟩ := List.mem_map.mp hm
          have e' : x' = nm2 := e'
          rw [e', List.mem_take_iff_getElem] at hx'
          obtain ⟨j2, hj2, ej⟩ := hx'
          rw [List.getElem?_eq_getElem hj] at hnm
          injection hnm with hnm
          exact List.pairwise_iff_getElem.mp ndt j2 j (by omega) hj (by omega) (by rw [ej, hnm])
      have hTd : (del H4 T) T = none := del_at _ _
      have hT2 : H2 T = none := hT
      have fin : ∀ v H7, Same H6 H7 → Pt E H7 v (takeV S.car row a nm2) → ∀ kvs, DA E (upd H7 T (.dK kvs)) T (dput ((S.tk.take j).map fun x => (x, takeV S.car row a x)) nm2 (takeV S.car row a nm2)) → Same (del H4 T) (upd H7 T (.dK kvs)) ∧ Same H2 (upd H7 T (.dK kvs)) ∧ DA E (upd H7 T (.dK kvs)) T ((S.tk.take (j + 1)).map fun x => (x, takeV S.car row a x)) := fun v H7 s8 _ kvs hd => by
        rw [e3]
        exact ⟨Same.mut ((s5.trans s7).trans s8) hTd, Same.mut (s26.trans s8) hT2, hd⟩
      have hlen : ((S.tk.take j).map fun x => (x, takeV S.car row a x)).length ≤ 10000 := by
        rw [List.length_map, List.length_take]
        omega
      refine wg_name c l5 ?_
      walk_at "go"
      refine o_in_d c (DGet.k (k := .inr nm2) hcd6) ?_
      rw [carK_get]
      cases hcg : cget S.car nm2 with
      | some lt =>
        have etv : takeV S.car row a nm2 = mx 0 ((dget a lt).getD 0) := by unfold takeV; rw [hcg]
        walk_at "go"
        refine w_get2 c ?_
        walk_at "go"
        obtain ⟨kva, ka1, ka2⟩ := id had6
        obtain ⟨r, g1, g2, g3⟩ := rd_get (x := lt) (.inl ka1) ka2
        have gcd : DGet H6 cd (.str nm2) (some (.str lt)) := by
          have := DGet.k (k := .inr nm2) hcd6
          rw [carK_get, hcg] at this
          exact this
        refine ⟨.inl ⟨kva, .inl ka1⟩, ?_⟩
        walk_at "go"
        refine x_dic c (fun _ _ => rfl) gcd ?_
        walk_at "go"
        refine ⟨r, g1, ?_⟩
        obtain ⟨u6, eu, pu6⟩ : ∃ u6, r.getD (V.ref (Ca E "NOUGHT_ledgers")) = .ref u6 ∧ PtA E H6 u6 ((dget a lt).getD 0) := by
          cases hz : dget a lt with
          | none =>
            rw [hz] at g2
            cases r with
            | none => exact ⟨_, rfl, i2 _⟩
            | some v => cases g2
          | some z =>
            obtain ⟨v, ev, u, eu, pu⟩ := g3 z hz
            exact ⟨u, by rw [ev]; exact eu, pu⟩
        rw [eu]
        have i2' := i2 H6
        walk_at "go"
        rename_i w6 pw6
        refine i_da c hT6 hlen ⟨w6, rfl, pw6⟩ fun kvs7 hd7 ts7 => ?_
        walk_at "go"
        rw [← etv] at hd7
        obtain ⟨q1, q2, q3⟩ := fin (.ref w6) H6 (Same.refl _) ⟨w6, rfl, by rw [etv]; exact pw6⟩ kvs7 hd7
        exact ⟨q1, q2, q3, _, rfl⟩
      | none =>
        have etv : takeV S.car row a nm2 = (dget row nm2).getD 0 := by unfold takeV; rw [hcg]
        have hfr : nm2 ∈ freeOf S.tk S.car := List.mem_filter.mpr ⟨List.mem_of_getElem? hnm, by rw [hcg]; rfl⟩
        obtain ⟨t6, g6, p6⟩ := da_get (x := nm2) hrow6 (am.get _ hfr)
        walk_at "go"
        refine x_dic c (fun _ _ => rfl) g6 ?_
        walk_at "go"
        refine i_da c hT6 hlen ⟨t6, rfl, p6⟩ fun kvs7 hd7 ts7 => ?_
        walk_at "go"
        rw [← etv] at hd7
        obtain ⟨q1, q2, q3⟩ := fin (.ref t6) H6 (Same.refl _) ⟨t6, rfl, by rw [etv]; exact p6⟩ kvs7 hd7
        exact ⟨q1, q2, q3, _, rfl⟩
end
section
-- 35.7 reckoned: ["self"]
abbrev N35_7 : List Str := ["self"]
theorem sc35_7 : FnScope N35_7 ["self"] (defScope (inC 35 7)) := ⟨rfl, rfl, rfl, by decide +kernel, rfl, by decide +kernel, by decide +kernel⟩
theorem nm35_7 : visB N35_7 (defScope (inC 35 7)) 0 "self" = true :=
  by decide +kernel
-- obtain ⟨n0⟩ := nm35_7
-- 35.9 taken_in: ["self", "year"]
abbrev N35_9 : List Str := ["self", "year"]
theorem sc35_9 : FnScope N35_9 ["self", "year"] (defScope (inC 35 9)) := ⟨rfl, rfl, rfl, by decide +kernel, rfl, by decide +kernel, by decide +kernel⟩
theorem nm35_9 : visB N35_9 (defScope (inC 35 9)) 0 "self" = true ∧ visB N35_9 (defScope (inC 35 9)) 1 "year" = true ∧ gloB (defScope (inC 35 9)) "dict" = true :=
  ⟨by decide +kernel, by decide +kernel, by decide +kernel⟩
-- obtain ⟨n0, n1, g_dict⟩ := nm35_9
-- 35.10 dues_of: ["self", "year"]
abbrev N35_10 : List Str := ["self", "year"]
theorem sc35_10 : FnScope N35_10 ["self", "year"] (defScope (inC 35 10)) := ⟨rfl, rfl, rfl, by decide +kernel, rfl, by decide +kernel, by decide +kernel⟩
theorem nm35_10 : visB N35_10 (defScope (inC 35 10)) 0 "self" = true ∧ visB N35_10 (defScope (inC 35 10)) 1 "year" = true ∧ gloB (defScope (inC 35 10)) "dict" = true :=
  ⟨by decide +kernel, by decide +kernel, by decide +kernel⟩
-- obtain ⟨n0, n1, g_dict⟩ := nm35_10
-- 35.11 owed: ["self", "let", "found", "taken", "due"]
abbrev N35_11 : List Str := ["self", "let", "found", "taken", "due"]
theorem sc35_11 : FnScope N35_11 ["self", "let"] (defScope (inC 35 11)) := ⟨rfl, rfl, rfl, by decide +kernel, rfl, by decide +kernel, by decide +kernel⟩
theorem nm35_11 : visB N35_11 (defScope (inC 35 11)) 1 "let" = true ∧ visB N35_11 (defScope (inC 35 11)) 0 "self" = true ∧ visB N35_11 (defScope (inC 35 11)) 2 "found" = true ∧ visB N35_11 (defScope (inC 35 11)) 4 "due" = true ∧ locB true N35_11 (defScope (inC 35 11)) 2 "found" = true ∧ locB true N35_11 (defScope (inC 35 11)) 3 "taken" = true ∧ locB true N35_11 (defScope (inC 35 11)) 4 "due" = true ∧ gloB (defScope (inC 35 11)) "isinstance" = true ∧ gloB (defScope (inC 35 11)) "str" = true ∧ gloB (defScope (inC 35 11)) "NoLet" = true ∧ gloB (defScope (inC 35 11)) "NOUGHT_ledgers" = true ∧ gloB (defScope (inC 35 11)) "plus" = true :=
  ⟨by decide +kernel, by decide +kernel, by decide +kernel, by decide +kernel, by decide +kernel, by decide +kernel, by decide +kernel, by decide +kernel, by decide +kernel, by decide +kernel, by decide +kernel, by decide +kernel⟩
-- obtain ⟨n1, n0, n2, n4, l2, l3, l4, g_isinstance, g_str, g_NoLet, g_NOUGHT_ledgers, g_plus⟩ := nm35_11
theorem ok_reckoned {E : Ev} (t : Tx E) (df : Dm E 16 (Ca E "Ledger") "from_the_first" (spFirst E)) : Dm E 17 (Ca E "Ledger") "reckoned" (spReckoned E) := by
  refine t.T.dm (D := "Ledger") (by decide +kernel) (df_of (t.fd _ _ _ _ _ (by decide +kernel)) sc35_7 (fun vs H Q ⟨_, _, _, _, e, _⟩ => by rw [e]; rfl) fun X vs H Q c ⟨F, p, S, os, e, hL, ok, q⟩ => ?_)
  subst e
  obtain ⟨dx, ch, cd, rl, pl, nl, pls, ns, come, h, e, hc⟩ := id hL
  have n0 := nm35_7
  have hp := h.hp
  walk_at "go"
  rcases hc with rfl | ⟨cl, rfl, hy⟩
  · rw [decide_eq_true rfl]
    refine iteT (wb_one (ws_attr c (w_mO0 c ?_)))
    walk_at "go"
    refine ⟨p, _, _, _, _, _, rfl, hp, led_no rfl, df, by omega, F, p, S, os, rfl, hL, ok, fun l ys H1 s1 hl hl1 py => ?_⟩
    have h1 := h.growF s1
    have hp1 := h1.hp
    have st1 := Stp.growF (os := os) h.fs s1
    walk_at "go"
    refine ⟨p, _, _, _, rfl, hp1, t.T.at_ (C := "Ledger") (by decide +kernel), (show 6 < 1000 by decide), ?_⟩
    rw [putF_come]
    have h2 := h1.setc (.ref l)
    have st2 := st1.trans (Stp.upd (a := p) (o := .ins (Ca E "Ledger") dx (ledF ch cd rl pl nl (.ref l))) (by rw [e]; simp) hp1 rfl)
    have ts2 : TS H1 (upd H1 p (.ins (Ca E "Ledger") dx (ledF ch cd rl pl nl (.ref l)))) := TS.upd hp1 rfl
    have hp2 := h2.hp
    walk_at "go"
    have hY : YL E (gr F H H1) (upd H1 p (.ins (Ca E "Ledger") dx (ledF ch cd rl pl nl (.ref l)))) l S.years := by
      refine ⟨ys, by rw [gr_new hl]; exact hl1, Paired.mapP py fun v y ⟨tt, a, b, k1, k2, k3, k4, ⟨ka, k5, k6⟩, ⟨kb, k7, k8⟩⟩ => ?_⟩
      exact ⟨tt, a, b, k1, ts2.sqt k2, ⟨ka, by rw [gr_new k3]; exact k5, k6.ts ts2⟩, ⟨kb, by rw [gr_new k4]; exact k7, k8.ts ts2⟩⟩
    exact q _ _ l st2 ⟨dx, ch, cd, rl, pl, nl, pls, ns, _, h2, e, .inr ⟨l, rfl, hY⟩⟩ hY
  · rw [decide_eq_false (fun z => by cases z)]
    refine iteF ?_
    walk_at "go"
    exact q _ _ cl (Stp.refl _ _ _) hL hy
theorem year_at {E : Ev} {F H : Hp} {cl : Addr} {ys : List (Dc × Dc)} {y : Nat} {yr : Dc × Dc} (h : YL E F H cl ys) (hy : ys[y]? = some yr) : ∃ vs tt a b, F cl = some (.lst vs) ∧ atI vs (y : Nat) = some (.ref tt) ∧ SqT E.K H tt [.ref a, .ref b] ∧ LDA E F H a yr.1 ∧ LDA E F H b yr.2 := by
  obtain ⟨vs, h1, h2⟩ := h
  obtain ⟨v, g1, tt, a, b, rfl, g2, g3, g4⟩ := pair_at' h2 hy
  exact ⟨vs, tt, a, b, h1, atI_nat g1, g2, g3, g4⟩
theorem ok_taken_in {E : Ev} (t : Tx E) (dy : Dm E 2 (Ca E "Ledger") "need_year" (spNeedYear E)) (dr : Dm E 17 (Ca E "Ledger") "reckoned" (spReckoned E)) : Dm E 18 (Ca E "Ledger") "taken_in" (spYearOf E (·.1)) := by
  refine t.T.dm (D := "Ledger") (by decide +kernel) (df_of (t.fd _ _ _ _ _ (by decide +kernel)) sc35_9 (fun vs H Q ⟨_, _, _, _, _, _, e, _⟩ => by rw [e]; rfl) fun X vs H Q c ⟨F, p, S, os, y, yr, e, hL, ok, hyr, q⟩ => ?_)
  subst e
  obtain ⟨dx, ch, cd, rl, pl, nl, pls, ns, come, h, e, hc⟩ := id hL
  have B := t.B
  obtain ⟨n0, n1, g_dict⟩ := nm35_9
  have hp := h.hp
  have hlt : y < S.rows.length := by
    have := (List.getElem?_eq_some_iff.mp hyr).1
    rw [LS.years, yearsF_len] at this
    exact this
  walk_at "go"
  refine w_mO c ?_
  walk_at "go"
  refine ⟨p, _, _, _, _, _, rfl, hp, led_no rfl, dy, by omega, ?_⟩
  walk_at "go"
  refine ⟨F, p, S, os, y, rfl, hL, hlt, ?_⟩
  walk_at "go"
  refine w_mO0 c ?_
  walk_at "go"
  refine ⟨p, _, _, _, _, _, rfl, hp, led_no rfl, dr, by omega, F, p, S, os, rfl, hL, ok, fun F1 H1 cl st hL1 hY => ?_⟩
  obtain ⟨vs, tt, a, b, g1, g2, g3, g4, g5⟩ := year_at hY hyr
  obtain ⟨kvs, k1, k2⟩ := g4.da hL1.fs
  walk_at "go"
  refine x_lst c (fun _ _ => rfl) (SqL.of (hL1.fs _ _ g1)) g2 ?_
  walk_at "go"
  intro D hD
  have s2 : Same H1 (upd H1 D (.dK kvs)) := Same.new hD
  exact q _ _ D (st.trans (Stp.grow s2)) (hL1.grow s2) (st.dom _ hD) (none_of hL1.fs hD) ⟨kvs, upd_same, k2.ts s2.ts⟩
theorem ok_dues_of {E : Ev} (t : Tx E) (dy : Dm E 2 (Ca E "Ledger") "need_year" (spNeedYear E)) (dr : Dm E 17 (Ca E "Ledger") "reckoned" (spReckoned E)) : Dm E 18 (Ca E "Ledger") "dues_of" (spYearOf E (·.2)) := by
  refine t.T.dm (D := "Ledger") (by decide +kernel) (df_of (t.fd _ _ _ _ _ (by decide +kernel)) sc35_10 (fun vs H Q ⟨_, _, _, _, _, _, e, _⟩ => by rw [e]; rfl) fun X vs H Q c ⟨F, p, S, os, y, yr, e, hL, ok, hyr, q⟩ => ?_)
  subst e
  obtain ⟨dx, ch, cd, rl, pl, nl, pls, ns, come, h, e, hc⟩ := id hL
  have B := t.B
  obtain ⟨n0, n1, g_dict⟩ := nm35_10
  have hp := h.hp
  have hlt : y < S.rows.length := by
    have := (List.getElem?_eq_some_iff.mp hyr).1
    rw [LS.years, yearsF_len] at this
    exact this
  walk_at "go"
  refine w_mO c ?_
  walk_at "go"
  refine ⟨p, _, _, _, _, _, rfl, hp, led_no rfl, dy, by omega, ?_⟩
  walk_at "go"
  refine ⟨F, p, S, os, y, rfl, hL, hlt, ?_⟩
  walk_at "go"
  refine w_mO0 c ?_
  walk_at "go"
  refine ⟨p, _, _, _, _, _, rfl, hp, led_no rfl, dr, by omega, F, p, S, os, rfl, hL, ok, fun F1 H1 cl st hL1 hY => ?_⟩
  obtain ⟨vs, tt, a, b, g1, g2, g3, g4, g5⟩ := year_at hY hyr
  obtain ⟨kvs, k1, k2⟩ := g5.da hL1.fs
  walk_at "go"
  refine x_lst c (fun _ _ => rfl) (SqL.of (hL1.fs _ _ g1)) g2 ?_
  walk_at "go"
  intro D hD
  have s2 : Same H1 (upd H1 D (.dK kvs)) := Same.new hD
  exact q _ _ D (st.trans (Stp.grow s2)) (hL1.grow s2) (st.dom _ hD) (none_of hL1.fs hD) ⟨kvs, upd_same, k2.ts s2.ts⟩
theorem ok_owed {E : Ev} (t : Tx E) (dr : Dm E 17 (Ca E "Ledger") "reckoned" (spReckoned E)) (d3 : Dg E 3 "plus" (sp2 E fun x y => x + y)) : Dm E 18 (Ca E "Ledger") "owed" (spOwed E) := by
  refine t.T.dm (D := "Ledger") (by decide +kernel) (df_of (t.fd _ _ _ _ _ (by decide +kernel)) sc35_11 (fun vs H Q ⟨_, _, _, _, _, e, _⟩ => by rw [e]; rfl) fun X vs H Q c ⟨F, p, S, os, x, e, hL, ok, hx, q⟩ => ?_)
  subst e
  obtain ⟨dx, ch, cd, rl, pl, nl, pls, ns, come, h, e, hc⟩ := id hL
  have B := t.B
  obtain ⟨n1, n0, n2, n4, l2, l3, l4, g_isinstance, g_str, g_NoLet, g_NOUGHT_ledgers, g_plus⟩ := nm35_11
  obtain ⟨i1, i2⟩ := t.no "NOUGHT_ledgers" (by decide +kernel)
  have hp := h.hp
  have hch := h.chH
  obtain ⟨dx2, nm, l0, d', kvs', j1, j2, j3, j4⟩ := hch.ex
  walk_at "go"
  refine w_mO0 c ?_
  walk_at "go"
  refine ⟨ch, _, _, _, _, _, rfl, j1, (lk_tl (by decide +kernel) (lk_tl (by decide +kernel) (lk_tl (by decide +kernel) rfl))), ok_lets t, by omega, ch, S.tk, S.lets, rfl, hch, fun l hl => ?_⟩
  have s1 : Same H (upd H l (.lst ((S.lets.map (·.1)).map V.str))) := Same.new hl
  refine o_notin_l c (SqL.of upd_same) rfl (flat_strs _) ?_
  refine ⟨_, rfl, ?_⟩
  rw [inV_str, decide_eq_true hx]
  refine iteF ?_
  have hL1 := hL.grow s1
  have hp1 := s1 _ _ hp
  walk_at "go"
  refine ws_forS c (wi_list c (w_mO0 c ?_))
  walk_at "go"
  refine ⟨p, _, _, _, _, _, rfl, hp1, led_no rfl, dr, by omega, F, p, S, os, rfl, hL1, ok, fun F1 H1 cl st hL2 hY => ?_⟩
  obtain ⟨vs, hv, pv⟩ := hY
  have hv1 := hL2.fs _ _ hv
  have hlv := Paired.length pv
  refine ⟨cl, rfl, ⟨_, SqL.of hv1⟩, forS (src_list (SqL.of hv1)) (fun i σ H' => Same H1 H' ∧ ∃ u acc o1 o2, PtA E H' u acc ∧ acc + ((S.years.drop i).map fun y => (dget y.2 x).getD 0).sum = (S.years.map fun y => (dget y.2 x).getD 0).sum ∧ σ = [some (.ref p), some (.str x), some (.ref u), o1, o2])
    ⟨Same.refl _, _, 0, none, none, i2 _, by rw [List.drop_zero]; omega, rfl⟩ (fun i σ H h => h.1) ?_ ?_⟩
  · rintro σ H' ⟨s2, u, acc, o1, o2, hu, hacc, rfl⟩
    walk_at "go"
    rw [hlv, List.drop_length] at hacc
    have e0 : acc = (S.years.map fun y => (dget y.2 x).getD 0).sum := by rw [← hacc]; simp
    exact q F1 H' _ (((Stp.grow s1).trans st).trans (Stp.grow s2)) (hL2.grow s2) ⟨u, rfl, e0 ▸ hu⟩
  · rintro i σ H' y H2 hi ⟨s2, u, acc, o1, o2, hu, hacc, rfl⟩ s3 hy
    obtain ⟨yr, hyr, tt, a, b, rfl, g2, g3, g4⟩ := pair_at pv hy
    have s4 := s2.trans s3
    have g5 := (g4.da hL2.fs).mono s4
    have hnm : x ∈ yr.2.map (·.1) := by rw [yearsF_names _ _ _ _ _ yr (List.mem_of_getElem? hyr)]; exact hx
    obtain ⟨w, gw, pw⟩ := da_get (x := x) g5 (dget_names hnm)
    have hu2 := hu.mono s3
    refine wg_two c l3 l4 (s4.tup g2) ?_
    walk_at "go"
    refine x_dic c (fun _ _ => rfl) gw ?_
    walk_at "go"
    refine ⟨by walk_at "same", _, acc + (dget yr.2 x).getD 0, _, _, by assumption, ?_, rfl⟩
    rw [List.drop_eq_getElem_cons (by omega : i < S.years.length), List.map_cons, List.sum_cons] at hacc
    rw [List.getElem?_eq_getElem (by omega)] at hyr
    injection hyr with hyr
    rw [hyr] at hacc
    rw [← hacc]
    omega
end
section
-- 33 is_deed: ["thing"]
abbrev N33 : List Str := ["thing"]
theorem sc33 : FnScope N33 ["thing"] (defScope (top 33)) := ⟨rfl, rfl, rfl, by decide +kernel, rfl, by decide +kernel, by decide +kernel⟩
theorem nm33 : visB N33 (defScope (top 33)) 0 "thing" = true ∧ gloB (defScope (top 33)) "isinstance" = true ∧ gloB (defScope (top 33)) "tuple" = true ∧ gloB (defScope (top 33)) "len" = true ∧ gloB (defScope (top 33)) "str" = true ∧ gloB (defScope (top 33)) "WORDS" = true :=
  ⟨by decide +kernel, by decide +kernel, by decide +kernel, by decide +kernel, by decide +kernel, by decide +kernel⟩
-- obtain ⟨n0, g_isinstance, g_tuple, g_len, g_str, g_WORDS⟩ := nm33
-- 34 own: ["deed"]
abbrev N34 : List Str := ["deed"]
theorem sc34 : FnScope N34 ["deed"] (defScope (top 34)) := ⟨rfl, rfl, rfl, by decide +kernel, rfl, by decide +kernel, by decide +kernel⟩
theorem nm34 : visB N34 (defScope (top 34)) 0 "deed" = true ∧ gloB (defScope (top 34)) "dict" = true :=
  ⟨by decide +kernel, by decide +kernel⟩
-- obtain ⟨n0, g_dict⟩ := nm34
-- 35.13 does: ["self", "deed"]
abbrev N35_13 : List Str := ["self", "deed"]
theorem sc35_13 : FnScope N35_13 ["self", "deed"] (defScope (inC 35 13)) := ⟨rfl, rfl, rfl, by decide +kernel, rfl, by decide +kernel, by decide +kernel⟩
theorem nm35_13 : visB N35_13 (defScope (inC 35 13)) 1 "deed" = true ∧ visB N35_13 (defScope (inC 35 13)) 0 "self" = true ∧ gloB (defScope (inC 35 13)) "is_deed" = true ∧ gloB (defScope (inC 35 13)) "NoDeed" = true :=
  ⟨by decide +kernel, by decide +kernel, by decide +kernel, by decide +kernel⟩
-- obtain ⟨n1, n0, g_is_deed, g_NoDeed⟩ := nm35_13
theorem o_in_w {E : Ev} {k : Nat} {N : List Str} {sc : Scope} {dd : Bool} {X : Cx} {H : Hp} {Q : VK} {z : Str} {i : Int} (t : Tx E) (c : Cxt E k N sc dd X) (h : (z, i) ∈ [q5 "add" 1, q5 "mend" 2, q5 "undo" 0]) (q : Q (.bl true) H) : WCo X .In (.str z) (.ref (Ca E "WORDS")) H Q := by
  obtain ⟨es, n, _, D, hw⟩ := t.words
  obtain ⟨u, hu⟩ := hw z i h
  have D' : KDict X.K X.w (Ca E "WORDS") es n := by rw [c.hK, c.hw]; exact D
  exact wco_of (op_in_kd D') ⟨z, some (.int i u), rfl, rfl, by rw [c.hK]; exact hu, q⟩
theorem x_words {E : Ev} {k : Nat} {N : List Str} {sc : Scope} {dd : Bool} {X : Cx} {H : Hp} {Q : VK} {z : Str} {i : Int} {b : Expr} (t : Tx E) (c : Cxt E k N sc dd X) (hs : PlainIx b) (h : (z, i) ∈ [q5 "add" 1, q5 "mend" 2, q5 "undo" 0]) (q : Q (.int i) H) : WX X b (.ref (Ca E "WORDS")) (.str z) H Q := by
  obtain ⟨es, n, _, D, hw⟩ := t.words
  obtain ⟨u, hu⟩ := hw z i h
  exact wx_of ix_kdict hs ⟨_, z, .int i, rfl, rfl, ⟨es, n, _, by rw [c.hK]; exact D.at_, by rw [c.hw]; exact D.lit, by rw [c.hK]; exact hu, u, rfl⟩, q⟩
theorem ok_is_deed {E : Ev} (t : Tx E) : Dg E 1 "is_deed" (spIsDeed E) := by
  refine dg_of (t.gd _ _ _ (by decide +kernel)) sc33 (fun vs H Q ⟨_, _, e, _⟩ => by rw [e]; rfl) fun X vs H Q c ⟨v, d, e, h, q⟩ => ?_
  subst e
  have B := t.B
  obtain ⟨n0, g_isinstance, g_tuple, g_len, g_str, g_WORDS⟩ := nm33
  obtain ⟨es, n, iw, _⟩ := t.words
  cases d with
  | add d =>
    obtain ⟨t1, a, rfl, h1, h2⟩ := h
    walk_at "go"
    refine o_in_w t c (i := 1) (by decide +kernel) ?_
    walk_at "go"
    refine x_words t c (fun _ _ => rfl) (i := 1) (by decide +kernel) ?_
    walk_at "go"
    exact q
  | mend y d =>
    obtain ⟨t1, a, rfl, h1, h2⟩ := h
    walk_at "go"
    refine o_in_w t c (i := 2) (by decide +kernel) ?_
    walk_at "go"
    refine x_words t c (fun _ _ => rfl) (i := 2) (by decide +kernel) ?_
    walk_at "go"
    exact q
  | undo =>
    obtain ⟨t1, rfl, h1⟩ := h
    walk_at "go"
    refine o_in_w t c (i := 0) (by decide +kernel) ?_
    walk_at "go"
    refine x_words t c (fun _ _ => rfl) (i := 0) (by decide +kernel) ?_
    walk_at "go"
    exact q
theorem ok_own {E : Ev} (t : Tx E) : Dg E 1 "own" (spOwn E) := by
  refine dg_of (t.gd _ _ _ (by decide +kernel)) sc34 (fun vs H Q ⟨_, _, e, _⟩ => by rw [e]; rfl) fun X vs H Q c ⟨v, d, e, h, q⟩ => ?_
  subst e
  have B := t.B
  obtain ⟨n0, g_dict⟩ := nm34
  cases d with
  | undo =>
    obtain ⟨t1, rfl, h1⟩ := h
    walk_at "go"
    exact q _ none H (Same.refl _) ⟨t1, rfl, rfl, h1⟩ fun a e => by cases e
  | add d =>
    obtain ⟨t1, a, rfl, h1, h2⟩ := h
    obtain ⟨kvs, k1, k2⟩ := h2.da (Same.refl _)
    walk_at "go"
    refine l_tup c h1 (by simp [HT.sIx]) fun l hl => ?_
    have k3 := Same.new (o := .tup (cutV [.str "add", .ref a] none (some (-1)))) hl _ _ k1
    have h3 := (Same.new (o := .tup (cutV [.str "add", .ref a] none (some (-1)))) hl).tup h1
    walk_at "go"
    intro D hD
    walk_at "go"
    intro T hT
    have s1 : Same H (upd H l (.tup (cutV [.str "add", .ref a] none (some (-1))))) := Same.new hl
    refine o_catT c (xs := [.str "add"]) (ys := [.ref D]) (SqT.of (Same.new hT _ _ (Same.new hD _ _ upd_same))) (SqT.of upd_same) (by simp) (by simp) (le_line rfl) fun T2 hT2 => ?_
    have s2 := (Same.new (o := .dK kvs) hD).trans ((Same.new (o := .tup [.ref D]) hT).trans (Same.new (o := .tup ([.str "add"] ++ [.ref D])) hT2))
    refine q _ (some D) _ (s1.trans s2) ⟨T2, D, rfl, rfl, SqT.of upd_same, ⟨kvs, Same.new hT2 _ _ (Same.new hT _ _ upd_same), k2.ts (s1.trans s2).ts⟩⟩ fun a' e' => ?_
    cases e'
    exact none_of s1 hD
  | mend y d =>
    obtain ⟨t1, a, rfl, h1, h2⟩ := h
    obtain ⟨kvs, k1, k2⟩ := h2.da (Same.refl _)
    walk_at "go"
    refine l_tup c h1 (by simp [HT.sIx]) fun l hl => ?_
    have k3 := Same.new (o := .tup (cutV [.str "mend", .int (y : Nat), .ref a] none (some (-1)))) hl _ _ k1
    have h3 := (Same.new (o := .tup (cutV [.str "mend", .int (y : Nat), .ref a] none (some (-1)))) hl).tup h1
    walk_at "go"
    intro D hD
    walk_at "go"
    intro T hT
    have s1 : Same H (upd H l (.tup (cutV [.str "mend", .int (y : Nat), .ref a] none (some (-1))))) := Same.new hl
    refine o_catT c (xs := [.str "mend", .int (y : Nat)]) (ys := [.ref D]) (SqT.of (Same.new hT _ _ (Same.new hD _ _ upd_same))) (SqT.of upd_same) (by simp) (by simp) (le_line rfl) fun T2 hT2 => ?_
    have s2 := (Same.new (o := .dK kvs) hD).trans ((Same.new (o := .tup [.ref D]) hT).trans (Same.new (o := .tup ([.str "mend", .int (y : Nat)] ++ [.ref D])) hT2))
    refine q _ (some D) _ (s1.trans s2) ⟨T2, D, rfl, rfl, SqT.of upd_same, ⟨kvs, Same.new hT2 _ _ (Same.new hT _ _ upd_same), k2.ts (s1.trans s2).ts⟩⟩ fun a' e' => ?_
    cases e'
    exact none_of s1 hD
theorem ok_does {E : Ev} (t : Tx E) (d0 : Dg E 1 "is_deed" (spIsDeed E)) (d1 : Dm E 5 (Ca E "Ledger") "add" (spAdd E)) (d2 : Dm E 5 (Ca E "Ledger") "mend" (spMend E)) (d3 : Dm E 1 (Ca E "Ledger") "undo" (spUndo E)) : Dm E 6 (Ca E "Ledger") "does" (spDoes E) := by
  refine t.T.dm (D := "Ledger") (by decide +kernel) (df_of (t.fd _ _ _ _ _ (by decide +kernel)) sc35_13 (fun vs H Q ⟨_, _, _, _, _, _, e, _⟩ => by rw [e]; rfl) fun X vs H Q c ⟨F, p, S, os, v, d, e, hL, ok, hd, okd, q⟩ => ?_)
  subst e
  obtain ⟨dx, ch, cd, rl, pl, nl, pls, ns, come, h, e, hc⟩ := id hL
  obtain ⟨n1, n0, g_is_deed, g_NoDeed⟩ := nm35_13
  have hp := h.hp
  walk_at "go"
  refine ⟨v, d, rfl, hd, ?_⟩
  walk_at "go"
  cases d with
  | undo =>
    obtain ⟨t1, rfl, h1⟩ := hd
    walk_at "go"
    refine w_mO0 c ?_
    walk_at "go"
    exact ⟨p, _, _, _, _, _, rfl, hp, led_no rfl, d3, by omega, F, p, S, os, rfl, hL, ok, okd, fun F' os' H' st hL' => q F' os' H' st hL'⟩
  | add d =>
    obtain ⟨t1, a, rfl, h1, h2⟩ := hd
    walk_at "go"
    refine w_mO c ?_
    walk_at "go"
    refine ⟨p, _, _, _, _, _, rfl, hp, led_no rfl, d1, by omega, ?_⟩
    walk_at "go"
    exact ⟨F, p, S, os, a, d, rfl, hL, ok, h2.da (Same.refl _), okd.1, okd.2, fun F' os' H' st hL' => q F' os' H' st hL'⟩
  | mend y d =>
    obtain ⟨t1, a, rfl, h1, h2⟩ := hd
    walk_at "go"
    refine w_mO c ?_
    walk_at "go"
    refine ⟨p, _, _, _, _, _, rfl, hp, led_no rfl, d2, by omega, ?_⟩
    walk_at "go"
    exact ⟨F, p, S, os, y, a, d, rfl, hL, ok, h2.da (Same.refl _), okd.1, okd.2, fun F' os' H' st hL' => q F' os' H' st hL'⟩
end
section
-- 32 is_carried: ["thing", "charter", "take", "let"]
abbrev N32 : List Str := ["thing", "charter", "take", "let"]
theorem sc32 : FnScope N32 ["thing", "charter"] (defScope (top 32)) := ⟨rfl, rfl, rfl, by decide +kernel, rfl, by decide +kernel, by decide +kernel⟩
theorem nm32 : visB N32 (defScope (top 32)) 0 "thing" = true ∧ visB N32 (defScope (top 32)) 1 "charter" = true ∧ visB N32 (defScope (top 32)) 2 "take" = true ∧ visB N32 (defScope (top 32)) 3 "let" = true ∧ locB true N32 (defScope (top 32)) 2 "take" = true ∧ locB true N32 (defScope (top 32)) 3 "let" = true ∧ gloB (defScope (top 32)) "isinstance" = true ∧ gloB (defScope (top 32)) "dict" = true ∧ gloB (defScope (top 32)) "len" = true ∧ gloB (defScope (top 32)) "str" = true :=
  ⟨by decide +kernel, by decide +kernel, by decide +kernel, by decide +kernel, by decide +kernel, by decide +kernel, by decide +kernel, by decide +kernel, by decide +kernel, by decide +kernel⟩
-- obtain ⟨n0, n1, n2, n3, l2, l3, g_isinstance, g_dict, g_len, g_str⟩ := nm32
-- 35.12 log: ["self", "deed"]
abbrev N35_12 : List Str := ["self", "deed"]
theorem sc35_12 : FnScope N35_12 ["self"] (defScope (inC 35 12)) := ⟨rfl, rfl, rfl, by decide +kernel, rfl, by decide +kernel, by decide +kernel⟩
theorem nm35_12 : visB N35_12 (defScope (inC 35 12)) 0 "self" = true :=
  by decide +kernel
-- obtain ⟨n0⟩ := nm35_12
theorem zip_snoc {α β : Type} {xs : List α} {ys : List β} {x : α} {y : β} (h : xs.length = ys.length) : (xs ++ [x]).zip (ys ++ [y]) = xs.zip ys ++ [(x, y)] := by
  rw [List.zip_append h]
  rfl
theorem ok_log {E : Ev} (t : Tx E) (d1 : Dg E 1 "own" (spOwn E)) : Dm E 2 (Ca E "Ledger") "log" (spLog E) := by
  refine t.T.dm (D := "Ledger") (by decide +kernel) (df_of (t.fd _ _ _ _ _ (by decide +kernel)) sc35_12 (fun vs H Q ⟨_, _, _, _, e, _⟩ => by rw [e]; rfl) fun X vs H Q c ⟨F, p, S, os, e, hL, ok, q⟩ => ?_)
  subst e
  obtain ⟨dx, ch, cd, rl, pl, nl, pls, ns, come, h, e, hc⟩ := id hL
  have n0 := nm35_12
  have hp := h.hp
  have hln := Paired.length h.hns
  walk_at "go"
  refine w_lcI c [("deed", 1)] (by decide +kernel) (wi_list c ?_)
  walk_at "go"
  refine ⟨⟨_, SqL.of h.hnl⟩, lcI (src_list (SqL.of h.hnl)) (by have := ok.few; omega) (fun D i ys H' => Same H H' ∧ H' D = some (.lst ys) ∧ ys.length = i ∧ ∃ as, DeedL E H H' ys (S.notes.take i) as ∧ ∀ a, some a ∈ as → ∃ o, H' a = some o)
    (fun D hD => ⟨Same.new hD, upd_same, rfl, [], ⟨rfl, .nil, fun a h => (by cases h), by simp⟩, fun a h => (by cases h)⟩) (fun D i ys H h => ⟨h.1, h.2.1, Nat.le_of_eq h.2.2.1⟩) ?_ ?_⟩
  · rintro D i ys H2 x H3 hD0 hi ⟨s2, hD, hyl, as, hdl, has⟩ s3 hx Y cY
    obtain ⟨d, hd, hdA⟩ := pair_at h.hns hx
    have s23 := s2.trans s3
    have hdA3 : DeedA E H3 H3 x d := hdA.mono (h.fs.trans s23) s23.ts
    refine wg_name cY (by decide +kernel) ⟨wipe_one, fun Y3 c3 => ?_⟩
    walk_at "go"
    refine ⟨x, d, rfl, hdA3, fun v' o H4 s4 hO hnew => ?_⟩
    have hD4 := s4 _ _ (s3 _ _ hD)
    have ts4 : TS H4 (upd H4 D (.lst (ys ++ [v']))) := TS.upd hD4 rfl
    have hk4 : ∀ a kvs, H4 a = some (.dK kvs) → upd H4 D (.lst (ys ++ [v'])) a = some (.dK kvs) := fun a kvs hk => by
      rw [upd_ne (show a ≠ D from fun z => by rw [z, hD4] at hk; cases hk)]
      exact hk
    have s34 := s3.trans s4
    have etk : S.notes.take (i + 1) = S.notes.take i ++ [d] := by rw [List.take_succ, hd]; rfl
    have hil : i < S.notes.length := (List.getElem?_eq_some_iff.mp hd).1
    refine ⟨hD4, ?_, upd_same, by rw [List.length_append, hyl]; rfl, as ++ [o], ⟨?_, ?_, ?_, ?_⟩, ?_⟩
    · exact Same.mut (s23.trans s4) hD0
    · rw [etk, List.length_append, List.length_append, hdl.len]
      rfl
    · rw [etk, zip_snoc hdl.len.symm]
      exact Paired.snoc (Paired.mapP hdl.pr fun y q z => z.mono (s34.ts.trans ts4) fun a kvs hk => hk4 a kvs (s34 _ _ hk)) (hO.mono ts4 hk4)
    · intro a ha
      rcases List.mem_append.mp ha with ha | ha
      · exact hdl.new a ha
      · exact none_of s23 (hnew a (List.mem_singleton.mp ha).symm)
    · rw [List.filterMap_append]
      cases o with
      | none => simpa using hdl.nd
      | some a =>
        refine List.nodup_append.mpr ⟨hdl.nd, by simp, fun x hx y hy e => ?_⟩
        simp at hy
        subst hy
        subst e
        obtain ⟨o', h1, h2⟩ := List.mem_filterMap.mp hx
        have h2 : o' = some x := h2
        rw [h2] at h1
        obtain ⟨u, hu⟩ := has x h1
        have := hnew x rfl
        rw [s3 _ _ hu] at this
        cases this
    · intro a ha
      rcases List.mem_append.mp ha with ha | ha
      · obtain ⟨u, hu⟩ := has a ha
        by_cases e : a = D
        · exact ⟨_, by rw [e, upd_same]⟩
        · exact ⟨u, by rw [upd_ne e]; exact s34 _ _ hu⟩
      · have ha := (List.mem_singleton.mp ha).symm
        cases d with
        | add d => obtain ⟨t, b, e1, e2, e3, kvs, k1, k2⟩ := hO; rw [ha] at e1; cases e1; exact ⟨_, hk4 _ _ k1⟩
        | mend y d => obtain ⟨t, b, e1, e2, e3, kvs, k1, k2⟩ := hO; rw [ha] at e1; cases e1; exact ⟨_, hk4 _ _ k1⟩
        | undo => obtain ⟨t, e1, e2⟩ := hO; rw [ha] at e1; cases e1
  · rintro D ys H' hD ⟨s2, hl, hyl, as, hdl, has⟩
    rw [hln, List.take_length] at hdl
    exact q D ys as H' s2 hD hl hdl
theorem ok_is_carried {E : Ev} (t : Tx E) : Dg E 2 "is_carried" (spIsCarried E) := by
  refine dg_of (t.gd _ _ _ (by decide +kernel)) sc32 (fun vs H Q ⟨_, _, _, _, _, _, e, _⟩ => by rw [e]; rfl) fun X vs H Q c ⟨F, a, p, tk, lets, car, e, hc, s0, ha0, hca, ok, q⟩ => ?_
  subst e
  have B := t.B
  obtain ⟨n0, n1, n2, n3, l2, l3, g_isinstance, g_dict, g_len, g_str⟩ := nm32
  obtain ⟨⟨c1, c2, c3⟩, csome, okl, nd, ndt, ndc, ct⟩ := ok
  obtain ⟨dx, nm, l0, d', kvs', j1, j2, j3, j4⟩ := id hc.ex
  have hno : ∀ m, ("own" == m) = false → ("taken_names" == m) = false → ("words_by" == m) = false → True := fun _ _ _ _ => trivial
  have hca' : H a = some (.dK (carK car)) := hca
  have hkl : (carK car).length = car.length := List.length_map _
  walk_at "go"
  refine w_mO0 c ?_
  walk_at "go"
  refine ⟨p, _, _, _, _, _, rfl, s0 _ _ j1, (lk_tl (by decide +kernel) (lk_tl (by decide +kernel) (lk_tl (by decide +kernel) rfl))), ok_takes t, by omega, p, tk, lets, rfl, hc.mono s0, fun l hl => ?_⟩
  have s1 : Same H (upd H l (.lst (tk.map V.str))) := Same.new hl
  walk_at "go"
  refine c_len_l c (SqL.of upd_same) ?_
  rw [List.length_map]
  walk_at "go"
  have ha1 := s1 _ _ hca'
  refine ws_lock ⟨a, _, ha1, trivial, fun od => ?_⟩
  generalize hH1 : upd H l (.lst (tk.map V.str)) = H1 at s1 ha1
  have sF : Same F (upd H1 a (.frz od (.dK (carK car)))) := Same.mut (s0.trans s1) ha0
  refine ws_forS c (wi_items ?_)
  walk_at "go"
  refine ⟨a, _, _, rfl, upd_same, forS (src_items upd_same) (fun i σ H' => Same (upd H1 a (.frz od (.dK (carK car)))) H' ∧ ∃ o2 o3, σ = [some (.ref a), some (.ref p), o2, o3]) ⟨Same.refl _, none, none, rfl⟩ (fun i σ H h => h.1) ?_ ?_⟩
  · rintro σ H' ⟨s2, o2, o3, rfl⟩
    refine ⟨s2 _ _ upd_same, ?_⟩
    walk_at "go"
    exact q _ (s1.trans (lock_same ha1 s2))
  · rintro i σ H' x H2 hi ⟨s2, o2, o3, rfl⟩ s3 ⟨T, kk, v, hk, rfl, hT⟩
    obtain ⟨qq, hq, ek⟩ : ∃ qq, car[i]? = some qq ∧ (Sum.inr qq.1, V.str qq.2) = (kk, v) := by
      unfold carK at hk
      rw [List.getElem?_map] at hk
      cases e : car[i]? with
      | none => rw [e] at hk; cases hk
      | some qq => rw [e] at hk; exact ⟨qq, rfl, by injection hk⟩
    injection ek with e1 e2
    subst e1 e2
    have hT : H2 T = some (.tup [.str qq.1, .str qq.2]) := hT
    obtain ⟨m1, m2⟩ := ct qq (List.mem_of_getElem? hq)
    have s4 := sF.trans (s2.trans s3)
    refine wg_two c l2 l3 (SqT.of hT) ?_
    walk_at "go"
    refine w_mO0 c ?_
    walk_at "go"
    refine ⟨p, _, _, _, _, _, rfl, s4 _ _ j1, (lk_tl (by decide +kernel) (lk_tl (by decide +kernel) (lk_tl (by decide +kernel) rfl))), ok_takes t, by omega, p, tk, lets, rfl, hc.mono s4, fun l5 hl5 => ?_⟩
    refine o_notin_l c (SqL.of upd_same) rfl (flat_strs _) ?_
    refine ⟨_, rfl, ?_⟩
    rw [inV_str, decide_eq_true m1]
    refine iteF ?_
    have s5 : Same H2 (upd H2 l5 (.lst (tk.map V.str))) := Same.new hl5
    have s6 := s4.trans s5
    walk_at "go"
    refine w_mO0 c ?_
    walk_at "go"
    refine ⟨p, _, _, _, _, _, rfl, s6 _ _ j1, (lk_tl (by decide +kernel) (lk_tl (by decide +kernel) (lk_tl (by decide +kernel) rfl))), ok_lets t, by omega, p, tk, lets, rfl, hc.mono s6, fun l7 hl7 => ?_⟩
    refine o_notin_l c (SqL.of upd_same) rfl (flat_strs _) ?_
    refine ⟨_, rfl, ?_⟩
    rw [inV_str, decide_eq_true m2]
    refine iteF ?_
    walk_at "go"
    exact ⟨((s2.trans s3).trans s5).trans (Same.new hl7), _, _, rfl⟩
end
section
-- 35.0 __init__: ["self", "charter", "carried"]
abbrev N35_0 : List Str := ["self", "charter", "carried"]
theorem sc35_0 : FnScope N35_0 ["self", "charter", "carried"] (defScope (inC 35 0)) := ⟨rfl, rfl, rfl, by decide +kernel, rfl, by decide +kernel, by decide +kernel⟩
theorem nm35_0 : visB N35_0 (defScope (inC 35 0)) 2 "carried" = true ∧ visB N35_0 (defScope (inC 35 0)) 1 "charter" = true ∧ visB N35_0 (defScope (inC 35 0)) 0 "self" = true ∧ locB true N35_0 (defScope (inC 35 0)) 2 "carried" = true ∧ gloB (defScope (inC 35 0)) "is_carried" = true ∧ gloB (defScope (inC 35 0)) "NoTaken" = true ∧ gloB (defScope (inC 35 0)) "dict" = true :=
  ⟨by decide +kernel, by decide +kernel, by decide +kernel, by decide +kernel, by decide +kernel, by decide +kernel, by decide +kernel⟩
-- obtain ⟨n2, n1, n0, l2, g_is_carried, g_NoTaken, g_dict⟩ := nm35_0
/-- __init__ of a ledger; H what stood before the object -/
def spLedI (E : Ev) : Pr := fun vs H2 Q => ∃ F y dx p a tk lets car H, vs = [.ref y, .ref p, .ref a] ∧ H2 y = some (.ins (Ca E "Ledger") dx []) ∧ Same H H2 ∧ H y = none ∧ Ch E F p tk lets ∧ Same F H ∧ F a = none ∧ CA H a car ∧ ChOk tk lets car ∧
  ∀ F' os H', Same H H' → Same F F' → (∀ a u, F' a = some u → F a = some u ∨ H a = none) → (∀ a ∈ os, H a = none) → Led E F' H' y (ls0 tk lets car) os → Q .non H'
theorem ok_led_init {E : Ev} (t : Tx E) (d1 : Dg E 2 "is_carried" (spIsCarried E)) : Df E 3 (Ma E "Ledger" "__init__") (spLedI E) := by
  refine df_of (t.fd _ _ _ _ _ (by decide +kernel)) sc35_0 (fun vs H Q ⟨_, _, _, _, _, _, _, _, _, e, _⟩ => by rw [e]; rfl) fun X vs H2 Q c ⟨F, y, dx, p, a, tk, lets, car, H, e, hy, s0, hyn, hc, sF, ha0, hca, ok, q⟩ => ?_
  subst e
  have B := t.B
  obtain ⟨n2, n1, n0, l2, g_is_carried, g_NoTaken, g_dict⟩ := nm35_0
  have sF2 := sF.trans s0
  have hca2 : CA H2 a car := s0 _ _ hca
  walk_at "go"
  refine ⟨F, a, p, tk, lets, car, rfl, hc, sF2, ha0, hca2, ok, fun H3 s3 => ?_⟩
  walk_at "go"
  have s03 := s0.trans s3
  have hy3 := s3 _ _ hy
  have fld : ∀ f, (q2 "Ledger" f) ∈ atTab → At E (Ca E "Ledger") f := fun f h => t.T.at_ h
  refine ws_attr c ?_
  walk_at "go"
  refine ⟨y, _, _, _, rfl, hy3, t.T.at_ (C := "Ledger") (by decide +kernel), (show 0 < 1000 by decide), ?_⟩
  rw [show putF "rule" (.ref p) ([] : List (Str × V)) = ([("rule", .ref p)] : List (Str × V)) from rfl]
  have s4 : Same H (upd H3 y (.ins (Ca E "Ledger") dx [("rule", .ref p)])) := Same.mut s03 hyn
  have hy4 : upd H3 y (.ins (Ca E "Ledger") dx [("rule", .ref p)]) y = some (.ins (Ca E "Ledger") dx [("rule", .ref p)]) := upd_same
  generalize upd H3 y (.ins (Ca E "Ledger") dx [("rule", .ref p)]) = H4 at s4 hy4
  have hca4 : H4 a = some (.dK (carK car)) := s4 _ _ hca
  refine wb_cons (ws_attr c ?_)
  walk_at "go"
  intro cd hcd
  have hy4' := Same.new (o := .dK (carK car)) hcd _ _ hy4
  walk_at "go"
  refine ⟨y, _, _, _, rfl, hy4', t.T.at_ (C := "Ledger") (by decide +kernel), (show 1 < 1000 by decide), ?_⟩
  rw [show putF "carries" (.ref cd) ([("rule", V.ref p)] : List (Str × V)) = ([("rule", .ref p), ("carries", .ref cd)] : List (Str × V)) from rfl]
  have s5 : Same H (upd (upd H4 cd (.dK (carK car))) y (.ins (Ca E "Ledger") dx [("rule", .ref p), ("carries", .ref cd)])) := Same.mut (s4.trans (Same.new hcd)) hyn
  have hy5 : upd (upd H4 cd (.dK (carK car))) y (.ins (Ca E "Ledger") dx [("rule", .ref p), ("carries", .ref cd)]) y = some (.ins (Ca E "Ledger") dx [("rule", .ref p), ("carries", .ref cd)]) := upd_same
  have ny1 : cd ≠ y := fun z => by rw [z, hy4] at hcd; cases hcd
  have hcd5 : upd (upd H4 cd (.dK (carK car))) y (.ins (Ca E "Ledger") dx [("rule", .ref p), ("carries", .ref cd)]) cd = some (.dK (carK car)) := by rw [upd_ne ny1, upd_same]
  have hcdn := none_of s4 hcd
  generalize upd (upd H4 cd (.dK (carK car))) y (.ins (Ca E "Ledger") dx [("rule", .ref p), ("carries", .ref cd)]) = H5 at s5 hy5 hcd5
  refine wb_cons (ws_attr c ?_)
  walk_at "go"
  intro rl hrl
  have hy5' := Same.new (o := .lst []) hrl _ _ hy5
  walk_at "go"
  refine ⟨y, _, _, _, rfl, hy5', t.T.at_ (C := "Ledger") (by decide +kernel), (show 2 < 1000 by decide), ?_⟩
  rw [show putF "rows" (.ref rl) ([("rule", V.ref p), ("carries", .ref cd)] : List (Str × V)) = ([("rule", .ref p), ("carries", .ref cd), ("rows", .ref rl)] : List (Str × V)) from rfl]
  have ny2 : rl ≠ y := fun z => by rw [z, hy5] at hrl; cases hrl
  have nc2 : rl ≠ cd := fun z => by rw [z, hcd5] at hrl; cases hrl
  have s6 : Same H (upd (upd H5 rl (.lst [])) y (.ins (Ca E "Ledger") dx [("rule", .ref p), ("carries", .ref cd), ("rows", .ref rl)])) := Same.mut (s5.trans (Same.new hrl)) hyn
  have hrln := none_of s5 hrl
  have hy6 : upd (upd H5 rl (.lst [])) y (.ins (Ca E "Ledger") dx [("rule", .ref p), ("carries", .ref cd), ("rows", .ref rl)]) y = some (.ins (Ca E "Ledger") dx [("rule", .ref p), ("carries", .ref cd), ("rows", .ref rl)]) := upd_same
  have hcd6 : upd (upd H5 rl (.lst [])) y (.ins (Ca E "Ledger") dx [("rule", .ref p), ("carries", .ref cd), ("rows", .ref rl)]) cd = some (.dK (carK car)) := by rw [upd_ne ny1, upd_ne (Ne.symm nc2)]; exact hcd5
  have hrl6 : upd (upd H5 rl (.lst [])) y (.ins (Ca E "Ledger") dx [("rule", .ref p), ("carries", .ref cd), ("rows", .ref rl)]) rl = some (.lst []) := by rw [upd_ne ny2, upd_same]
  generalize upd (upd H5 rl (.lst [])) y (.ins (Ca E "Ledger") dx [("rule", .ref p), ("carries", .ref cd), ("rows", .ref rl)]) = H6 at s6 hy6 hcd6 hrl6
  refine wb_cons (ws_attr c ?_)
  walk_at "go"
  intro pl hpl
  have hy6' := Same.new (o := .lst []) hpl _ _ hy6
  walk_at "go"
  refine ⟨y, _, _, _, rfl, hy6', t.T.at_ (C := "Ledger") (by decide +kernel), (show 3 < 1000 by decide), ?_⟩
  rw [show putF "past" (.ref pl) ([("rule", V.ref p), ("carries", .ref cd), ("rows", .ref rl)] : List (Str × V)) = ([("rule", .ref p), ("carries", .ref cd), ("rows", .ref rl), ("past", .ref pl)] : List (Str × V)) from rfl]
  have ny3 : pl ≠ y := fun z => by rw [z, hy6] at hpl; cases hpl
  have nc3 : pl ≠ cd := fun z => by rw [z, hcd6] at hpl; cases hpl
  have nr3 : pl ≠ rl := fun z => by rw [z, hrl6] at hpl; cases hpl
  have s7 : Same H (upd (upd H6 pl (.lst [])) y (.ins (Ca E "Ledger") dx [("rule", .ref p), ("carries", .ref cd), ("rows", .ref rl), ("past", .ref pl)])) := Same.mut (s6.trans (Same.new hpl)) hyn
  have hpln := none_of s6 hpl
  have hy7 : upd (upd H6 pl (.lst [])) y (.ins (Ca E "Ledger") dx [("rule", .ref p), ("carries", .ref cd), ("rows", .ref rl), ("past", .ref pl)]) y = some (.ins (Ca E "Ledger") dx [("rule", .ref p), ("carries", .ref cd), ("rows", .ref rl), ("past", .ref pl)]) := upd_same
  have hcd7 : upd (upd H6 pl (.lst [])) y (.ins (Ca E "Ledger") dx [("rule", .ref p), ("carries", .ref cd), ("rows", .ref rl), ("past", .ref pl)]) cd = some (.dK (carK car)) := by rw [upd_ne ny1, upd_ne (Ne.symm nc3)]; exact hcd6
  have hrl7 : upd (upd H6 pl (.lst [])) y (.ins (Ca E "Ledger") dx [("rule", .ref p), ("carries", .ref cd), ("rows", .ref rl), ("past", .ref pl)]) rl = some (.lst []) := by rw [upd_ne ny2, upd_ne (Ne.symm nr3)]; exact hrl6
  have hpl7 : upd (upd H6 pl (.lst [])) y (.ins (Ca E "Ledger") dx [("rule", .ref p), ("carries", .ref cd), ("rows", .ref rl), ("past", .ref pl)]) pl = some (.lst []) := by rw [upd_ne ny3, upd_same]
  generalize upd (upd H6 pl (.lst [])) y (.ins (Ca E "Ledger") dx [("rule", .ref p), ("carries", .ref cd), ("rows", .ref rl), ("past", .ref pl)]) = H7 at s7 hy7 hcd7 hrl7 hpl7
  refine wb_cons (ws_attr c ?_)
  walk_at "go"
  intro nl hnl
  have hy7' := Same.new (o := .lst []) hnl _ _ hy7
  walk_at "go"
  refine ⟨y, _, _, _, rfl, hy7', t.T.at_ (C := "Ledger") (by decide +kernel), (show 4 < 1000 by decide), ?_⟩
  rw [show putF "notes" (.ref nl) ([("rule", V.ref p), ("carries", .ref cd), ("rows", .ref rl), ("past", .ref pl)] : List (Str × V)) = ([("rule", .ref p), ("carries", .ref cd), ("rows", .ref rl), ("past", .ref pl), ("notes", .ref nl)] : List (Str × V)) from rfl]
  have ny4 : nl ≠ y := fun z => by rw [z, hy7] at hnl; cases hnl
  have nc4 : nl ≠ cd := fun z => by rw [z, hcd7] at hnl; cases hnl
  have nr4 : nl ≠ rl := fun z => by rw [z, hrl7] at hnl; cases hnl
  have np4 : nl ≠ pl := fun z => by rw [z, hpl7] at hnl; cases hnl
  have s8 : Same H (upd (upd H7 nl (.lst [])) y (.ins (Ca E "Ledger") dx [("rule", .ref p), ("carries", .ref cd), ("rows", .ref rl), ("past", .ref pl), ("notes", .ref nl)])) := Same.mut (s7.trans (Same.new hnl)) hyn
  have hnln := none_of s7 hnl
  have hy8 : upd (upd H7 nl (.lst [])) y (.ins (Ca E "Ledger") dx [("rule", .ref p), ("carries", .ref cd), ("rows", .ref rl), ("past", .ref pl), ("notes", .ref nl)]) y = some (.ins (Ca E "Ledger") dx [("rule", .ref p), ("carries", .ref cd), ("rows", .ref rl), ("past", .ref pl), ("notes", .ref nl)]) := upd_same
  have hrest : ∀ b, b ≠ y → b ≠ nl → upd (upd H7 nl (.lst [])) y (.ins (Ca E "Ledger") dx [("rule", .ref p), ("carries", .ref cd), ("rows", .ref rl), ("past", .ref pl), ("notes", .ref nl)]) b = H7 b := fun b h1 h2 => by rw [upd_ne h1, upd_ne h2]
  have hnl8 : upd (upd H7 nl (.lst [])) y (.ins (Ca E "Ledger") dx [("rule", .ref p), ("carries", .ref cd), ("rows", .ref rl), ("past", .ref pl), ("notes", .ref nl)]) nl = some (.lst []) := by rw [upd_ne ny4, upd_same]
  have hcd8 := (hrest cd ny1 (Ne.symm nc4)).trans hcd7
  have hrl8 := (hrest rl ny2 (Ne.symm nr4)).trans hrl7
  have hpl8 := (hrest pl ny3 (Ne.symm np4)).trans hpl7
  clear hrest
  generalize upd (upd H7 nl (.lst [])) y (.ins (Ca E "Ledger") dx [("rule", .ref p), ("carries", .ref cd), ("rows", .ref rl), ("past", .ref pl), ("notes", .ref nl)]) = H8 at s8 hy8 hcd8 hrl8 hpl8 hnl8
  refine wb_one (ws_attr c ?_)
  walk_at "go"
  refine ⟨y, _, _, _, rfl, hy8, t.T.at_ (C := "Ledger") (by decide +kernel), (show 5 < 1000 by decide), ?_⟩
  rw [show putF "come" .non [("rule", V.ref p), ("carries", .ref cd), ("rows", .ref rl), ("past", .ref pl), ("notes", .ref nl)] = ledF p cd rl pl nl .non from rfl]
  have hFy : F y = none := none_of sF hyn
  have hFcd : F cd = none := none_of sF hcdn
  have sd : Same F (del (upd F cd (.dK (carK car))) cd) := del_of (Same.new hFcd) (by exact hFcd)
  refine q (upd F cd (.dK (carK car))) (osOf y rl pl nl []) _ (Same.mut s8 hyn) (Same.new hFcd) (fun b u hb => ?_) (fun b hb => ?_) ⟨dx, p, cd, rl, pl, nl, [], [], .non, ⟨?_, ?_, ?_, upd_same, hc.mono sd, upd_same, ⟨[], by rw [upd_ne ny2]; exact hrl8, .nil⟩, by rw [upd_ne ny3]; exact hpl8, .nil, by rw [upd_ne ny4]; exact hnl8, .nil⟩, rfl, .inl rfl⟩
  · by_cases e : b = cd
    · rw [e]; exact .inr hcdn
    · rw [upd_ne e] at hb; exact .inl hb
  · simp only [osOf, List.mem_cons, List.not_mem_nil, or_false] at hb
    rcases hb with rfl | rfl | rfl | rfl
    · exact hyn
    · exact hrln
    · exact hpln
    · exact hnln
  · intro b u hb
    by_cases e : b = cd
    · rw [e, upd_same] at hb
      rw [e, upd_ne ny1, hcd8]
      exact hb
    · rw [upd_ne e] at hb
      exact Same.mut (sF.trans s8) hFy b u hb
  · simp only [osOf, List.nodup_cons, List.mem_cons, List.not_mem_nil, or_false, not_or, List.nodup_nil, and_true, not_false_eq_true]
    exact ⟨⟨Ne.symm ny2, Ne.symm ny3, Ne.symm ny4⟩, ⟨Ne.symm nr3, Ne.symm nr4⟩, Ne.symm np4⟩
  · intro b hb
    simp only [osOf, List.mem_cons, List.not_mem_nil, or_false] at hb
    rcases hb with rfl | rfl | rfl | rfl
    · rw [upd_ne (Ne.symm ny1)]; exact hFy
    · rw [upd_ne nc2]; exact none_of sF hrln
    · rw [upd_ne nc3]; exact none_of sF hpln
    · rw [upd_ne nc4]; exact none_of sF hnln
theorem ok_ledger {E : Ev} (t : Tx E) (d1 : Dg E 2 "is_carried" (spIsCarried E)) : Dk E 3 "Ledger" (spLedger E) := by
  obtain ⟨m1, m2⟩ := t.mks "Ledger" "Ledger" (by decide +kernel)
  refine ⟨Ca E "Ledger", _, spLedI E, m1, m2, ok_led_init t d1, fun vs H Q ⟨F, p, a, tk, lets, car, e, hc, sF, ha, hca, ok, q⟩ y dx hy hdx ne => ?_⟩
  have s1 : Same H (upd H dx (.own y)) := Same.new hdx
  have hy1 : upd H dx (.own y) y = none := by rw [upd_ne (Ne.symm ne)]; exact hy
  refine ⟨F, y, dx, p, a, tk, lets, car, H, by rw [e], upd_same, s1.trans (Same.new hy1), hy, hc, sF, ha, hca, ok, fun F' os H' k1 k2 k3 k4 k5 => ⟨rfl, q F' y os H' k1 k2 k3 k4 k5⟩⟩
end
section
-- 35.14 cut: ["self", "count", "found", "deed"]
abbrev N35_14 : List Str := ["self", "count", "found", "deed"]
theorem sc35_14 : FnScope N35_14 ["self", "count"] (defScope (inC 35 14)) := ⟨rfl, rfl, rfl, by decide +kernel, rfl, by decide +kernel, by decide +kernel⟩
theorem nm35_14 : visB N35_14 (defScope (inC 35 14)) 1 "count" = true ∧ visB N35_14 (defScope (inC 35 14)) 0 "self" = true ∧ visB N35_14 (defScope (inC 35 14)) 2 "found" = true ∧ visB N35_14 (defScope (inC 35 14)) 3 "deed" = true ∧ locB true N35_14 (defScope (inC 35 14)) 2 "found" = true ∧ locB true N35_14 (defScope (inC 35 14)) 3 "deed" = true ∧ gloB (defScope (inC 35 14)) "is_whole" = true ∧ gloB (defScope (inC 35 14)) "len" = true ∧ gloB (defScope (inC 35 14)) "NoPlace" = true ∧ gloB (defScope (inC 35 14)) "Ledger" = true :=
  ⟨by decide +kernel, by decide +kernel, by decide +kernel, by decide +kernel, by decide +kernel, by decide +kernel, by decide +kernel, by decide +kernel, by decide +kernel, by decide +kernel⟩
-- obtain ⟨n1, n0, n2, n3, l2, l3, g_is_whole, g_len, g_NoPlace, g_Ledger⟩ := nm35_14
theorem okRun_at : ∀ {ds : List Deed} {S : LS} {i : Nat} {d : Deed}, okRun S ds → ds[i]? = some d → okDeed (redo S (ds.take i)) d ∧ LsOk (redo S (ds.take i))
  | [], S, i, d, _, h => by simp at h
  | d0 :: r, S, 0, d, ⟨h1, h2, _⟩, h => by
    simp at h
    subst h
    exact ⟨h1, h2⟩
  | d0 :: r, S, i + 1, d, ⟨_, _, h3⟩, h => okRun_at (S := S.does d0) h3 (by simpa using h)
theorem redo_snoc (S : LS) (ds : List Deed) (d : Deed) : redo S (ds ++ [d]) = (redo S ds).does d := by
  unfold redo
  rw [List.foldl_append]
  rfl
theorem ok_cut {E : Ev} (t : Tx E) (d0 : Dg E 1 "is_whole" spWhole) (d1 : Dk E 3 "Ledger" (spLedger E)) (d2 : Dm E 6 (Ca E "Ledger") "does" (spDoes E)) : Dm E 7 (Ca E "Ledger") "cut" (spCut E) := by
  refine t.T.dm (D := "Ledger") (by decide +kernel) (df_of (t.fd _ _ _ _ _ (by decide +kernel)) sc35_14 (fun vs H Q ⟨_, _, _, _, _, e, _⟩ => by rw [e]; rfl) fun X vs H Q c ⟨F, p, S, os, n, e, hL, ok, hn, hrun, hend, q⟩ => ?_)
  subst e
  obtain ⟨dx, ch, cd, rl, pl, nl, pls, ns, come, h, e, hc⟩ := id hL
  have B := t.B
  obtain ⟨n1, n0, n2, n3, l2, l3, g_is_whole, g_len, g_NoPlace, g_Ledger⟩ := nm35_14
  have hp := h.hp
  have hln := Paired.length h.hns
  have hnl := h.hnl
  walk_at "go"
  have hcdH : CA H cd S.car := h.fs _ _ h.hcd
  refine ⟨del F cd, ch, cd, S.tk, S.lets, S.car, rfl, h.hch, (del_same _ _).trans h.fs, del_at _ _, hcdH, ok.ch, fun F1 fp os1 H1 s1 sF1 hF1 ho1 hL1 => ?_⟩
  have hp1 := s1 _ _ hp
  have hnl1 := s1 _ _ hnl
  walk_at "go"
  refine ws_forS c (wi_list c (w_slice ?_))
  walk_at "go"
  refine l_lst c (SqL.of hnl1) ?_
  rw [cutV_to]
  intro l hl
  have s2 : Same H1 (upd H1 l (.lst (ns.take n))) := Same.new hl
  have hlos : l ∉ os1 := fun hm => by
    obtain ⟨o, e1, _⟩ := hL1.has l hm
    rw [hl] at e1
    cases e1
  have hlH := none_of s1 hl
  refine ⟨l, rfl, ⟨_, SqL.of upd_same⟩, forS (F := upd H l (.lst (ns.take n))) (src_list (SqL.of upd_same)) (fun i σ H' => Same (upd H l (.lst (ns.take n))) H' ∧ Same H H' ∧ ∃ F' os' o3, Led E F' H' fp (redo (ls0 S.tk S.lets S.car) (S.notes.take i)) os' ∧ (∀ a ∈ os', H a = none) ∧ l ∉ os' ∧ (∀ a u, F' a = some u → F a = some u ∨ H a = none) ∧ σ = [some (.ref p), some (.int (n : Nat)), some (.ref fp), o3])
    ⟨?_, s1.trans s2, F1, os1, none, hL1.grow s2, ho1, hlos, fun a u hu => (hF1 a u hu).imp (fun z => del_same _ _ a u z) id, rfl⟩ (fun i σ H h => h.1) ?_ ?_⟩
  · intro a u hu
    by_cases ea : a = l
    · rw [ea, upd_same] at hu ⊢
      exact hu
    · rw [upd_ne ea] at hu ⊢
      exact s1 _ _ hu
  · rintro σ H' ⟨s3, s4, F', os', o3, hL', ho', hl', hF', rfl⟩
    rw [List.length_take, hln, Nat.min_eq_left hn] at hL'
    walk_at "go"
    exact q F' fp os' H' s4 ho' hL' hF'
  · rintro i σ H2 x H3 hi ⟨s3, s4, F', os', o3, hL', ho', hl', hF', rfl⟩ s5 hx
    rw [List.length_take, hln, Nat.min_eq_left hn] at hi
    rw [List.getElem?_take_of_lt hi] at hx
    obtain ⟨d, hd, hdA⟩ := pair_at h.hns hx
    have hd2 : (S.notes.take n)[i]? = some d := by rw [List.getElem?_take_of_lt hi]; exact hd
    obtain ⟨okd, oks⟩ := okRun_at hrun hd2
    rw [List.take_take, Nat.min_eq_left (by omega)] at okd oks
    have s45 := s4.trans s5
    have hdA3 : DeedA E H3 H3 x d := hdA.mono (h.fs.trans s45) s45.ts
    have hL3 := hL'.grow s5
    obtain ⟨dx3, ch3, cd3, rl3, pl3, nl3, pls3, ns3, come3, h3, _, _⟩ := id hL3
    have hp3 := h3.hp
    refine wg_name c l3 ?_
    walk_at "go"
    refine w_mO c ?_
    walk_at "go"
    refine ⟨fp, _, _, _, _, _, rfl, hp3, led_no rfl, d2, by omega, ?_⟩
    walk_at "go"
    refine ⟨F', fp, _, os', x, d, rfl, hL3, oks, hdA3, okd, fun F4 os4 H4 st hL4 => ?_⟩
    have etk : S.notes.take (i + 1) = S.notes.take i ++ [d] := by rw [List.take_succ, hd]; rfl
    have dom : ∀ a, H3 a = none → H a = none := same_dom s45
    have kp : ∀ a u, H a = some u → H4 a = some u := fun a u hu => st.keep a u (fun hm => by rw [ho' a hm] at hu; cases hu) (s45 _ _ hu)
    walk_at "go"
    refine ⟨?_, kp, F4, os4, _, by rw [etk, redo_snoc]; exact hL4, fun a ha => ?_, fun hm => ?_, fun a u hu => ?_, rfl⟩
    · intro a u hu
      by_cases ea : a = l
      · rw [ea, upd_same] at hu
        rw [ea]
        exact st.keep l u (by exact hl') (s5 _ _ (s3 _ _ (by rw [upd_same]; exact hu)))
      · rw [upd_ne ea] at hu
        exact kp a u hu
    · rcases st.onew a ha with h1 | h1
      · exact ho' a h1
      · exact dom a h1
    · rcases st.onew l hm with h1 | h1
      · exact hl' h1
      · rw [s5 _ _ (s3 _ _ upd_same)] at h1
        cases h1
    · rcases st.fnew a u hu with h1 | h1
      · exact hF' a u h1
      · exact .inr (dom a h1)
end
section
/-! ### what a ledger's methods promise -/
section
variable {E : Ev} (t : Tx E)
include t
theorem l_are_am : Dg E 3 "are_amounts" (spAreAm E) := ok_are_am t (p_is_part t) (p_below t)
theorem l_need_year : Dm E 2 (Ca E "Ledger") "need_year" (spNeedYear E) := ok_need_year t (p_whole t)
theorem l_need_am : Dm E 4 (Ca E "Ledger") "need_amounts" (spNeedAm E) := ok_need_am t (l_are_am t)
theorem l_years : Dm E 1 (Ca E "Ledger") "years" (spYears E) := ok_years t
theorem l_add : Dm E 5 (Ca E "Ledger") "add" (spAdd E) := ok_add t (l_need_am t)
theorem l_mend : Dm E 5 (Ca E "Ledger") "mend" (spMend E) := ok_mend t (l_need_year t) (l_need_am t)
theorem l_undo : Dm E 1 (Ca E "Ledger") "undo" (spUndo E) := ok_undo t
theorem l_dues : Dg E 15 "dues" (spDues E) := ok_dues t (ok_need_taken t (l_are_am t)) fun w hw => m_value t 8 w hw
theorem l_reckoned : Dm E 17 (Ca E "Ledger") "reckoned" (spReckoned E) := ok_reckoned t (ok_first t (p_greatest t) (l_dues t))
theorem l_taken_in : Dm E 18 (Ca E "Ledger") "taken_in" (spYearOf E (·.1)) := ok_taken_in t (l_need_year t) (l_reckoned t)
theorem l_dues_of : Dm E 18 (Ca E "Ledger") "dues_of" (spYearOf E (·.2)) := ok_dues_of t (l_need_year t) (l_reckoned t)
theorem l_owed : Dm E 18 (Ca E "Ledger") "owed" (spOwed E) := ok_owed t (l_reckoned t) (p_plus t)
theorem l_does : Dm E 6 (Ca E "Ledger") "does" (spDoes E) := ok_does t (ok_is_deed t) (l_add t) (l_mend t) (l_undo t)
theorem l_log : Dm E 2 (Ca E "Ledger") "log" (spLog E) := ok_log t (ok_own t)
theorem l_ledger : Dk E 3 "Ledger" (spLedger E) := ok_ledger t (ok_is_carried t)
theorem l_cut : Dm E 7 (Ca E "Ledger") "cut" (spCut E) := ok_cut t (p_whole t) (l_ledger t) (l_does t)
end
end
section
def okR (fr : List Str) (n : Nat) : Deed → Prop
  | .add d => AmOk d fr
  | .mend y d => AmOk d fr ∧ y < n
  | .undo => True
def spLdeed (E : Ev) : Pr := fun vs H Q => ∃ F am r pp g pls ns rows past notes fl, ∃ fr : List Str, ∃ cell : Int, vs = [.ref am, .ref fl, .int cell] ∧ Md E F H am r pp g pls ns rows past notes ∧ H fl = some (.lst (fr.map V.str)) ∧ fr.length ≤ 100 ∧ fr.Nodup ∧ rows.length ≤ 5000 ∧
  ∀ v d o H', Same H H' → DeedO E H' v d o → (∀ a, o = some a → H a = none) → okR fr rows.length d → Q v H'
def spLtold (E : Ev) : Pr := fun vs H Q => ∃ F p S os, vs = [.ref p] ∧ Led E F H p S os ∧ LsOk S ∧
  ∀ F' H' D ys, Stp F os H F' os H' → Led E F' H' p S os → H D = none → F' D = none → H' D = some (.lst ys) → Paired (YN E H H') ys S.years → Q (.ref D) H'
theorem Stp.fno {F H F' H' : Hp} {os os' : List Addr} (s : Stp F os H F' os' H') {a : Addr} {u : HO} (h1 : F a = none) (h2 : H a = some u) : F' a = none := by
  cases q : F' a with
  | none => rfl
  | some v =>
    rcases s.fnew a v q with h | h
    · rw [h1] at h; cases h
    · rw [h2] at h; cases h
theorem Stp.ono {F H F' H' : Hp} {os os' : List Addr} (s : Stp F os H F' os' H') {a : Addr} {u : HO} (h1 : a ∉ os) (h2 : H a = some u) : a ∉ os' := fun hm => by
  rcases s.onew a hm with h | h
  · exact h1 h
  · rw [h2] at h; cases h
theorem LS.years_len (S : LS) : S.years.length = S.rows.length := yearsF_len _ _ _ _ _
theorem sqt_at_dict {a : Addr} : True := trivial
end
section
-- 48 need_words: ["words", "word"]
abbrev N48 : List Str := ["words", "word"]
theorem sc48 : FnScope N48 ["words"] (defScope (top 48)) := ⟨rfl, rfl, rfl, by decide +kernel, rfl, by decide +kernel, by decide +kernel⟩
theorem nm48 : visB N48 (defScope (top 48)) 0 "words" = true ∧ visB N48 (defScope (top 48)) 1 "word" = true ∧ locB true N48 (defScope (top 48)) 1 "word" = true ∧ gloB (defScope (top 48)) "isinstance" = true ∧ gloB (defScope (top 48)) "Word" = true ∧ gloB (defScope (top 48)) "NoCharter" = true ∧ gloB (defScope (top 48)) "max" = true ∧ gloB (defScope (top 48)) "MOST_DEEP" = true ∧ gloB (defScope (top 48)) "sum" = true ∧ gloB (defScope (top 48)) "MOST_SIZE" = true :=
  ⟨by decide +kernel, by decide +kernel, by decide +kernel, by decide +kernel, by decide +kernel, by decide +kernel, by decide +kernel, by decide +kernel, by decide +kernel, by decide +kernel⟩
-- obtain ⟨n0, n1, l1, g_isinstance, g_Word, g_NoCharter, g_max, g_MOST_DEEP, g_sum, g_MOST_SIZE⟩ := nm48
theorem kind_ne : ∀ w : Wt, decide (w.kind = "") = false
  | .am _ => decide_eq_false (by decide +kernel : ¬ ("amount" : Str) = "")
  | .nm _ => decide_eq_false (by decide +kernel : ¬ ("name" : Str) = "")
  | .two .plus _ _ => decide_eq_false (by decide +kernel : ¬ ("plus" : Str) = "")
  | .two .less _ _ => decide_eq_false (by decide +kernel : ¬ ("less" : Str) = "")
  | .two .greater _ _ => decide_eq_false (by decide +kernel : ¬ ("greater" : Str) = "")
  | .two .lesser _ _ => decide_eq_false (by decide +kernel : ¬ ("lesser" : Str) = "")
  | .bands _ _ => decide_eq_false (by decide +kernel : ¬ ("bands" : Str) = "")
  | .steps _ _ => decide_eq_false (by decide +kernel : ¬ ("steps" : Str) = "")
  | .iff _ _ _ _ => decide_eq_false (by decide +kernel : ¬ ("if" : Str) = "")
theorem sum_sizes : ∀ ws : List Wt, (ws.map fun a : Wt => (a.size : Int)).sum = ((ws.map Wt.size).sum : Nat)
  | [] => rfl
  | a :: r => by
    rw [List.map_cons, List.map_cons, List.sum_cons, List.sum_cons, sum_sizes r]
    omega
theorem ok_need_words {E : Ev} (t : Tx E) : Dg E 10 "need_words" (spNeedWords E) := by
  refine dg_of (t.gd _ _ _ (by decide +kernel)) sc48 (fun vs H Q ⟨_, _, _, _, e, _⟩ => by rw [e]; rfl) fun X vs H Q c ⟨F, l, ys, ws, e, sF, hl, pw, hn1, hn2, hdeep, hsize, q⟩ => ?_
  subst e
  have B := t.B
  obtain ⟨n0, n1, l1, g_isinstance, g_Word, g_NoCharter, g_max, g_MOST_DEEP, g_sum, g_MOST_SIZE⟩ := nm48
  have hw := t.word
  have i1 := t.cints "MOST_DEEP" 8 (by decide +kernel)
  have i2 := t.cints "MOST_SIZE" 40 (by decide +kernel)
  have hlen := Paired.length pw
  have pwH : Paired (Wo E H) ws ys := Paired.mapP pw fun _ _ z => z.mono sF
  refine wb_cons (ws_forS c (wi_list c ?_))
  walk_at "go"
  refine ⟨⟨_, SqL.of hl⟩, forS (src_list (SqL.of hl)) (fun i σ H' => Same H H' ∧ ∃ o, σ = [some (.ref l), o]) ⟨Same.refl _, none, rfl⟩ (fun i σ H h => h.1) ?_ ?_⟩
  · rintro σ H1 ⟨s1, o, rfl⟩
    have hl1 := s1 _ _ hl
    walk_at "go"
    refine w_lcS c [("word", 1)] (by decide +kernel) (wi_list c ?_)
    walk_at "go"
    refine ⟨⟨_, SqL.of hl1⟩, lcS0 (src_list (SqL.of hl1)) (by omega) (fun i y _ => ∃ a, ws[i]? = some a ∧ y = .int (a.deep : Nat)) (fun _ _ _ _ _ h => h) (fun i y H2 hi s2 hy Y cY => ?_) fun D2 ys2 H2 hD2 s2 hl2 pr2 => ?_⟩
    · obtain ⟨a, ha, hwa⟩ := pair_at' pwH hy
      have hwa := hwa.mono (s1.trans s2)
      refine wg_name cY (by decide +kernel) ⟨wipe_one, Same.refl _, fun Y3 c3 => w_mW0 c3 ?_⟩
      walk_at "go"
      have hd := hdeep a (List.mem_of_getElem? ha)
      exact ⟨a, _, _, hwa, m_deep t 7 a (by omega), by omega, _, rfl, hwa, fun H4 s4 => ⟨s4, a, ha, rfl⟩⟩
    · rw [← hlen] at pr2
      rw [range_map _ pr2, show (ws.map fun a : Wt => V.int (a.deep : Nat)) = (ws.map fun a : Wt => (a.deep : Int)).map V.int by rw [List.map_map]; rfl] at hl2
      walk_at "go"
      refine c_max c (SqL.of hl2) (by rw [List.length_map]; omega) fun m hm hle => ?_
      obtain ⟨a, ha, rfl⟩ := List.mem_map.mp hm
      have hd := hdeep a ha
      walk_at "go"
      have hl3 := s2 _ _ hl1
      refine w_lcS c [("word", 1)] (by decide +kernel) (wi_list c ?_)
      walk_at "go"
      refine ⟨⟨_, SqL.of hl3⟩, lcS0 (src_list (SqL.of hl3)) (by omega) (fun i y _ => ∃ a, ws[i]? = some a ∧ y = .int (a.size : Nat)) (fun _ _ _ _ _ h => h) (fun i y H3 hi s3 hy Y cY => ?_) fun D3 ys3 H3 hD3 s3 hl4 pr3 => ?_⟩
      · obtain ⟨a, ha, hwa⟩ := pair_at' pwH hy
        have hwa := hwa.mono ((s1.trans s2).trans s3)
        refine wg_name cY (by decide +kernel) ⟨wipe_one, Same.refl _, fun Y3 c3 => w_mW0 c3 ?_⟩
        walk_at "go"
        have hd := hdeep a (List.mem_of_getElem? ha)
        exact ⟨a, _, _, hwa, m_size t 7 a (by omega), by omega, _, rfl, hwa, fun H4 s4 => ⟨s4, a, ha, rfl⟩⟩
      · rw [← hlen] at pr3
        rw [range_map _ pr3, show (ws.map fun a : Wt => V.int (a.size : Nat)) = (ws.map fun a : Wt => (a.size : Int)).map V.int by rw [List.map_map]; rfl] at hl4
        walk_at "go"
        refine c_sum c (SqL.of hl4) ?_
        rw [sum_sizes]
        walk_at "go"
        exact q _ ((s1.trans s2).trans s3)
  · rintro i σ H1 y H2 hi ⟨s1, o, rfl⟩ s2 hy
    obtain ⟨a, ha, hwa⟩ := pair_at' pwH hy
    have s12 := s1.trans s2
    have hwa := hwa.mono s12
    refine wg_name c l1 ?_
    walk_at "go"
    refine isi_word t c hwa ?_
    walk_at "go"
    refine w_mW0 c ?_
    walk_at "go"
    refine ⟨a, _, _, hwa, m_kind t a, by omega, _, rfl, ?_⟩
    walk_at "go"
    rw [kind_ne]
    refine iteF ?_
    walk_at "go"
    exact ⟨s12, _, rfl⟩
end
section
-- 49.0 __init__: ["self", "part"]
abbrev N49_0 : List Str := ["self", "part"]
theorem sc49_0 : FnScope N49_0 ["self", "part"] (defScope (inC 49 0)) := ⟨rfl, rfl, rfl, by decide +kernel, rfl, by decide +kernel, by decide +kernel⟩
theorem nm49_0 : visB N49_0 (defScope (inC 49 0)) 1 "part" = true ∧ visB N49_0 (defScope (inC 49 0)) 0 "self" = true ∧ gloB (defScope (inC 49 0)) "need_part" = true :=
  ⟨by decide +kernel, by decide +kernel, by decide +kernel⟩
-- obtain ⟨n1, n0, g_need_part⟩ := nm49_0
-- 50.0 __init__: ["self", "name"]
abbrev N50_0 : List Str := ["self", "name"]
theorem sc50_0 : FnScope N50_0 ["self", "name"] (defScope (inC 50 0)) := ⟨rfl, rfl, rfl, by decide +kernel, rfl, by decide +kernel, by decide +kernel⟩
theorem nm50_0 : visB N50_0 (defScope (inC 50 0)) 1 "name" = true ∧ visB N50_0 (defScope (inC 50 0)) 0 "self" = true ∧ gloB (defScope (inC 50 0)) "is_name" = true ∧ gloB (defScope (inC 50 0)) "NoCharter" = true :=
  ⟨by decide +kernel, by decide +kernel, by decide +kernel, by decide +kernel⟩
-- obtain ⟨n1, n0, g_is_name, g_NoCharter⟩ := nm50_0
-- 51.0 __init__: ["self", "one", "other"]
abbrev N51_0 : List Str := ["self", "one", "other"]
theorem sc51_0 : FnScope N51_0 ["self", "one", "other"] (defScope (inC 51 0)) := ⟨rfl, rfl, rfl, by decide +kernel, rfl, by decide +kernel, by decide +kernel⟩
theorem nm51_0 : visB N51_0 (defScope (inC 51 0)) 1 "one" = true ∧ visB N51_0 (defScope (inC 51 0)) 2 "other" = true ∧ visB N51_0 (defScope (inC 51 0)) 0 "self" = true ∧ gloB (defScope (inC 51 0)) "need_words" = true :=
  ⟨by decide +kernel, by decide +kernel, by decide +kernel, by decide +kernel⟩
-- obtain ⟨n1, n2, n0, g_need_words⟩ := nm51_0
-- 57.0 __init__: ["self", "one", "rows"]
abbrev N57_0 : List Str := ["self", "one", "rows"]
theorem sc57_0 : FnScope N57_0 ["self", "one", "rows"] (defScope (inC 57 0)) := ⟨rfl, rfl, rfl, by decide +kernel, rfl, by decide +kernel, by decide +kernel⟩
theorem nm57_0 : visB N57_0 (defScope (inC 57 0)) 1 "one" = true ∧ visB N57_0 (defScope (inC 57 0)) 2 "rows" = true ∧ visB N57_0 (defScope (inC 57 0)) 0 "self" = true ∧ gloB (defScope (inC 57 0)) "need_words" = true ∧ gloB (defScope (inC 57 0)) "are_rows" = true ∧ gloB (defScope (inC 57 0)) "NoCharter" = true ∧ gloB (defScope (inC 57 0)) "list" = true :=
  ⟨by decide +kernel, by decide +kernel, by decide +kernel, by decide +kernel, by decide +kernel, by decide +kernel, by decide +kernel⟩
-- obtain ⟨n1, n2, n0, g_need_words, g_are_rows, g_NoCharter, g_list⟩ := nm57_0
/-- what an __init__ starts from -/
structure Ini (E : Ev) (C : Str) (F H : Hp) (y dx : Addr) (H2 : Hp) : Prop where
  hy : H2 y = some (.ins (Ca E C) dx [])
  s : Same H H2
  n : H y = none
  sF : Same F H
theorem mk_am {E : Ev} (t : Tx E) : Dk E 4 "Amount" (spMkAm E) := by
  refine mk_of (D := "Amount") t (by decide +kernel) (spI := fun vs H2 Q => ∃ F H y dx tt z, vs = [.ref y, .ref tt] ∧ Ini E "Amount" F H y dx H2 ∧ PtA E F tt z ∧ ∀ F' H', Mkd F H F' H' → Wo E F' (.am z) (.ref y) → Q .non H') (df_of (t.fd _ _ _ _ _ (by decide +kernel)) sc49_0 (fun vs H Q ⟨_, _, _, _, _, _, e, _⟩ => by rw [e]; rfl) fun X vs H2 Q c ⟨F, H, y, dx, tt, z, e, ⟨hy, s, n, sF⟩, hp, q⟩ => ?_) fun vs H Q ⟨F, tt, z, e, sF, hp, q⟩ y H2 dx hn s hy => ⟨F, H, y, dx, tt, z, by rw [e], ⟨hy, s, hn, sF⟩, hp, fun F' H' m w => ⟨rfl, q _ F' H' m w⟩⟩
  subst e
  obtain ⟨n1, n0, g_need_part⟩ := nm49_0
  have d1 := p_need_part t
  have hp2 := hp.mono (sF.trans s)
  walk_at "go"
  refine ws_attr c ?_
  walk_at "go"
  refine ⟨y, _, _, _, rfl, hy, t.T.at_ (C := "Amount") (by decide +kernel), (show 0 < 1000 by decide), ?_⟩
  have m := Mkd.put (o := .ins (Ca E "Amount") dx [("own", .ref tt)]) sF n (Same.mut s n) upd_same
  exact q _ _ m ⟨y, dx, tt, rfl, upd_same, hp.mono m.ff⟩
theorem mk_nm {E : Ev} (t : Tx E) : Dk E 2 "Name" (spMkNm E) := by
  refine mk_of (D := "Name") t (by decide +kernel) (spI := fun vs H2 Q => ∃ F H y dx x, vs = [.ref y, .str x] ∧ Ini E "Name" F H y dx H2 ∧ nameB x = true ∧ ∀ F' H', Mkd F H F' H' → Wo E F' (.nm x) (.ref y) → Q .non H') (df_of (t.fd _ _ _ _ _ (by decide +kernel)) sc50_0 (fun vs H Q ⟨_, _, _, _, _, e, _⟩ => by rw [e]; rfl) fun X vs H2 Q c ⟨F, H, y, dx, x, e, ⟨hy, s, n, sF⟩, hx, q⟩ => ?_) fun vs H Q ⟨F, x, e, sF, hx, q⟩ y H2 dx hn s hy => ⟨F, H, y, dx, x, by rw [e], ⟨hy, s, hn, sF⟩, hx, fun F' H' m w => ⟨rfl, q _ F' H' m w⟩⟩
  subst e
  obtain ⟨n1, n0, g_is_name, g_NoCharter⟩ := nm50_0
  have d1 := p_is_name t
  walk_at "go"
  refine ⟨hx, fun H3 s3 => ?_⟩
  walk_at "go"
  have hy3 := s3 _ _ hy
  refine ws_attr c ?_
  walk_at "go"
  refine ⟨y, _, _, _, rfl, hy3, t.T.at_ (C := "Name") (by decide +kernel), (show 0 < 1000 by decide), ?_⟩
  have m := Mkd.put (o := .ins (Ca E "Name") dx [("own", .str x)]) sF n (Same.mut (s.trans s3) n) upd_same
  exact q _ _ m ⟨y, dx, rfl, upd_same⟩
theorem mk_two0 {E : Ev} (t : Tx E) (k : Tk) (hC : (k.cls, ("Two" : Str)) ∈ mkTab) : Dk E 11 k.cls (spMkTwo E k) := by
  refine mk_of (D := "Two") t hC (spI := fun vs H2 Q => ∃ F H y dx u v a b, vs = [.ref y, u, v] ∧ Ini E k.cls F H y dx H2 ∧ Wo E F a u ∧ Wo E F b v ∧ a.deep < 8 ∧ b.deep < 8 ∧ a.size + b.size < 40 ∧ ∀ F' H', Mkd F H F' H' → Wo E F' (.two k a b) (.ref y) → Q .non H') (df_of (t.fd _ _ _ _ _ (by decide +kernel)) sc51_0 (fun vs H Q ⟨_, _, _, _, _, _, _, _, e, _⟩ => by rw [e]; rfl) fun X vs H2 Q c ⟨F, H, y, dx, u, v, a, b, e, ⟨hy, s, n, sF⟩, hu, hv, da, db, sz, q⟩ => ?_) fun vs H Q ⟨F, u, v, a, b, e, sF, hu, hv, da, db, sz, q⟩ y H2 dx hn s hy => ⟨F, H, y, dx, u, v, a, b, by rw [e], ⟨hy, s, hn, sF⟩, hu, hv, da, db, sz, fun F' H' m w => ⟨rfl, q _ F' H' m w⟩⟩
  subst e
  obtain ⟨n1, n2, n0, g_need_words⟩ := nm51_0
  obtain ⟨a1, a2⟩ := at_two t.T k
  have d1 := ok_need_words t
  walk_at "go"
  intro l hl
  walk_at "go"
  have s1 : Same H2 (upd H2 l (.lst [u, v])) := Same.new hl
  refine ⟨F, l, [u, v], [a, b], rfl, (sF.trans s).trans s1, upd_same, Paired.cons hu (Paired.cons hv .nil), (show 1 ≤ 2 by decide), (show 2 ≤ 10 by decide), fun w hw => ?_, by simpa using sz, fun H3 s3 => ?_⟩
  · rcases List.mem_cons.mp hw with rfl | hw
    · exact da
    · rw [List.mem_singleton.mp hw]; exact db
  walk_at "go"
  have s13 := s1.trans s3
  have hy3 := s13 _ _ hy
  refine ws_attr c ?_
  walk_at "go"
  refine ⟨y, _, _, _, rfl, hy3, a1, (show 0 < 1000 by decide), ?_⟩
  rw [show putF "one" u ([] : List (Str × V)) = ([("one", u)] : List (Str × V)) from rfl]
  refine wb_one (ws_attr c ?_)
  walk_at "go"
  refine ⟨y, _, _, _, rfl, upd_same, a2, (show 1 < 1000 by decide), ?_⟩
  rw [show putF "other" v ([("one", u)] : List (Str × V)) = ([("one", u), ("other", v)] : List (Str × V)) from rfl]
  exact q _ _ (Mkd.put (o := .ins (Ca E k.cls) dx [("one", u), ("other", v)]) sF n (Same.mut (Same.mut (s.trans s13) n) n) upd_same) ⟨y, dx, u, v, rfl, upd_same, hu.mono (Same.new (none_of sF n)), hv.mono (Same.new (none_of sF n))⟩
theorem mk_two {E : Ev} (t : Tx E) : ∀ k : Tk, Dk E 11 k.cls (spMkTwo E k)
  | .plus => mk_two0 t .plus (by decide +kernel)
  | .less => mk_two0 t .less (by decide +kernel)
  | .greater => mk_two0 t .greater (by decide +kernel)
  | .lesser => mk_two0 t .lesser (by decide +kernel)
theorem mk_rows0 {E : Ev} (t : Tx E) (C : Str) (f : Wt → List (Int × Int) → Wt) (hC : (C, ("Bands" : Str)) ∈ mkTab) (h1 : (C, ("one" : Str)) ∈ atTab) (h2 : (C, ("pairs" : Str)) ∈ atTab)
    (hW : ∀ F a rows y dx u l, F y = some (.ins (Ca E C) dx [("one", u), ("pairs", .ref l)]) → Wo E F a u → RowsA E F l rows → Wo E F (f a rows) (.ref y)) : Dk E 11 C (spMkRows E f) := by
  refine mk_of (D := "Bands") t hC (spI := fun vs H2 Q => ∃ F H y dx u l a rows, vs = [.ref y, u, .ref l] ∧ Ini E C F H y dx H2 ∧ Wo E F a u ∧ RowsA E F l rows ∧ RowsOk rows ∧ a.deep < 8 ∧ a.size < 40 ∧ ∀ F' H', Mkd F H F' H' → Wo E F' (f a rows) (.ref y) → Q .non H') (df_of (t.fd _ _ _ _ _ (by decide +kernel)) sc57_0 (fun vs H Q ⟨_, _, _, _, _, _, _, _, e, _⟩ => by rw [e]; rfl) fun X vs H2 Q c ⟨F, H, y, dx, u, l, a, rows, e, ⟨hy, s, n, sF⟩, hu, hr, ok, da, sz, q⟩ => ?_) fun vs H Q ⟨F, u, l, a, rows, e, sF, hu, hr, ok, da, sz, q⟩ y H2 dx hn s hy => ⟨F, H, y, dx, u, l, a, rows, by rw [e], ⟨hy, s, hn, sF⟩, hu, hr, ok, da, sz, fun F' H' m w => ⟨rfl, q _ F' H' m w⟩⟩
  subst e
  have B := t.B
  obtain ⟨n1, n2, n0, g_need_words, g_are_rows, g_NoCharter, g_list⟩ := nm57_0
  have d1 := ok_need_words t
  have d2 := p_are_rows t
  walk_at "go"
  intro l1 hl1
  walk_at "go"
  have s1 : Same H2 (upd H2 l1 (.lst [u])) := Same.new hl1
  refine ⟨F, l1, [u], [a], rfl, (sF.trans s).trans s1, upd_same, Paired.cons hu .nil, (show 1 ≤ 1 by decide), (show 1 ≤ 10 by decide), fun w hw => by rw [List.mem_singleton.mp hw]; exact da, by simpa using sz, fun H3 s3 => ?_⟩
  walk_at "go"
  have s13 := s1.trans s3
  have sF3 := (sF.trans s).trans s13
  refine ⟨l, rows, rfl, hr.mono sF3, ok, fun H4 s4 => ?_⟩
  walk_at "go"
  have s14 := s13.trans s4
  have hy4 := s14 _ _ hy
  refine ws_attr c ?_
  walk_at "go"
  refine ⟨y, _, _, _, rfl, hy4, t.T.at_ h1, (show 0 < 1000 by decide), ?_⟩
  rw [show putF "one" u ([] : List (Str × V)) = ([("one", u)] : List (Str × V)) from rfl]
  have s5 : Same H (upd H4 y (.ins (Ca E C) dx [("one", u)])) := Same.mut (s.trans s14) n
  have hy5 : upd H4 y (.ins (Ca E C) dx [("one", u)]) y = some (.ins (Ca E C) dx [("one", u)]) := upd_same
  generalize upd H4 y (.ins (Ca E C) dx [("one", u)]) = H5 at s5 hy5
  obtain ⟨ts, hts, prs⟩ := hr
  refine wb_one (ws_attr c ?_)
  walk_at "go"
  refine c_list_l c ((sF.trans s5).seq hts) fun l2 hl2 => ?_
  walk_at "go"
  have ny : l2 ≠ y := fun z => by rw [z, hy5] at hl2; cases hl2
  refine ⟨y, _, dx, ([("one", u)] : List (Str × V)), rfl, by rw [upd_ne (Ne.symm ny)]; exact hy5, t.T.at_ h2, (show 1 < 1000 by decide), ?_⟩
  rw [show putF "pairs" (.ref l2) ([("one", u)] : List (Str × V)) = ([("one", u), ("pairs", .ref l2)] : List (Str × V)) from rfl]
  have hl2n := none_of s5 hl2
  have s6 : Same H (upd (upd H5 l2 (.lst (ts.map V.ref))) y (.ins (Ca E C) dx [("one", u), ("pairs", .ref l2)])) := Same.mut (s5.trans (Same.new hl2)) n
  have m1 : Mkd F H (upd F l2 (.lst (ts.map V.ref))) (upd (upd H5 l2 (.lst (ts.map V.ref))) y (.ins (Ca E C) dx [("one", u), ("pairs", .ref l2)])) := Mkd.put sF hl2n s6 (by rw [upd_ne ny, upd_same])
  have hFy : (upd F l2 (.lst (ts.map V.ref))) y = none := by rw [upd_ne (Ne.symm ny)]; exact none_of sF n
  have m : Mkd F H (upd (upd F l2 (.lst (ts.map V.ref))) y (.ins (Ca E C) dx [("one", u), ("pairs", .ref l2)])) (upd (upd H5 l2 (.lst (ts.map V.ref))) y (.ins (Ca E C) dx [("one", u), ("pairs", .ref l2)])) := by
    refine ⟨s6, m1.ff.trans (Same.new hFy), fun b o hb => ?_, fun b o hb => ?_⟩
    · by_cases z : b = y
      · rw [z, upd_same] at hb
        rw [z, upd_same]
        exact hb
      · rw [upd_ne z] at hb
        exact m1.up b o hb
    · by_cases z : b = y
      · rw [z]; exact .inr n
      · rw [upd_ne z] at hb
        exact m1.new b o hb
  refine q _ _ m (hW _ _ _ _ _ _ _ upd_same (hu.mono m.ff) ⟨ts, SqL.of (by rw [upd_ne ny, upd_same]), Paired.mapP prs fun _ _ z => z.mono m.ff⟩)
theorem mk_bands {E : Ev} (t : Tx E) : Dk E 11 "Bands" (spMkRows E .bands) := mk_rows0 t "Bands" .bands (by decide +kernel) (by decide +kernel) (by decide +kernel) fun F a rows y dx u l h1 h2 h3 => ⟨y, dx, u, l, rfl, h1, h2, h3⟩
theorem mk_steps {E : Ev} (t : Tx E) : Dk E 11 "Steps" (spMkRows E .steps) := mk_rows0 t "Steps" .steps (by decide +kernel) (by decide +kernel) (by decide +kernel) fun F a rows y dx u l h1 h2 h3 => ⟨y, dx, u, l, rfl, h1, h2, h3⟩
end
section
-- 59.0 __init__: ["self", "one", "other", "yes", "no"]
abbrev N59_0 : List Str := ["self", "one", "other", "yes", "no"]
theorem sc59_0 : FnScope N59_0 ["self", "one", "other", "yes", "no"] (defScope (inC 59 0)) := ⟨rfl, rfl, rfl, by decide +kernel, rfl, by decide +kernel, by decide +kernel⟩
theorem nm59_0 : visB N59_0 (defScope (inC 59 0)) 1 "one" = true ∧ visB N59_0 (defScope (inC 59 0)) 2 "other" = true ∧ visB N59_0 (defScope (inC 59 0)) 3 "yes" = true ∧ visB N59_0 (defScope (inC 59 0)) 4 "no" = true ∧ visB N59_0 (defScope (inC 59 0)) 0 "self" = true ∧ gloB (defScope (inC 59 0)) "need_words" = true :=
  ⟨by decide +kernel, by decide +kernel, by decide +kernel, by decide +kernel, by decide +kernel, by decide +kernel⟩
-- obtain ⟨n1, n2, n3, n4, n0, g_need_words⟩ := nm59_0
-- 60 two_of: ["kind", "one", "other"]
abbrev N60 : List Str := ["kind", "one", "other"]
theorem sc60 : FnScope N60 ["kind", "one", "other"] (defScope (top 60)) := ⟨rfl, rfl, rfl, by decide +kernel, rfl, by decide +kernel, by decide +kernel⟩
theorem nm60 : visB N60 (defScope (top 60)) 0 "kind" = true ∧ visB N60 (defScope (top 60)) 1 "one" = true ∧ visB N60 (defScope (top 60)) 2 "other" = true ∧ gloB (defScope (top 60)) "Plus" = true ∧ gloB (defScope (top 60)) "Less" = true ∧ gloB (defScope (top 60)) "Greater" = true ∧ gloB (defScope (top 60)) "Lesser" = true ∧ gloB (defScope (top 60)) "NoCharter" = true :=
  ⟨by decide +kernel, by decide +kernel, by decide +kernel, by decide +kernel, by decide +kernel, by decide +kernel, by decide +kernel, by decide +kernel⟩
-- obtain ⟨n0, n1, n2, g_Plus, g_Less, g_Greater, g_Lesser, g_NoCharter⟩ := nm60
theorem mk_if {E : Ev} (t : Tx E) : Dk E 11 "If" (spMkIf E) := by
  refine mk_of (D := "If") t (by decide +kernel) (spI := fun vs H2 Q => ∃ F H y dx u1 u2 u3 u4 a b c d, vs = [.ref y, u1, u2, u3, u4] ∧ Ini E "If" F H y dx H2 ∧ Wo E F a u1 ∧ Wo E F b u2 ∧ Wo E F c u3 ∧ Wo E F d u4 ∧ a.deep < 8 ∧ b.deep < 8 ∧ c.deep < 8 ∧ d.deep < 8 ∧ a.size + b.size + c.size + d.size < 40 ∧ ∀ F' H', Mkd F H F' H' → Wo E F' (.iff a b c d) (.ref y) → Q .non H') (df_of (t.fd _ _ _ _ _ (by decide +kernel)) sc59_0 (fun vs H Q ⟨_, _, _, _, _, _, _, _, _, _, _, _, e, _⟩ => by rw [e]; rfl) fun X vs H2 Q cx ⟨F, H, y, dx, u1, u2, u3, u4, a, b, c, d, e, ⟨hy, s, n, sF⟩, w1, w2, w3, w4, d1, d2, d3, d4, sz, q⟩ => ?_) fun vs H Q ⟨F, u1, u2, u3, u4, a, b, c, d, e, sF, w1, w2, w3, w4, d1, d2, d3, d4, sz, q⟩ y H2 dx hn s hy => ⟨F, H, y, dx, u1, u2, u3, u4, a, b, c, d, by rw [e], ⟨hy, s, hn, sF⟩, w1, w2, w3, w4, d1, d2, d3, d4, sz, fun F' H' m w => ⟨rfl, q _ F' H' m w⟩⟩
  subst e
  obtain ⟨n1, n2, n3, n4, n0, g_need_words⟩ := nm59_0
  have dn := ok_need_words t
  walk_at "go"
  intro l hl
  walk_at "go"
  have s1 : Same H2 (upd H2 l (.lst [u1, u2, u3, u4])) := Same.new hl
  refine ⟨F, l, [u1, u2, u3, u4], [a, b, c, d], rfl, (sF.trans s).trans s1, upd_same, Paired.cons w1 (Paired.cons w2 (Paired.cons w3 (Paired.cons w4 .nil))), (show 1 ≤ 4 by decide), (show 4 ≤ 10 by decide), fun w hw => ?_, by simp; omega, fun H3 s3 => ?_⟩
  · simp only [List.mem_cons, List.not_mem_nil, or_false] at hw
    rcases hw with rfl | rfl | rfl | rfl <;> assumption
  walk_at "go"
  have s13 := s1.trans s3
  have hy3 := s13 _ _ hy
  refine ws_attr cx ?_
  walk_at "go"
  intro t1 ht1
  have ny : t1 ≠ y := fun z => by rw [z, hy3] at ht1; cases ht1
  have hy4 := Same.new (o := .tup [u1, u2]) ht1 _ _ hy3
  walk_at "go"
  refine ⟨y, _, _, _, rfl, hy4, t.T.at_ (C := "If") (by decide +kernel), (show 0 < 1000 by decide), ?_⟩
  rw [show putF "tested" (.ref t1) ([] : List (Str × V)) = ([("tested", .ref t1)] : List (Str × V)) from rfl]
  have t1n := none_of (s.trans s13) ht1
  have s5 : Same H (upd (upd H3 t1 (.tup [u1, u2])) y (.ins (Ca E "If") dx [("tested", .ref t1)])) := Same.mut ((s.trans s13).trans (Same.new ht1)) n
  have hy5 : upd (upd H3 t1 (.tup [u1, u2])) y (.ins (Ca E "If") dx [("tested", .ref t1)]) y = some (.ins (Ca E "If") dx [("tested", .ref t1)]) := upd_same
  have ht5 : upd (upd H3 t1 (.tup [u1, u2])) y (.ins (Ca E "If") dx [("tested", .ref t1)]) t1 = some (.tup [u1, u2]) := by rw [upd_ne ny, upd_same]
  generalize upd (upd H3 t1 (.tup [u1, u2])) y (.ins (Ca E "If") dx [("tested", .ref t1)]) = H5 at s5 hy5 ht5
  refine wb_one (ws_attr cx ?_)
  walk_at "go"
  intro t2 ht2
  have ny2 : t2 ≠ y := fun z => by rw [z, hy5] at ht2; cases ht2
  have n12 : t1 ≠ t2 := fun z => by rw [← z, ht5] at ht2; cases ht2
  have hy6 := Same.new (o := .tup [u3, u4]) ht2 _ _ hy5
  walk_at "go"
  refine ⟨y, _, _, _, rfl, hy6, t.T.at_ (C := "If") (by decide +kernel), (show 1 < 1000 by decide), ?_⟩
  rw [show putF "sides" (.ref t2) ([("tested", .ref t1)] : List (Str × V)) = ([("tested", .ref t1), ("sides", .ref t2)] : List (Str × V)) from rfl]
  have t2n := none_of s5 ht2
  have s7 : Same H (upd (upd H5 t2 (.tup [u3, u4])) y (.ins (Ca E "If") dx [("tested", .ref t1), ("sides", .ref t2)])) := Same.mut (s5.trans (Same.new ht2)) n
  have hFy := none_of sF n
  have hF1 := none_of sF t1n
  have hF2 := none_of sF t2n
  have c1 : upd F t1 (.tup [u1, u2]) t2 = none := by rw [upd_ne (Ne.symm n12)]; exact hF2
  have c2 : upd (upd F t1 (.tup [u1, u2])) t2 (.tup [u3, u4]) y = none := by rw [upd_ne (Ne.symm ny2), upd_ne (Ne.symm ny)]; exact hFy
  have ff : Same F (upd (upd (upd F t1 (.tup [u1, u2])) t2 (.tup [u3, u4])) y (.ins (Ca E "If") dx [("tested", .ref t1), ("sides", .ref t2)])) := ((Same.new hF1).trans (Same.new c1)).trans (Same.new c2)
  refine q (upd (upd (upd F t1 (.tup [u1, u2])) t2 (.tup [u3, u4])) y (.ins (Ca E "If") dx [("tested", .ref t1), ("sides", .ref t2)])) _ ⟨s7, ff, fun b o hb => ?_, fun b o hb => ?_⟩ ⟨y, dx, t1, t2, u1, u2, u3, u4, rfl, upd_same, SqT.of (by rw [upd_ne ny, upd_ne n12, upd_same]), SqT.of (by rw [upd_ne ny2, upd_same]), w1.mono ff, w2.mono ff, w3.mono ff, w4.mono ff⟩
  · by_cases z : b = y
    · rw [z, upd_same] at hb ⊢
      exact hb
    · rw [upd_ne z] at hb ⊢
      by_cases z2 : b = t2
      · rw [z2, upd_same] at hb ⊢
        exact hb
      · rw [upd_ne z2] at hb ⊢
        by_cases z1 : b = t1
        · rw [z1, upd_same] at hb
          rw [z1, ht5]
          exact hb
        · rw [upd_ne z1] at hb
          exact s5 _ _ (sF _ _ hb)
  · by_cases z : b = y
    · rw [z]; exact .inr n
    · rw [upd_ne z] at hb
      by_cases z2 : b = t2
      · rw [z2]; exact .inr t2n
      · rw [upd_ne z2] at hb
        by_cases z1 : b = t1
        · rw [z1]; exact .inr t1n
        · rw [upd_ne z1] at hb
          exact .inl hb
theorem ok_two_of {E : Ev} (t : Tx E) (k : Tk) : Dg E 13 "two_of" (spTwoOf E k) := by
  refine dg_of (t.gd _ _ _ (by decide +kernel)) sc60 (fun vs H Q ⟨_, _, _, _, _, e, _⟩ => by rw [e]; rfl) fun X vs H Q c ⟨F, u, v, a, b, e, sF, hu, hv, da, db, sz, q⟩ => ?_
  subst e
  obtain ⟨n0, n1, n2, g_Plus, g_Less, g_Greater, g_Lesser, g_NoCharter⟩ := nm60
  have d1 : Dk E 11 "Plus" (spMkTwo E .plus) := mk_two t .plus
  have d2 : Dk E 11 "Less" (spMkTwo E .less) := mk_two t .less
  have d3 : Dk E 11 "Greater" (spMkTwo E .greater) := mk_two t .greater
  have d4 : Dk E 11 "Lesser" (spMkTwo E .lesser) := mk_two t .lesser
  cases k with
  | plus =>
    walk_at "go"
    exact ⟨F, u, v, a, b, rfl, sF, hu, hv, da, db, sz, q⟩
  | less =>
    walk_at "go"
    exact ⟨F, u, v, a, b, rfl, sF, hu, hv, da, db, sz, q⟩
  | greater =>
    walk_at "go"
    exact ⟨F, u, v, a, b, rfl, sF, hu, hv, da, db, sz, q⟩
  | lesser =>
    walk_at "go"
    exact ⟨F, u, v, a, b, rfl, sF, hu, hv, da, db, sz, q⟩
end
section
-- 61 read_told: ["told", "deep", "kind", "words", "one"]
abbrev N61 : List Str := ["told", "deep", "kind", "words", "one"]
theorem sc61 : FnScope N61 ["told", "deep"] (defScope (top 61)) := ⟨rfl, rfl, rfl, by decide +kernel, rfl, by decide +kernel, by decide +kernel⟩
theorem nm61 : visB N61 (defScope (top 61)) 1 "deep" = true ∧ visB N61 (defScope (top 61)) 0 "told" = true ∧ visB N61 (defScope (top 61)) 2 "kind" = true ∧ visB N61 (defScope (top 61)) 3 "words" = true ∧ locB true N61 (defScope (top 61)) 2 "kind" = true ∧ locB true N61 (defScope (top 61)) 3 "words" = true ∧ gloB (defScope (top 61)) "MOST_DEEP" = true ∧ gloB (defScope (top 61)) "isinstance" = true ∧ gloB (defScope (top 61)) "tuple" = true ∧ gloB (defScope (top 61)) "len" = true ∧ gloB (defScope (top 61)) "str" = true ∧ gloB (defScope (top 61)) "NoCharter" = true ∧ gloB (defScope (top 61)) "Amount" = true ∧ gloB (defScope (top 61)) "Name" = true ∧ gloB (defScope (top 61)) "Times" = true ∧ gloB (defScope (top 61)) "read_told" = true ∧ gloB (defScope (top 61)) "Bands" = true ∧ gloB (defScope (top 61)) "Steps" = true ∧ gloB (defScope (top 61)) "If" = true ∧ gloB (defScope (top 61)) "two_of" = true :=
  ⟨by decide +kernel, by decide +kernel, by decide +kernel, by decide +kernel, by decide +kernel, by decide +kernel, by decide +kernel, by decide +kernel, by decide +kernel, by decide +kernel, by decide +kernel, by decide +kernel, by decide +kernel, by decide +kernel, by decide +kernel, by decide +kernel, by decide +kernel, by decide +kernel, by decide +kernel, by decide +kernel⟩
-- obtain ⟨n1, n0, n2, n3, l2, l3, g_MOST_DEEP, g_isinstance, g_tuple, g_len, g_str, g_NoCharter, g_Amount, g_Name, g_Times, g_read_told, g_Bands, g_Steps, g_If, g_two_of⟩ := nm61
-- 62 word_of: ["told"]
abbrev N62 : List Str := ["told"]
theorem sc62 : FnScope N62 ["told"] (defScope (top 62)) := ⟨rfl, rfl, rfl, by decide +kernel, rfl, by decide +kernel, by decide +kernel⟩
theorem nm62 : visB N62 (defScope (top 62)) 0 "told" = true ∧ gloB (defScope (top 62)) "read_told" = true :=
  ⟨by decide +kernel, by decide +kernel⟩
-- obtain ⟨n0, g_read_told⟩ := nm62
/-- the words of the told ones, one behind the other -/
theorem words_lc {E : Ev} {k : Nat} {N : List Str} {sc' : Scope} {elt : Expr} {σ : L2.St} {H : Hp} {Q : VK} {j : Nat} {p1 : Pos} {t1 : Addr} {F : Hp} {ws : List Wt} {us : List V} (sF : Same F H) (ht : SqT E.K H t1 us) (pw : Paired (Told E F) ws us) (hn : us.length < 1000) (hj : locB false N sc' j "one" = true)
    (step : ∀ (w : Wt) (x : V) (F1 H1 : Hp), w ∈ ws → Same F1 H1 → Told E F1 w x → ∀ Y, Cxt E k N sc' false Y → W Y elt ((wipe σ [j]).set j (some x)) H1 fun v H2 => ∃ F2, Mkd F1 H1 F2 H2 ∧ Wo E F2 w v)
    (q : ∀ D ys F' H', Mkd F H F' H' → H' D = some (.lst ys) → Paired (Wo E F') ws ys → Q (.ref D) H') : LcI E k N sc' (.Name "one" p1) elt [j] σ (Itt E.K t1) H Q := by
  have hlen := Paired.length pw
  refine lcI (src_tup ht) (by omega) (fun D i ys H' => Same H H' ∧ ∃ F', Mkd F H F' H' ∧ F' D = none ∧ H' D = some (.lst ys) ∧ ys.length = i ∧ Paired (Wo E F') (ws.take i) ys)
    (fun D hD => ⟨Same.new hD, F, Mkd.grow sF (Same.new hD), none_of sF hD, upd_same, rfl, .nil⟩) (fun D i ys H' ⟨s1, F', m, hFD, hD, hl, hp⟩ => ⟨s1, hD, Nat.le_of_eq hl⟩) ?_ ?_
  · rintro D i ys H1 x H2 hD0 hi ⟨s1, F', m, hFD, hD, hl, hp⟩ s2 hx Y cY
    obtain ⟨w, hw, hT⟩ := pair_at' pw hx
    refine wg_name cY hj ⟨wipe_one, fun Y3 c3 => (step w x F' H2 (List.mem_of_getElem? hw) (m.up.trans s2) (hT.mono m.ff) Y3 c3).mono fun v H4 ⟨F2, m2, hv⟩ => ?_⟩
    have hD4 := m2.s _ _ (s2 _ _ hD)
    have hF2D : F2 D = none := by
      cases e : F2 D with
      | none => rfl
      | some u =>
        rcases m2.new D u e with h | h
        · rw [hFD] at h; cases h
        · rw [s2 _ _ hD] at h; cases h
    have m3 := (m.trans (Mkd.grow m.up s2)).trans m2
    refine ⟨hD4, Same.mut m3.s hD0, F2, ⟨Same.mut m3.s hD0, m3.ff, Same.mut m3.up hF2D, m3.new⟩, hF2D, upd_same, by rw [List.length_append, hl]; rfl, ?_⟩
    rw [List.take_succ, hw]
    exact Paired.snoc (Paired.mapP hp fun _ _ z => z.mono m2.ff) hv
  · rintro D ys H1 hD0 ⟨s1, F', m, hFD, hD, hl, hp⟩
    rw [← hlen, List.take_length] at hp
    exact q D ys F' H1 m hD hp
theorem word_ne (k : Tk) (z : Str) (h : z ∈ ([("amount" : Str), "name", "times", "bands", "steps", "if"] : List Str)) : decide (k.word = z) = false := by
  have all : ∀ k : Tk, ∀ z ∈ ([("amount" : Str), "name", "times", "bands", "steps", "if"] : List Str), decide (k.word = z) = false := by
    intro k
    cases k <;> decide +kernel
  exact all k z h
theorem ok_read {E : Ev} (t : Tx E) : ∀ n w, Wt.deep w ≤ n → Dg E (n + 14) "read_told" (spRead E w) := by
  intro n
  induction n with
  | zero => intro w h; exact absurd h (by have := deep_pos w; omega)
  | succ n ih =>
    intro w hw
    refine dg_of (t.gd _ _ _ (by decide +kernel)) sc61 (fun vs H Q ⟨_, _, _, e, _⟩ => by rw [e]; rfl) fun X vs H Q c ⟨F, v, dp, e, sF, hT, g, hok, h1, h2, hz, q⟩ => ?_
    subst e
    have B := t.B
    obtain ⟨n1, n0, n2, n3, l2, l3, g_MOST_DEEP, g_isinstance, g_tuple, g_len, g_str, g_NoCharter, g_Amount, g_Name, g_Times, g_read_told, g_Bands, g_Steps, g_If, g_two_of⟩ := nm61
    have i1 := t.cints "MOST_DEEP" 8 (by decide +kernel)
    have hdp := deep_pos w
    match w, hT, g, hok, h2, hz, q, hdp, hw with
    | .am z, hT, g, hok, h2, hz, q, hdp, hw =>
      obtain ⟨t1, u, rfl, k1, k2⟩ := hT
      have k1 := sF.tup k1
      have d_am := mk_am t
      walk_at "go"
      exact ⟨F, u, z, rfl, sF, k2, q⟩
    | .nm x, hT, g, hok, h2, hz, q, hdp, hw =>
      obtain ⟨t1, rfl, k1⟩ := hT
      have k1 := sF.tup k1
      have d_nm := mk_nm t
      walk_at "go"
      exact ⟨F, x, rfl, sF, hok, q⟩
    | .bands a rows, hT, g, hok, h2, hz, q, hdp, hw =>
      obtain ⟨t1, u, l, rfl, k1, k2, k3⟩ := hT
      have k1 := sF.tup k1
      have hda : (Wt.bands a rows).deep = 1 + a.deep := rfl
      have hsz : (Wt.bands a rows).size = 1 + a.size := rfl
      have dr := ih a (by omega)
      have d_ba := mk_bands t
      walk_at "go"
      refine ⟨F, u, dp + 1, rfl, sF, k2, g.1, hok, by omega, by omega, by omega, fun v1 F1 H1 m1 hw1 => ?_⟩
      have k1 := m1.s.tup k1
      walk_at "go"
      exact ⟨F1, v1, l, a, rows, rfl, m1.up, hw1, k3.mono m1.ff, g.2.1, by omega, by omega, fun v2 F2 H2 m2 hw2 => q v2 F2 H2 (m1.trans m2) hw2⟩
    | .steps a rows, hT, g, hok, h2, hz, q, hdp, hw =>
      obtain ⟨t1, u, l, rfl, k1, k2, k3⟩ := hT
      have k1 := sF.tup k1
      have hda : (Wt.steps a rows).deep = 1 + a.deep := rfl
      have hsz : (Wt.steps a rows).size = 1 + a.size := rfl
      have dr := ih a (by omega)
      have d_st := mk_steps t
      walk_at "go"
      refine ⟨F, u, dp + 1, rfl, sF, k2, g.1, hok, by omega, by omega, by omega, fun v1 F1 H1 m1 hw1 => ?_⟩
      have k1 := m1.s.tup k1
      walk_at "go"
      exact ⟨F1, v1, l, a, rows, rfl, m1.up, hw1, k3.mono m1.ff, g.2, by omega, by omega, fun v2 F2 H2 m2 hw2 => q v2 F2 H2 (m1.trans m2) hw2⟩
    | .iff a b c' d, hT, g, hok, h2, hz, q, hdp, hw =>
      obtain ⟨t1, u1, u2, u3, u4, rfl, k1, k2, k3, k4, k5⟩ := hT
      have k1 := sF.tup k1
      have d_if := mk_if t
      have hsz : (Wt.iff a b c' d).size = 1 + (a.size + (b.size + (c'.size + d.size))) := rfl
      have e1 := kids_deep (w := .iff a b c' d) (a := a) (by simp [Wt.kids])
      have e2 := kids_deep (w := .iff a b c' d) (a := b) (by simp [Wt.kids])
      have e3 := kids_deep (w := .iff a b c' d) (a := c') (by simp [Wt.kids])
      have e4 := kids_deep (w := .iff a b c' d) (a := d) (by simp [Wt.kids])
      walk_at "go"
      refine ws_setLcI c l3 (by decide +kernel) [("one", 4)] (by decide +kernel) (by decide +kernel) (by decide) (by decide +kernel) (wi_tup c ?_)
      walk_at "go"
      refine l_tup c k1 (by simp [HT.sIx]) fun l hl => ?_
      rw [cutV_one, show List.drop 1 [V.str "if", u1, u2, u3, u4] = [u1, u2, u3, u4] from rfl]
      have s1 : Same H (upd H l (.tup [u1, u2, u3, u4])) := Same.new hl
      refine ⟨l, rfl, ⟨_, SqT.of upd_same⟩, words_lc (ws := [a, b, c', d]) (sF.trans s1) (SqT.of upd_same) (Paired.cons k2 (Paired.cons k3 (Paired.cons k4 (Paired.cons k5 .nil)))) (show 4 < 1000 by decide) (by decide +kernel) (fun w x F1 H1 hwm sF1 hT1 Y cY => ?_) fun D ys F1 H1 m1 hD hp => ?_⟩
      · have hkid : w.deep < (Wt.iff a b c' d).deep := kids_deep (w := .iff a b c' d) hwm
        have hg : w.good ∧ w.okN (fun x => nameB x = true) ∧ w.size ≤ 40 := by
          simp only [List.mem_cons, List.not_mem_nil, or_false] at hwm
          rcases hwm with rfl | rfl | rfl | rfl
          · exact ⟨g.1, hok.1, by omega⟩
          · exact ⟨g.2.1, hok.2.1, by omega⟩
          · exact ⟨g.2.2.1, hok.2.2.1, by omega⟩
          · exact ⟨g.2.2.2, hok.2.2.2, by omega⟩
        have dr := ih w (by omega)
        walk_at "go"
        exact ⟨F1, x, dp + 1, rfl, sF1, hT1, hg.1, hg.2.1, by omega, by omega, hg.2.2, fun v F2 H2 m hv => ⟨F2, m, hv⟩⟩
      · have hl := Paired.length hp
        match ys, hp, hD with
        | _, .cons p1 (.cons p2 (.cons p3 (.cons p4 .nil))), hD =>
          rename_i y1 y2 y3 y4
          walk_at "go"
          refine x_lst c (fun _ _ => rfl) (SqL.of hD) (v := y1) (by rfl) ?_
          walk_at "go"
          refine x_lst c (fun _ _ => rfl) (SqL.of hD) (v := y2) (by rfl) ?_
          walk_at "go"
          refine x_lst c (fun _ _ => rfl) (SqL.of hD) (v := y3) (by rfl) ?_
          walk_at "go"
          refine x_lst c (fun _ _ => rfl) (SqL.of hD) (v := y4) (by rfl) ?_
          walk_at "go"
          exact ⟨F1, y1, y2, y3, y4, a, b, c', d, rfl, m1.up, p1, p2, p3, p4, by omega, by omega, by omega, by omega, by omega, fun v2 F2 H2 m2 hw2 => q v2 F2 H2 (((Mkd.grow sF s1).trans m1).trans m2) hw2⟩
    | .two k a b, hT, g, hok, h2, hz, q, hdp, hw =>
      obtain ⟨t1, u1, u2, rfl, k1, k2, k3⟩ := hT
      have k1 := sF.tup k1
      have hsz : (Wt.two k a b).size = 1 + (a.size + b.size) := rfl
      have e1 := kids_deep (w := .two k a b) (a := a) (by simp [Wt.kids])
      have e2 := kids_deep (w := .two k a b) (a := b) (by simp [Wt.kids])
      walk_at "go"
      rw [word_ne k "amount" (by decide +kernel)]
      refine iteF ?_
      walk_at "go"
      rw [word_ne k "name" (by decide +kernel)]
      refine iteF ?_
      walk_at "go"
      rw [word_ne k "times" (by decide +kernel)]
      refine iteF ?_
      walk_at "go"
      rw [word_ne k "bands" (by decide +kernel)]
      refine iteF ?_
      walk_at "go"
      rw [word_ne k "steps" (by decide +kernel)]
      refine iteF ?_
      walk_at "go"
      refine ws_setLcI c l3 (by decide +kernel) [("one", 4)] (by decide +kernel) (by decide +kernel) (by decide) (by decide +kernel) (wi_tup c ?_)
      walk_at "go"
      refine l_tup c k1 (by simp [HT.sIx]) fun l hl => ?_
      rw [cutV_one, show List.drop 1 [V.str k.word, u1, u2] = [u1, u2] from rfl]
      have s1 : Same H (upd H l (.tup [u1, u2])) := Same.new hl
      refine ⟨l, rfl, ⟨_, SqT.of upd_same⟩, words_lc (ws := [a, b]) (sF.trans s1) (SqT.of upd_same) (Paired.cons k2 (Paired.cons k3 .nil)) (show 2 < 1000 by decide) (by decide +kernel) (fun w x F1 H1 hwm sF1 hT1 Y cY => ?_) fun D ys F1 H1 m1 hD hp => ?_⟩
      · have hkid : w.deep < (Wt.two k a b).deep := kids_deep (w := .two k a b) hwm
        have hg : w.good ∧ w.okN (fun x => nameB x = true) ∧ w.size ≤ 40 := by
          simp only [List.mem_cons, List.not_mem_nil, or_false] at hwm
          rcases hwm with rfl | rfl
          · exact ⟨g.1, hok.1, by omega⟩
          · exact ⟨g.2, hok.2, by omega⟩
        have dr := ih w (by omega)
        walk_at "go"
        exact ⟨F1, x, dp + 1, rfl, sF1, hT1, hg.1, hg.2.1, by omega, by omega, hg.2.2, fun v F2 H2 m hv => ⟨F2, m, hv⟩⟩
      · match ys, hp, hD with
        | _, .cons p1 (.cons p2 .nil), hD =>
          rename_i y1 y2
          have d_two := ok_two_of t k
          walk_at "go"
          rw [word_ne k "if" (by decide +kernel)]
          refine iteF ?_
          walk_at "go"
          refine x_lst c (fun _ _ => rfl) (SqL.of hD) (v := y1) (by rfl) ?_
          walk_at "go"
          refine x_lst c (fun _ _ => rfl) (SqL.of hD) (v := y2) (by rfl) ?_
          walk_at "go"
          exact ⟨F1, y1, y2, a, b, rfl, m1.up, p1, p2, by omega, by omega, by omega, fun v2 F2 H2 m2 hw2 => q v2 F2 H2 (((Mkd.grow sF s1).trans m1).trans m2) hw2⟩
theorem ok_word_of {E : Ev} (t : Tx E) (w : Wt) : Dg E 24 "word_of" (spWordOf E w) := by
  refine dg_of (k := 23) (t.gd _ _ _ (by decide +kernel)) sc62 (fun vs H Q ⟨_, _, e, _⟩ => by rw [e]; rfl) fun X vs H Q c ⟨F, v, e, sF, hT, g, hok, h2, hz, q⟩ => ?_
  subst e
  obtain ⟨n0, g_read_told⟩ := nm62
  have d1 := ok_read t 8 w h2
  walk_at "go"
  exact ⟨F, v, 1, rfl, sF, hT, g, hok, by omega, by omega, hz, q⟩
end
section
-- 77 _law_within: ["_law_told_here"]
abbrev N77 : List Str := ["_law_told_here"]
theorem sc77 : FnScope N77 ["_law_told_here"] (defScope (top 77)) := ⟨rfl, rfl, rfl, by decide +kernel, rfl, by decide +kernel, by decide +kernel⟩
theorem nm77 : visB N77 (defScope (top 77)) 0 "_law_told_here" = true ∧ gloB (defScope (top 77)) "list" = true :=
  ⟨by decide +kernel, by decide +kernel⟩
-- obtain ⟨n0, g_list⟩ := nm77
-- 78 _law_banded: ["_law_whole", "_law_pairs", "_law_found", "_law_k", "_law_pair", "_law_end"]
abbrev N78 : List Str := ["_law_whole", "_law_pairs", "_law_found", "_law_k", "_law_pair", "_law_end"]
theorem sc78 : FnScope N78 ["_law_whole", "_law_pairs"] (defScope (top 78)) := ⟨rfl, rfl, rfl, by decide +kernel, rfl, by decide +kernel, by decide +kernel⟩
theorem nm78 : visB N78 (defScope (top 78)) 1 "_law_pairs" = true ∧ visB N78 (defScope (top 78)) 0 "_law_whole" = true ∧ visB N78 (defScope (top 78)) 3 "_law_k" = true ∧ visB N78 (defScope (top 78)) 4 "_law_pair" = true ∧ visB N78 (defScope (top 78)) 5 "_law_end" = true ∧ visB N78 (defScope (top 78)) 2 "_law_found" = true ∧ locB true N78 (defScope (top 78)) 2 "_law_found" = true ∧ locB true N78 (defScope (top 78)) 3 "_law_k" = true ∧ locB true N78 (defScope (top 78)) 4 "_law_pair" = true ∧ locB true N78 (defScope (top 78)) 5 "_law_end" = true ∧ gloB (defScope (top 78)) "enumerate" = true ∧ gloB (defScope (top 78)) "len" = true ∧ gloB (defScope (top 78)) "_law_under" = true ∧ gloB (defScope (top 78)) "_law_sum" = true ∧ gloB (defScope (top 78)) "_law_product" = true ∧ gloB (defScope (top 78)) "_law_rest" = true :=
  ⟨by decide +kernel, by decide +kernel, by decide +kernel, by decide +kernel, by decide +kernel, by decide +kernel, by decide +kernel, by decide +kernel, by decide +kernel, by decide +kernel, by decide +kernel, by decide +kernel, by decide +kernel, by decide +kernel, by decide +kernel, by decide +kernel⟩
-- obtain ⟨n1, n0, n3, n4, n5, n2, l2, l3, l4, l5, g_enumerate, g_len, g__law_under, g__law_sum, g__law_product, g__law_rest⟩ := nm78
-- 79 _law_stepped: ["_law_whole", "_law_pairs", "_law_found", "_law_pair"]
abbrev N79 : List Str := ["_law_whole", "_law_pairs", "_law_found", "_law_pair"]
theorem sc79 : FnScope N79 ["_law_whole", "_law_pairs"] (defScope (top 79)) := ⟨rfl, rfl, rfl, by decide +kernel, rfl, by decide +kernel, by decide +kernel⟩
theorem nm79 : visB N79 (defScope (top 79)) 1 "_law_pairs" = true ∧ visB N79 (defScope (top 79)) 0 "_law_whole" = true ∧ visB N79 (defScope (top 79)) 3 "_law_pair" = true ∧ visB N79 (defScope (top 79)) 2 "_law_found" = true ∧ locB true N79 (defScope (top 79)) 2 "_law_found" = true ∧ locB true N79 (defScope (top 79)) 3 "_law_pair" = true ∧ gloB (defScope (top 79)) "_law_under" = true :=
  ⟨by decide +kernel, by decide +kernel, by decide +kernel, by decide +kernel, by decide +kernel, by decide +kernel, by decide +kernel⟩
-- obtain ⟨n1, n0, n3, n2, l2, l3, g__law_under⟩ := nm79
local macro_rules | `(tactic| walk_at "inl") => `(tactic| (walk_at "go"; intro _ _; refine o_in_l ‹Cxt _ _ _ _ _ _› (SqL.of upd_same) rfl rfl ?_; walk_at "go"))
theorem ok_within {E : Ev} (t : Tx E) (w : Wt) : Dg E 1 "_law_within" (spWithin E w) := by
  refine dg_of (t.gd _ _ _ (by decide +kernel)) sc77 (fun vs H Q ⟨_, e, _⟩ => by rw [e]; rfl) fun X vs H Q c ⟨v, e, hT, q⟩ => ?_
  subst e
  have B := t.B
  obtain ⟨n0, g_list⟩ := nm77
  match w, hT, q with
  | .am z, hT, q =>
    obtain ⟨t1, u, rfl, k1, k2⟩ := hT
    walk_at "inl"
    walk_at "inl"
    intro D hD
    exact q D [] _ (by walk_at "same") (none_of (by walk_at "same") hD) upd_same .nil
  | .nm x, hT, q =>
    obtain ⟨t1, rfl, k1⟩ := hT
    walk_at "inl"
    walk_at "inl"
    intro D hD
    exact q D [] _ (by walk_at "same") (none_of (by walk_at "same") hD) upd_same .nil
  | .two k a b, hT, q =>
    obtain ⟨t1, u1, u2, rfl, k1, k2, k3⟩ := hT
    cases k with
    | plus =>
      walk_at "inl"
      walk_at "inl"
      refine l_tup c (tup_up k1 (by walk_at "same")) (by simp [HT.sIx]) fun l hl => ?_
      rw [cutV_one]
      walk_at "go"
      refine c_list_t c (SqT.of upd_same) fun D hD => ?_
      exact q D [u1, u2] _ (by walk_at "same") (none_of (by walk_at "same") hD) upd_same (.cons k2 (.cons k3 .nil))
    | less =>
      walk_at "inl"
      walk_at "inl"
      refine l_tup c (tup_up k1 (by walk_at "same")) (by simp [HT.sIx]) fun l hl => ?_
      rw [cutV_one]
      walk_at "go"
      refine c_list_t c (SqT.of upd_same) fun D hD => ?_
      exact q D [u1, u2] _ (by walk_at "same") (none_of (by walk_at "same") hD) upd_same (.cons k2 (.cons k3 .nil))
    | greater =>
      walk_at "inl"
      walk_at "inl"
      refine l_tup c (tup_up k1 (by walk_at "same")) (by simp [HT.sIx]) fun l hl => ?_
      rw [cutV_one]
      walk_at "go"
      refine c_list_t c (SqT.of upd_same) fun D hD => ?_
      exact q D [u1, u2] _ (by walk_at "same") (none_of (by walk_at "same") hD) upd_same (.cons k2 (.cons k3 .nil))
    | lesser =>
      walk_at "inl"
      walk_at "inl"
      refine l_tup c (tup_up k1 (by walk_at "same")) (by simp [HT.sIx]) fun l hl => ?_
      rw [cutV_one]
      walk_at "go"
      refine c_list_t c (SqT.of upd_same) fun D hD => ?_
      exact q D [u1, u2] _ (by walk_at "same") (none_of (by walk_at "same") hD) upd_same (.cons k2 (.cons k3 .nil))
  | .bands a rows, hT, q =>
    obtain ⟨t1, u, l, rfl, k1, k2, k3⟩ := hT
    walk_at "inl"
    intro D hD
    exact q D [u] _ (by walk_at "same") (none_of (by walk_at "same") hD) upd_same (.cons k2 .nil)
  | .steps a rows, hT, q =>
    obtain ⟨t1, u, l, rfl, k1, k2, k3⟩ := hT
    walk_at "inl"
    intro D hD
    exact q D [u] _ (by walk_at "same") (none_of (by walk_at "same") hD) upd_same (.cons k2 .nil)
  | .iff a b c' d, hT, q =>
    obtain ⟨t1, u1, u2, u3, u4, rfl, k1, k2, k3, k4, k5⟩ := hT
    walk_at "inl"
    walk_at "inl"
    refine l_tup c (tup_up k1 (by walk_at "same")) (by simp [HT.sIx]) fun l hl => ?_
    rw [cutV_one]
    walk_at "go"
    refine c_list_t c (SqT.of upd_same) fun D hD => ?_
    exact q D [u1, u2, u3, u4] _ (by walk_at "same") (none_of (by walk_at "same") hD) upd_same (.cons k2 (.cons k3 (.cons k4 (.cons k5 .nil))))
theorem ok_banded {E : Ev} (t : Tx E) : Dg E 3 "_law_banded" (spBanded E bandsV (fun rows => rows.length ≤ 1000 ∧ RatesOk rows)) := by
  refine dg_of (t.gd _ _ _ (by decide +kernel)) sc78 (fun vs H Q ⟨_, _, _, _, e, _⟩ => by rw [e]; rfl) fun X vs H Q c ⟨s, l, w, rows, e, hw, hr, ⟨hn, rt⟩, q⟩ => ?_
  subst e
  have B := t.B
  obtain ⟨n1, n0, n3, n4, n5, n2, l2, l3, l4, l5, g_enumerate, g_len, g__law_under, g__law_sum, g__law_product, g__law_rest⟩ := nm78
  obtain ⟨ts, hl, pr⟩ := hr
  have hlen : ts.length = rows.length := Paired.length pr
  have d1 := p_under t
  have d2 := p_sum t
  have d3 := p_rest t
  have d4 := p_product t
  walk_at "go"
  intro z hz
  have sz : Same H (upd H z (.tup [.int 0, .int 1])) := Same.new hz
  have pz : PtA E (upd H z (.tup [.int 0, .int 1])) z 0 := SqT.of upd_same
  have hl1 := sz.seq hl
  walk_at "go"
  refine ws_forS c (wi_enum c g_enumerate (B _ (by decide +kernel)) ?_)
  walk_at "go"
  refine ⟨_, _, rfl, hl1, forS (src_enum hl1) (fun i σ H' => Same (upd H z (.tup [.int 0, .int 1])) H' ∧ ∃ u acc o3 o4 o5, PtA E H' u acc ∧ acc + bandsV (rows.drop i) w = bandsV rows w ∧ σ = [some (.ref s), some (.ref l), some (.ref u), o3, o4, o5])
    ⟨Same.refl _, z, 0, none, none, none, pz, by rw [List.drop_zero]; omega, rfl⟩ (fun i σ H h => h.1) ?_ ?_⟩
  · rintro σ H' ⟨s1, u, acc, o3, o4, o5, hu, hacc, rfl⟩
    walk_at "go"
    rw [List.length_map, hlen, List.drop_length] at hacc
    have e0 : acc = bandsV rows w := by rw [← hacc]; simp [bandsV]
    exact q _ _ (sz.trans s1) ⟨u, rfl, e0 ▸ hu⟩
  · rintro i σ H' x H2 hi ⟨s1, u, acc, o3, o4, o5, hu, hacc, rfl⟩ s2 ⟨T0, y1, rfl, hT0, hy1⟩
    have hi2 : i < rows.length := by rw [List.length_map] at hi; omega
    obtain ⟨t5, b5, r5, u5, w5, rfl, er5, hr5, h5, h6⟩ := row_at pr hy1
    have s3 := sz.trans (s1.trans s2)
    have hr5 := s3.tup hr5
    have h5 := h5.mono s3
    have h6 := h6.mono s3
    have hw3 := hw.mono s3
    have hu3 := hu.mono s2
    have hl3 := s3.seq hl
    have hst := bands_step w rows i hi2
    rw [hst] at hacc
    have eg : rows.getD i (0, 0) = (b5, r5) := by rw [List.getD_eq_getElem?_getD, er5]; rfl
    have esh : share rows i w = if b5 < mn ((rows[i + 1]?.map (·.1)).getD w) w then r5 / 2 * (mn ((rows[i + 1]?.map (·.1)).getD w) w - b5) else 0 := by
      unfold share
      rw [eg]
    rw [esh] at hacc
    obtain ⟨r1, r2, r3⟩ := rt _ (List.mem_of_getElem? er5)
    have h62 : PtA E H2 w5 (2 * (r5 / 2)) := by rw [show 2 * (r5 / 2) = r5 by omega]; exact h6
    refine wg_two c l3 l4 (SqT.of hT0) ?_
    refine wb_cons (ws_set c l5 (w_name c n0 rfl ?_))
    refine wb_cons (ws_mid (fun σ' H' => H' = H2 ∧ ∃ ee, σ' = [some (.ref s), some (.ref l), some (.ref u), some (.int (i : Nat)), some (.ref t5), some (.ref ee)] ∧ PtA E H2 ee (mn ((rows[i + 1]?.map (·.1)).getD w) w)) ?_ ?_)
    · walk_at "go"
      rw [List.length_map, hlen]
      by_cases hlt : i + 1 < rows.length
      · refine iteD (by omega) ?_
        obtain ⟨v7, e7⟩ : ∃ v7, (ts.map V.ref)[i + 1]? = some v7 := ⟨_, List.getElem?_eq_getElem (by rw [List.length_map]; omega)⟩
        obtain ⟨t7, b7, r7, u7, w7, rfl, er7, hr7, h7, h8⟩ := row_at pr e7
        have hr7 := s3.tup hr7
        have h7 := h7.mono s3
        rw [er7]
        walk_at "go"
        refine x_lst c (fun _ _ => rfl) hl3 (atI_nat (j := i + 1) e7) ?_
        walk_at "go"
        refine iteC (fun hb => ?_) (fun hb => ?_)
        · have hb := of_decide_eq_true hb
          walk_at "go"
          refine x_lst c (fun _ _ => rfl) hl3 (atI_nat (j := i + 1) e7) ?_
          walk_at "go"
          exact ⟨rfl, u7, rfl, by show PtA E H2 u7 (mn b7 w); unfold mn; split <;> first | omega | exact h7⟩
        · have hb := of_decide_eq_false hb
          walk_at "go"
          exact ⟨rfl, s, rfl, by show PtA E H2 s (mn b7 w); unfold mn; split <;> first | exact hw3 | (rw [show b7 = w by omega]; exact hw3)⟩
      · refine iteND (by omega) ?_
        walk_at "go"
        refine ⟨rfl, s, rfl, ?_⟩
        rw [List.getElem?_eq_none (by omega)]
        show PtA E H2 s (mn w w)
        rw [mn_self]
        exact hw3
    · rintro σ' H' ⟨rfl, ee, rfl, hee⟩
      generalize mn ((rows[i + 1]?.map (·.1)).getD w) w = ew at hee hacc
      walk_at "go"
      refine iteC (fun hb => ?_) (fun hb => ?_)
      · have hb := of_decide_eq_true hb
        rw [if_pos hb] at hacc
        walk_at "go"
        refine ⟨w5, _, r5 / 2, _, rfl, h62.mono (by assumption), by assumption, by omega, ret_in fun t9 H9 s9 p9 => ?_⟩
        walk_at "go"
        exact ⟨by walk_at "same", _, _, _, _, _, by assumption, by show acc + r5 / 2 * (ew - b5) + bandsV (rows.drop (i + 1)) w = bandsV rows w; omega, rfl⟩
      · have hb := of_decide_eq_false hb
        rw [if_neg hb] at hacc
        walk_at "go"
        exact ⟨s1.trans s2, u, acc, _, _, _, hu3, by omega, rfl⟩
theorem ok_stepped {E : Ev} (t : Tx E) : Dg E 2 "_law_stepped" (spBanded E stepsV (fun rows => 1 ≤ rows.length ∧ rows.length ≤ 1000)) := by
  refine dg_of (t.gd _ _ _ (by decide +kernel)) sc79 (fun vs H Q ⟨_, _, _, _, e, _⟩ => by rw [e]; rfl) fun X vs H Q c ⟨s, l, w, rows, e, hw, hr, hn, q⟩ => ?_
  subst e
  obtain ⟨n1, n0, n3, n2, l2, l3, g__law_under⟩ := nm79
  obtain ⟨ts, hl, pr⟩ := hr
  have hlen : ts.length = rows.length := Paired.length pr
  have d1 := p_under t
  obtain ⟨v0, e0⟩ : ∃ v0, (ts.map V.ref)[0]? = some v0 := ⟨_, List.getElem?_eq_getElem (by rw [List.length_map]; omega)⟩
  obtain ⟨t0, b0, r0, u0, w0, rfl, er, hr, h3, h4⟩ := row_at pr e0
  walk_at "go"
  refine x_lst c (fun _ _ => rfl) hl (atI_nat (j := 0) e0) ?_
  walk_at "go"
  refine ws_forS c (wi_list c ?_)
  walk_at "go"
  refine ⟨⟨_, hl⟩, forS (src_list hl) (fun i σ H' => Same H H' ∧ ∃ u acc o, PtA E H' u acc ∧ acc = (rows.take i).foldl (fun a p => if w < p.1 then a else p.2) r0 ∧ σ = [some (.ref s), some (.ref l), some (.ref u), o]) ⟨Same.refl _, w0, r0, none, h4, rfl, rfl⟩ (fun i σ H h => h.1) ?_ ?_⟩
  · rintro σ H' ⟨s1, u, acc, o, hu, hacc, rfl⟩
    walk_at "go"
    refine q _ _ s1 ⟨u, rfl, ?_⟩
    have e : stepsV rows w = acc := by
      rw [hacc, List.length_map, hlen, List.take_length]
      unfold stepsV
      cases rows with
      | nil => simp at hn
      | cons p r => simp at er; subst er; rfl
    rw [e]
    exact hu
  · rintro i σ H' x H2 hi ⟨s1, u, acc, o, hu, hacc, rfl⟩ s2 hy
    obtain ⟨t5, b5, r5, u5, w5, rfl, er5, hr5, h5, h6⟩ := row_at pr hy
    have s3 := s1.trans s2
    have hr5 := s3.tup hr5
    have h5 := h5.mono s3
    have h6 := h6.mono s3
    have hw3 := hw.mono s3
    have hu3 := hu.mono s2
    have ha : (rows.take (i + 1)).foldl (fun a p => if w < p.1 then a else p.2) r0 = if w < b5 then acc else r5 := by
      rw [List.take_succ, er5, List.foldl_append, ← hacc]
      rfl
    refine wg_name c l3 ?_
    walk_at "go"
    refine iteC (fun hb => ?_) (fun hb => ?_)
    · have hb : (!decide (w < b5)) = true := hb
      have hb2 : ¬ w < b5 := by simpa using hb
      walk_at "go"
      exact ⟨s3, w5, _, _, h6, by rw [ha, if_neg hb2], rfl⟩
    · have hb : (!decide (w < b5)) = false := hb
      have hb2 : w < b5 := by simpa using hb
      walk_at "go"
      exact ⟨s3, u, _, _, hu3, by rw [ha, if_pos hb2], rfl⟩
end
section
-- 80 _law_value: ["_law_told_here", "_law_known", "_law_kind", "_law_values", "_law_one", "_law_whole", "_law_other"]
abbrev N80 : List Str := ["_law_told_here", "_law_known", "_law_kind", "_law_values", "_law_one", "_law_whole", "_law_other"]
theorem sc80 : FnScope N80 ["_law_told_here", "_law_known"] (defScope (top 80)) := ⟨rfl, rfl, rfl, by decide +kernel, rfl, by decide +kernel, by decide +kernel⟩
theorem nm80 : visB N80 (defScope (top 80)) 0 "_law_told_here" = true ∧ visB N80 (defScope (top 80)) 2 "_law_kind" = true ∧ visB N80 (defScope (top 80)) 1 "_law_known" = true ∧ visB N80 (defScope (top 80)) 3 "_law_values" = true ∧ visB N80 (defScope (top 80)) 4 "_law_one" = true ∧ visB N80 (defScope (top 80)) 5 "_law_whole" = true ∧ visB N80 (defScope (top 80)) 6 "_law_other" = true ∧ locB true N80 (defScope (top 80)) 2 "_law_kind" = true ∧ locB true N80 (defScope (top 80)) 3 "_law_values" = true ∧ locB true N80 (defScope (top 80)) 4 "_law_one" = true ∧ locB true N80 (defScope (top 80)) 5 "_law_whole" = true ∧ locB true N80 (defScope (top 80)) 6 "_law_other" = true ∧ gloB (defScope (top 80)) "_law_within" = true ∧ gloB (defScope (top 80)) "_law_product" = true ∧ gloB (defScope (top 80)) "_law_banded" = true ∧ gloB (defScope (top 80)) "_law_stepped" = true ∧ gloB (defScope (top 80)) "int" = true ∧ gloB (defScope (top 80)) "_law_under" = true ∧ gloB (defScope (top 80)) "_law_sum" = true ∧ gloB (defScope (top 80)) "_law_rest" = true :=
  ⟨by decide +kernel, by decide +kernel, by decide +kernel, by decide +kernel, by decide +kernel, by decide +kernel, by decide +kernel, by decide +kernel, by decide +kernel, by decide +kernel, by decide +kernel, by decide +kernel, by decide +kernel, by decide +kernel, by decide +kernel, by decide +kernel, by decide +kernel, by decide +kernel, by decide +kernel, by decide +kernel⟩
-- obtain ⟨n0, n2, n1, n3, n4, n5, n6, l2, l3, l4, l5, l6, g__law_within, g__law_product, g__law_banded, g__law_stepped, g_int, g__law_under, g__law_sum, g__law_rest⟩ := nm80
/-- the values of the inner ones -/
theorem vals_lc {E : Ev} {k : Nat} {N : List Str} {sc' : Scope} {elt : Expr} {σ : L2.St} {H1 H : Hp} {Q : VK} {j : Nat} {p1 : Pos} {D : Addr} {ys : List V} {w : Wt} {d : Dc} (s1 : Same H H1) (hD : H1 D = some (.lst ys)) (pw : Paired (Told E H) w.kids ys) (hj : locB false N sc' j "_law_one" = true)
    (step : ∀ (u : Wt) (x : V) (H2 : Hp), u ∈ w.kids → Same H1 H2 → Told E H2 u x → ∀ Y, Cxt E k N sc' false Y → W Y elt ((wipe σ [j]).set j (some x)) H2 fun v H3 => Same H2 H3 ∧ Pt E H3 v (val d u))
    (q : ∀ D2 zs H2, H1 D2 = none → Same H1 H2 → H2 D2 = some (.lst zs) → Paired (fun u z => Pt E H2 z (val d u)) w.kids zs → Q (.ref D2) H2) : LcS E k N sc' (.Name "_law_one" p1) elt [] [j] σ (Itl E.K D) H1 Q := by
  have hlen := Paired.length pw
  have few := kids_few w
  refine lcS0 (src_list (SqL.of hD)) (by omega) (fun i y H => ∃ u, w.kids[i]? = some u ∧ Pt E H y (val d u)) (fun _ _ _ _ nl ⟨u, h1, h2⟩ => ⟨u, h1, h2.ts nl.ts⟩) (fun i x H2 hi s2 hx Y cY => ?_) fun D2 zs H2 hD2 s2 hl2 pr => ?_
  · obtain ⟨u, hu, hT⟩ := pair_at' pw hx
    exact wg_name cY hj ⟨wipe_one, Same.refl _, fun Y3 c3 => (step u x H2 (List.mem_of_getElem? hu) s2 (hT.mono (s1.trans s2)) Y3 c3).mono fun v H3 ⟨s3, h3⟩ => ⟨s3, u, hu, h3⟩⟩
  · refine q D2 zs H2 hD2 s2 hl2 (pair_of (by rw [hlen, ← Paired.length pr, List.length_range]) fun i u z h1 h2 => ?_)
    obtain ⟨j2, h3, u2, h4, h5⟩ := pair_at' pr h2
    have hi : i < ys.length := by rw [← hlen]; exact (List.getElem?_eq_some_iff.mp h1).1
    rw [List.getElem?_range hi] at h3
    injection h3 with h3
    rw [← h3, h1] at h4
    injection h4 with h4
    rw [h4]
    exact h5
theorem kids_good {w a : Wt} (h : a ∈ w.kids) (o : w.good) : a.good := by
  cases w <;> simp [Wt.kids] at h
  · rcases h with rfl | rfl
    · exact o.1
    · exact o.2
  · subst h; exact o.1
  · subst h; exact o.1
  · rcases h with rfl | rfl | rfl | rfl
    · exact o.1
    · exact o.2.1
    · exact o.2.2.1
    · exact o.2.2.2
local macro_rules | `(tactic| walk_at "inl") => `(tactic| (walk_at "go"; intro _ _; refine o_in_l ‹Cxt _ _ _ _ _ _› (SqL.of upd_same) rfl rfl ?_; walk_at "go"))
theorem ok_value {E : Ev} (t : Tx E) : ∀ n w, Wt.deep w ≤ n → Dg E (n + 5) "_law_value" (spLval E w) := by
  intro n
  induction n with
  | zero => intro w h; exact absurd h (by have := deep_pos w; omega)
  | succ n ih =>
    intro w hw
    refine dg_of (t.gd _ _ _ (by decide +kernel)) sc80 (fun vs H Q ⟨_, _, _, e, _⟩ => by rw [e]; rfl) fun X vs H Q c ⟨v, a, d, e, hT, g, hd, hok, q⟩ => ?_
    subst e
    have B := t.B
    obtain ⟨n0, n2, n1, n3, n4, n5, n6, l2, l3, l4, l5, l6, g__law_within, g__law_product, g__law_banded, g__law_stepped, g_int, g__law_under, g__law_sum, g__law_rest⟩ := nm80
    match w, hT, g, hok, q, hw with
    | .am z, hT, g, hok, q, hw =>
        obtain ⟨t1, u, rfl, k1, k2⟩ := hT
        walk_at "go"
        exact ret_pt q k2
    | .nm x, hT, g, hok, q, hw =>
        obtain ⟨t1, rfl, k1⟩ := hT
        walk_at "go"
        obtain ⟨u, g1, g2⟩ := da_get hd hok
        exact x_dic c (fun _ _ => rfl) g1 (ret_pt q g2)
    | .two .plus x1 x2, hT, g, hok, q, hw =>
      have hT0 := hT
      obtain ⟨t1, w1, w2, rfl, k1, k2, k3⟩ := hT0
      have hT := hT
      have dw := ok_within t (.two .plus x1 x2)
      have dsum := p_sum t
      have drest := p_rest t
      have dun := p_under t
      obtain ⟨gb, mb, Db⟩ := ok_banded t
      obtain ⟨gs, ms, Ds⟩ := ok_stepped t
      walk_at "go"
      refine ws_setLcS c l3 (by decide +kernel) [("_law_one", 4)] (by decide +kernel) (by decide +kernel) (by decide) (by decide +kernel) (wi_list c ?_)
      walk_at "go"
      refine ⟨hT, fun D ys H1 s1 hDn hD pw => ⟨D, rfl, ⟨_, SqL.of hD⟩, vals_lc (d := d) s1 hD pw (by decide +kernel) (fun u x H2 hu s2 hTu Y cY => ?_) fun D2 zs H2 hD2 s2 hz pz => ?_⟩⟩
      · have hdu := kids_deep hu
        have dr := ih u (by omega)
        walk_at "go"
        exact ⟨x, a, d, rfl, hTu, kids_good hu g, hd.mono (s1.trans s2), kids_ok hu hok, fun v3 H3 s3 p3 => ⟨s3, p3⟩⟩
      · have s3 := s1.trans s2
        obtain ⟨z0, hz0, ⟨a0, ea0, p0⟩⟩ := pair_at pz (show ((.two .plus x1 x2) : Wt).kids[0]? = some _ from rfl)
        subst ea0
        obtain ⟨z1, hz1, ⟨a1, ea1, p1⟩⟩ := pair_at pz (show ((.two .plus x1 x2) : Wt).kids[1]? = some _ from rfl)
        subst ea1
        walk_at "go"
        refine x_lst c (fun _ _ => rfl) (seq_up (SqL.of hz) (by walk_at "same")) (atI_nat (j := 0) hz0) ?_
        walk_at "inl"
        refine x_lst c (fun _ _ => rfl) (seq_up (SqL.of hz) (by walk_at "same")) (atI_nat (j := 1) hz1) ?_
        walk_at "go"
        exact q _ _ (s3.trans ((Same.new (by assumption)).trans (by assumption))) ⟨_, rfl, by assumption⟩
    | .two .less x1 x2, hT, g, hok, q, hw =>
      have hT0 := hT
      obtain ⟨t1, w1, w2, rfl, k1, k2, k3⟩ := hT0
      have hT := hT
      have dw := ok_within t (.two .less x1 x2)
      have dsum := p_sum t
      have drest := p_rest t
      have dun := p_under t
      obtain ⟨gb, mb, Db⟩ := ok_banded t
      obtain ⟨gs, ms, Ds⟩ := ok_stepped t
      walk_at "go"
      refine ws_setLcS c l3 (by decide +kernel) [("_law_one", 4)] (by decide +kernel) (by decide +kernel) (by decide) (by decide +kernel) (wi_list c ?_)
      walk_at "go"
      refine ⟨hT, fun D ys H1 s1 hDn hD pw => ⟨D, rfl, ⟨_, SqL.of hD⟩, vals_lc (d := d) s1 hD pw (by decide +kernel) (fun u x H2 hu s2 hTu Y cY => ?_) fun D2 zs H2 hD2 s2 hz pz => ?_⟩⟩
      · have hdu := kids_deep hu
        have dr := ih u (by omega)
        walk_at "go"
        exact ⟨x, a, d, rfl, hTu, kids_good hu g, hd.mono (s1.trans s2), kids_ok hu hok, fun v3 H3 s3 p3 => ⟨s3, p3⟩⟩
      · have s3 := s1.trans s2
        obtain ⟨z0, hz0, ⟨a0, ea0, p0⟩⟩ := pair_at pz (show ((.two .less x1 x2) : Wt).kids[0]? = some _ from rfl)
        subst ea0
        obtain ⟨z1, hz1, ⟨a1, ea1, p1⟩⟩ := pair_at pz (show ((.two .less x1 x2) : Wt).kids[1]? = some _ from rfl)
        subst ea1
        walk_at "go"
        refine x_lst c (fun _ _ => rfl) (seq_up (SqL.of hz) (by walk_at "same")) (atI_nat (j := 0) hz0) ?_
        walk_at "inl"
        refine x_lst c (fun _ _ => rfl) (seq_up (SqL.of hz) (by walk_at "same")) (atI_nat (j := 1) hz1) ?_
        walk_at "go"
        exact q _ _ (s3.trans ((Same.new (by assumption)).trans (by assumption))) ⟨_, rfl, by assumption⟩
    | .two .greater x1 x2, hT, g, hok, q, hw =>
      have hT0 := hT
      obtain ⟨t1, w1, w2, rfl, k1, k2, k3⟩ := hT0
      have hT := hT
      have dw := ok_within t (.two .greater x1 x2)
      have dsum := p_sum t
      have drest := p_rest t
      have dun := p_under t
      obtain ⟨gb, mb, Db⟩ := ok_banded t
      obtain ⟨gs, ms, Ds⟩ := ok_stepped t
      walk_at "go"
      refine ws_setLcS c l3 (by decide +kernel) [("_law_one", 4)] (by decide +kernel) (by decide +kernel) (by decide) (by decide +kernel) (wi_list c ?_)
      walk_at "go"
      refine ⟨hT, fun D ys H1 s1 hDn hD pw => ⟨D, rfl, ⟨_, SqL.of hD⟩, vals_lc (d := d) s1 hD pw (by decide +kernel) (fun u x H2 hu s2 hTu Y cY => ?_) fun D2 zs H2 hD2 s2 hz pz => ?_⟩⟩
      · have hdu := kids_deep hu
        have dr := ih u (by omega)
        walk_at "go"
        exact ⟨x, a, d, rfl, hTu, kids_good hu g, hd.mono (s1.trans s2), kids_ok hu hok, fun v3 H3 s3 p3 => ⟨s3, p3⟩⟩
      · have s3 := s1.trans s2
        obtain ⟨z0, hz0, ⟨a0, ea0, p0⟩⟩ := pair_at pz (show ((.two .greater x1 x2) : Wt).kids[0]? = some _ from rfl)
        subst ea0
        obtain ⟨z1, hz1, ⟨a1, ea1, p1⟩⟩ := pair_at pz (show ((.two .greater x1 x2) : Wt).kids[1]? = some _ from rfl)
        subst ea1
        walk_at "go"
        refine x_lst c (fun _ _ => rfl) (seq_up (SqL.of hz) (by walk_at "same")) (atI_nat (j := 0) hz0) ?_
        walk_at "inl"
        refine x_lst c (fun _ _ => rfl) (seq_up (SqL.of hz) (by walk_at "same")) (atI_nat (j := 1) hz1) ?_
        walk_at "go"
        have eg : decide (Tk.greater.word = "greater") = true := by decide +kernel
        rw [eg]
        refine iteC (fun hb => ?_) (fun hb => ?_)
        · have hb : val d x1 < val d x2 := of_decide_eq_true (of_decide_eq_true hb)
          walk_at "go"
          exact q _ _ (s3.trans (by walk_at "same")) ⟨_, rfl, by rw [show val d (.two .greater x1 x2) = val d x2 from mx_lt hb]; exact pt_up p1 (by walk_at "same")⟩
        · have hb : ¬ val d x1 < val d x2 := fun z => of_decide_eq_false hb (decide_eq_true z)
          walk_at "go"
          exact q _ _ (s3.trans (by walk_at "same")) ⟨_, rfl, by rw [show val d (.two .greater x1 x2) = val d x1 from mx_ge hb]; exact pt_up p0 (by walk_at "same")⟩
    | .two .lesser x1 x2, hT, g, hok, q, hw =>
      have hT0 := hT
      obtain ⟨t1, w1, w2, rfl, k1, k2, k3⟩ := hT0
      have hT := hT
      have dw := ok_within t (.two .lesser x1 x2)
      have dsum := p_sum t
      have drest := p_rest t
      have dun := p_under t
      obtain ⟨gb, mb, Db⟩ := ok_banded t
      obtain ⟨gs, ms, Ds⟩ := ok_stepped t
      walk_at "go"
      refine ws_setLcS c l3 (by decide +kernel) [("_law_one", 4)] (by decide +kernel) (by decide +kernel) (by decide) (by decide +kernel) (wi_list c ?_)
      walk_at "go"
      refine ⟨hT, fun D ys H1 s1 hDn hD pw => ⟨D, rfl, ⟨_, SqL.of hD⟩, vals_lc (d := d) s1 hD pw (by decide +kernel) (fun u x H2 hu s2 hTu Y cY => ?_) fun D2 zs H2 hD2 s2 hz pz => ?_⟩⟩
      · have hdu := kids_deep hu
        have dr := ih u (by omega)
        walk_at "go"
        exact ⟨x, a, d, rfl, hTu, kids_good hu g, hd.mono (s1.trans s2), kids_ok hu hok, fun v3 H3 s3 p3 => ⟨s3, p3⟩⟩
      · have s3 := s1.trans s2
        obtain ⟨z0, hz0, ⟨a0, ea0, p0⟩⟩ := pair_at pz (show ((.two .lesser x1 x2) : Wt).kids[0]? = some _ from rfl)
        subst ea0
        obtain ⟨z1, hz1, ⟨a1, ea1, p1⟩⟩ := pair_at pz (show ((.two .lesser x1 x2) : Wt).kids[1]? = some _ from rfl)
        subst ea1
        walk_at "go"
        refine x_lst c (fun _ _ => rfl) (seq_up (SqL.of hz) (by walk_at "same")) (atI_nat (j := 0) hz0) ?_
        walk_at "inl"
        refine x_lst c (fun _ _ => rfl) (seq_up (SqL.of hz) (by walk_at "same")) (atI_nat (j := 1) hz1) ?_
        walk_at "go"
        have eg : decide (Tk.lesser.word = "greater") = false := by decide +kernel
        rw [eg]
        refine iteC (fun hb => ?_) (fun hb => ?_)
        · have hb : ¬ val d x1 < val d x2 := of_decide_eq_false (of_decide_eq_true hb)
          walk_at "go"
          by_cases he : val d x1 = val d x2
          · walk_at "go"
            exact q _ _ (s3.trans (by walk_at "same")) ⟨_, rfl, by rw [show val d (.two .lesser x1 x2) = val d x1 from mn_ge (by omega)]; exact pt_up p0 (by walk_at "same")⟩
          · walk_at "go"
            exact q _ _ (s3.trans (by walk_at "same")) ⟨_, rfl, by rw [show val d (.two .lesser x1 x2) = val d x2 from mn_lt (by omega)]; exact pt_up p1 (by walk_at "same")⟩
        · have hb : val d x1 < val d x2 := by
            have h2 := of_decide_eq_false hb
            cases z : lt2 (val d x1) (val d x2) with
            | true => exact of_decide_eq_true z
            | false => exact absurd z h2
          walk_at "go"
          exact q _ _ (s3.trans (by walk_at "same")) ⟨_, rfl, by rw [show val d (.two .lesser x1 x2) = val d x1 from mn_ge (by omega)]; exact pt_up p0 (by walk_at "same")⟩
    | .bands x1 rows, hT, g, hok, q, hw =>
      have hT0 := hT
      obtain ⟨t1, w1, lr, rfl, k1, k2, k3⟩ := hT0
      have dw := ok_within t (.bands x1 rows)
      have dsum := p_sum t
      have drest := p_rest t
      have dun := p_under t
      obtain ⟨gb, mb, Db⟩ := ok_banded t
      obtain ⟨gs, ms, Ds⟩ := ok_stepped t
      walk_at "go"
      refine ws_setLcS c l3 (by decide +kernel) [("_law_one", 4)] (by decide +kernel) (by decide +kernel) (by decide) (by decide +kernel) (wi_list c ?_)
      walk_at "go"
      refine ⟨hT, fun D ys H1 s1 hDn hD pw => ⟨D, rfl, ⟨_, SqL.of hD⟩, vals_lc (d := d) s1 hD pw (by decide +kernel) (fun u x H2 hu s2 hTu Y cY => ?_) fun D2 zs H2 hD2 s2 hz pz => ?_⟩⟩
      · have hdu := kids_deep hu
        have dr := ih u (by omega)
        walk_at "go"
        exact ⟨x, a, d, rfl, hTu, kids_good hu g, hd.mono (s1.trans s2), kids_ok hu hok, fun v3 H3 s3 p3 => ⟨s3, p3⟩⟩
      · have s3 := s1.trans s2
        obtain ⟨z0, hz0, ⟨a0, ea0, p0⟩⟩ := pair_at pz (show ((.bands x1 rows) : Wt).kids[0]? = some _ from rfl)
        subst ea0
        walk_at "go"
        refine x_lst c (fun _ _ => rfl) (seq_up (SqL.of hz) (by walk_at "same")) (atI_nat (j := 0) hz0) ?_
        walk_at "go"
        intro L0 hL0
        refine o_in_l c (SqL.of upd_same) rfl rfl ?_
        walk_at "go"
        have hn := cn_neg (val d x1)
        refine iteC (fun hb => ?_) (fun hb => ?_)
        · have hb : val d x1 < 0 := hn.mp (of_decide_eq_true hb)
          walk_at "go"
          intro w9 hw9
          walk_at "go"
          have pw0 : PtA E (upd (upd H2 L0 (.lst [.str "bands", .str "steps"])) w9 (.tup [.int 0, .int 1])) w9 (mx 0 (val d x1)) := by
            rw [mx_ge (by omega)]
            exact SqT.of upd_same
          refine w_callV c ?_
          walk_at "go"
          intro L1 hL1
          walk_at "go"
          refine x_lst c (fun _ _ => rfl) (SqL.of (upd_same)) (atI_nat (j := 0) rfl) ?_
          refine ⟨gb, _, _, rfl, Db, by omega, ?_⟩
          walk_at "go"
          refine ⟨_, _, _, rows, rfl, pt_up pw0 (by walk_at "same"), k3.mono (s3.trans (by walk_at "same")), ⟨Nat.le_trans g.2.1.len.2 (by decide), g.2.2⟩, fun v9 H9 s9 p9 => q _ _ (s3.trans ((by walk_at "same" : Same H2 _).trans s9)) p9⟩
        · have hb : ¬ val d x1 < 0 := fun z => of_decide_eq_false hb (hn.mpr z)
          walk_at "go"
          have pw0 : PtA E H2 a0 (mx 0 (val d x1)) := by
            rw [show mx 0 (val d x1) = val d x1 by unfold mx; split <;> omega]
            exact p0
          refine w_callV c ?_
          walk_at "go"
          intro L1 hL1
          walk_at "go"
          refine x_lst c (fun _ _ => rfl) (SqL.of (upd_same)) (atI_nat (j := 0) rfl) ?_
          refine ⟨gb, _, _, rfl, Db, by omega, ?_⟩
          walk_at "go"
          refine ⟨_, _, _, rows, rfl, pt_up pw0 (by walk_at "same"), k3.mono (s3.trans (by walk_at "same")), ⟨Nat.le_trans g.2.1.len.2 (by decide), g.2.2⟩, fun v9 H9 s9 p9 => q _ _ (s3.trans ((by walk_at "same" : Same H2 _).trans s9)) p9⟩
    | .steps x1 rows, hT, g, hok, q, hw =>
      have hT0 := hT
      obtain ⟨t1, w1, lr, rfl, k1, k2, k3⟩ := hT0
      have dw := ok_within t (.steps x1 rows)
      have dsum := p_sum t
      have drest := p_rest t
      have dun := p_under t
      obtain ⟨gb, mb, Db⟩ := ok_banded t
      obtain ⟨gs, ms, Ds⟩ := ok_stepped t
      walk_at "go"
      refine ws_setLcS c l3 (by decide +kernel) [("_law_one", 4)] (by decide +kernel) (by decide +kernel) (by decide) (by decide +kernel) (wi_list c ?_)
      walk_at "go"
      refine ⟨hT, fun D ys H1 s1 hDn hD pw => ⟨D, rfl, ⟨_, SqL.of hD⟩, vals_lc (d := d) s1 hD pw (by decide +kernel) (fun u x H2 hu s2 hTu Y cY => ?_) fun D2 zs H2 hD2 s2 hz pz => ?_⟩⟩
      · have hdu := kids_deep hu
        have dr := ih u (by omega)
        walk_at "go"
        exact ⟨x, a, d, rfl, hTu, kids_good hu g, hd.mono (s1.trans s2), kids_ok hu hok, fun v3 H3 s3 p3 => ⟨s3, p3⟩⟩
      · have s3 := s1.trans s2
        obtain ⟨z0, hz0, ⟨a0, ea0, p0⟩⟩ := pair_at pz (show ((.steps x1 rows) : Wt).kids[0]? = some _ from rfl)
        subst ea0
        walk_at "go"
        refine x_lst c (fun _ _ => rfl) (seq_up (SqL.of hz) (by walk_at "same")) (atI_nat (j := 0) hz0) ?_
        walk_at "go"
        intro L0 hL0
        refine o_in_l c (SqL.of upd_same) rfl rfl ?_
        walk_at "go"
        have hn := cn_neg (val d x1)
        refine iteC (fun hb => ?_) (fun hb => ?_)
        · have hb : val d x1 < 0 := hn.mp (of_decide_eq_true hb)
          walk_at "go"
          intro w9 hw9
          walk_at "go"
          have pw0 : PtA E (upd (upd H2 L0 (.lst [.str "bands", .str "steps"])) w9 (.tup [.int 0, .int 1])) w9 (mx 0 (val d x1)) := by
            rw [mx_ge (by omega)]
            exact SqT.of upd_same
          refine w_callV c ?_
          walk_at "go"
          intro L1 hL1
          walk_at "go"
          refine x_lst c (fun _ _ => rfl) (SqL.of (upd_same)) (atI_nat (j := 1) rfl) ?_
          refine ⟨gs, _, _, rfl, Ds, by omega, ?_⟩
          walk_at "go"
          refine ⟨_, _, _, rows, rfl, pt_up pw0 (by walk_at "same"), k3.mono (s3.trans (by walk_at "same")), ⟨g.2.len.1, Nat.le_trans g.2.len.2 (by decide)⟩, fun v9 H9 s9 p9 => q _ _ (s3.trans ((by walk_at "same" : Same H2 _).trans s9)) p9⟩
        · have hb : ¬ val d x1 < 0 := fun z => of_decide_eq_false hb (hn.mpr z)
          walk_at "go"
          have pw0 : PtA E H2 a0 (mx 0 (val d x1)) := by
            rw [show mx 0 (val d x1) = val d x1 by unfold mx; split <;> omega]
            exact p0
          refine w_callV c ?_
          walk_at "go"
          intro L1 hL1
          walk_at "go"
          refine x_lst c (fun _ _ => rfl) (SqL.of (upd_same)) (atI_nat (j := 1) rfl) ?_
          refine ⟨gs, _, _, rfl, Ds, by omega, ?_⟩
          walk_at "go"
          refine ⟨_, _, _, rows, rfl, pt_up pw0 (by walk_at "same"), k3.mono (s3.trans (by walk_at "same")), ⟨g.2.len.1, Nat.le_trans g.2.len.2 (by decide)⟩, fun v9 H9 s9 p9 => q _ _ (s3.trans ((by walk_at "same" : Same H2 _).trans s9)) p9⟩
    | .iff x1 x2 x3 x4, hT, g, hok, q, hw =>
      have hT0 := hT
      obtain ⟨t1, w1, w2, w3, w4, rfl, k1, k2, k3, k4, k5⟩ := hT0
      have dw := ok_within t (.iff x1 x2 x3 x4)
      have dsum := p_sum t
      have drest := p_rest t
      have dun := p_under t
      obtain ⟨gb, mb, Db⟩ := ok_banded t
      obtain ⟨gs, ms, Ds⟩ := ok_stepped t
      walk_at "go"
      refine ws_setLcS c l3 (by decide +kernel) [("_law_one", 4)] (by decide +kernel) (by decide +kernel) (by decide) (by decide +kernel) (wi_list c ?_)
      walk_at "go"
      refine ⟨hT, fun D ys H1 s1 hDn hD pw => ⟨D, rfl, ⟨_, SqL.of hD⟩, vals_lc (d := d) s1 hD pw (by decide +kernel) (fun u x H2 hu s2 hTu Y cY => ?_) fun D2 zs H2 hD2 s2 hz pz => ?_⟩⟩
      · have hdu := kids_deep hu
        have dr := ih u (by omega)
        walk_at "go"
        exact ⟨x, a, d, rfl, hTu, kids_good hu g, hd.mono (s1.trans s2), kids_ok hu hok, fun v3 H3 s3 p3 => ⟨s3, p3⟩⟩
      · have s3 := s1.trans s2
        obtain ⟨z0, hz0, ⟨a0, ea0, p0⟩⟩ := pair_at pz (show ((.iff x1 x2 x3 x4) : Wt).kids[0]? = some _ from rfl)
        subst ea0
        obtain ⟨z1, hz1, ⟨a1, ea1, p1⟩⟩ := pair_at pz (show ((.iff x1 x2 x3 x4) : Wt).kids[1]? = some _ from rfl)
        subst ea1
        obtain ⟨z2, hz2, ⟨a2, ea2, p2⟩⟩ := pair_at pz (show ((.iff x1 x2 x3 x4) : Wt).kids[2]? = some _ from rfl)
        subst ea2
        obtain ⟨z3, hz3, ⟨a3, ea3, p3⟩⟩ := pair_at pz (show ((.iff x1 x2 x3 x4) : Wt).kids[3]? = some _ from rfl)
        subst ea3
        walk_at "go"
        refine x_lst c (fun _ _ => rfl) (seq_up (SqL.of hz) (by walk_at "same")) (atI_nat (j := 0) hz0) ?_
        walk_at "inl"
        refine x_lst c (fun _ _ => rfl) (seq_up (SqL.of hz) (by walk_at "same")) (atI_nat (j := 1) hz1) ?_
        walk_at "go"
        refine iteC (fun hb => ?_) (fun hb => ?_)
        · have hb : val d x1 < val d x2 := of_decide_eq_true hb
          walk_at "go"
          refine x_lst c (fun _ _ => rfl) (seq_up (SqL.of hz) (by walk_at "same")) (atI_nat (j := 2) hz2) ?_
          exact q _ _ (s3.trans (by walk_at "same")) ⟨_, rfl, by rw [show val d (.iff x1 x2 x3 x4) = val d x3 from if_pos hb]; exact pt_up p2 (by walk_at "same")⟩
        · have hb : ¬ val d x1 < val d x2 := of_decide_eq_false hb
          walk_at "go"
          refine x_lst c (fun _ _ => rfl) (seq_up (SqL.of hz) (by walk_at "same")) (atI_nat (j := 3) hz3) ?_
          exact q _ _ (s3.trans (by walk_at "same")) ⟨_, rfl, by rw [show val d (.iff x1 x2 x3 x4) = val d x4 from if_neg hb]; exact pt_up p3 (by walk_at "same")⟩
end
section
-- 81 _law_dues: ["_law_lets", "_law_taken", "_law_known", "_law_name", "_law_told_here"]
abbrev N81 : List Str := ["_law_lets", "_law_taken", "_law_known", "_law_name", "_law_told_here"]
theorem sc81 : FnScope N81 ["_law_lets", "_law_taken"] (defScope (top 81)) := ⟨rfl, rfl, rfl, by decide +kernel, rfl, by decide +kernel, by decide +kernel⟩
theorem nm81 : visB N81 (defScope (top 81)) 1 "_law_taken" = true ∧ visB N81 (defScope (top 81)) 0 "_law_lets" = true ∧ visB N81 (defScope (top 81)) 2 "_law_known" = true ∧ visB N81 (defScope (top 81)) 3 "_law_name" = true ∧ visB N81 (defScope (top 81)) 4 "_law_told_here" = true ∧ locB true N81 (defScope (top 81)) 2 "_law_known" = true ∧ locB true N81 (defScope (top 81)) 3 "_law_name" = true ∧ locB true N81 (defScope (top 81)) 4 "_law_told_here" = true ∧ gloB (defScope (top 81)) "dict" = true ∧ gloB (defScope (top 81)) "_law_value" = true :=
  ⟨by decide +kernel, by decide +kernel, by decide +kernel, by decide +kernel, by decide +kernel, by decide +kernel, by decide +kernel, by decide +kernel, by decide +kernel, by decide +kernel⟩
-- obtain ⟨n1, n0, n2, n3, n4, l2, l3, l4, g_dict, g__law_value⟩ := nm81
theorem ok_ldues {E : Ev} (t : Tx E) : Dg E 14 "_law_dues" (spLdues E) := by
  refine dg_of (t.gd _ _ _ (by decide +kernel)) sc81 (fun vs H Q ⟨_, _, _, _, e, _⟩ => by rw [e]; rfl) fun X vs H Q c ⟨l, a, lets, d, e, hl, hd, hz, hz2, okl, nd, q⟩ => ?_
  subst e
  have B := t.B
  obtain ⟨n1, n0, n2, n3, n4, l2, l3, l4, g_dict, g__law_value⟩ := nm81
  obtain ⟨ys, hl1, pl⟩ := hl
  have hlen : ys.length = lets.length := Paired.length pl
  obtain ⟨kvs0, hk1, hk2⟩ := hd
  walk_at "go"
  intro k hk
  have s1 : Same H (upd H k (.dK kvs0)) := Same.new hk
  have dk : DA E (upd H k (.dK kvs0)) k d := ⟨kvs0, upd_same, hk2.ts s1.ts⟩
  walk_at "go"
  refine ws_forS c (wi_list c ?_)
  walk_at "go"
  refine ⟨⟨_, SqL.of (s1 _ _ hl1)⟩, forS (src_list (H1 := H) (SqL.of hl1)) (fun i σ H' => Same H H' ∧ ∃ kd o3 o4, DA E H' k kd ∧ duesF lets d = lookF (lets.take i) kd ++ duesF (lets.drop i) kd ∧ okLets (fun x => (dget kd x).isSome = true) (lets.drop i) ∧ (∀ q ∈ lets.take i, (dget kd q.1).isSome = true) ∧ kd.length ≤ d.length + i ∧
    σ = [some (.ref l), some (.ref a), some (.ref k), o3, o4]) ⟨s1, d, none, none, dk, rfl, okl, fun q hq => by simp at hq, Nat.le_refl _, rfl⟩ (fun i σ H h => h.1) ?_ ?_⟩
  · rintro σ H' ⟨s2, kd, o3, o4, hkd, hdf, _, hall, _, rfl⟩
    rw [hlen, List.drop_length, List.take_length] at hdf
    rw [hlen, List.take_length] at hall
    have hdf : duesF lets d = lookF lets kd := by rw [hdf]; exact List.append_nil _
    walk_at "go"
    refine w_lcS c [("_law_name", 3), ("_law_told_here", 4)] (by decide +kernel) (wi_list c ?_)
    walk_at "go"
    refine ⟨⟨_, SqL.of (s2 _ _ hl1)⟩, ?_⟩
    refine lcS0 (src_list (SqL.of (s2 _ _ hl1))) (by omega) (fun i y H4 => ∃ q, (lookF lets kd)[i]? = some q ∧ PairA E H4 q y) (fun _ _ _ _ nl ⟨q, h1, h2⟩ => ⟨q, h1, h2.ts nl.ts⟩) (fun i x H4 hi s4 hx Y cY => ?_) fun D2 zs H4 hD2 s4 hz4 pr => ?_
    · obtain ⟨⟨nmx, w⟩, hw, tt, u, rfl, h1, h2⟩ := pair_at pl hx
      have h1 := (s2.trans s4).tup h1
      refine wg_two cY (by decide +kernel) (by decide +kernel) h1 ⟨wipe_two (by decide), Same.refl _, fun Y3 c3 => ?_⟩
      walk_at "go"
      obtain ⟨t6, g6, pt6⟩ := da_get (x := nmx) (hkd.mono s4) (hall _ (List.mem_of_getElem? hw))
      refine x_dic c3 (fun _ _ => rfl) g6 ?_
      walk_at "go"
      intro T hT
      refine ⟨Same.new hT, (nmx, (dget kd nmx).getD 0), ?_, T, t6, rfl, SqT.of upd_same, pt6.mono (Same.new hT)⟩
      unfold lookF
      rw [List.getElem?_map, hw]
      rfl
    · rw [hlen, show lets.length = (lookF lets kd).length from (List.length_map _).symm] at pr
      have pq := of_range pr
      walk_at "go"
      refine c_dict_q c (SqL.of hz4) pq (by rw [show (lookF lets kd).map (·.1) = lets.map (·.1) by unfold lookF; rw [List.map_map]; rfl]; exact nd) fun p kvs hp hdp => ?_
      have s5 := s2.trans s4
      rw [← hdf] at hdp
      exact q p _ (s5.trans (Same.new hp)) (none_of s5 hp) hdp
  · rintro i σ H' x H4 hi ⟨s2, kd, o3, o4, hkd, hdf, okd, hall, hkl, rfl⟩ s3 hx
    obtain ⟨⟨nmx, w⟩, hw, tt, u, rfl, h1, h2⟩ := pair_at pl hx
    have s4 := s2.trans s3
    have h1 := s4.tup h1
    have h2 := h2.mono s4
    have hi2 : i < lets.length := by omega
    have hdr : lets.drop i = (nmx, w) :: lets.drop (i + 1) := by
      rw [List.drop_eq_getElem_cons hi2]
      rw [List.getElem?_eq_getElem hi2] at hw
      injection hw with hw
      rw [hw]
    rw [hdr] at okd hdf
    obtain ⟨gw, kw, dw, okr⟩ := okd
    have dv := ok_value t 8 w dw
    refine wg_two c l3 l4 h1 ?_
    refine wb_one (ws_sub ?_)
    walk_at "go"
    refine ⟨u, k, kd, rfl, h2, gw, hkd.mono s3, kw, fun v5 H5 s5 p5 => ?_⟩
    walk_at "go"
    refine i_da c ((hkd.mono s3).mono s5) (by omega) p5 fun kvs6 hk6 ts6 => ?_
    walk_at "go"
    have hnew : nmx ∉ (lets.take i).map (·.1) := nodup_take nd hw
    have htk : lets.take (i + 1) = lets.take i ++ [(nmx, w)] := by rw [List.take_succ, hw]; rfl
    refine ⟨Same.mut (s4.trans s5) hk, dput kd nmx (val kd w), _, _, hk6, ?_, okLets_imp (fun y hy => dput_isSome _ _ _ _ hy) okr, fun q hq => ?_, Nat.le_trans (dput_len _ _ _) (by omega), rfl⟩
    · rw [hdf, htk]
      unfold lookF
      rw [List.map_append]
      have := lookF_put (kd := kd) (z := val kd w) hnew
      unfold lookF at this
      rw [this, List.append_assoc]
      show _ ++ ((nmx, val kd w) :: _) = _ ++ ([(nmx, (dget (dput kd nmx (val kd w)) nmx).getD 0)] ++ _)
      rw [dget_put, if_pos rfl]
      rfl
    · rw [htk] at hq
      rcases List.mem_append.mp hq with hq | hq
      · exact dput_isSome _ _ _ _ (.inr (hall q hq))
      · rw [List.mem_singleton.mp hq]
        exact dput_isSome _ _ _ _ (.inl rfl)
end
section
-- 66 are_names: ["thing", "name"]
abbrev N66 : List Str := ["thing", "name"]
theorem sc66 : FnScope N66 ["thing"] (defScope (top 66)) := ⟨rfl, rfl, rfl, by decide +kernel, rfl, by decide +kernel, by decide +kernel⟩
theorem nm66 : visB N66 (defScope (top 66)) 0 "thing" = true ∧ gloB (defScope (top 66)) "isinstance" = true ∧ gloB (defScope (top 66)) "list" = true ∧ gloB (defScope (top 66)) "tuple" = true ∧ gloB (defScope (top 66)) "len" = true ∧ gloB (defScope (top 66)) "MOST_TAKES" = true ∧ gloB (defScope (top 66)) "all" = true ∧ gloB (defScope (top 66)) "set" = true :=
  ⟨by decide +kernel, by decide +kernel, by decide +kernel, by decide +kernel, by decide +kernel, by decide +kernel, by decide +kernel, by decide +kernel⟩
-- obtain ⟨n0, g_isinstance, g_list, g_tuple, g_len, g_MOST_TAKES, g_all, g_set⟩ := nm66
-- 67 is_let: ["thing"]
abbrev N67 : List Str := ["thing"]
theorem sc67 : FnScope N67 ["thing"] (defScope (top 67)) := ⟨rfl, rfl, rfl, by decide +kernel, rfl, by decide +kernel, by decide +kernel⟩
theorem nm67 : visB N67 (defScope (top 67)) 0 "thing" = true ∧ gloB (defScope (top 67)) "isinstance" = true ∧ gloB (defScope (top 67)) "tuple" = true ∧ gloB (defScope (top 67)) "len" = true ∧ gloB (defScope (top 67)) "is_name" = true ∧ gloB (defScope (top 67)) "Word" = true :=
  ⟨by decide +kernel, by decide +kernel, by decide +kernel, by decide +kernel, by decide +kernel, by decide +kernel⟩
-- obtain ⟨n0, g_isinstance, g_tuple, g_len, g_is_name, g_Word⟩ := nm67
-- 68 need_lets: ["takes", "lets", "known", "thing", "name"]
abbrev N68 : List Str := ["takes", "lets", "known", "thing", "name"]
theorem sc68 : FnScope N68 ["takes", "lets"] (defScope (top 68)) := ⟨rfl, rfl, rfl, by decide +kernel, rfl, by decide +kernel, by decide +kernel⟩
theorem nm68 : visB N68 (defScope (top 68)) 1 "lets" = true ∧ visB N68 (defScope (top 68)) 0 "takes" = true ∧ visB N68 (defScope (top 68)) 3 "thing" = true ∧ visB N68 (defScope (top 68)) 2 "known" = true ∧ locB true N68 (defScope (top 68)) 2 "known" = true ∧ locB true N68 (defScope (top 68)) 3 "thing" = true ∧ gloB (defScope (top 68)) "isinstance" = true ∧ gloB (defScope (top 68)) "list" = true ∧ gloB (defScope (top 68)) "tuple" = true ∧ gloB (defScope (top 68)) "len" = true ∧ gloB (defScope (top 68)) "MOST_LETS" = true ∧ gloB (defScope (top 68)) "NoCharter" = true ∧ gloB (defScope (top 68)) "is_let" = true ∧ gloB (defScope (top 68)) "all" = true :=
  ⟨by decide +kernel, by decide +kernel, by decide +kernel, by decide +kernel, by decide +kernel, by decide +kernel, by decide +kernel, by decide +kernel, by decide +kernel, by decide +kernel, by decide +kernel, by decide +kernel, by decide +kernel, by decide +kernel⟩
-- obtain ⟨n1, n0, n3, n2, l2, l3, g_isinstance, g_list, g_tuple, g_len, g_MOST_LETS, g_NoCharter, g_is_let, g_all⟩ := nm68
theorem ok_are_names {E : Ev} (t : Tx E) : Dg E 2 "are_names" (spAreNames E) := by
  refine dg_of (t.gd _ _ _ (by decide +kernel)) sc66 (fun vs H Q ⟨_, _, e, _⟩ => by rw [e]; rfl) fun X vs H Q c ⟨l, nms, e, hl, k1, k2, hn, nd, q⟩ => ?_
  subst e
  have B := t.B
  obtain ⟨n0, g_isinstance, g_list, g_tuple, g_len, g_MOST_TAKES, g_all, g_set⟩ := nm66
  have i1 := t.cints "MOST_TAKES" 5 (by decide +kernel)
  have d1 := p_is_name t
  walk_at "go"
  intro t1 ht1
  walk_at "go"
  have s1 : Same H (upd H t1 (.tup [V.ty "list", V.ty "tuple"])) := Same.new ht1
  refine isi_lt_l c (SqL.of (s1 _ _ hl)) upd_same ?_
  have hl1 := s1 _ _ hl
  walk_at "go"
  rw [List.length_map]
  walk_at "go"
  refine w_lcS c [("name", 1)] (by decide +kernel) (wi_list c ?_)
  walk_at "go"
  refine ⟨⟨_, SqL.of hl1⟩, lcS0 (src_list (SqL.of hl1)) (by rw [List.length_map]; omega) (fun _ y _ => y = .bl true) (fun _ _ _ _ _ h => h) (fun i y H' hi s2 hy Y cY => ?_) fun D ys H' hD s2 hl2 pr => ?_⟩
  · obtain ⟨x, hx, rfl⟩ := strs_at hy
    refine wg_name cY (by decide +kernel) ⟨wipe_one, Same.refl _, fun Y3 c3 => ?_⟩
    walk_at "go"
    exact ⟨hn x (List.mem_of_getElem? hx), fun H3 s3 => ⟨s3, rfl⟩⟩
  · walk_at "go"
    refine c_allT c hl2 pr ?_
    walk_at "go"
    have hl3 := s2 _ _ hl1
    refine ⟨l, nms, rfl, SqL.of hl3, nd, by omega, ?_⟩
    walk_at "go"
    rw [List.length_map, decide_eq_true rfl]
    exact q _ (s1.trans s2)
theorem ok_is_let {E : Ev} (t : Tx E) : Dg E 2 "is_let" (spIsLet E) := by
  refine dg_of (t.gd _ _ _ (by decide +kernel)) sc67 (fun vs H Q ⟨_, _, _, e, _⟩ => by rw [e]; rfl) fun X vs H Q c ⟨v, x, w, e, h, hx, q⟩ => ?_
  subst e
  have B := t.B
  obtain ⟨n0, g_isinstance, g_tuple, g_len, g_is_name, g_Word⟩ := nm67
  have hw := t.word
  have d1 := p_is_name t
  obtain ⟨t1, u, rfl, ht, hu⟩ := h
  have ht : SqT E.K H t1 [.str x, u] := ht
  have hu : Wo E H w u := hu
  walk_at "go"
  refine ⟨hx, fun H1 s1 => ?_⟩
  have ht1 := s1.tup ht
  walk_at "go"
  refine isi_word t c (hu.mono s1) ?_
  walk_at "go"
  refine w_mW0 c ?_
  walk_at "go"
  refine ⟨w, _, _, hu.mono s1, m_kind t w, by omega, _, rfl, ?_⟩
  walk_at "go"
  rw [kind_ne]
  exact q _ s1
theorem ok_need_lets {E : Ev} (t : Tx E) : Dg E 11 "need_lets" (spNeedLets E) := by
  refine dg_of (t.gd _ _ _ (by decide +kernel)) sc68 (fun vs H Q ⟨_, _, _, _, _, _, e, _⟩ => by rw [e]; rfl) fun X vs H Q c ⟨F, l1, l2, tk, lets, ys, e, sF, h1, h2, pl, k1, k2, k3, ok, q⟩ => ?_
  subst e
  have B := t.B
  obtain ⟨n1, n0, n3, n2, l2', l3, g_isinstance, g_list, g_tuple, g_len, g_MOST_LETS, g_NoCharter, g_is_let, g_all⟩ := nm68
  have i1 := t.cints "MOST_LETS" 20 (by decide +kernel)
  have d1 := ok_is_let t
  have hlen := Paired.length pl
  walk_at "go"
  intro t1 ht1
  walk_at "go"
  have s1 : Same H (upd H t1 (.tup [V.ty "list", V.ty "tuple"])) := Same.new ht1
  have h11 := s1 _ _ h1
  have h21 := s1 _ _ h2
  refine isi_lt_l c (SqL.of h21) upd_same ?_
  walk_at "go"
  intro kn hkn
  generalize hH1 : upd H t1 (.tup [V.ty "list", V.ty "tuple"]) = H1 at s1 h11 h21 hkn ⊢
  have s2 : Same H1 (upd H1 kn (.lst (tk.map V.str))) := Same.new hkn
  have h22 := s2 _ _ h21
  have kn0 := none_of s1 hkn
  have nl : l2 ≠ kn := fun z => by rw [z, hkn] at h21; cases h21
  walk_at "go"
  refine ws_forS c (wi_list c ?_)
  walk_at "go"
  refine ⟨⟨_, SqL.of h22⟩, forS (F := H1) (src_list (SqL.of h21)) (fun i σ H' => Same H1 H' ∧ ∃ kl o, H' kn = some (.lst (kl.map V.str)) ∧ kl.length = tk.length + i ∧ okNew kl (lets.drop i) ∧ σ = [some (.ref l1), some (.ref l2), some (.ref kn), o, none])
    ⟨s2, tk, none, upd_same, rfl, ok, rfl⟩ (fun i σ H h => h.1) ?_ ?_⟩
  · rintro σ H' ⟨s3, kl, o, _, _, _, rfl⟩
    walk_at "go"
    exact q _ (s1.trans s3)
  · rintro i σ H' y H2 hi ⟨s3, kl, o, hk, hkl, okn, rfl⟩ s4 hy
    obtain ⟨⟨x, w⟩, hq, tt, u, rfl, ht, hu⟩ := pair_at pl hy
    have ht : SqT E.K F tt [.str x, u] := ht
    have hu : Wo E F w u := hu
    have hdr : lets.drop i = (x, w) :: lets.drop (i + 1) := by
      rw [List.drop_eq_getElem_cons (by omega)]
      rw [List.getElem?_eq_getElem (by omega)] at hq
      injection hq with hq
      rw [hq]
    rw [hdr] at okn
    obtain ⟨o1, o2, o3, o4, o5, o6⟩ := okn
    have s5 := (sF.trans s1).trans (s3.trans s4)
    have ht2 := s5.tup ht
    have hu2 := hu.mono s5
    refine wg_name c l3 ?_
    walk_at "go"
    refine ⟨_, x, w, rfl, ⟨tt, u, rfl, ht2, hu2⟩, o1, fun H3 s6 => ?_⟩
    have ht3 := s6.tup ht2
    have hu3 := hu2.mono s6
    have hk3 := s6 _ _ (s4 _ _ hk)
    walk_at "go"
    refine o_in_l c (SqL.of hk3) rfl (flat_strs _) ?_
    rw [inV_str, decide_eq_false o2]
    walk_at "go"
    refine w_lcS c [("name", 4)] (by decide +kernel) (wi_list c (w_mW0 c ?_))
    walk_at "go"
    refine ⟨w, _, _, hu3, m_names t 8 w o4, by omega, _, rfl, hu3, o5, fun D nms H4 s7 hD hl7 hn7 hok7 => ?_⟩
    refine ⟨D, rfl, ⟨_, SqL.of hl7⟩, ?_⟩
    have hk4 := s7 _ _ hk3
    refine lcS0 (src_list (SqL.of hl7)) (by rw [List.length_map]; omega) (fun _ y _ => y = .bl true) (fun _ _ _ _ _ h => h) (fun j y H5 hj s8 hy8 Y cY => ?_) fun D2 ys2 H5 hD2 s8 hl8 pr8 => ?_
    · obtain ⟨z, hz, rfl⟩ := strs_at hy8
      refine wg_name cY (by decide +kernel) ⟨wipe_one, Same.refl _, fun Y3 c3 => ?_⟩
      walk_at "go"
      refine o_in_l c3 (SqL.of (s8 _ _ hk4)) rfl (flat_strs _) ⟨Same.refl _, ?_⟩
      rw [inV_str, decide_eq_true (hok7 _ o3 z (List.mem_of_getElem? hz))]
    · walk_at "go"
      refine c_allT c hl8 pr8 ?_
      have ht5 := (s7.trans s8).tup ht3
      have hk5 := s8 _ _ hk4
      walk_at "go"
      refine w_append c ?_
      walk_at "go"
      refine ⟨kn, _, rfl, hk5, ?_⟩
      walk_at "go"
      refine ⟨_, hk5, by rw [List.length_map]; exact Nat.lt_of_lt_of_le (show kl.length < 100000 by omega) (by decide), ?_⟩
      have sH : Same H1 (upd H5 kn (.lst (kl.map V.str ++ [.str x]))) := Same.mut (((s3.trans s4).trans s6).trans (s7.trans s8)) hkn
      exact ⟨sH, kl ++ [x], _, by rw [upd_same, List.map_append]; rfl, by rw [List.length_append, hkl]; rfl, o6, rfl⟩
theorem okNew_nd : ∀ {l : Ls} {kn : List Str}, okNew kn l → (l.map (·.1)).Nodup ∧ ∀ x ∈ l.map (·.1), x ∉ kn
  | [], kn, _ => ⟨List.nodup_nil, fun x h => by cases h⟩
  | (x, w) :: r, kn, ⟨h1, h2, h3, h4, h5, h6⟩ => by
    obtain ⟨a, b⟩ := okNew_nd h6
    refine ⟨List.nodup_cons.mpr ⟨fun hm => b x hm (by simp), a⟩, fun y hy => ?_⟩
    rcases List.mem_cons.mp hy with rfl | hy
    · exact h2
    · exact fun hm => b y hy (by simp [hm])
end
section
-- 69.0 __init__: ["self", "name", "takes", "lets"]
abbrev N69_0 : List Str := ["self", "name", "takes", "lets"]
theorem sc69_0 : FnScope N69_0 ["self", "name", "takes", "lets"] (defScope (inC 69 0)) := ⟨rfl, rfl, rfl, by decide +kernel, rfl, by decide +kernel, by decide +kernel⟩
theorem nm69_0 : visB N69_0 (defScope (inC 69 0)) 1 "name" = true ∧ visB N69_0 (defScope (inC 69 0)) 2 "takes" = true ∧ visB N69_0 (defScope (inC 69 0)) 3 "lets" = true ∧ visB N69_0 (defScope (inC 69 0)) 0 "self" = true ∧ gloB (defScope (inC 69 0)) "is_name" = true ∧ gloB (defScope (inC 69 0)) "are_names" = true ∧ gloB (defScope (inC 69 0)) "NoCharter" = true ∧ gloB (defScope (inC 69 0)) "need_lets" = true ∧ gloB (defScope (inC 69 0)) "list" = true ∧ gloB (defScope (inC 69 0)) "dict" = true :=
  ⟨by decide +kernel, by decide +kernel, by decide +kernel, by decide +kernel, by decide +kernel, by decide +kernel, by decide +kernel, by decide +kernel, by decide +kernel, by decide +kernel⟩
-- obtain ⟨n1, n2, n3, n0, g_is_name, g_are_names, g_NoCharter, g_need_lets, g_list, g_dict⟩ := nm69_0
theorem ok_charter {E : Ev} (t : Tx E) : Dk E 12 "Charter" (spCharter E) := by
  refine mk_of (D := "Charter") t (by decide +kernel) (spI := fun vs H2 Q => ∃ F H y dx nm l1 l2, ∃ tk : List Str, ∃ lets ys, vs = [.ref y, .str nm, .ref l1, .ref l2] ∧ Ini E "Charter" F H y dx H2 ∧ nameB nm = true ∧ H l1 = some (.lst (tk.map V.str)) ∧ H l2 = some (.lst ys) ∧ Paired (LetA E F) ys lets ∧ 1 ≤ tk.length ∧ tk.length ≤ 5 ∧ (∀ x ∈ tk, nameB x = true) ∧ tk.Nodup ∧
    1 ≤ lets.length ∧ lets.length ≤ 20 ∧ okNew tk lets ∧ ∀ F' H', Mkd F H F' H' → Ch E F' y tk lets → Q .non H') (df_of (t.fd _ _ _ _ _ (by decide +kernel)) sc69_0 (fun vs H Q ⟨_, _, _, _, _, _, _, _, _, _, e, _⟩ => by rw [e]; rfl) fun X vs H2 Q c ⟨F, H, y, dx, nm, l1, l2, tk, lets, ys, e, ⟨hy, s, n, sF⟩, hnm, h1, h2, pl, k1, k2, hn, nd, m1, m2, ok, q⟩ => ?_) fun vs H Q ⟨F, nm, l1, l2, tk, lets, ys, e, sF, hnm, h1, h2, pl, k1, k2, hn, nd, m1, m2, ok, q⟩ y H2 dx hn' s hy => ⟨F, H, y, dx, nm, l1, l2, tk, lets, ys, by rw [e], ⟨hy, s, hn', sF⟩, hnm, h1, h2, pl, k1, k2, hn, nd, m1, m2, ok, fun F' H' m w => ⟨rfl, q _ F' H' m hn' w⟩⟩
  subst e
  have B := t.B
  obtain ⟨n1, n2, n3, n0, g_is_name, g_are_names, g_NoCharter, g_need_lets, g_list, g_dict⟩ := nm69_0
  have d1 := p_is_name t
  have d2 := ok_are_names t
  have d3 := ok_need_lets t
  walk_at "go"
  refine ⟨hnm, fun H3 s3 => ?_⟩
  walk_at "go"
  have s23 := s.trans s3
  refine ⟨l1, tk, rfl, s23 _ _ h1, k1, k2, hn, nd, fun H4 s4 => ?_⟩
  walk_at "go"
  have s24 := s23.trans s4
  refine ⟨F, l1, l2, tk, lets, ys, rfl, sF.trans s24, s24 _ _ h1, s24 _ _ h2, pl, m1, m2, by omega, ok, fun H5 s5 => ?_⟩
  have s25 := s24.trans s5
  have hy5 := (s3.trans (s4.trans s5)) _ _ hy
  walk_at "go"
  refine ws_attr c ?_
  walk_at "go"
  refine ⟨y, _, _, _, rfl, hy5, t.T.at_ (C := "Charter") (by decide +kernel), (show 0 < 1000 by decide), ?_⟩
  rw [show putF "own" (.str nm) ([] : List (Str × V)) = ([("own", .str nm)] : List (Str × V)) from rfl]
  have s6 : Same H (upd H5 y (.ins (Ca E "Charter") dx [("own", .str nm)])) := Same.mut s25 n
  have hy6 : upd H5 y (.ins (Ca E "Charter") dx [("own", .str nm)]) y = some (.ins (Ca E "Charter") dx [("own", .str nm)]) := upd_same
  generalize upd H5 y (.ins (Ca E "Charter") dx [("own", .str nm)]) = H6 at s6 hy6
  have h16 := s6 _ _ h1
  have h26 := s6 _ _ h2
  refine wb_cons (ws_attr c ?_)
  walk_at "go"
  intro l hl
  have nly : l ≠ y := fun z => by rw [z, hy6] at hl; cases hl
  have hl0 := none_of s6 hl
  have hy7 := Same.new (o := .lst (tk.map V.str)) hl _ _ hy6
  walk_at "go"
  refine ⟨y, _, _, _, rfl, hy7, t.T.at_ (C := "Charter") (by decide +kernel), (show 1 < 1000 by decide), ?_⟩
  rw [show putF "taken_names" (.ref l) ([("own", .str nm)] : List (Str × V)) = ([("own", .str nm), ("taken_names", .ref l)] : List (Str × V)) from rfl]
  have s8 : Same H (upd (upd H6 l (.lst (tk.map V.str))) y (.ins (Ca E "Charter") dx [("own", .str nm), ("taken_names", .ref l)])) := Same.mut (s6.trans (Same.new hl)) n
  have hy8 : upd (upd H6 l (.lst (tk.map V.str))) y (.ins (Ca E "Charter") dx [("own", .str nm), ("taken_names", .ref l)]) y = some (.ins (Ca E "Charter") dx [("own", .str nm), ("taken_names", .ref l)]) := upd_same
  have hl8 : upd (upd H6 l (.lst (tk.map V.str))) y (.ins (Ca E "Charter") dx [("own", .str nm), ("taken_names", .ref l)]) l = some (.lst (tk.map V.str)) := by rw [upd_ne nly, upd_same]
  generalize upd (upd H6 l (.lst (tk.map V.str))) y (.ins (Ca E "Charter") dx [("own", .str nm), ("taken_names", .ref l)]) = H8 at s8 hy8 hl8
  have h28 := s8 _ _ h2
  obtain ⟨ps, kvs, e1, e2, e3, e4⟩ : ∃ (ps : List Addr) (kvs : List (Key × V)), ys = ps.map V.ref ∧ Paired (fun p kv => SqT E.K H8 p [kV kv.1, kv.2]) ps kvs ∧ Paired (KRp fun v w => Wo E F w v) kvs lets ∧ kvs.map (·.1) = (lets.map (·.1)).map Sum.inr := by
    clear h2 h26 h28 m1 m2 ok q
    induction pl with
    | nil => exact ⟨[], [], rfl, .nil, .nil, rfl⟩
    | @cons v qq r rs hq _ ih =>
      obtain ⟨ps, kvs, e1, e2, e3, e4⟩ := ih
      obtain ⟨tt, u, rfl, ht, hu⟩ := hq
      exact ⟨tt :: ps, (.inr qq.1, u) :: kvs, by rw [e1]; rfl, .cons ((sF.trans s8).tup ht) e2, .cons ⟨rfl, hu⟩ e3, by rw [List.map_cons, List.map_cons, List.map_cons, e4]⟩
  subst e1
  refine wb_one (ws_attr c ?_)
  walk_at "go"
  have ndk : (kvs.map (·.1)).Nodup := by
    rw [e4]
    exact List.Pairwise.map _ (fun a b h z => h (by injection z)) (okNew_nd ok).1
  refine c_dict_p c (SqL.of h28) e2 ndk fun d hd => ?_
  have ndy : d ≠ y := fun z => by rw [z, hy8] at hd; cases hd
  have ndl : d ≠ l := fun z => by rw [z, hl8] at hd; cases hd
  have hd0 := none_of s8 hd
  have hy9 := Same.new (o := .dK kvs) hd _ _ hy8
  walk_at "go"
  refine ⟨y, _, _, _, rfl, hy9, t.T.at_ (C := "Charter") (by decide +kernel), (show 2 < 1000 by decide), ?_⟩
  rw [show putF "words_by" (.ref d) ([("own", .str nm), ("taken_names", .ref l)] : List (Str × V)) = ([("own", .str nm), ("taken_names", .ref l), ("words_by", .ref d)] : List (Str × V)) from rfl]
  have s10 : Same H (upd (upd H8 d (.dK kvs)) y (.ins (Ca E "Charter") dx [("own", .str nm), ("taken_names", .ref l), ("words_by", .ref d)])) := Same.mut (s8.trans (Same.new hd)) n
  have c1 : upd F l (.lst (tk.map V.str)) d = none := by rw [upd_ne ndl]; exact none_of sF hd0
  have c2 : upd (upd F l (.lst (tk.map V.str))) d (.dK kvs) y = none := by rw [upd_ne (Ne.symm ndy), upd_ne (Ne.symm nly)]; exact none_of sF n
  have ff : Same F (upd (upd (upd F l (.lst (tk.map V.str))) d (.dK kvs)) y (.ins (Ca E "Charter") dx [("own", .str nm), ("taken_names", .ref l), ("words_by", .ref d)])) := ((Same.new (none_of sF hl0)).trans (Same.new c1)).trans (Same.new c2)
  refine q (upd (upd (upd F l (.lst (tk.map V.str))) d (.dK kvs)) y (.ins (Ca E "Charter") dx [("own", .str nm), ("taken_names", .ref l), ("words_by", .ref d)])) _ ⟨s10, ff, fun b o hb => ?_, fun b o hb => ?_⟩ ⟨⟨dx, .str nm, l, d, kvs, upd_same, by rw [upd_ne nly, upd_ne (Ne.symm ndl), upd_same], by rw [upd_ne ndy, upd_same], Paired.mapP e3 fun _ _ z => ⟨z.1, z.2.mono ff⟩⟩⟩
  · by_cases z : b = y
    · rw [z, upd_same] at hb ⊢
      exact hb
    · rw [upd_ne z] at hb ⊢
      by_cases z2 : b = d
      · rw [z2, upd_same] at hb ⊢
        exact hb
      · rw [upd_ne z2] at hb ⊢
        by_cases z1 : b = l
        · rw [z1, upd_same] at hb
          rw [z1, hl8]
          exact hb
        · rw [upd_ne z1] at hb
          exact s8 _ _ (sF _ _ hb)
  · by_cases z : b = y
    · rw [z]; exact .inr n
    · rw [upd_ne z] at hb
      by_cases z2 : b = d
      · rw [z2]; exact .inr hd0
      · rw [upd_ne z2] at hb
        by_cases z1 : b = l
        · rw [z1]; exact .inr hl0
        · rw [upd_ne z1] at hb
          exact .inl hb
end
local macro_rules | `(tactic| walk_at "bo") => `(tactic| first
  | refine o_add ?_
  | refine o_sub ?_
  | refine o_div (by omega) ?_
  | refine o_pow (by decide) ?_
  | refine o_mod (by omega) ?_
  | refine o_mulR ?_
  | refine o_mulL ?_)
local macro_rules | `(tactic| walk_at "pr") => `(tactic| ((with_reducible show spMixed _ _ _); refine ⟨_, _, rfl, by omega, ?_⟩))
local macro_rules | `(tactic| walk_at "ex") => `(tactic| refine w_sliceS ‹Cxt _ _ _ _ _ _› ?_)
section
-- 88 _law_not_now: ["_law_ledger", "_law_e", "error"]
abbrev N88 : List Str := ["_law_ledger", "_law_e", "error"]
theorem sc88 : FnScope N88 ["_law_ledger"] (defScope (top 88)) := ⟨rfl, rfl, rfl, by decide +kernel, rfl, by decide +kernel, by decide +kernel⟩
theorem nm88 : visB N88 (defScope (top 88)) 0 "_law_ledger" = true ∧ visB N88 (defScope (top 88)) 2 "error" = true ∧ visB N88 (defScope (top 88)) 1 "_law_e" = true ∧ locB true N88 (defScope (top 88)) 1 "_law_e" = true ∧ gloB (defScope (top 88)) "LevyError" = true ∧ gloB (defScope (top 88)) "isinstance" = true ∧ gloB (defScope (top 88)) "NotNow" = true :=
  ⟨by decide +kernel, by decide +kernel, by decide +kernel, by decide +kernel, by decide +kernel, by decide +kernel, by decide +kernel⟩
-- obtain ⟨n0, n2, n1, l1, g_LevyError, g_isinstance, g_NotNow⟩ := nm88
abbrev veBases : List Value := [.type "ValueError", .type "Exception", .type "BaseException", .type "object"]
/-- the text's errors as they stand in the base -/
structure TxE (E : Ev) : Prop where
  mgN : E.mg "NotNow" = some (.ref (Ca E "NotNow"))
  mgL : E.mg "LevyError" = some (.ref (Ca E "LevyError"))
  exN : PySem.W.excIn E.K (Ca E "NotNow") veBases "ValueError.__new__" = true
  keepN : PySem.W.keepIn E.K (.ref (Ca E "NotNow")) = true
  subN : PySem.W.subIn E.K (.ref (Ca E "NotNow")) (.type "BaseException") = some true
  typN : PySem.W.typeIn E.K (.ref (Ca E "NotNow")) = some (.type "type")
  exm : PySem.W.exmOne E.K (.ref (Ca E "NotNow")) (.ref (Ca E "LevyError")) = some true
  exc : ExcC E.K (Ca E "NotNow")
  kit : PySem.W.kitOne E.K (.ref (Ca E "NotNow")) (.ref (Ca E "NotNow")) = some true
def spUndoX (E : Ev) : Sp := fun vs H Q EK => ∃ F p S os, vs = [.ref p] ∧ Led E F H p S os ∧ S.past = [] ∧ ∀ H', Same H H' → EK (.ref (Ca E "NotNow")) none H'
theorem undo_raises {E : Ev} (t : Tx E) (tx : TxE E) : ∃ fd ps, FnOk E.P E.w E.K E.mg E.base (L2.CX E.P E.w) 1 (Ma E "Ledger" "undo") fd ps (spUndoX E) ∧ Binds E.K fd ps [] ∧ PySem.W.keepIn E.K (.ref (Ma E "Ledger" "undo")) = true := by
  obtain ⟨fd, x, qual, dvs, kws, F, B⟩ := (t.fd "Ledger" "undo" 35 5 ["self"] (by decide +kernel)).ex
  refine ⟨fd, ["self"], F.ok sc35_5 (fun vs H Q EK ⟨_, _, _, _, e, _⟩ => by rw [e]; rfl) fun cdv A outer s H vs Q EK hr ⟨F0, p, S, os, e, hL, hS, q⟩ => ?_, B, F.kp⟩
  subst e
  have c : Cxt E 0 N35_5 (defScope (inC 35 5)) true (cxOf (L2.CX E.P E.w) E.P E.w E.K E.mg E.base N35_5 qual (defScope (inC 35 5)) (Ma E "Ledger" "undo") cdv A outer s H EK).nox := ⟨rfl, rfl, rfl, rfl, rfl, rfl, sc35_5.nd, rfl, hr, rfl, fun _ _ => rfl, rfl⟩
  refine ⟨_, pss_cons (ps_if (PT.nox wt_pt) (pss_one (ps_raise rfl (takes_of rfl rfl rfl rfl) (pmk_own PySem.F.excBase_ValueError tx.exN tx.mgN tx.keepN (raises_own tx.subN tx.typN) rfl))) pss_nil) (PSs.nox wb_pss), ?_⟩
  obtain ⟨dx, ch, cd, rl, pl, nl, pls, ns, come, h, e, hc⟩ := id hL
  have n0 := nm35_5.1
  have hp := h.hp
  have hpl := Paired.length h.hps
  rw [hS] at hpl
  have hpl0 : pls = [] := List.length_eq_zero_iff.mp hpl
  show WT _ _ _ _ _
  walk_at "go"
  intro l hl
  have s1 : Same H (upd H l (.lst [])) := Same.new hl
  refine o_eq_nil c (SqL.of (s1 _ _ h.hpl)) (SqL.of upd_same) ?_
  refine ⟨_, rfl, ?_⟩
  rw [hpl0]
  refine iteT ?_
  exact q _ s1
def spNotNow (E : Ev) : Pr := fun vs H Q => ∃ F p S os, vs = [.ref p] ∧ Led E F H p S os ∧ S.past = [] ∧ ∀ H', Same H H' → Q (.bl true) H'
theorem inv_tr {X : Cx} {pins : List (Addr × Obj)} {q : Addr × Obj} {σ : L2.St} {H : Hp} {s : Shared} (I : Inv X (q :: pins) σ H s) : Inv (X.tr (q :: X.pn) X.xe) pins σ H s where
  ok := I.ok.toTry _ _
  os := I.os
  bare := I.bare
  base := I.base
  loc := I.loc
  cell := I.cell
  free := I.free
  freeC := I.freeC
  hok := I.hok
  len := I.len
  pin := fun p hp => by
    refine I.pin p ?_
    rcases List.mem_append.mp hp with h | h
    · rcases List.mem_cons.mp h with h | h
      · rw [h]; exact List.mem_append_right _ List.mem_cons_self
      · exact List.mem_append_left _ h
    · exact List.mem_append_right _ (List.mem_cons_of_mem _ h)
theorem inv_untr {X : Cx} {pins : List (Addr × Obj)} {q : Addr × Obj} {σ : L2.St} {H : Hp} {s : Shared} (ok : X.Ok) (I : Inv (X.tr (q :: X.pn) X.xe) pins σ H s) : Inv X pins σ H s where
  ok := ok
  os := I.os
  bare := I.bare
  base := I.base
  loc := I.loc
  cell := I.cell
  free := I.free
  freeC := I.freeC
  hok := I.hok
  len := I.len
  pin := fun p hp => by
    refine I.pin p ?_
    rcases List.mem_append.mp hp with h | h
    · exact List.mem_append_left _ (List.mem_cons_of_mem _ h)
    · exact List.mem_append_right _ h
theorem sp_untr {X : Cx} {pins : List (Addr × Obj)} {q : Addr × Obj} {D : Ends} {f : Flow} {s : Shared} (ok : X.Ok) (h : SP (X.tr (q :: X.pn) X.xe) pins D f s) : SP X pins D f s := by
  cases f with
  | next => obtain ⟨σ', H', I', q⟩ := h; exact ⟨σ', H', inv_untr ok I', q⟩
  | ret v => obtain ⟨x, σ', H', I', r, q⟩ := h; exact ⟨x, σ', H', inv_untr ok I', r, q⟩
  | brk => obtain ⟨σ', H', I', q⟩ := h; exact ⟨σ', H', inv_untr ok I', q⟩
  | cont => obtain ⟨σ', H', I', q⟩ := h; exact ⟨σ', H', inv_untr ok I', q⟩
/-- isinstance of the error that is kept -/
theorem wc_noted {X : Cx} {a D : Addr} {oe : Obj} {H : Hp} {Q : VK} (C : ExcC X.K D) (hm : (a, oe) ∈ X.pn) (hz : Zc (.ref D) none oe) (hf : ∃ vs, oe.data = .fields vs) (hk : PySem.W.kitOne X.K (.ref D) (.ref D) = some true) (q : Q (.bl true) H) : WC X (.builtin "isinstance") [.ref a, .ref D] H Q := by
  refine ⟨fun pins s σ us I r => ?_⟩
  cases r with
  | cons rx rr =>
    cases rr with
    | cons rt rr =>
      cases rr
      cases rx
      cases rt
      obtain ⟨hget, _⟩ := I.pin (a, oe) (List.mem_append_left _ hm)
      obtain ⟨vs, hv⟩ := hf
      have J : PySem.W.InstAt s.heap a oe D none := by
        obtain ⟨oc, od, oda, osl⟩ := oe
        obtain ⟨h1, h2⟩ := hz
        dsimp only at h1 h2 hv
        subst h1 h2 hv
        exact ⟨hget, rfl, rfl, trivial⟩
      exact PySem.W.kia_one (PySem.W.handS_kitx_exc C.hg C.hk C.hs C.hd C.ha C.hn C.ht C.hm) I.kIn J hk (fun z => nomatch z) fun tk => ⟨.bl true, H, I.kept (t' := tk) fun _ _ z => z, rfl, q⟩
theorem ok_not_now {E : Ev} (t : Tx E) (tx : TxE E) : Dg E 2 "_law_not_now" (spNotNow E) := by
  obtain ⟨f, hm, FDx⟩ := t.gd "_law_not_now" 88 ["_law_ledger"] (by decide +kernel)
  obtain ⟨fd, x, qual, dvs, kws, F, Bn⟩ := FDx.ex
  refine ⟨f, hm, fd, ["_law_ledger"], F.ok sc88 (fun vs H Q EK ⟨_, _, _, _, e, _⟩ => by rw [e]; rfl) fun cdv A outer s H vs Q EK hr ⟨F0, p, S, os, e, hL, hS, q⟩ => ?_, Bn, F.kp⟩
  subst e
  have B := t.B
  obtain ⟨n0, n2, n1, l1, g_LevyError, g_isinstance, g_NotNow⟩ := nm88
  generalize hX : (cxOf CX0 E.P E.w E.K E.mg E.base N88 qual (defScope (top 88)) f cdv A outer s H EK).nox = X
  have c : Cxt E 1 N88 (defScope (top 88)) true X := by
    rw [← hX]
    exact ⟨rfl, rfl, rfl, rfl, rfl, rfl, sc88.nd, rfl, hr, rfl, fun _ _ => rfl, rfl⟩
  have hst : X.stack = X.env :: X.outer := by rw [← hX]; rfl
  have hfr : X.env.frame = some X.env.locals := by rw [← hX]; rfl
  refine ⟨WB X (defBody (top 88)), hX ▸ PSs.nox wb_pss, ?_⟩
  refine wb_cons (ws_set c l1 (w_none ?_))
  refine ⟨fun pins s I => wpAny_execs_cons ?_⟩
  refine try_note (X := X) (i := 2) (j := 1) (c := .ref (Ca E "LevyError")) (cls := .ref (Ca E "NotNow")) (P := fun H' => Same H H') hst hfr (by rw [c.hN]; exact c.nd) (by rw [c.hN]; rfl) (by show X.env.scope.names.lookup _ = _; rw [c.hsc]; decide +kernel) ?_ (by rw [c.hN]; rfl) (by rw [c.hsc]; decide +kernel) (by rw [c.hsc]; exact ⟨.inl (by decide +kernel), by decide +kernel, by decide +kernel⟩) (by show 2 < 3; omega) (by rw [c.hK]; exact tx.exm) ?_ (fun env => rfl) I ?_
  · obtain ⟨h1, h2, h3⟩ := c.glo g_LevyError
    exact ⟨h1, h2, .inl (by rw [c.hmg]; exact tx.mgL)⟩
  · intro pn xe tk s2 I2
    have cY : Cxt E 1 N88 (defScope (top 88)) true (X.tr pn xe).nox := ⟨c.hprog, c.hw, c.hK, c.hmg, c.hbase, c.hN, c.nd, c.hsc, c.room, c.calm, c.fn, rfl⟩
    obtain ⟨dx, ch, cd, rl, pl, nl, pls, ns, come, h, eo, hc⟩ := id hL
    obtain ⟨fdu, psu, Fu, Bu, Ku⟩ := undo_raises t tx
    obtain ⟨hC, hM⟩ := t.T.meth "Ledger" "undo" "Ledger" (by decide +kernel)
    refine wpAny_mono ((pss_one (X := X.tr pn xe) (ps_expr (te := fun σ' H' Q' => σ' = (L2.start N88 [.ref p]).set 1 (some .non) ∧ H' = H) ?_)).run [] s2 _ H { nx := fun _ _ => False, rt := fun _ _ => False, bk := fun _ _ => False, ct := fun _ _ => False } I2 ⟨rfl, rfl⟩) (fun f s3 h3 => ?_) fun _ _ z => z
    · refine ⟨fun pins3 s3 σ3 H3 Q3 I3 ⟨e1, e2⟩ => ?_⟩
      subst e1 e2
      refine PySem.W.methodCall_KW (pl := _) (thn ((PE.nox (w_pe (X := (X.tr pn xe).nox))).run pins3 s3 _ _ (fun y H4 => y = .ref p ∧ H4 = H3) I3 (w_name cY n0 rfl ⟨rfl, rfl⟩)) fun u s1 ⟨y, H1, I1, rx, ey, eH⟩ => ?_) (by rfl)
      subst ey eH
      obtain rfl : u = Value.ref p := rx
      refine getmeth_ok I1 h.hp (by show Cls X.K _; rw [c.hK]; exact hC) (by show Meth X.K _ _ _; rw [c.hK]; exact hM) (led_no (by decide +kernel)) ?_
      have Fu' : FnOk (X.tr pn xe).prog (X.tr pn xe).w (X.tr pn xe).K (X.tr pn xe).mg (X.tr pn xe).base (L2.CX (X.tr pn xe).prog (X.tr pn xe).w) 1 (Ma E "Ledger" "undo") fdu psu (spUndoX E) := by
        show FnOk X.prog X.w X.K X.mg X.base (L2.CX X.prog X.w) 1 _ fdu psu _
        rw [c.hprog, c.hw, c.hK, c.hmg, c.hbase]
        exact Fu
      refine PySem.W.callWith_K0 (first := [.ref p]) I1.kIn (by show PySem.W.keepIn X.K _ = true; rw [c.hK]; exact Ku) (run_fnS (us := [.ref p]) (vs := [.ref p]) Fu' c.room (by show L2.Binds X.K _ _ _; rw [c.hK]; exact Bu) (passAt tk _) I1 (.cons rfl .nil) ?_)
      exact ⟨F0, p, S, os, rfl, hL, hS, fun H' s' => ⟨rfl, rfl, rfl, s'⟩⟩
    · cases f with
      | next => obtain ⟨_, _, _, z⟩ := h3; exact z
      | ret v => obtain ⟨_, _, _, _, _, z⟩ := h3; exact z
      | brk => obtain ⟨_, _, _, z⟩ := h3; exact z
      | cont => obtain ⟨_, _, _, z⟩ := h3; exact z
  · intro a oe H' s' s1 hz hf I3
    have I4 := inv_tr I3
    have c2 : Cxt E 1 N88 (defScope (top 88)) true (X.tr ((a, oe) :: X.pn) X.xe) := ⟨c.hprog, c.hw, c.hK, c.hmg, c.hbase, c.hN, c.nd, c.hsc, c.room, c.calm, c.fn, c.xe⟩
    clear c
    refine wpAny_mono (WB.run (X := X.tr ((a, oe) :: X.pn) X.xe) (D := { nx := fun _ H' => Q .non H', rt := Q }) (H := H') ?_ pins s' I4) (fun f s3 h3 => sp_untr I.ok h3) fun _ _ z => z
    refine wb_one (ws_ret (w_isi c2 B g_isinstance (wa_cons (w_name c2 n1 rfl (wa_cons (w_gref c2 g_NotNow tx.mgN (wa_nil ?_)))))))
    exact wc_noted (by rw [c2.hK]; exact tx.exc) List.mem_cons_self hz hf (by rw [c2.hK]; exact tx.kit) (q _ s1)
end
section
/-! ### the text's facts from the head -/
/-- a def whose arguments are all given -/
def BP (d : He.DefD) (ps : List Str) : Prop := ∀ (K : PySem.W.Frag) (f : Addr) (fd : FuncData), FunD K d.name d.qual d.params d.body d.scope (d.dvs K) (d.kws K) f fd → Binds K fd ps []
theorem bp0 {d : He.DefD} {ps : List Str} (h1 : d.dfl = []) (h2 : d.kwd = []) (h : ∀ (kV doc pm : Value) (an : Option Addr) (cdv ct : Value) (us : List Value), us.length = ps.length → bindArgs (PySem.W.fnOf d.name d.qual d.params d.body d.scope .none kV doc pm an cdv ct) ⟨us, []⟩ = pure (ps.zip us)) : BP d ps := fun K f fd F => by
  have e1 : d.dvs K = [] := by unfold He.DefD.dvs; rw [h1]; rfl
  have e2 : d.kws K = [] := by unfold He.DefD.kws; rw [h2]; rfl
  rw [e1, e2] at F
  exact F.bindsN h
theorem bp1 {d : He.DefD} {ps : List Str} {v : He.Dv} (h1 : d.dfl = [v]) (h2 : d.kwd = [])
    (h : ∀ (T : Addr) (kV doc pm : Value) (an : Option Addr) (cdv ct : Value) (us its : List Value), us.length = ps.length → its.length = 1 →
      ∃ k, bindArgs (PySem.W.fnOf d.name d.qual d.params d.body d.scope (.ref T) kV doc pm an cdv ct) ⟨us, []⟩ = seqItems? (.ref T) >>= k ∧ k (some its.toArray) = pure (ps.zip us)) : BP d ps := fun K f fd F => by
  have e1 : d.dvs K = [v.v K] := by unfold He.DefD.dvs; rw [h1]; rfl
  have e2 : d.kws K = [] := by unfold He.DefD.kws; rw [h2]; rfl
  rw [e1, e2] at F
  obtain ⟨ds, hv, B⟩ := F.binds1 (ps := ps) ps.length 1 (by intro e; cases e) (by show ps.length + 0 = _; rw [Nat.add_zero]) fun T kV doc pm an cdv ct us its hu hi => by
    obtain ⟨k, hk1, hk2⟩ := h T kV doc pm an cdv ct us its hu hi
    refine ⟨k, hk1, ?_⟩
    rw [hk2, show its.drop 1 = [] from List.drop_eq_nil_of_le (Nat.le_of_eq hi), List.append_nil]
  cases hv
  exact B
local macro_rules | `(tactic| walk_at "b1") => `(tactic| (refine bp0 (by decide +kernel) rfl ?_; exact fun _ _ _ _ _ _ us hl => match us, hl with | [_], _ => by kernel_rfl))
local macro_rules | `(tactic| walk_at "b2") => `(tactic| (refine bp0 (by decide +kernel) rfl ?_; exact fun _ _ _ _ _ _ us hl => match us, hl with | [_, _], _ => by kernel_rfl))
local macro_rules | `(tactic| walk_at "b3") => `(tactic| (refine bp0 (by decide +kernel) rfl ?_; exact fun _ _ _ _ _ _ us hl => match us, hl with | [_, _, _], _ => by kernel_rfl))
local macro_rules | `(tactic| walk_at "b4") => `(tactic| (refine bp0 (by decide +kernel) rfl ?_; exact fun _ _ _ _ _ _ us hl => match us, hl with | [_, _, _, _], _ => by kernel_rfl))
local macro_rules | `(tactic| walk_at "b5") => `(tactic| (refine bp0 (by decide +kernel) rfl ?_; exact fun _ _ _ _ _ _ us hl => match us, hl with | [_, _, _, _, _], _ => by kernel_rfl))
local macro_rules | `(tactic| walk_at "bpart") => `(tactic| (refine bp1 (v := .int 1) (by show (if ("part" : Str) = "part" then ([.int 1] : List He.Dv) else []) = [.int 1]; exact if_pos rfl) rfl ?_; exact fun _ _ _ _ _ _ _ us its hl hi => match us, hl, its, hi with | [_, _], _, [_], _ => ⟨_, rfl, rfl⟩))
local macro_rules | `(tactic| walk_at "binit") => `(tactic| (refine bp1 (v := .non) (by show (if ("Ledger" : Str) = "Ledger" ∧ ("__init__" : Str) = "__init__" then ([.non] : List He.Dv) else []) = [.non]; exact if_pos ⟨rfl, rfl⟩) rfl ?_; exact fun _ _ _ _ _ _ _ us its hl hi => match us, hl, its, hi with | [_, _, _], _, [_], _ => ⟨_, rfl, rfl⟩))
theorem bp_gd : ∀ q ∈ gdTab, BP (dGd q) q.2.2 := 
  List.forall_mem_cons.mpr ⟨by walk_at "b1",
  List.forall_mem_cons.mpr ⟨by walk_at "b2",
  List.forall_mem_cons.mpr ⟨by walk_at "b1",
  List.forall_mem_cons.mpr ⟨by walk_at "bpart",
  List.forall_mem_cons.mpr ⟨by walk_at "b2",
  List.forall_mem_cons.mpr ⟨by walk_at "b2",
  List.forall_mem_cons.mpr ⟨by walk_at "b2",
  List.forall_mem_cons.mpr ⟨by walk_at "b2",
  List.forall_mem_cons.mpr ⟨by walk_at "b2",
  List.forall_mem_cons.mpr ⟨by walk_at "b2",
  List.forall_mem_cons.mpr ⟨by walk_at "b2",
  List.forall_mem_cons.mpr ⟨by walk_at "b2",
  List.forall_mem_cons.mpr ⟨by walk_at "b2",
  List.forall_mem_cons.mpr ⟨by walk_at "b2",
  List.forall_mem_cons.mpr ⟨by walk_at "b1",
  List.forall_mem_cons.mpr ⟨by walk_at "b1",
  List.forall_mem_cons.mpr ⟨by walk_at "b1",
  List.forall_mem_cons.mpr ⟨by walk_at "b1",
  List.forall_mem_cons.mpr ⟨by walk_at "b1",
  List.forall_mem_cons.mpr ⟨by walk_at "b1",
  List.forall_mem_cons.mpr ⟨by walk_at "b3",
  List.forall_mem_cons.mpr ⟨by walk_at "b2",
  List.forall_mem_cons.mpr ⟨by walk_at "b1",
  List.forall_mem_cons.mpr ⟨by walk_at "b1",
  List.forall_mem_cons.mpr ⟨by walk_at "b1",
  List.forall_mem_cons.mpr ⟨by walk_at "b2",
  List.forall_mem_cons.mpr ⟨by walk_at "b2",
  List.forall_mem_cons.mpr ⟨by walk_at "b2",
  List.forall_mem_cons.mpr ⟨by walk_at "b2",
  List.forall_mem_cons.mpr ⟨by walk_at "b2",
  List.forall_mem_cons.mpr ⟨by walk_at "b2",
  List.forall_mem_cons.mpr ⟨by walk_at "b2",
  List.forall_mem_cons.mpr ⟨by walk_at "b1",
  List.forall_mem_cons.mpr ⟨by walk_at "b2",
  List.forall_mem_cons.mpr ⟨by walk_at "b2",
  List.forall_mem_cons.mpr ⟨by walk_at "b2",
  List.forall_mem_cons.mpr ⟨by walk_at "b2",
  List.forall_mem_cons.mpr ⟨by walk_at "b3",
  List.forall_mem_cons.mpr ⟨by walk_at "b2",
  List.forall_mem_cons.mpr ⟨by walk_at "b4",
  List.forall_mem_cons.mpr ⟨by walk_at "b2",
  List.forall_mem_cons.mpr ⟨by walk_at "b1",
  List.forall_mem_cons.mpr ⟨by walk_at "b3",
  List.forall_mem_cons.mpr ⟨by walk_at "b1",
  List.forall_mem_cons.mpr ⟨by walk_at "b3",
  List.forall_mem_cons.mpr ⟨by walk_at "b5",
  List.forall_mem_cons.mpr ⟨by walk_at "b1",
  List.forall_mem_cons.mpr ⟨by walk_at "b4",
  List.forall_mem_cons.mpr ⟨by walk_at "b1",
  fun q hq => nomatch hq⟩⟩⟩⟩⟩⟩⟩⟩⟩⟩⟩⟩⟩⟩⟩⟩⟩⟩⟩⟩⟩⟩⟩⟩⟩⟩⟩⟩⟩⟩⟩⟩⟩⟩⟩⟩⟩⟩⟩⟩⟩⟩⟩⟩⟩⟩⟩⟩⟩
theorem bp_fd : ∀ q ∈ fdTab, BP (dFd q) q.2.2.2.2 := 
  List.forall_mem_cons.mpr ⟨by walk_at "binit",
  List.forall_mem_cons.mpr ⟨by walk_at "b2",
  List.forall_mem_cons.mpr ⟨by walk_at "b2",
  List.forall_mem_cons.mpr ⟨by walk_at "b2",
  List.forall_mem_cons.mpr ⟨by walk_at "b3",
  List.forall_mem_cons.mpr ⟨by walk_at "b1",
  List.forall_mem_cons.mpr ⟨by walk_at "b1",
  List.forall_mem_cons.mpr ⟨by walk_at "b1",
  List.forall_mem_cons.mpr ⟨by walk_at "b1",
  List.forall_mem_cons.mpr ⟨by walk_at "b2",
  List.forall_mem_cons.mpr ⟨by walk_at "b2",
  List.forall_mem_cons.mpr ⟨by walk_at "b2",
  List.forall_mem_cons.mpr ⟨by walk_at "b1",
  List.forall_mem_cons.mpr ⟨by walk_at "b2",
  List.forall_mem_cons.mpr ⟨by walk_at "b2",
  List.forall_mem_cons.mpr ⟨by walk_at "b1",
  List.forall_mem_cons.mpr ⟨by walk_at "b1",
  List.forall_mem_cons.mpr ⟨by walk_at "b1",
  List.forall_mem_cons.mpr ⟨by walk_at "b1",
  List.forall_mem_cons.mpr ⟨by walk_at "b1",
  List.forall_mem_cons.mpr ⟨by walk_at "b2",
  List.forall_mem_cons.mpr ⟨by walk_at "b2",
  List.forall_mem_cons.mpr ⟨by walk_at "b1",
  List.forall_mem_cons.mpr ⟨by walk_at "b2",
  List.forall_mem_cons.mpr ⟨by walk_at "b2",
  List.forall_mem_cons.mpr ⟨by walk_at "b1",
  List.forall_mem_cons.mpr ⟨by walk_at "b1",
  List.forall_mem_cons.mpr ⟨by walk_at "b2",
  List.forall_mem_cons.mpr ⟨by walk_at "b3",
  List.forall_mem_cons.mpr ⟨by walk_at "b1",
  List.forall_mem_cons.mpr ⟨by walk_at "b3",
  List.forall_mem_cons.mpr ⟨by walk_at "b2",
  List.forall_mem_cons.mpr ⟨by walk_at "b1",
  List.forall_mem_cons.mpr ⟨by walk_at "b3",
  List.forall_mem_cons.mpr ⟨by walk_at "b1",
  List.forall_mem_cons.mpr ⟨by walk_at "b3",
  List.forall_mem_cons.mpr ⟨by walk_at "b1",
  List.forall_mem_cons.mpr ⟨by walk_at "b3",
  List.forall_mem_cons.mpr ⟨by walk_at "b1",
  List.forall_mem_cons.mpr ⟨by walk_at "b3",
  List.forall_mem_cons.mpr ⟨by walk_at "b3",
  List.forall_mem_cons.mpr ⟨by walk_at "b1",
  List.forall_mem_cons.mpr ⟨by walk_at "b1",
  List.forall_mem_cons.mpr ⟨by walk_at "b2",
  List.forall_mem_cons.mpr ⟨by walk_at "b2",
  List.forall_mem_cons.mpr ⟨by walk_at "b1",
  List.forall_mem_cons.mpr ⟨by walk_at "b2",
  List.forall_mem_cons.mpr ⟨by walk_at "b5",
  List.forall_mem_cons.mpr ⟨by walk_at "b1",
  List.forall_mem_cons.mpr ⟨by walk_at "b1",
  List.forall_mem_cons.mpr ⟨by walk_at "b2",
  List.forall_mem_cons.mpr ⟨by walk_at "b4",
  List.forall_mem_cons.mpr ⟨by walk_at "b1",
  List.forall_mem_cons.mpr ⟨by walk_at "b1",
  List.forall_mem_cons.mpr ⟨by walk_at "b2",
  fun q hq => nomatch hq⟩⟩⟩⟩⟩⟩⟩⟩⟩⟩⟩⟩⟩⟩⟩⟩⟩⟩⟩⟩⟩⟩⟩⟩⟩⟩⟩⟩⟩⟩⟩⟩⟩⟩⟩⟩⟩⟩⟩⟩⟩⟩⟩⟩⟩⟩⟩⟩⟩⟩⟩⟩⟩⟩⟩
/-! ### the facts -/
section
variable {K : PySem.W.Frag} {h : Heap} {mg : Str → Option Value} {w : World}
theorem fa_glo (c : He.SaysT hFa hFn hTs w K) {x : Str} (hx : x ∈ gloNms) : (He.Fa.glo x).ok K = true :=
  c.d.facts (List.mem_append_right _ (List.mem_append_left _ (List.mem_map.mpr ⟨x, hx, rfl⟩)))
theorem fa_gd (c : He.SaysT hFa hFn hTs w K) {q : Str × Nat × List Str} (hq : q ∈ gdTab) : (He.Fa.glo q.1).ok K = true :=
  c.d.facts (List.mem_append_left _ (List.mem_map.mpr ⟨q, hq, rfl⟩))
theorem fa_free (c : He.SaysT hFa hFn hTs w K) {x : Str} (hx : x ∈ blNames) : (He.Fa.free x).ok K = true :=
  c.d.facts (List.mem_append_right _ (List.mem_append_right _ (List.mem_append_left _ (List.mem_map.mpr ⟨x, hx, rfl⟩))))
theorem fa_int (c : He.SaysT hFa hFn hTs w K) {q : Str × Int} (hq : q ∈ intTab) : (He.Fa.int q.1 q.2).ok K = true :=
  c.d.facts (List.mem_append_right _ (List.mem_append_right _ (List.mem_append_right _ (List.mem_append_left _ (List.mem_map.mpr ⟨q, hq, rfl⟩)))))
theorem fa_str (c : He.SaysT hFa hFn hTs w K) : (He.Fa.str "LETTERS" lettersS).ok K = true :=
  c.d.facts (List.mem_append_right _ (List.mem_append_right _ (List.mem_append_right _ (List.mem_append_right _ (List.mem_append_left _ List.mem_cons_self)))))
theorem fa_cls (c : He.SaysT hFa hFn hTs w K) {x : Str} (hx : x ∈ clsNms) : (He.Fa.cls x).ok K = true :=
  c.d.facts (List.mem_append_right _ (List.mem_append_right _ (List.mem_append_right _ (List.mem_append_right _ (List.mem_append_right _ (List.mem_append_left _ (List.mem_map.mpr ⟨x, hx, rfl⟩)))))))
theorem fa_at (c : He.SaysT hFa hFn hTs w K) {q : Str × Str} (hq : q ∈ atTab) : (He.Fa.noat q.1 q.2).ok K = true :=
  c.d.facts (List.mem_append_right _ (List.mem_append_right _ (List.mem_append_right _ (List.mem_append_right _ (List.mem_append_right _ (List.mem_append_right _ (List.mem_append_left _ (List.mem_map.mpr ⟨q, hq, rfl⟩))))))))
theorem fa_me (c : He.SaysT hFa hFn hTs w K) {q : Str × Str × Str} (hq : q ∈ meTab) : (He.Fa.meth q.1 q.2.1).ok K = true :=
  c.d.facts (List.mem_append_right _ (List.mem_append_right _ (List.mem_append_right _ (List.mem_append_right _ (List.mem_append_right _ (List.mem_append_right _ (List.mem_append_right _ (List.mem_append_left _ (List.mem_map.mpr ⟨q, hq, rfl⟩)))))))))
theorem fa_mk (c : He.SaysT hFa hFn hTs w K) {q : Str × Str} (hq : q ∈ mkTab) : (He.Fa.mkr q.1).ok K = true :=
  c.d.facts (List.mem_append_right _ (List.mem_append_right _ (List.mem_append_right _ (List.mem_append_right _ (List.mem_append_right _ (List.mem_append_right _ (List.mem_append_right _ (List.mem_append_right _ (List.mem_append_left _ (List.mem_map.mpr ⟨q, hq, rfl⟩))))))))))
theorem fa_end (c : He.SaysT hFa hFn hTs w K) {f : He.Fa} (hf : f ∈ ([.exc "NotNow", .exm "NotNow" "LevyError" true, .glo "law"] : List He.Fa)) : f.ok K = true :=
  c.d.facts (List.mem_append_right _ (List.mem_append_right _ (List.mem_append_right _ (List.mem_append_right _ (List.mem_append_right _ (List.mem_append_right _ (List.mem_append_right _ (List.mem_append_right _ (List.mem_append_right _ hf)))))))))
theorem at_cls : ∀ q ∈ atTab, q.1 ∈ clsNms := by decide +kernel
theorem me_cls : ∀ q ∈ meTab, q.1 ∈ clsNms := by decide +kernel
theorem word_cls : ∀ C ∈ wordCls, C ∈ clsNms := fun C h => List.mem_append_left _ h
theorem insB_ok {C : Addr} (h : insB K C = true) (c : Cls K C) : C8.InsC K C := by
  obtain ⟨h1, h⟩ := He.ba h
  obtain ⟨h2, h⟩ := He.ba h
  obtain ⟨h3, h⟩ := He.ba h
  obtain ⟨h4, h5⟩ := He.ba h
  exact ⟨c, He.eqO_ok h1, He.eqO_ok h2, of_decide_eq_true h3, of_decide_eq_true h4, of_decide_eq_true h5⟩
theorem all_ok {α : Type} {p : α → Bool} {l : List α} (h : l.all p = true) {x : α} (hx : x ∈ l) : p x = true := List.all_eq_true.mp h x hx
theorem hTx (X : K.In h) (G : h.Ns mainGlobals mg) (c : He.SaysT hFa hFn hTs w K) (cx : hEx K = true) (P : Program) (base : Heap) : Tx ⟨P, w, K, mg, base⟩ := by
  obtain ⟨x1, cx⟩ := He.ba cx
  obtain ⟨x2, cx⟩ := He.ba cx
  obtain ⟨x3, cx⟩ := He.ba cx
  obtain ⟨x4, cx⟩ := He.ba cx
  obtain ⟨x5, cx⟩ := He.ba cx
  obtain ⟨x6, x7⟩ := He.ba cx
  have glo : ∀ x ∈ gloNms, mg x = some (.ref (He.ga K x)) := fun x hx => He.glo_ok X G (fa_glo c hx)
  refine ⟨fun x hx => He.free_ok X G (fa_free c hx), ⟨fun C f hq => ⟨He.cls_ok (fa_cls c (at_cls (C, f) hq)), He.noat_ok (fa_at c hq)⟩, fun C m D hq => ⟨He.cls_ok (fa_cls c (me_cls (C, m, D) hq)), ?_⟩⟩, fun x i ps hq => ?_, fun C m i j ps hq => ?_, fun x i hq => He.int_ok X G (fa_int c hq), He.str_ok X G (fa_str c), glo _ (by decide +kernel), fun H => ?_, fun x hx => ⟨glo _ ?_, fun H => ?_⟩, ?_, glo _ (by decide +kernel), fun C hC => ?_, fun C D hq => ⟨glo _ ?_, ?_⟩⟩
  · have e : He.ma K (He.ga K C) m = He.ma K (He.ga K D) m := of_decide_eq_true (all_ok x1 hq)
    have M := He.meth_ok (fa_me c hq)
    show Meth K (He.ga K C) m (He.ma K (He.ga K D) m)
    rw [← e]
    exact M
  · obtain ⟨fd, F⟩ := c.d.defs (d := dGd (x, i, ps)) (List.mem_cons_of_mem _ (List.mem_append_left _ (List.mem_map.mpr ⟨_, hq, rfl⟩)))
    exact ⟨He.ga K x, He.glo_ok X G (fa_gd c hq), ⟨fd, _, _, _, _, F, bp_gd _ hq _ _ _ F⟩⟩
  · obtain ⟨fd, F⟩ := c.d.defs (d := dFd (C, m, i, j, ps)) (List.mem_cons_of_mem _ (List.mem_append_right _ (List.mem_map.mpr ⟨_, hq, rfl⟩)))
    exact ⟨fd, _, _, _, _, F, bp_fd _ hq _ _ _ F⟩
  · have z := He.lstB_ok x3 H
    rw [List.map_map] at z
    exact z
  · exact List.mem_append_right _ (List.mem_append_left _ hx)
  · exact He.tupB_ok (all_ok x4 hx) H
  · obtain ⟨es, n, D⟩ := c.tab 0 (t := (fun K => He.ga K "WORDS", ["add", "mend", "undo"])) rfl
    refine ⟨es, n, glo _ (by decide +kernel), D, fun z i hz => ?_⟩
    have hm : (z, He.Dv.int i) ∈ wordsKV := by
      simp only [List.mem_cons, List.not_mem_nil, or_false, Prod.mk.injEq] at hz
      rcases hz with ⟨rfl, rfl⟩ | ⟨rfl, rfl⟩ | ⟨rfl, rfl⟩
      · exact List.mem_cons_self
      · exact List.mem_cons_of_mem _ List.mem_cons_self
      · exact List.mem_cons_of_mem _ (List.mem_cons_of_mem _ List.mem_cons_self)
    obtain ⟨u, h1, t, h2⟩ := He.valsB_ok x5 hm
    exact ⟨t, by rw [← h2]; exact h1⟩
  · obtain ⟨y1, y2⟩ := He.ba (all_ok x6 hC)
    exact ⟨insB_ok y1 (He.cls_ok (fa_cls c (word_cls C hC))), of_decide_eq_true y2⟩
  · exact List.mem_append_left _ (List.mem_map.mpr ⟨(C, D), hq, rfl⟩)
  · have e : He.ma K (He.ga K C) "__init__" = He.ma K (He.ga K D) "__init__" := of_decide_eq_true (all_ok x2 hq)
    have M := He.mkr_ok (fa_mk c hq)
    show Mk K (He.ga K C) (He.ma K (He.ga K D) "__init__")
    rw [← e]
    exact M
theorem hTxE (X : K.In h) (G : h.Ns mainGlobals mg) (c : He.SaysT hFa hFn hTs w K) (cx : hEx K = true) (P : Program) (base : Heap) : TxE ⟨P, w, K, mg, base⟩ := by
  obtain ⟨x1, cx⟩ := He.ba cx
  obtain ⟨x2, cx⟩ := He.ba cx
  obtain ⟨x3, cx⟩ := He.ba cx
  obtain ⟨x4, cx⟩ := He.ba cx
  obtain ⟨x5, cx⟩ := He.ba cx
  obtain ⟨x6, x7⟩ := He.ba cx
  obtain ⟨e1, e2, e3, e4⟩ := He.exc_ok (fa_end c (f := .exc "NotNow") List.mem_cons_self)
  have e5 := He.exm_ok (fa_end c (f := .exm "NotNow" "LevyError" true) (List.mem_cons_of_mem _ List.mem_cons_self))
  obtain ⟨h1, x7⟩ := He.ba x7
  obtain ⟨h2, x7⟩ := He.ba x7
  obtain ⟨h3, x7⟩ := He.ba x7
  obtain ⟨k1, h⟩ := He.ba x7
  obtain ⟨k2, h⟩ := He.ba h
  obtain ⟨k3, h⟩ := He.ba h
  obtain ⟨k4, k5⟩ := He.ba h
  exact ⟨He.glo_ok X G (fa_glo c (by decide +kernel)), He.glo_ok X G (fa_glo c (by decide +kernel)), e1, e2, e3, e4, e5, ⟨He.eqO_ok h1, He.eqO_ok h2, e3, h3, He.eqO_ok k1, He.eqO_ok k2, of_decide_eq_true k3, of_decide_eq_true k4⟩, of_decide_eq_true k5⟩
end
end
section
-- 87 _law_done: ["_law_ledger", "_law_m", "_law_deed_here", "_law_handed", "_law_good"]
abbrev N87 : List Str := ["_law_ledger", "_law_m", "_law_deed_here", "_law_handed", "_law_good"]
theorem sc87 : FnScope N87 ["_law_ledger", "_law_m", "_law_deed_here"] (defScope (top 87)) := ⟨rfl, rfl, rfl, by decide +kernel, rfl, by decide +kernel, by decide +kernel⟩
theorem nm87 : visB N87 (defScope (top 87)) 2 "_law_deed_here" = true ∧ visB N87 (defScope (top 87)) 1 "_law_m" = true ∧ visB N87 (defScope (top 87)) 0 "_law_ledger" = true ∧ visB N87 (defScope (top 87)) 3 "_law_handed" = true ∧ visB N87 (defScope (top 87)) 4 "_law_good" = true ∧ locB true N87 (defScope (top 87)) 3 "_law_handed" = true ∧ locB true N87 (defScope (top 87)) 4 "_law_good" = true ∧ gloB (defScope (top 87)) "list" = true ∧ gloB (defScope (top 87)) "dict" = true ∧ gloB (defScope (top 87)) "len" = true ∧ gloB (defScope (top 87)) "_law_not_now" = true :=
  ⟨by decide +kernel, by decide +kernel, by decide +kernel, by decide +kernel, by decide +kernel, by decide +kernel, by decide +kernel, by decide +kernel, by decide +kernel, by decide +kernel, by decide +kernel⟩
-- obtain ⟨n2, n1, n0, n3, n4, l3, l4, g_list, g_dict, g_len, g__law_not_now⟩ := nm87
theorem mk_at {H : Hp} {am r pp g : Addr} (h : H am = some (.dK (mK r pp g))) : DGet H am (.str "rows") (some (.ref r)) ∧ DGet H am (.str "past") (some (.ref pp)) ∧ DGet H am (.str "log") (some (.ref g)) :=
  ⟨DGet.k (k := .inr "rows") h, DGet.k (k := .inr "past") h, DGet.k (k := .inr "log") h⟩
theorem ixN_nat {n y : Nat} (h : y < n) : ixN n (y : Int) = some y := by
  unfold ixN
  rw [if_pos (by omega), if_pos (by omega)]
  simp
/-- m["past"].append(list(m["rows"])), said once -/
theorem past_app {E : Ev} {F H : Hp} {p : Addr} {S : LS} {os : List Addr} {am r pp g : Addr} {pls : List Addr} {ns : List V} {b : Addr} {rs : List Addr} (J : Jt E F H p S os am r pp g pls ns) (hb : H b = none) (prs : Paired (LDA E F H) rs S.rows) :
    Led E F (upd (upd H b (.lst (rs.map V.ref))) pp (.lst (pls.map V.ref ++ [.ref b]))) p S os ∧ Md E F (upd (upd H b (.lst (rs.map V.ref))) pp (.lst (pls.map V.ref ++ [.ref b]))) am r pp g (pls ++ [b]) ns S.rows (S.past ++ [S.rows]) S.notes ∧
    (∀ a ∈ mo am r pp g (pls ++ [b]), a ∉ os) ∧ Stp F (os ++ mo am r pp g pls) H F (os ++ mo am r pp g (pls ++ [b])) (upd (upd H b (.lst (rs.map V.ref))) pp (.lst (pls.map V.ref ++ [.ref b]))) := by
  have s1 := Same.new (o := .lst (rs.map V.ref)) hb
  have M1 := J.md.grow s1
  have L1 := J.led.grow s1
  have hF := none_of J.led.fs hb
  have ts : TS (upd H b (.lst (rs.map V.ref))) (upd (upd H b (.lst (rs.map V.ref))) pp (.lst (pls.map V.ref ++ [.ref b]))) := TS.upd M1.hp rfl
  have hpp : pp ∈ mo am r pp g pls := by simp
  have M2 := M1.setP (J.md.fresh hb) hF ⟨rs, upd_same, Paired.mapP prs fun _ _ z => z.mono (Same.refl _) s1.ts⟩
  rw [List.map_append] at M2
  refine ⟨L1.off (J.dis _ hpp) (J.md.out _ hpp) ts, M2, fun a ha => ?_, ?_⟩
  · rcases List.mem_append.mp (show a ∈ mo am r pp g pls ++ [b] from ha) with ha | ha
    · exact J.dis a ha
    · rw [List.mem_singleton.mp ha]
      exact J.led.fresh hb
  · have e : (os ++ mo am r pp g pls) ++ [b] = os ++ mo am r pp g (pls ++ [b]) := by rw [List.append_assoc]; rfl
    have st := (Stp.newO (F := F) (os := os ++ mo am r pp g pls) (u := .lst (rs.map V.ref)) hb)
    rw [e] at st
    exact st.trans (Stp.upd (by simp) M1.hp rfl)
theorem ok_ldone {E : Ev} (t : Tx E) (tx : TxE E) : Dg E 8 "_law_done" (spLdone E) := by
  refine dg_of (t.gd _ _ _ (by decide +kernel)) sc87 (fun vs H Q ⟨_, _, _, _, _, _, _, _, _, _, _, _, e, _⟩ => by rw [e]; rfl) fun X vs H Q c ⟨F, p, S, os, am, r, pp, g, pls, ns, v, d, e, J, ok, hz1, hz2, hd, okd, q⟩ => ?_
  subst e
  have B := t.B
  obtain ⟨n2, n1, n0, n3, n4, l3, l4, g_list, g_dict, g_len, g__law_not_now⟩ := nm87
  have M := J.md
  have L := J.led
  obtain ⟨f1, f2, f3⟩ := ok.few
  obtain ⟨hr, hp, hg⟩ := mk_at M.ha
  have dAdd := l_add t
  have dMend := l_mend t
  have dUndo := l_undo t
  have dNot := ok_not_now t tx
  have mam : ∀ pls', am ∈ mo am r pp g pls' := fun _ => by simp
  have mr : ∀ pls', r ∈ mo am r pp g pls' := fun _ => by simp
  have mg : ∀ pls', g ∈ mo am r pp g pls' := fun _ => by simp
  have mpp : ∀ pls', pp ∈ mo am r pp g pls' := fun _ => by simp
  match d, hd, okd, q with
  | .add d, hd, okd, q =>
    have hd0 := hd
    obtain ⟨t1, a, rfl, k1, k2⟩ := hd
    walk_at "go"
    refine w_append c ?_
    walk_at "go"
    refine x_dic c (fun _ _ => rfl) hp ⟨pp, _, rfl, M.hp, ?_⟩
    walk_at "go"
    refine x_dic c (fun _ _ => rfl) hr ?_
    walk_at "go"
    obtain ⟨rs, hrs, prs⟩ := M.hr
    refine c_list_l c (SqL.of hrs) fun b hb => ?_
    have lps := Paired.length M.hps
    have lrs := Paired.length prs
    have lns := Paired.length M.hns
    refine ⟨_, Same.new hb _ _ M.hp, by rw [List.length_map]; exact Nat.lt_of_lt_of_le (show pls.length < 100000 by omega) (by decide), ?_⟩
    obtain ⟨L1, M1, dis1, st1⟩ := past_app J hb prs
    generalize upd (upd H b (.lst (rs.map V.ref))) pp (.lst (pls.map V.ref ++ [.ref b])) = H1 at L1 M1 st1
    generalize hpls1 : pls ++ [b] = pls1 at M1 st1 dis1
    obtain ⟨hr1, hp1, hg1⟩ := mk_at M1.ha
    have k11 := st1.ts.sqt k1
    have k21 := k2.mono (Same.refl F) st1.ts
    refine wb_cons (ws_expr (w_append c ?_))
    walk_at "go"
    obtain ⟨rs1, hrs1, prs1⟩ := M1.hr
    refine x_dic c (fun _ _ => rfl) hr1 ⟨r, _, rfl, hrs1, ?_⟩
    walk_at "go"
    have lrs1 := Paired.length prs1
    refine ⟨_, hrs1, by rw [List.length_map]; exact Nat.lt_of_lt_of_le (show rs1.length < 100000 by omega) (by decide), ?_⟩
    have M2 := M1.setR (Paired.snoc prs1 k21)
    rw [List.map_append] at M2
    have ts2 : TS H1 (upd H1 r (.lst (rs1.map V.ref ++ [.ref a]))) := TS.upd hrs1 rfl
    have L2 := L1.off (o := .lst (rs1.map V.ref ++ [.ref a])) (dis1 _ (mr _)) (M1.out _ (mr _)) ts2
    have st2 := st1.trans (Stp.upd (F := F) (os := os ++ mo am r pp g pls1) (o := .lst (rs1.map V.ref ++ [.ref a])) (List.mem_append_right _ (mr _)) hrs1 rfl)
    have k12 := ts2.sqt k11
    have k22 := k21.mono (Same.refl F) ts2
    replace M2 : Md E F (upd H1 r (.lst (rs1.map V.ref ++ [.ref a]))) am r pp g pls1 ns (S.rows ++ [d]) (S.past ++ [S.rows]) S.notes := M2
    generalize upd H1 r (.lst (rs1.map V.ref ++ [.ref a])) = H2 at M2 L2 st2 k12 k22
    obtain ⟨hr2, hp2, hg2⟩ := mk_at M2.ha
    refine wb_cons (ws_expr (w_append c ?_))
    walk_at "go"
    refine x_dic c (fun _ _ => rfl) hg2 ⟨g, _, rfl, M2.hg, ?_⟩
    walk_at "go"
    refine ⟨_, M2.hg, Nat.lt_of_lt_of_le (show ns.length < 100000 by omega) (by decide), ?_⟩
    have M3 := M2.setN (d := .add d) (v := .ref t1) ⟨t1, a, rfl, k12, k22⟩
    have ts3 : TS H2 (upd H2 g (.lst (ns ++ [.ref t1]))) := TS.upd M2.hg rfl
    have L3 := L2.off (o := .lst (ns ++ [.ref t1])) (dis1 _ (mg _)) (M2.out _ (mg _)) ts3
    have st3 := st2.trans (Stp.upd (F := F) (os := os ++ mo am r pp g pls1) (o := .lst (ns ++ [.ref t1])) (List.mem_append_right _ (mg _)) M2.hg rfl)
    have k13 := ts3.sqt k12
    have k23 := k22.mono (Same.refl F) ts3
    generalize upd H2 g (.lst (ns ++ [.ref t1])) = H3 at M3 L3 st3 k13 k23
    obtain ⟨kvs, hk1, hk2⟩ := k23.da L3.fs
    refine wb_cons (ws_set c l3 ?_)
    walk_at "go"
    intro h hh
    have s34 : Same H3 (upd H3 h (.dK kvs)) := Same.new hh
    have hh0 : H h = none := st3.dom h hh
    have L4 := L3.grow s34
    have M4 := M3.grow s34
    have hd4 : DA E (upd H3 h (.dK kvs)) h d := ⟨kvs, upd_same, hk2.ts s34.ts⟩
    have hh4 : upd H3 h (.dK kvs) h = some (.dK kvs) := upd_same
    have hFh : F h = none := none_of L3.fs hh
    have nh1 := L3.fresh hh
    have nh2 := M3.fresh hh
    have st4 := st3.trans (Stp.grow (F := F) (os := os ++ mo am r pp g pls1) s34)
    generalize upd H3 h (.dK kvs) = H4 at L4 M4 hd4 hh4 st4
    obtain ⟨dx, fs, hpA, hnoA⟩ := L4.fld
    refine wb_cons (ws_set c l4 (w_cmp (w_mO c ?_)))
    walk_at "go"
    refine ⟨p, _, dx, fs, _, _, rfl, hpA, hnoA _ (by decide +kernel), dAdd, by omega, ?_⟩
    walk_at "go"
    refine ⟨F, p, S, os, h, d, rfl, L4, ok, hd4, okd.1, okd.2, fun F' os' H5 s5 L5 => ?_⟩
    obtain ⟨M5, dis5⟩ := M4.stp s5 dis1
    obtain ⟨hr5, hp5, hg5⟩ := mk_at M5.ha
    obtain ⟨rs5, hrs5, prs5⟩ := M5.hr
    have lrs5 := Paired.length prs5
    rw [List.length_append] at lrs5
    walk_at "go"
    refine x_dic c (fun _ _ => rfl) hr5 ?_
    walk_at "go"
    rw [List.length_map, lrs5]
    have e5 : decide ((S.rows.length : Int) = ((S.rows.length + [d].length : Nat) : Int) - 1) = true := decide_eq_true (by show (S.rows.length : Int) = ((S.rows.length + 1 : Nat) : Int) - 1; omega)
    rw [e5]
    have hh5 : H5 h = some (.dK kvs) := s5.keep h _ nh1 hh4
    refine w_clear c ?_
    walk_at "go"
    refine ⟨h, kvs, rfl, hh5, ?_⟩
    walk_at "go"
    have hF5 : F' h = none := by
      cases qF : F' h with
      | none => rfl
      | some u =>
        rcases s5.fnew h u qF with h1 | h1
        · rw [hFh] at h1; cases h1
        · rw [hh4] at h1; cases h1
    have nh5 : h ∉ os' := fun hm => by
      rcases s5.onew h hm with h1 | h1
      · exact nh1 h1
      · rw [hh4] at h1; cases h1
    have ts6 : TS H5 (upd H5 h (.dK [])) := TS.upd hh5 rfl
    have st6 := (st4.trans (s5.frame (mo am r pp g pls1))).scr (o := .dK []) hh0 hh5 rfl
    exact q F' os' _ r pls1 (ns ++ [.ref t1]) st6 ⟨L5.off nh5 hF5 ts6, M5.keep (Same.refl _) ts6 (fun a ha => upd_ne (mem_ne nh2 ha)) M5.out, dis5⟩
  | .mend y d, hd, okd, q =>
    have hd0 := hd
    obtain ⟨t1, a, rfl, k1, k2⟩ := hd
    walk_at "go"
    refine w_append c ?_
    walk_at "go"
    refine x_dic c (fun _ _ => rfl) hp ⟨pp, _, rfl, M.hp, ?_⟩
    walk_at "go"
    refine x_dic c (fun _ _ => rfl) hr ?_
    walk_at "go"
    obtain ⟨rs, hrs, prs⟩ := M.hr
    refine c_list_l c (SqL.of hrs) fun b hb => ?_
    have lps := Paired.length M.hps
    have lrs := Paired.length prs
    have lns := Paired.length M.hns
    refine ⟨_, Same.new hb _ _ M.hp, by rw [List.length_map]; exact Nat.lt_of_lt_of_le (show pls.length < 100000 by omega) (by decide), ?_⟩
    obtain ⟨L1, M1, dis1, st1⟩ := past_app J hb prs
    generalize upd (upd H b (.lst (rs.map V.ref))) pp (.lst (pls.map V.ref ++ [.ref b])) = H1 at L1 M1 st1
    generalize hpls1 : pls ++ [b] = pls1 at M1 st1 dis1
    obtain ⟨hr1, hp1, hg1⟩ := mk_at M1.ha
    have k11 := st1.ts.sqt k1
    have k21 := k2.mono (Same.refl F) st1.ts
    obtain ⟨rs1, hrs1, prs1⟩ := M1.hr
    have lrs1 := Paired.length prs1
    refine wb_cons (ws_sub ?_)
    walk_at "go"
    refine x_dic c (fun _ _ => rfl) hr1 ?_
    walk_at "go"
    refine i_lst (j := y) hrs1 (ixN_nat (by rw [List.length_map, lrs1]; exact okd.2)) ?_
    have M2 := M1.setR (paired_set (i := y) k21 prs1)
    rw [List.map_set] at M2
    have ts2 : TS H1 (upd H1 r (.lst ((rs1.map V.ref).set y (.ref a)))) := TS.upd hrs1 rfl
    have L2 := L1.off (o := .lst ((rs1.map V.ref).set y (.ref a))) (dis1 _ (mr _)) (M1.out _ (mr _)) ts2
    have st2 := st1.trans (Stp.upd (F := F) (os := os ++ mo am r pp g pls1) (o := .lst ((rs1.map V.ref).set y (.ref a))) (List.mem_append_right _ (mr _)) hrs1 rfl)
    have k12 := ts2.sqt k11
    have k22 := k21.mono (Same.refl F) ts2
    replace M2 : Md E F (upd H1 r (.lst ((rs1.map V.ref).set y (.ref a)))) am r pp g pls1 ns (S.rows.set y d) (S.past ++ [S.rows]) S.notes := M2
    generalize upd H1 r (.lst ((rs1.map V.ref).set y (.ref a))) = H2 at M2 L2 st2 k12 k22
    obtain ⟨hr2, hp2, hg2⟩ := mk_at M2.ha
    refine wb_cons (ws_expr (w_append c ?_))
    walk_at "go"
    refine x_dic c (fun _ _ => rfl) hg2 ⟨g, _, rfl, M2.hg, ?_⟩
    walk_at "go"
    refine ⟨_, M2.hg, Nat.lt_of_lt_of_le (show ns.length < 100000 by omega) (by decide), ?_⟩
    have M3 := M2.setN (d := .mend y d) (v := .ref t1) ⟨t1, a, rfl, k12, k22⟩
    have ts3 : TS H2 (upd H2 g (.lst (ns ++ [.ref t1]))) := TS.upd M2.hg rfl
    have L3 := L2.off (o := .lst (ns ++ [.ref t1])) (dis1 _ (mg _)) (M2.out _ (mg _)) ts3
    have st3 := st2.trans (Stp.upd (F := F) (os := os ++ mo am r pp g pls1) (o := .lst (ns ++ [.ref t1])) (List.mem_append_right _ (mg _)) M2.hg rfl)
    have k13 := ts3.sqt k12
    have k23 := k22.mono (Same.refl F) ts3
    generalize upd H2 g (.lst (ns ++ [.ref t1])) = H3 at M3 L3 st3 k13 k23
    obtain ⟨kvs, hk1, hk2⟩ := k23.da L3.fs
    refine wb_cons (ws_set c l3 ?_)
    walk_at "go"
    intro h hh
    have s34 : Same H3 (upd H3 h (.dK kvs)) := Same.new hh
    have hh0 : H h = none := st3.dom h hh
    have L4 := L3.grow s34
    have k14 := s34.tup k13
    have M4 := M3.grow s34
    have hd4 : DA E (upd H3 h (.dK kvs)) h d := ⟨kvs, upd_same, hk2.ts s34.ts⟩
    have hh4 : upd H3 h (.dK kvs) h = some (.dK kvs) := upd_same
    have hFh : F h = none := none_of L3.fs hh
    have nh1 := L3.fresh hh
    have nh2 := M3.fresh hh
    have st4 := st3.trans (Stp.grow (F := F) (os := os ++ mo am r pp g pls1) s34)
    generalize upd H3 h (.dK kvs) = H4 at L4 M4 hd4 hh4 st4 k14
    obtain ⟨dx, fs, hpA, hnoA⟩ := L4.fld
    refine wb_cons (ws_set c l4 (w_cmp (w_mO c ?_)))
    walk_at "go"
    refine ⟨p, _, dx, fs, _, _, rfl, hpA, hnoA _ (by decide +kernel), dMend, by omega, ?_⟩
    walk_at "go"
    refine ⟨F, p, S, os, y, h, d, rfl, L4, ok, hd4, okd.1, okd.2, fun F' os' H5 s5 L5 => ?_⟩
    obtain ⟨M5, dis5⟩ := M4.stp s5 dis1
    walk_at "go"
    have hh5 : H5 h = some (.dK kvs) := s5.keep h _ nh1 hh4
    refine w_clear c ?_
    walk_at "go"
    refine ⟨h, kvs, rfl, hh5, ?_⟩
    walk_at "go"
    have hF5 : F' h = none := by
      cases qF : F' h with
      | none => rfl
      | some u =>
        rcases s5.fnew h u qF with h1 | h1
        · rw [hFh] at h1; cases h1
        · rw [hh4] at h1; cases h1
    have nh5 : h ∉ os' := fun hm => by
      rcases s5.onew h hm with h1 | h1
      · exact nh1 h1
      · rw [hh4] at h1; cases h1
    have ts6 : TS H5 (upd H5 h (.dK [])) := TS.upd hh5 rfl
    have st6 := (st4.trans (s5.frame (mo am r pp g pls1))).scr (o := .dK []) hh0 hh5 rfl
    exact q F' os' _ r pls1 (ns ++ [.ref t1]) st6 ⟨L5.off nh5 hF5 ts6, M5.keep (Same.refl _) ts6 (fun a ha => upd_ne (mem_ne nh2 ha)) M5.out, dis5⟩
  | .undo, hd, okd, q =>
    have hd0 := hd
    obtain ⟨t1, rfl, k1⟩ := hd
    walk_at "go"
    refine x_dic c (fun _ _ => rfl) hp ?_
    walk_at "go"
    intro l hl
    have s1 : Same H (upd H l (.lst [])) := Same.new hl
    have L1 := L.grow s1
    have M1 := M.grow s1
    have k11 := s1.tup k1
    have st1 : Stp F (os ++ mo am r pp g pls) H F (os ++ mo am r pp g pls) (upd H l (.lst [])) := Stp.grow s1
    refine o_eq_nil c (SqL.of (s1 _ _ M.hp)) (SqL.of upd_same) ⟨_, rfl, ?_⟩
    generalize upd H l (.lst []) = H1 at L1 M1 k11 st1 s1
    have lps := Paired.length M1.hps
    have lns := Paired.length M1.hns
    by_cases hS : S.past = []
    · have hpls : pls = [] := List.length_eq_zero_iff.mp (by rw [lps, hS]; rfl)
      have e0 : decide (pls.map V.ref = []) = true := by rw [hpls]; rfl
      rw [e0]
      refine iteT ?_
      walk_at "go"
      have e : lstep S .undo = S := if_pos hS
      refine ⟨F, p, S, os, rfl, L1, hS, fun H' s' => ?_⟩
      exact q F os H' r pls ns (st1.trans (Stp.grow s')) (by rw [e]; exact ⟨L1.grow s', M1.grow s', J.dis⟩)
    · have e : lstep S .undo = S.undo := if_neg hS
      obtain ⟨ps, last, hSp⟩ : ∃ ps last, S.past = ps ++ [last] := by
        rcases List.eq_nil_or_concat S.past with e0 | ⟨l, b, e0⟩
        · exact absurd e0 hS
        · exact ⟨l, b, by rw [e0, List.concat_eq_append]⟩
      obtain ⟨pl0, b, rfl⟩ : ∃ pl0 b, pls = pl0 ++ [b] := by
        rcases List.eq_nil_or_concat pls with e0 | ⟨l, b, e0⟩
        · rw [e0, hSp] at lps
          simp at lps
        · exact ⟨l, b, by rw [e0, List.concat_eq_append]⟩
      have e0 : decide ((pl0 ++ [b]).map V.ref = []) = false := decide_eq_false (by simp)
      rw [e0]
      refine iteF ?_
      obtain ⟨hr1, hp1, hg1⟩ := mk_at M1.ha
      walk_at "go"
      refine w_pop c ?_
      walk_at "go"
      refine x_dic c (fun _ _ => rfl) hp1 ⟨pp, _, .ref b, rfl, M1.hp, by rw [List.map_append, List.length_append]; simp, ?_⟩
      walk_at "go"
      have ed : ((pl0 ++ [b]).map V.ref).dropLast = pl0.map V.ref := by rw [List.map_append]; exact List.dropLast_concat
      rw [ed]
      have nap : am ≠ pp := M1.ne.2.1
      have M2 := M1.drop hSp
      have ts2 : TS H1 (upd H1 pp (.lst (pl0.map V.ref))) := TS.upd M1.hp rfl
      have L2 := L1.off (o := .lst (pl0.map V.ref)) (J.dis _ (mpp _)) (M1.out _ (mpp _)) ts2
      have ha2 : upd H1 pp (.lst (pl0.map V.ref)) am = some (.dK (mK r pp g)) := by rw [upd_ne nap]; exact M1.ha
      refine i_dic c (.inl ⟨mK r pp g, .inr "rows", ha2, rfl, Nat.lt_of_lt_of_le (show 3 < 100000 by omega) (by decide), rfl⟩) ?_
      have ep : putK (mK r pp g) (.inr "rows") (.ref b) = mK b pp g := by
        unfold putK
        rw [if_pos (by rfl)]
        rfl
      rw [ep]
      have ts3 : TS (upd H1 pp (.lst (pl0.map V.ref))) (upd (upd H1 pp (.lst (pl0.map V.ref))) am (.dK (mK b pp g))) := TS.upd ha2 rfl
      have L3 := L2.off (o := .dK (mK b pp g)) (J.dis _ (mam _)) (M1.out _ (mam _)) ts3
      have st2 := st1.trans (Stp.upd (F := F) (os := os ++ mo am r pp g (pl0 ++ [b])) (o := .lst (pl0.map V.ref)) (List.mem_append_right _ (mpp _)) M1.hp rfl)
      have st3 := st2.trans (Stp.upd (F := F) (os := os ++ mo am r pp g (pl0 ++ [b])) (o := .dK (mK b pp g)) (List.mem_append_right _ (mam _)) ha2 rfl)
      have dis2 : ∀ a ∈ mo am b pp g pl0, a ∉ os := fun a ha => J.dis a (by
        simp only [mo, List.mem_cons, List.mem_append] at ha ⊢
        rcases ha with rfl | rfl | rfl | rfl | ha <;> simp [*])
      have sub2 : ∀ a ∈ os ++ mo am b pp g pl0, a ∈ os ++ mo am r pp g (pl0 ++ [b]) := fun a ha => by
        rcases List.mem_append.mp ha with ha | ha
        · exact List.mem_append_left _ ha
        · refine List.mem_append_right _ ?_
          simp only [mo, List.mem_cons, List.mem_append] at ha ⊢
          rcases ha with rfl | rfl | rfl | rfl | ha <;> simp [*]
      have k13 := ts3.sqt (ts2.sqt k11)
      generalize upd (upd H1 pp (.lst (pl0.map V.ref))) am (.dK (mK b pp g)) = H3 at M2 L3 st3 k13
      obtain ⟨hr2, hp2, hg2⟩ := mk_at M2.ha
      refine wb_cons (ws_expr (w_append c ?_))
      walk_at "go"
      refine x_dic c (fun _ _ => rfl) hg2 ⟨g, _, rfl, M2.hg, ?_⟩
      walk_at "go"
      refine ⟨_, M2.hg, Nat.lt_of_lt_of_le (show ns.length < 100000 by omega) (by decide), ?_⟩
      have M3 := M2.setN (d := .undo) (v := .ref t1) ⟨t1, rfl, k13⟩
      have mg2 : g ∈ mo am b pp g pl0 := by simp
      have ts4 : TS H3 (upd H3 g (.lst (ns ++ [.ref t1]))) := TS.upd M2.hg rfl
      have L4 := L3.off (o := .lst (ns ++ [.ref t1])) (dis2 _ mg2) (M2.out _ mg2) ts4
      have st4 := st3.trans (Stp.upd (F := F) (os := os ++ mo am r pp g (pl0 ++ [b])) (o := .lst (ns ++ [.ref t1])) (List.mem_append_right _ (mg _)) M2.hg rfl)
      generalize upd H3 g (.lst (ns ++ [.ref t1])) = H4 at M3 L4 st4
      obtain ⟨dx, fs, hpA, hnoA⟩ := L4.fld
      refine wb_one (ws_ret (w_cmp (w_mO0 c ?_)))
      walk_at "go"
      refine ⟨p, _, dx, fs, _, _, rfl, hpA, hnoA _ (by decide +kernel), dUndo, by omega, ?_⟩
      refine ⟨F, p, S, os, rfl, L4, ok, hS, fun F' os' H5 s5 L5 => ?_⟩
      obtain ⟨M5, dis5⟩ := M3.stp s5 dis2
      walk_at "go"
      have eS : ((S.past.getLast?).getD []) = last ∧ S.past.dropLast = ps := by
        rw [hSp]
        exact ⟨by simp, List.dropLast_concat⟩
      refine q F' os' H5 b pl0 (ns ++ [.ref t1]) ?_ (by
        rw [e]
        refine ⟨L5, ?_, dis5⟩
        show Md E F' H5 am b pp g pl0 (ns ++ [.ref t1]) ((S.past.getLast?).getD []) S.past.dropLast (S.notes ++ [.undo])
        rw [eS.1, eS.2]
        exact M5)
      have s6 := s5.frame (mo am b pp g pl0)
      refine ⟨st4.ff.trans s6.ff, st4.ts.trans s6.ts, fun a u ha hu => s6.keep a u (fun hm => ha (sub2 a hm)) (st4.keep a u ha hu), fun a ha => st4.dom a (s6.dom a ha), fun a u h1 => ?_, fun a ha => ?_⟩
      · rcases s6.fnew a u h1 with h2 | h2
        · exact st4.fnew a u h2
        · exact .inr (st4.dom a h2)
      · rcases s6.onew a ha with h2 | h2
        · exact .inl (sub2 a h2)
        · exact .inr (st4.dom a h2)
end
section
/-! ### equal data in the heap -/
theorem nodup_of {α : Type} [DecidableEq α] : ∀ {l m : List α}, l.Nodup → (∀ x ∈ l, x ∈ m) → m.length ≤ l.length → m.Nodup
  | [], m, _, _, h => by
    have : m = [] := List.length_eq_zero_iff.mp (by simpa using h)
    rw [this]
    exact List.nodup_nil
  | a :: l, m, nd, h, hl => by
    rw [List.nodup_cons] at nd
    have ha := h a List.mem_cons_self
    have hp := List.perm_cons_erase ha
    have he : ∀ x ∈ l, x ∈ m.erase a := fun x hx => (List.mem_erase_of_ne (fun (e : x = a) => nd.1 (by rw [← e]; exact hx))).mpr (h x (List.mem_cons_of_mem _ hx))
    have hle : (m.erase a).length ≤ l.length := by
      rw [List.length_erase_of_mem ha]
      rw [List.length_cons] at hl
      omega
    have nd2 := nodup_of nd.2 he hle
    rw [hp.nodup_iff, List.nodup_cons]
    refine ⟨fun hm => ?_, nd2⟩
    have := few_of (l := a :: l) (m := m.erase a) (List.nodup_cons.mpr nd) fun x hx => by
      rcases List.mem_cons.mp hx with rfl | hx
      · exact hm
      · exact he x hx
    rw [List.length_cons] at this
    omega
theorem AmOk.nodup {d : Dc} {nms : List Str} (h : AmOk d nms) (nd : nms.Nodup) : (d.map (·.1)).Nodup :=
  nodup_of nd (fun x hx => by
    have h3 := h.get x hx
    cases q3 : dget d x with
    | none => rw [q3] at h3; cases h3
    | some w => exact List.mem_map.mpr ⟨_, dget_mem q3, rfl⟩) (by rw [List.length_map, h.len]; exact Nat.le_refl _)
theorem dget_at {d : Dc} (nd : (d.map (·.1)).Nodup) {i : Nat} {x : Str} {z : Int} (h : d[i]? = some (x, z)) : dget d x = some z := by
  induction d generalizing i with
  | nil => simp at h
  | cons q r ih =>
    rw [List.map_cons, List.nodup_cons] at nd
    rw [dget_cons]
    cases i with
    | zero =>
      simp at h
      rw [h, if_pos rfl]
    | succ i =>
      have h : r[i]? = some (x, z) := by simpa using h
      have ne : ¬ q.1 = x := fun e => nd.1 (by rw [e]; exact List.mem_map.mpr ⟨(x, z), List.mem_of_getElem? h, rfl⟩)
      rw [if_neg ne]
      exact ih nd.2 h
theorem eqx_pt {E : Ev} {H : Hp} {v v' : V} {z : Int} (n : Nat) (h : Pt E H v z) (h' : Pt E H v' z) : EqX E.K H (n + 1) v v' := by
  obtain ⟨t, rfl, p⟩ := h
  obtain ⟨t', rfl, p'⟩ := h'
  refine .inr (.inr (.inl ⟨t, t', _, _, rfl, rfl, p, p', .cons ?_ (.cons ?_ .nil)⟩)) <;> cases n <;> first | exact ⟨rfl, rfl⟩ | exact .inl ⟨rfl, rfl⟩
theorem eqx_flat {K : PySem.W.Frag} {H : Hp} (n : Nat) {v : V} (h : flatB v = true) : EqX K H n v v := by
  cases n
  · exact ⟨rfl, h⟩
  · exact .inl ⟨rfl, h⟩
theorem dr_eqx {E : Ev} {H : Hp} {ks ls : List (Key × V)} {d : Dc} (n : Nat) (nd : (d.map (·.1)).Nodup) (h1 : DR E H ks d) (h2 : DR E H ls d) : ks.length = ls.length ∧ ∀ p ∈ ks, ∃ u, valV ls p.1 = some u ∧ EqX E.K H (n + 1) p.2 u := by
  refine ⟨by rw [Paired.length h1, Paired.length h2], fun p hp => ?_⟩
  obtain ⟨i, hi, e⟩ := List.mem_iff_getElem.mp hp
  obtain ⟨⟨x, z⟩, hq, e1, e2⟩ := pair_at h1 (i := i) (x := p) (by rw [List.getElem?_eq_getElem hi, e])
  have hg := dget_at nd hq
  rcases dr_get (x := x) h2 with ⟨_, e3⟩ | ⟨v, z', e3, e4, pt⟩
  · rw [hg] at e3; cases e3
  · rw [hg] at e4
    cases e4
    have e1 : p.1 = .inr x := e1
    exact ⟨v, by rw [e1]; exact e3, eqx_pt n e2 pt⟩
theorem da_eqx {E : Ev} {H : Hp} {a b : Addr} {d : Dc} (n : Nat) (nd : (d.map (·.1)).Nodup) (h1 : DA E H a d) (h2 : DA E H b d) : EqX E.K H (n + 2) (.ref a) (.ref b) := by
  obtain ⟨ks, k1, k2⟩ := h1
  obtain ⟨ls, l1, l2⟩ := h2
  obtain ⟨e1, e2⟩ := dr_eqx n nd k2 l2
  exact .inr (.inr (.inr ⟨a, b, ks, ls, rfl, rfl, k1, l1, e1, e2⟩))
/-- a deed's amounts bear no name twice -/
def ndD : Deed → Prop
  | .add d => (d.map (·.1)).Nodup
  | .mend _ d => (d.map (·.1)).Nodup
  | .undo => True
theorem deed_eqx {E : Ev} {H : Hp} : ∀ {v v' : V} {d : Deed}, ndD d → DeedA E H H v d → DeedA E H H v' d → EqX E.K H 3 v v'
  | v, v', .add d, nd, ⟨t, a, e1, h1, h2⟩, ⟨t', a', e2, k1, k2⟩ => by
    subst e1 e2
    exact .inr (.inr (.inl ⟨t, t', _, _, rfl, rfl, h1, k1, .cons (eqx_flat 2 rfl) (.cons (da_eqx 0 nd (h2.da (Same.refl _)) (k2.da (Same.refl _))) .nil)⟩))
  | v, v', .mend y d, nd, ⟨t, a, e1, h1, h2⟩, ⟨t', a', e2, k1, k2⟩ => by
    subst e1 e2
    exact .inr (.inr (.inl ⟨t, t', _, _, rfl, rfl, h1, k1, .cons (eqx_flat 2 rfl) (.cons (eqx_flat 2 rfl) (.cons (da_eqx 0 nd (h2.da (Same.refl _)) (k2.da (Same.refl _))) .nil))⟩))
  | v, v', .undo, nd, ⟨t, e1, h1⟩, ⟨t', e2, k1⟩ => by
    subst e1 e2
    exact .inr (.inr (.inl ⟨t, t', _, _, rfl, rfl, h1, k1, .cons (eqx_flat 2 rfl) .nil⟩))
theorem DeedO.a {E : Ev} {H : Hp} : ∀ {v : V} {d : Deed} {o : Option Addr}, DeedO E H v d o → DeedA E H H v d
  | v, .add d, o, ⟨t, a, h1, h2, h3, ⟨kvs, h4, h5⟩⟩ => ⟨t, a, h2, h3, kvs, h4, h5⟩
  | v, .mend y d, o, ⟨t, a, h1, h2, h3, ⟨kvs, h4, h5⟩⟩ => ⟨t, a, h2, h3, kvs, h4, h5⟩
  | v, .undo, o, ⟨t, h1, h2, h3⟩ => ⟨t, h2, h3⟩
theorem pair_two2 {α β γ : Type} {R : α → γ → Prop} {T : β → γ → Prop} {U : α → β → Prop} (h : ∀ a b c, R a c → T b c → U a b) : ∀ {xs : List α} {ys : List β} {zs : List γ}, Paired R xs zs → Paired T ys zs → Paired U xs ys
  | _, _, _, .nil, .nil => .nil
  | _, _, _, .cons r1 t1, .cons r2 t2 => .cons (h _ _ _ r1 r2) (pair_two2 h t1 t2)
theorem pair_with {α β : Type} {R R' : α → β → Prop} : ∀ {xs : List α} {ys : List β}, Paired R xs ys → (∀ y ∈ ys, ∀ x, R x y → R' x y) → Paired R' xs ys
  | _, _, .nil, _ => .nil
  | _, _, .cons r t, h => .cons (h _ List.mem_cons_self _ r) (pair_with t fun y hy x => h y (List.mem_cons_of_mem _ hy) x)
/-- the deeds of a list of its own -/
theorem DeedL.pa {E : Ev} {H0 H : Hp} {ys : List V} {ds : List Deed} {as : List (Option Addr)} (h : DeedL E H0 H ys ds as) : Paired (DeedA E H H) ys ds := by
  have h1 := h.pr
  have h2 := h.len
  clear h
  induction ds generalizing ys as with
  | nil => cases as with
    | nil => cases h1; exact .nil
    | cons _ _ => simp at h2
  | cons d ds ih => cases as with
    | nil => simp at h2
    | cons a as =>
      rw [List.zip_cons_cons] at h1
      cases h1 with
      | cons r t => exact .cons r.a (ih t (by simpa using h2))
theorem deeds_eqx {E : Ev} {H : Hp} {xs ys : List V} {ds : List Deed} (nd : ∀ d ∈ ds, ndD d) (h1 : Paired (DeedA E H H) xs ds) (h2 : Paired (DeedA E H H) ys ds) : Paired (EqX E.K H 3) xs ys :=
  pair_two2 (R := fun x d => ndD d ∧ DeedA E H H x d) (T := DeedA E H H) (fun a b c r t => deed_eqx r.1 r.2 t) (pair_with h1 fun y hy x r => ⟨nd y hy, r⟩) h2
theorem Paired.takeP {α β : Type} {R : α → β → Prop} : ∀ (n : Nat) {xs : List α} {ys : List β}, Paired R xs ys → Paired R (xs.take n) (ys.take n)
  | 0, _, _, _ => .nil
  | n + 1, _, _, .nil => .nil
  | n + 1, _, _, .cons r t => .cons r (Paired.takeP n t)
theorem Paired.dropP {α β : Type} {R : α → β → Prop} : ∀ (n : Nat) {xs : List α} {ys : List β}, Paired R xs ys → Paired R (xs.drop n) (ys.drop n)
  | 0, _, _, h => h
  | n + 1, _, _, .nil => .nil
  | n + 1, _, _, .cons r t => Paired.dropP n t
/-- years told, equal -/
theorem takenF_names (tk : List Str) (car : Cr) (row ahead : Dc) : (takenF tk car row ahead).map (·.1) = tk := by
  rw [takenF_eq, List.map_map]
  exact List.map_id _
theorem years_nd {tk : List Str} {lets : Ls} {car : Cr} (h1 : tk.Nodup) (h2 : (lets.map (·.1)).Nodup) : ∀ {rows : List Dc} {a : Dc}, ∀ y ∈ yearsF tk lets car rows a, (y.1.map (·.1)).Nodup ∧ (y.2.map (·.1)).Nodup
  | [], _, y, h => by cases h
  | r :: rs, a, y, h => by
    rcases List.mem_cons.mp h with rfl | h
    · exact ⟨by rw [takenF_names]; exact h1, by rw [duesF_names]; exact h2⟩
    · exact years_nd h1 h2 y h
theorem yn_eqx {E : Ev} {H0 H0' H : Hp} {xs ys : List V} {yr : List (Dc × Dc)} (nd : ∀ y ∈ yr, (y.1.map (·.1)).Nodup ∧ (y.2.map (·.1)).Nodup) (h1 : Paired (YN E H0 H) xs yr) (h2 : Paired (YN E H0' H) ys yr) : Paired (EqX E.K H 3) xs ys :=
  pair_two2 (R := fun x y => ((y.1.map (·.1)).Nodup ∧ (y.2.map (·.1)).Nodup) ∧ YN E H0 H x y) (T := YN E H0' H) (fun a b c ⟨n, t, p, q, e1, s1, _, _, d1, d2⟩ ⟨t', p', q', e2, s2, _, _, d3, d4⟩ => by
    subst e1 e2
    exact .inr (.inr (.inl ⟨t, t', _, _, rfl, rfl, s1, s2, .cons (da_eqx 0 n.1 d1 d3) (.cons (da_eqx 0 n.2 d2 d4) .nil)⟩))) (pair_with h1 fun y hy x r => ⟨nd y hy, r⟩) h2

/-! ### what came about -/
structure Hs (S : LS) : Prop where
  run : okRun (ls0 S.tk S.lets S.car) S.notes
  eq : redo (ls0 S.tk S.lets S.car) S.notes = S
  ok : LsOk S
/-- the rows as they stood behind each deed -/
def rowsAt (S : LS) (i : Nat) : List Dc := (redo (ls0 S.tk S.lets S.car) (S.notes.take i)).rows
theorem does_fix (S : LS) (d : Deed) : (S.does d).tk = S.tk ∧ (S.does d).lets = S.lets ∧ (S.does d).car = S.car := by cases d <;> exact ⟨rfl, rfl, rfl⟩
theorem redo_fix : ∀ (ds : List Deed) (S : LS), (redo S ds).tk = S.tk ∧ (redo S ds).lets = S.lets ∧ (redo S ds).car = S.car
  | [], S => ⟨rfl, rfl, rfl⟩
  | d :: r, S => by
    obtain ⟨a, b, c⟩ := redo_fix r (S.does d)
    obtain ⟨a', b', c'⟩ := does_fix S d
    exact ⟨a.trans a', b.trans b', c.trans c'⟩
theorem does_notes (S : LS) (d : Deed) : (S.does d).notes = S.notes ++ [d] := by cases d <;> rfl
theorem redo_notes : ∀ (ds : List Deed) (S : LS), (redo S ds).notes = S.notes ++ ds
  | [], S => (List.append_nil _).symm
  | d :: r, S => by
    show (redo (S.does d) r).notes = _
    rw [redo_notes r, does_notes, List.append_assoc]
    rfl
theorem redo_app (S : LS) (xs ys : List Deed) : redo S (xs ++ ys) = redo (redo S xs) ys := List.foldl_append
theorem okRun_take : ∀ (n : Nat) {S : LS} {ds : List Deed}, okRun S ds → okRun S (ds.take n)
  | 0, _, _, _ => trivial
  | n + 1, _, [], _ => trivial
  | n + 1, S, d :: r, ⟨a, b, c⟩ => ⟨a, b, okRun_take n c⟩
theorem okRun_drop : ∀ (n : Nat) {S : LS} {ds : List Deed}, okRun S ds → okRun (redo S (ds.take n)) (ds.drop n)
  | 0, _, _, h => h
  | n + 1, _, [], _ => trivial
  | n + 1, S, d :: r, ⟨a, b, c⟩ => okRun_drop n c
theorem okRun_ls {S : LS} : ∀ {ds : List Deed}, okRun S ds → ds ≠ [] → LsOk S
  | [], _, h => absurd rfl h
  | d :: r, ⟨a, b, c⟩, _ => b
/-- behind each beginning all is well -/
theorem Hs.at_ {S : LS} (h : Hs S) (n : Nat) : LsOk (redo (ls0 S.tk S.lets S.car) (S.notes.take n)) := by
  by_cases hn : n < S.notes.length
  · have h1 := okRun_drop n h.run
    exact okRun_ls h1 (fun e => by have := congrArg List.length e; rw [List.length_drop] at this; simp at this; omega)
  · rw [List.take_of_length_le (by omega), h.eq]
    exact h.ok
theorem ok_nd {S : LS} (h : LsOk S) {d : Deed} (o : okDeed S d) : ndD d := by
  cases d with
  | add d => exact o.1.nodup (free_nodup h.ch.ndt)
  | mend y d => exact o.1.nodup (free_nodup h.ch.ndt)
  | undo => trivial
theorem okRun_nd : ∀ {ds : List Deed} {S : LS}, okRun S ds → ∀ d ∈ ds, ndD d
  | [], _, _, d, h => by cases h
  | e :: r, S, ⟨a, b, c⟩, d, h => by
    rcases List.mem_cons.mp h with rfl | h
    · exact ok_nd b a
    · exact okRun_nd c d h
/-- no deed stands: no year -/
def P0 (S : LS) : Prop := S.past = [] → S.rows = []
theorem p0_does {S : LS} (h : ∃ r, (S.past ++ [S.rows]).head? = some r ∧ r = []) {d : Deed} (o : okDeed S d) : ∃ r, ((S.does d).past ++ [(S.does d).rows]).head? = some r ∧ r = [] := by
  obtain ⟨r, h1, rfl⟩ := h
  refine ⟨[], ?_, rfl⟩
  cases d with
  | add d =>
    show ((S.past ++ [S.rows]) ++ [S.rows ++ [d]]).head? = _
    rw [List.head?_append, h1]; rfl
  | mend y d =>
    show ((S.past ++ [S.rows]) ++ [S.rows.set y d]).head? = _
    rw [List.head?_append, h1]; rfl
  | undo =>
    have o : S.past ≠ [] := o
    show (S.past.dropLast ++ [(S.past.getLast?).getD []]).head? = some []
    obtain ⟨l, b, e0⟩ : ∃ l b, S.past = l ++ [b] := by
      rcases List.eq_nil_or_concat S.past with e0 | ⟨l, b, e0⟩
      · exact absurd e0 o
      · exact ⟨l, b, by rw [e0, List.concat_eq_append]⟩
    rw [e0] at h1 ⊢
    rw [List.dropLast_concat]
    simp at h1 ⊢
    rw [h1]
end
section
/-- a list of rows' dicts as it stands -/
def RwA (E : Ev) (H : Hp) (l : Addr) (rows : List Dc) : Prop := ∃ rs : List Addr, H l = some (.lst (rs.map V.ref)) ∧ Paired (DA E H) rs rows
theorem RwA.mono {E : Ev} {H H' : Hp} {l : Addr} {rows : List Dc} (s : Same H H') (h : RwA E H l rows) : RwA E H' l rows := by
  obtain ⟨rs, h1, h2⟩ := h
  exact ⟨rs, s _ _ h1, Paired.mapP h2 fun _ _ z => z.mono s⟩
/-- another's step: what stood ahead of it stands -/
theorem Stp.hb {F H F' H' HB : Hp} {os os' : List Addr} (s : Stp F os H F' os' H') (hb : Same HB H) (ho : ∀ a ∈ os, HB a = none) : Same HB H' ∧ ∀ a ∈ os', HB a = none := by
  refine ⟨fun a u h => s.keep a u (fun hm => by rw [ho a hm] at h; cases h) (hb _ _ h), fun a ha => ?_⟩
  rcases s.onew a ha with h | h
  · exact ho a h
  · exact none_of hb h
/-- deeds from the i-th on, still whole, none of them frozen -/
def Dds (E : Ev) (F H : Hp) (zs : List V) (dsa : List (Deed × Option Addr)) (i : Nat) : Prop := ∀ j, i ≤ j → ∀ z q, zs[j]? = some z → dsa[j]? = some q → DeedO E H z q.1 q.2 ∧ ∀ b, q.2 = some b → F b = none
theorem DeedO.at_ {E : Ev} {H : Hp} : ∀ {v : V} {d : Deed} {b : Addr}, DeedO E H v d (some b) → ∃ kvs, H b = some (.dK kvs)
  | v, .add d, b, ⟨t, a, h1, h2, h3, ⟨kvs, h4, h5⟩⟩ => ⟨kvs, by cases h1; exact h4⟩
  | v, .mend y d, b, ⟨t, a, h1, h2, h3, ⟨kvs, h4, h5⟩⟩ => ⟨kvs, by cases h1; exact h4⟩
  | v, .undo, b, ⟨t, h1, h2, h3⟩ => by cases h1
/-- the dicts of one's own stand, but that at x -/
theorem DeedO.off {E : Ev} {H H' : Hp} (ts : TS H H') : ∀ {v : V} {d : Deed} {o : Option Addr}, (∀ b, o = some b → H' b = H b) → DeedO E H v d o → DeedO E H' v d o
  | v, .add d, o, hk, ⟨t, a, h1, h2, h3, ⟨kvs, h4, h5⟩⟩ => ⟨t, a, h1, h2, ts.sqt h3, ⟨kvs, by rw [hk a h1]; exact h4, h5.ts ts⟩⟩
  | v, .mend y d, o, hk, ⟨t, a, h1, h2, h3, ⟨kvs, h4, h5⟩⟩ => ⟨t, a, h1, h2, ts.sqt h3, ⟨kvs, by rw [hk a h1]; exact h4, h5.ts ts⟩⟩
  | v, .undo, o, hk, ⟨t, h1, h2, h3⟩ => ⟨t, h1, h2, ts.sqt h3⟩
theorem Dds.stp {E : Ev} {F H F' H' : Hp} {os os' : List Addr} {zs : List V} {dsa : List (Deed × Option Addr)} {i : Nat} (h : Dds E F H zs dsa i) (s : Stp F os H F' os' H') (hn : ∀ b kvs, H b = some (.dK kvs) → b ∉ os) : Dds E F' H' zs dsa i := by
  intro j hj z q hz hq
  obtain ⟨h1, h2⟩ := h j hj z q hz hq
  refine ⟨h1.off s.ts fun b hb => ?_, fun b hb => ?_⟩
  · rw [hb] at h1
    obtain ⟨kvs, h3⟩ := h1.at_
    rw [h3]
    exact s.keep b _ (hn b kvs h3) h3
  · have h1' := h1
    rw [hb] at h1'
    obtain ⟨kvs, h3⟩ := h1'.at_
    exact s.fno (h2 b hb) h3
theorem Dds.grow {E : Ev} {F H H' : Hp} {zs : List V} {dsa : List (Deed × Option Addr)} {i : Nat} (h : Dds E F H zs dsa i) (s : Same H H') : Dds E F H' zs dsa i :=
  h.stp (Stp.grow (F := F) (os := []) s) fun _ _ _ hm => by cases hm
/-- addresses of unlike deeds are unlike -/
theorem nd_opt {as : List (Option Addr)} (nd : (as.filterMap id).Nodup) {i j : Nat} {b : Addr} (hij : i < j) (h1 : as[i]? = some (some b)) (h2 : as[j]? = some (some b)) : False := by
  induction as generalizing i j with
  | nil => simp at h1
  | cons a as ih =>
    obtain ⟨j', rfl⟩ : ∃ j', j = j' + 1 := ⟨j - 1, by omega⟩
    have h2 : as[j']? = some (some b) := by simpa using h2
    cases i with
    | zero =>
      have h1 : a = some b := by simpa using h1
      subst h1
      rw [List.filterMap_cons] at nd
      have nd : (b :: as.filterMap id).Nodup := nd
      rw [List.nodup_cons] at nd
      exact nd.1 (List.mem_filterMap.mpr ⟨some b, List.mem_of_getElem? h2, rfl⟩)
    | succ i =>
      have h1 : as[i]? = some (some b) := by simpa using h1
      refine ih ?_ (by omega) h1 h2
      cases a with
      | none => exact nd
      | some c =>
        rw [List.filterMap_cons] at nd
        have nd : (c :: as.filterMap id).Nodup := nd
        exact (List.nodup_cons.mp nd).2
theorem Dds.clear {E : Ev} {F H : Hp} {zs : List V} {ds : List Deed} {as : List (Option Addr)} {i : Nat} {b : Addr} {kvs : List (Key × V)} (h : Dds E F H zs (ds.zip as) i) (nd : (as.filterMap id).Nodup) (hb : H b = some (.dK kvs)) (hi : as[i]? = some (some b)) : Dds E F (upd H b (.dK [])) zs (ds.zip as) (i + 1) := by
  intro j hj z q hz hq
  obtain ⟨h1, h2⟩ := h j (by omega) z q hz hq
  refine ⟨h1.off (TS.upd hb rfl) fun a ha => upd_ne fun e => ?_, h2⟩
  subst e
  have hq2 : as[j]? = some q.2 := by
    rw [List.getElem?_zip_eq_some] at hq
    exact hq.2
  rw [ha] at hq2
  exact nd_opt nd (by omega) hi hq2
theorem Dds.succ {E : Ev} {F H : Hp} {zs : List V} {dsa : List (Deed × Option Addr)} {i : Nat} (h : Dds E F H zs dsa i) : Dds E F H zs dsa (i + 1) := fun j hj => h j (by omega)
theorem DeedL.dds {E : Ev} {F H0 H : Hp} {ys : List V} {ds : List Deed} {as : List (Option Addr)} (h : DeedL E H0 H ys ds as) (hF : Same F H0) : Dds E F H ys (ds.zip as) 0 := by
  intro j _ z q hz hq
  obtain ⟨q', h1, h2⟩ := pair_at h.pr hz
  rw [hq] at h1
  cases h1
  refine ⟨h2, fun b hb => none_of hF (h.new b ?_)⟩
  rw [List.getElem?_zip_eq_some] at hq
  rw [← hb]
  exact List.mem_of_getElem? hq.2
theorem nd_sub {as : List (Option Addr)} (nd : (as.filterMap id).Nodup) (n m : Nat) : (((as.take m).drop n).filterMap id).Nodup := by
  refine List.Pairwise.sublist ?_ nd
  exact List.Sublist.filterMap id ((List.drop_sublist n _).trans (List.take_sublist m as))
theorem zip_sub {α β : Type} (xs : List α) (ys : List β) (n m : Nat) : ((xs.zip ys).take m).drop n = ((xs.take m).drop n).zip ((ys.take m).drop n) := by
  rw [List.zip_eq_zipWith, List.zip_eq_zipWith, List.take_zipWith, List.drop_zipWith]
theorem Dds.sub {E : Ev} {F H : Hp} {zs : List V} {ds : List Deed} {as : List (Option Addr)} (h : Dds E F H zs (ds.zip as) 0) (n m : Nat) : Dds E F H ((zs.take m).drop n) (((ds.take m).drop n).zip ((as.take m).drop n)) 0 := by
  intro j _ z q hz hq
  rw [← zip_sub] at hq
  rw [List.getElem?_drop, List.getElem?_take] at hz hq
  split at hz
  · rename_i hlt
    rw [if_pos hlt] at hq
    exact h (n + j) (Nat.zero_le _) z q hz hq
  · cases hz
end
section
/-- what an undo more asks -/
structure Hx (S : LS) : Prop where
  ok : LsOk S
  pb : ∀ r ∈ S.past, r.length ≤ 5000
  hd : ∃ r, (S.past ++ [S.rows]).head? = some r ∧ r = []
theorem hx_does {S : LS} (h : Hx S) {d : Deed} (o : okDeed S d) (ok : LsOk (S.does d)) : Hx (S.does d) := by
  refine ⟨ok, ?_, p0_does h.hd o⟩
  cases d with
  | add d =>
    intro r hr
    rcases List.mem_append.mp (show r ∈ S.past ++ [S.rows] from hr) with hr | hr
    · exact h.pb r hr
    · rw [List.mem_singleton.mp hr]; exact h.ok.few.1
  | mend y d =>
    intro r hr
    rcases List.mem_append.mp (show r ∈ S.past ++ [S.rows] from hr) with hr | hr
    · exact h.pb r hr
    · rw [List.mem_singleton.mp hr]; exact h.ok.few.1
  | undo => exact fun r hr => h.pb r (List.dropLast_subset _ hr)
theorem hx_run : ∀ {ds : List Deed} {S : LS}, okRun S ds → LsOk (redo S ds) → Hx S → Hx (redo S ds)
  | [], S, _, _, h => h
  | [d], S, ⟨a, b, c⟩, ok, h => hx_does h a ok
  | d :: e :: r, S, ⟨a, b, c⟩, ok, h => hx_run (S := S.does d) c ok (hx_does h a c.2.1)
theorem hx_undo {S : LS} (h : Hx S) (hne : S.past ≠ []) (hn : S.notes.length < 4000) : Hx S.undo := by
  refine hx_does h (d := .undo) hne ⟨h.ok.ch, fun d hd => ?_, fun r hr => h.ok.past r (List.dropLast_subset _ hr), ?_, ?_, ?_⟩
  · have hd : d ∈ (S.past.getLast?).getD [] := hd
    cases q : S.past.getLast? with
    | none => rw [q] at hd; cases hd
    | some r =>
      rw [q] at hd
      exact h.ok.past r (List.mem_of_getLast? q) d hd
  · show ((S.past.getLast?).getD []).length ≤ 5000
    cases q : S.past.getLast? with
    | none => exact Nat.zero_le _
    | some r => exact h.pb r (List.mem_of_getLast? q)
  · show S.past.dropLast.length ≤ 5000
    rw [List.length_dropLast]
    have := h.ok.few.2.1
    omega
  · show (S.notes ++ [Deed.undo]).length ≤ 5000
    rw [List.length_append]
    show S.notes.length + 1 ≤ 5000
    omega
theorem hx_past {S : LS} (h : Hx S) (hr : 0 < S.rows.length) : S.past ≠ [] := fun e => by
  obtain ⟨r, h1, rfl⟩ := h.hd
  rw [e] at h1
  simp at h1
  rw [h1] at hr
  simp at hr
theorem hx_0 {tk : List Str} {lets : Ls} {car : Cr} (h : ChOk tk lets car) : Hx (ls0 tk lets car) :=
  ⟨⟨h, (fun d hd => absurd hd List.not_mem_nil), (fun r hr => absurd hr List.not_mem_nil), Nat.zero_le _, Nat.zero_le _, Nat.zero_le _⟩, (fun r hr => absurd hr List.not_mem_nil), [], rfl, rfl⟩
theorem same_one {D : Addr} {o : HO} {H : Hp} (h : H D = some o) : Same (upd (fun _ => none) D o) H := fun a u e => by
  by_cases z : a = D
  · rw [z, upd_same] at e
    rw [z, h]
    exact e
  · rw [upd_ne z] at e
    cases e
end
section
section
variable {E : Ev} {k : Nat} {N : List Str} {sc : Scope} {dd : Bool} {X : Cx} {σ : L2.St} {H : Hp} {Q : VK} {e : Expr} {p apos cpos pos : Pos}
/-- list(e.items()) -/
theorem w_listItems (c : Cxt E k N sc dd X) (B : Bl E) (h : gloB sc "list" = true) (q : W X e σ H fun x H1 => LiI.rItemsL x H1 Q) (hbase : attributeBase e "items" X.env (eval e X.env) = eval e X.env := by rfl) (hline : (apos.endLine == cpos.line) = true := by rfl)
    (hs : starEach [.Call (.Attribute e "items" apos) [] [] cpos] X.env = (false, eval (.Call (.Attribute e "items" apos) [] [] cpos) X.env) :: starEach [] X.env := by rfl) :
    W X (.Call (.Name "list" p) [.Call (.Attribute e "items" apos) [] [] cpos] [] pos) σ H Q := by
  obtain ⟨h1, h2, h3⟩ := c.glo h
  exact w_of (LiI.pe_listItems c.calm w_pe h1 (by rw [c.hmg]; exact B _ (by decide +kernel)) (by decide +kernel) hbase hline hs) q
theorem vals_at {kvs : List (Key × V)} {vs : List (Key × Value)} (kv : KV kvs vs) {us : List Value} (hl : us.length = vs.length) (h : ∀ (j : Nat) (v : Value), us[j]? = some v → ∃ k, vs[j]? = some (k, v)) : Vals (kvs.map (·.2)) us := by
  refine pair_of (by rw [List.length_map, Paired.length kv, hl]) fun i x y h1 h2 => ?_
  obtain ⟨k, hk⟩ := h i y h2
  obtain ⟨p, hp, e1, e2⟩ := pair_at' (show Paired (fun (p : Key × V) (q : Key × Value) => p.1 = q.1 ∧ RelV p.2 q.2) kvs vs from kv) hk
  rw [List.getElem?_map, hp] at h1
  cases h1
  exact e2
/-- list(e.values()) -/
theorem w_listVals (c : Cxt E k N sc dd X) (B : Bl E) (h : gloB sc "list" = true) (q : W X e σ H fun x H1 => ∃ d kvs, x = .ref d ∧ H1 d = some (.dK kvs) ∧ ∀ l, H1 l = none → Q (.ref l) (upd H1 l (.lst (kvs.map (·.2))))) (hbase : attributeBase e "values" X.env (eval e X.env) = eval e X.env := by rfl) (hline : (apos.endLine == cpos.line) = true := by rfl)
    (hs : starEach [.Call (.Attribute e "values" apos) [] [] cpos] X.env = (false, eval (.Call (.Attribute e "values" apos) [] [] cpos) X.env) :: starEach [] X.env := by rfl) :
    W X (.Call (.Name "list" p) [.Call (.Attribute e "values" apos) [] [] cpos] [] pos) σ H Q := by
  obtain ⟨hg, hdb, hnn⟩ := c.glo h
  refine ⟨fun pins s I => ?_⟩
  refine wpAny_Call_Name_kw (ld_blt I hg (by rw [c.hmg]; exact B _ (by decide +kernel)) (show bootBuiltins "list" = some (.type "list") by decide +kernel) ?_)
  refine PyProof.Rows.callWith_type1 ?_ hs rfl
  rw [hs]
  show wpAny _ _ (spliced ((false, eval (.Call (.Attribute e "values" apos) [] [] cpos) X.env) :: backTo pos (starEach [] X.env))) _ _ s
  refine Calls.spliced_cons ?_
  refine wpAny_Call_method (T := "dict") (id := "dict.values") hbase rfl hline F.plainAttrs_dict F.slot_dict_values F.type_dict_values (thn (q.run pins s I) fun u s1 ⟨x, H1, I1, rx, d, kvs, ex, hd, q2⟩ => ?_)
  subst ex
  obtain rfl : u = Value.ref d := rx
  obtain ⟨hz, hs0, vs, kv, hdo⟩ := I1.hok d _ hd
  obtain ⟨ep, hat⟩ := hdo.dictAt
  have lk : kvs.length = vs.length := Paired.length kv
  have I2 : Inv X pins σ H1 { s1 with heap := s1.heap.push { cls := .type "dict_values", data := .fields #[.ref d] } } := I1.kept (t' := s1.toks) fun b ob q => Heap.get?_push_of_some _ q
  refine ⟨hdo.typeIs, hdo.mapOf.noDict, ?_⟩
  show wpAny _ _ (callWith cpos (.builtin "dict.values") [.ref d] [] []) _ X.xe s1
  refine method_meetsIn F.slot_dict_values F.entry_dict_values rfl (PySem.evalArgs_none ⟨rfl, hdo.typeIs, F.args_dict_values_1 _, _, meets_dict_values (mixKind X.prog X.w) d hs0, ⟨vs, hdo⟩, ?_⟩)
  refine Calls.spliced_nil ?_
  refine PySem.W.kdl_call (PySem.W.kdl_values (knd := mixKind X.prog X.w) (kvs := vs) (ep := ep)) (I1.ok.hd c.calm) ⟨⟨_, Heap.get?_push_size _ rfl, rfl, rfl⟩, hat.push _⟩ (by omega) fun h' tk acc c' hk hS hacc => ?_
  have hv : Vals (kvs.map (·.2)) acc.toList := vals_at kv (by rw [Array.length_toList]; exact hacc.1) fun j v e => hacc.2 j v (by rw [← Array.getElem?_toList]; exact e)
  refine ⟨.ref _, _, I2.laid (t' := tk) (o := .lst (kvs.map (·.2))) hk (Nat.le_refl _) ?_, rfl, q2 _ (I2.hok.fresh (Nat.le_refl _))⟩
  exact ⟨by rw [List.length_map]; exact hz, acc.toList, c', hv, by rw [Array.toArray_toList]; exact hS⟩
theorem wi_keys {tg : Expr} {R : It → Hp → Prop} (q : W X e σ H fun y H1 => ∃ d ob kvs, y = .ref d ∧ H1 d = some (.frz ob (.dK kvs)) ∧ R (Itk d ob kvs) H1) : WI X tg e σ H R :=
  wi_of (pi_keys w_pe) (q.mono fun y H1 ⟨d, ob, kvs, ey, h, r⟩ => ⟨d, ob, ey, .inl ⟨kvs, h, r⟩⟩)
end
theorem src_keys {H1 : Hp} {a : Addr} {o : Obj} {kvs : List (Key × V)} (h : H1 a = some (.frz o (.dK kvs))) : Src H1 (Itk a o kvs) kvs.length fun i x _ => ∃ k v, kvs[i]? = some (k, v) ∧ x = kV k := fun H s => by
  have h2 := s _ _ h
  refine ⟨fun i hi => ⟨⟨h2, hi⟩, fun x H' y => ?_⟩, ⟨h2, Nat.le_refl _⟩⟩
  obtain ⟨rfl, y⟩ := y
  exact ⟨Same.refl _, y⟩
end
section
def spStands (E : Ev) : Pr := fun vs H Q => ∃ F p S os am r pp g pls ns tkl ltl cd, vs = [.ref p, .ref am, .ref tkl, .ref ltl, .ref cd] ∧ Jt E F H p S os am r pp g pls ns ∧ LsOk S ∧ (∀ d ∈ S.notes, ndD d) ∧ H tkl = some (.lst (S.tk.map V.str)) ∧ LtL E H ltl S.lets ∧ CA H cd S.car ∧ ∀ H', Q (.bl true) H'
/-- a year's dicts, none of them at D -/
def YM (E : Ev) (D : Addr) (H : Hp) (v : V) (y : Dc × Dc) : Prop := ∃ t a b, v = .ref t ∧ SqT E.K H t [.ref a, .ref b] ∧ a ≠ D ∧ b ≠ D ∧ DA E H a y.1 ∧ DA E H b y.2
theorem YM.off {E : Ev} {D : Addr} {H H' : Hp} {v : V} {y : Dc × Dc} (ts : TS H H') (hk : ∀ a kvs, a ≠ D → H a = some (.dK kvs) → H' a = some (.dK kvs)) (h : YM E D H v y) : YM E D H' v y := by
  obtain ⟨t, a, b, h1, h2, h3, h4, ⟨k5, h5, h6⟩, ⟨k7, h7, h8⟩⟩ := h
  exact ⟨t, a, b, h1, ts.sqt h2, h3, h4, ⟨k5, hk _ _ h3 h5, h6.ts ts⟩, ⟨k7, hk _ _ h4 h7, h8.ts ts⟩⟩
theorem items_eqx {E : Ev} {H : Hp} {ts ts' : List Addr} {ks ls : List (Key × V)} {d : Dc} (h : Paired (fun (t : Addr) (q : Key × V) => H t = some (.tup [kV q.1, q.2])) ts ks) (h' : Paired (fun (t : Addr) (q : Key × V) => H t = some (.tup [kV q.1, q.2])) ts' ls) (dr : DR E H ks d) (dr' : DR E H ls d) :
    Paired (EqX E.K H 2) (ts.map V.ref) (ts'.map V.ref) := by
  have h1 : Paired (fun (t : Addr) (q : Str × Int) => ∃ v, H t = some (.tup [.str q.1, v]) ∧ Pt E H v q.2) ts d := by
    refine pair_of (by rw [Paired.length h, Paired.length dr]) fun i t q e1 e2 => ?_
    obtain ⟨kv, e3, e4⟩ := pair_at h e1
    obtain ⟨q', e5, e6, e7⟩ := pair_at dr e3
    rw [e2] at e5
    cases e5
    have e6 : kv.1 = .inr q.1 := e6
    exact ⟨kv.2, by rw [e4, e6]; rfl, e7⟩
  have h2 : Paired (fun (t : Addr) (q : Str × Int) => ∃ v, H t = some (.tup [.str q.1, v]) ∧ Pt E H v q.2) ts' d := by
    refine pair_of (by rw [Paired.length h', Paired.length dr']) fun i t q e1 e2 => ?_
    obtain ⟨kv, e3, e4⟩ := pair_at h' e1
    obtain ⟨q', e5, e6, e7⟩ := pair_at dr' e3
    rw [e2] at e5
    cases e5
    have e6 : kv.1 = .inr q.1 := e6
    exact ⟨kv.2, by rw [e4, e6]; rfl, e7⟩
  have h3 : Paired (fun (t t' : Addr) => EqX E.K H 2 (.ref t) (.ref t')) ts ts' := pair_two2 (fun a b c ⟨v, q1, q2⟩ ⟨v', q3, q4⟩ => .inr (.inr (.inl ⟨a, b, _, _, rfl, rfl, SqT.of q1, SqT.of q3, .cons (eqx_flat 1 rfl) (.cons (eqx_pt 0 q2 q4) .nil)⟩))) h1 h2
  clear h1 h2 h h' dr dr'
  induction h3 with
  | nil => exact .nil
  | cons r _ ih => exact .cons r ih
theorem dput_names {d : Dc} {x : Str} {z : Int} (h : x ∈ d.map (·.1)) : (dput d x z).map (·.1) = d.map (·.1) := by
  unfold dput
  rw [if_pos]
  · rw [List.map_map]
    refine List.map_congr_left fun q _ => ?_
    show (if q.1 = x then (q.1, z) else q).1 = q.1
    split <;> rfl
  · obtain ⟨q, h1, h2⟩ := List.mem_map.mp h
    exact List.any_eq_true.mpr ⟨q, h1, decide_eq_true h2⟩
theorem dr_keys {E : Ev} {H : Hp} : ∀ {kvs : List (Key × V)} {d : Dc}, DR E H kvs d → (kvs.map fun kv => kV kv.1) = (d.map (·.1)).map V.str
  | _, _, .nil => rfl
  | kv :: _, q :: _, .cons r t => by
    rw [List.map_cons, List.map_cons, List.map_cons, dr_keys t, r.1]
    rfl
/-- what a let comes to over the first years -/
def sumF (S : LS) (i : Nat) (x : Str) : Int := ((S.years.take i).map fun y => (dget y.2 x).getD 0).sum
theorem sumF_succ {S : LS} {i : Nat} {y : Dc × Dc} (h : S.years[i]? = some y) (x : Str) : sumF S (i + 1) x = sumF S i x + (dget y.2 x).getD 0 := by
  unfold sumF
  rw [List.take_succ, h, List.map_append, List.sum_append]
  show _ + ([(dget y.2 x).getD 0] : List Int).sum = _
  simp
theorem ts_thaw {H : Hp} {p : Addr} {od : Obj} {kvs : List (Key × V)} {o' : HO} (h : H p = some (.frz od (.dK kvs))) : TS H (L2.upd H p o') := fun a xs r => by
  have ne : a ≠ p := by
    rintro rfl
    rcases r with r | ⟨ob, r⟩ <;> rw [h] at r <;> cases r
  rcases r with r | ⟨ob, r⟩
  · exact .inl (by rw [upd_ne ne]; exact r)
  · exact .inr ⟨ob, by rw [upd_ne ne]; exact r⟩
theorem pair_snoc2 {α β : Type} {R : α → β → Prop} {xs : List α} {ys : List β} {x : α} {y : β} (h : Paired R xs ys) (r : R x y) : Paired R (xs ++ [x]) (ys ++ [y]) := by
  induction h with
  | nil => exact .cons r .nil
  | cons q _ ih => exact .cons q ih
end
section
section
variable {X : Cx} {σ : L2.St} {H : Hp} {Q : VK} {k1 k2 k3 v1 v2 v3 : Expr} {pos : Pos}
/-- a display of one pair -/
theorem w_disp1 (q : ∀ p, H p = none → W X k1 σ (upd H p (.dK [])) fun x H1 => W X v1 σ H1 fun y H2 => H2 p = some (.dK []) ∧ ∃ kk : Str, x = .str kk ∧ Q (.ref p) (upd H2 p (.dK [(.inr kk, y)]))) : W X (.Dict [some k1] [v1] pos) σ H Q :=
  w_of (pe_disp (pps_cons w_pe w_pe pps_nil) rfl rfl (fun z => by cases z) (Nat.le_of_ble_eq_true rfl)) fun p hp => (q p hp).mono fun x H1 h => h.mono fun y H2 ⟨h1, kk, ex, h2⟩ => ⟨h1, [(.inr kk, y)], by rw [ex]; rfl, Nat.le_of_ble_eq_true rfl, h2⟩
/-- a display of three pairs -/
theorem w_disp3 (q : ∀ p, H p = none → W X k1 σ (upd H p (.dK [])) fun x1 H1 => W X v1 σ H1 fun y1 H2 => W X k2 σ H2 fun x2 H3 => W X v2 σ H3 fun y2 H4 => W X k3 σ H4 fun x3 H5 => W X v3 σ H5 fun y3 H6 =>
    H6 p = some (.dK []) ∧ ∃ a b c : Str, x1 = .str a ∧ x2 = .str b ∧ x3 = .str c ∧ Q (.ref p) (upd H6 p (.dK (mergeK [] [(.inr a, y1), (.inr b, y2), (.inr c, y3)])))) : W X (.Dict [some k1, some k2, some k3] [v1, v2, v3] pos) σ H Q :=
  w_of (pe_disp (pps_cons w_pe w_pe (pps_cons w_pe w_pe (pps_cons w_pe w_pe pps_nil))) rfl rfl (fun z => by cases z) (Nat.le_of_ble_eq_true rfl)) fun p hp => (q p hp).mono fun x1 H1 h => h.mono fun y1 H2 h => h.mono fun x2 H3 h => h.mono fun y2 H4 h => h.mono fun x3 H5 h => h.mono fun y3 H6 ⟨h1, a, b, c, e1, e2, e3, h2⟩ =>
    ⟨h1, [(.inr a, y1), (.inr b, y2), (.inr c, y3)], by rw [e1, e2, e3]; rfl, Nat.le_of_ble_eq_true rfl, h2⟩
end

theorem o_ne_da {E : Ev} {k : Nat} {N : List Str} {sc : Scope} {dd : Bool} {X : Cx} {H : Hp} {Q : VK} {a b : Addr} {d : Dc} (c : Cxt E k N sc dd X) (h1 : DA E H a d) (h2 : DA E H b d) (nd : (d.map (·.1)).Nodup) (q : Q (.bl false) H) : WCo X .NotEq (.ref a) (.ref b) H Q := by
  obtain ⟨ks, k1, k2⟩ := h1
  obtain ⟨ls, l1, l2⟩ := h2
  obtain ⟨e1, e2⟩ := dr_eqx 0 nd k2 l2
  exact o_ne_dx c k1 l1 e1 e2 (by omega) q

/-! ### the long log -/
abbrev taN : List Str := ["ta"]
abbrev laL : Ls := [("la", .nm "ta")]
abbrev taD (z : Int) : Dc := [("ta", z)]
abbrev laD (z : Int) : Dc := [("la", z)]
def rowsK : Nat → List Dc
  | 0 => []
  | k + 1 => [taD (2 * (k : Nat))]
def lgDeed : Nat → Deed
  | 0 => .add (taD 0)
  | k + 1 => .mend 0 (taD (2 * ((k + 1 : Nat) : Int)))
structure Lg (i : Nat) (S : LS) : Prop where
  tk : S.tk = taN
  lets : S.lets = laL
  car : S.car = []
  rows : S.rows = rowsK i
  past : S.past = (List.range i).map rowsK
theorem lg_0 : Lg 0 (ls0 taN laL []) := ⟨rfl, rfl, rfl, rfl, rfl⟩
theorem lg_does {i : Nat} {S : LS} (h : Lg i S) : Lg (i + 1) (S.does (lgDeed i)) := by
  obtain ⟨a, b, c, d, e⟩ := h
  have hp : S.past ++ [S.rows] = (List.range (i + 1)).map rowsK := by rw [e, d, List.range_succ, List.map_append]; rfl
  cases i with
  | zero => exact ⟨a, b, c, by show S.rows ++ _ = _; rw [d]; rfl, hp⟩
  | succ k => exact ⟨a, b, c, by show S.rows.set 0 _ = _; rw [d]; rfl, hp⟩
theorem lg_undo {i : Nat} {S : LS} (h : Lg (i + 1) S) : Lg i S.undo := by
  obtain ⟨a, b, c, d, e⟩ := h
  have e' : S.past = (List.range i).map rowsK ++ [rowsK i] := by rw [e, List.range_succ, List.map_append]; rfl
  exact ⟨a, b, c, by show (S.past.getLast?).getD [] = _; rw [e', List.getLast?_concat]; rfl, by show S.past.dropLast = _; rw [e', List.dropLast_concat]⟩
theorem lg_years {i : Nat} {S : LS} (h : Lg (i + 1) S) : S.years = [(taD (2 * (i : Int)), laD (2 * (i : Int)))] := by
  obtain ⟨a, b, c, d, e⟩ := h
  unfold LS.years
  rw [a, b, c, d]
  rfl
theorem lg_free {i : Nat} {S : LS} (h : Lg i S) : freeOf S.tk S.car = taN := by
  rw [h.tk, h.car]
  rfl
theorem lg_am (z : Int) (h : 0 ≤ z) : AmOk (taD z) taN := ⟨rfl, fun x hx => by rw [List.mem_singleton.mp hx]; rfl, fun q hq => by rw [List.mem_singleton.mp hq]; exact h⟩
theorem rowsK_am (i : Nat) : ∀ d ∈ rowsK i, AmOk d taN := by
  cases i with
  | zero => exact fun d h => absurd h List.not_mem_nil
  | succ k => exact fun d h => by rw [List.mem_singleton.mp h]; exact lg_am _ (by omega)
theorem rowsK_len (i : Nat) : (rowsK i).length ≤ 1 := by cases i <;> simp [rowsK]
theorem lg_ch {i : Nat} {S : LS} (h : Lg i S) : ChOk S.tk S.lets S.car := by
  rw [h.tk, h.lets, h.car]
  refine ⟨⟨by decide, by decide, by decide⟩, (fun z => by cases z), ⟨by trivial, ?_, by decide, trivial⟩, by decide +kernel, by decide +kernel, by decide, fun q hq => absurd hq List.not_mem_nil⟩
  show ("ta" : Str) ∈ taN
  exact List.mem_singleton.mpr rfl
theorem lg_ok {i : Nat} {S : LS} (h : Lg i S) (hi : i ≤ 2000) (hn : S.notes.length ≤ 5000) : LsOk S := by
  refine ⟨lg_ch h, fun d hd => ?_, fun r hr d hd => ?_, ?_, ?_, hn⟩
  · rw [lg_free h]; rw [h.rows] at hd; exact rowsK_am i d hd
  · rw [h.past] at hr
    obtain ⟨j, _, rfl⟩ := List.mem_map.mp hr
    rw [lg_free h]; exact rowsK_am j d hd
  · rw [h.rows]; have := rowsK_len i; omega
  · rw [h.past, List.length_map, List.length_range]; omega
theorem lg_okd {i : Nat} {S : LS} (h : Lg i S) : okDeed S (lgDeed i) := by
  cases i with
  | zero => exact ⟨by rw [lg_free h]; exact lg_am _ (by omega), by rw [h.rows]; decide⟩
  | succ k => exact ⟨by rw [lg_free h]; exact lg_am _ (by omega), by rw [h.rows]; exact Nat.zero_lt_one⟩
def lgS (i : Nat) : LS := redo (ls0 taN laL []) ((List.range i).map lgDeed)
theorem lgS_succ (i : Nat) : lgS (i + 1) = (lgS i).does (lgDeed i) := by
  unfold lgS
  rw [List.range_succ, List.map_append, redo_app]
  rfl
theorem lgS_lg : ∀ i, Lg i (lgS i)
  | 0 => lg_0
  | i + 1 => by rw [lgS_succ]; exact lg_does (lgS_lg i)
theorem lgS_notes (i : Nat) : (lgS i).notes = (List.range i).map lgDeed := by
  unfold lgS
  rw [redo_notes]
  rfl
theorem lgS_ok (i : Nat) (hi : i ≤ 2000) : LsOk (lgS i) := lg_ok (lgS_lg i) hi (by rw [lgS_notes, List.length_map, List.length_range]; omega)
theorem lg_run : ∀ (n i : Nat), i + n ≤ 2000 → okRun (lgS i) ((List.range' i n).map lgDeed)
  | 0, _, _ => trivial
  | n + 1, i, h => ⟨lg_okd (lgS_lg i), lgS_ok i (by omega), by rw [← lgS_succ]; exact lg_run n (i + 1) (by omega)⟩
theorem lgS_hs (i : Nat) (hi : i ≤ 2000) : okRun (ls0 (lgS i).tk (lgS i).lets (lgS i).car) ((lgS i).notes) ∧ ∀ n, redo (ls0 (lgS i).tk (lgS i).lets (lgS i).car) ((lgS i).notes.take n) = lgS (min n i) := by
  have h := lgS_lg i
  rw [h.tk, h.lets, h.car, lgS_notes]
  refine ⟨?_, fun n => ?_⟩
  · rw [List.range_eq_range']
    exact lg_run i 0 (by omega)
  · rw [← List.map_take, List.take_range]
    rfl
theorem lgS_hx (i : Nat) (hi : i ≤ 2000) : Hx (lgS i) := by
  obtain ⟨h1, h2⟩ := lgS_hs i hi
  have h3 := h2 i
  rw [lgS_notes, List.take_of_length_le (by rw [List.length_map, List.length_range]; exact Nat.le_refl _), Nat.min_self] at h3
  have ch := lg_ch (lgS_lg i)
  rw [← h3]
  rw [lgS_notes] at h1
  exact hx_run h1 (by rw [h3]; exact lgS_ok i hi) (hx_0 ch)
def spLongRight (E : Ev) : Pr := fun vs H Q => ∃ cell : Int, vs = [.int cell] ∧ ∀ H', Same H H' → Q (.bl true) H'
end
section
/-- few rows -/
structure Bd (S : LS) : Prop where
  r : S.rows.length ≤ S.notes.length
  p : S.past.length ≤ S.notes.length
  b : ∀ r ∈ S.past, r.length ≤ S.notes.length
theorem bd_0 (tk : List Str) (lets : Ls) (car : Cr) : Bd (ls0 tk lets car) := ⟨Nat.le_refl _, Nat.le_refl _, fun r hr => absurd hr List.not_mem_nil⟩
theorem bd_does {S : LS} (h : Bd S) {d : Deed} : Bd (S.does d) := by
  obtain ⟨h1, h2, h3⟩ := h
  have en : (S.does d).notes.length = S.notes.length + 1 := by rw [does_notes, List.length_append]; rfl
  cases d with
  | add d =>
    refine ⟨by rw [en]; show (S.rows ++ [d]).length ≤ _; rw [List.length_append]; exact Nat.succ_le_succ h1, by rw [en]; show (S.past ++ [S.rows]).length ≤ _; rw [List.length_append]; exact Nat.succ_le_succ h2, fun r hr => ?_⟩
    rw [en]
    rcases List.mem_append.mp (show r ∈ S.past ++ [S.rows] from hr) with hr | hr
    · exact Nat.le_succ_of_le (h3 r hr)
    · rw [List.mem_singleton.mp hr]; exact Nat.le_succ_of_le h1
  | mend y d =>
    refine ⟨by rw [en]; show (S.rows.set y d).length ≤ _; rw [List.length_set]; exact Nat.le_succ_of_le h1, by rw [en]; show (S.past ++ [S.rows]).length ≤ _; rw [List.length_append]; exact Nat.succ_le_succ h2, fun r hr => ?_⟩
    rw [en]
    rcases List.mem_append.mp (show r ∈ S.past ++ [S.rows] from hr) with hr | hr
    · exact Nat.le_succ_of_le (h3 r hr)
    · rw [List.mem_singleton.mp hr]; exact Nat.le_succ_of_le h1
  | undo =>
    refine ⟨?_, by rw [en]; show S.past.dropLast.length ≤ _; rw [List.length_dropLast]; omega, fun r hr => by rw [en]; exact Nat.le_succ_of_le (h3 r (List.dropLast_subset _ hr))⟩
    rw [en]
    show ((S.past.getLast?).getD []).length ≤ _
    cases q : S.past.getLast? with
    | none => exact Nat.zero_le _
    | some r => exact Nat.le_succ_of_le (h3 r (List.mem_of_getLast? q))
theorem okRun_snoc : ∀ {ds : List Deed} {S : LS} {d : Deed}, okRun S ds → okDeed (redo S ds) d → LsOk (redo S ds) → okRun S (ds ++ [d])
  | [], S, d, _, h1, h2 => ⟨h1, h2, trivial⟩
  | e :: r, S, d, ⟨a, b, c⟩, h1, h2 => ⟨a, b, okRun_snoc c h1 h2⟩
theorem lsOk_does {S : LS} (h : LsOk S) (b : Bd S) {d : Deed} (o : okDeed S d) (hn : S.notes.length < 4000) : LsOk (S.does d) := by
  have bd := bd_does b (d := d)
  have en : (S.does d).notes.length = S.notes.length + 1 := by rw [does_notes, List.length_append]; rfl
  obtain ⟨f1, f2, f3⟩ := does_fix S d
  have few : (S.does d).rows.length ≤ 5000 ∧ (S.does d).past.length ≤ 5000 ∧ (S.does d).notes.length ≤ 5000 := ⟨by have := bd.r; omega, by have := bd.p; omega, by omega⟩
  have hp : ∀ r ∈ S.past ++ [S.rows], ∀ d ∈ r, AmOk d (freeOf S.tk S.car) := fun r hr => by
    rcases List.mem_append.mp hr with hr | hr
    · exact h.past r hr
    · rw [List.mem_singleton.mp hr]; exact h.rows
  cases d with
  | add d =>
    refine ⟨h.ch, fun q hq => ?_, hp, few⟩
    rcases List.mem_append.mp (show q ∈ S.rows ++ [d] from hq) with hq | hq
    · exact h.rows q hq
    · rw [List.mem_singleton.mp hq]; exact o.1
  | mend y d =>
    refine ⟨h.ch, fun q hq => ?_, hp, few⟩
    rcases List.mem_or_eq_of_mem_set (show q ∈ S.rows.set y d from hq) with hq | hq
    · exact h.rows q hq
    · rw [hq]; exact o.1
  | undo =>
    refine ⟨h.ch, fun q hq => ?_, fun r hr => h.past r (List.dropLast_subset _ hr), few⟩
    have hq : q ∈ (S.past.getLast?).getD [] := hq
    cases e : S.past.getLast? with
    | none => rw [e] at hq; cases hq
    | some r => rw [e] at hq; exact h.past r (List.mem_of_getLast? e) q hq
theorem hs_does {S : LS} (h : Hs S) (b : Bd S) {d : Deed} (o : okDeed S d) (hn : S.notes.length < 4000) : Hs (S.does d) := by
  obtain ⟨f1, f2, f3⟩ := does_fix S d
  refine ⟨?_, ?_, lsOk_does h.ok b o hn⟩
  · rw [f1, f2, f3, does_notes]
    exact okRun_snoc h.run (by rw [h.eq]; exact o) (by rw [h.eq]; exact h.ok)
  · rw [f1, f2, f3, does_notes, redo_app, h.eq]
    rfl
theorem rowsAt_does {S : LS} (h : Hs S) (d : Deed) : (List.range ((S.does d).notes.length + 1)).map (rowsAt (S.does d)) = (List.range (S.notes.length + 1)).map (rowsAt S) ++ [(S.does d).rows] := by
  obtain ⟨f1, f2, f3⟩ := does_fix S d
  have en : (S.does d).notes.length = S.notes.length + 1 := by rw [does_notes, List.length_append]; rfl
  rw [en, List.range_succ (n := S.notes.length + 1), List.map_append]
  have e1 : (List.range (S.notes.length + 1)).map (rowsAt (S.does d)) = (List.range (S.notes.length + 1)).map (rowsAt S) := by
    refine List.map_congr_left fun i hi => ?_
    have hi := List.mem_range.mp hi
    unfold rowsAt
    rw [f1, f2, f3, does_notes, List.take_append_of_le_length (by omega)]
  have e2 : rowsAt (S.does d) (S.notes.length + 1) = (S.does d).rows := by
    unfold rowsAt
    rw [f1, f2, f3, List.take_of_length_le (by omega), does_notes, redo_app, h.eq]
    rfl
  rw [e1]
  show _ ++ [rowsAt (S.does d) (S.notes.length + 1)] = _
  rw [e2]
/-- a step of the law: a deed done, or nothing -/
theorem lstep_or {S : LS} {d : Deed} (o : okL S d) : (lstep S d = S.does d ∧ okDeed S d) ∨ lstep S d = S := by
  cases d with
  | add d => exact .inl ⟨rfl, o⟩
  | mend y d => exact .inl ⟨rfl, o⟩
  | undo =>
    by_cases h : S.past = []
    · exact .inr (if_pos h)
    · exact .inl ⟨if_neg h, h⟩
theorem hs_0 {tk : List Str} {lets : Ls} {car : Cr} (h : ChOk tk lets car) : Hs (ls0 tk lets car) := ⟨trivial, rfl, (hx_0 h).ok⟩
/-- copies of rows that stay -/
def RwF (E : Ev) (F H : Hp) (a : Addr) (rows : List Dc) : Prop := ∃ rs : List Addr, F a = some (.lst (rs.map V.ref)) ∧ Paired (LDA E F H) rs rows
theorem RwF.mono {E : Ev} {F F' H H' : Hp} {a : Addr} {rows : List Dc} (s : Same F F') (ts : TS H H') (h : RwF E F H a rows) : RwF E F' H' a rows := by
  obtain ⟨rs, h1, h2⟩ := h
  exact ⟨rs, s _ _ h1, Paired.mapP h2 fun _ _ z => z.mono s ts⟩
theorem RwF.a {E : Ev} {F H : Hp} {a : Addr} {rows : List Dc} (s : Same F H) (h : RwF E F H a rows) : RwA E H a rows := by
  obtain ⟨rs, h1, h2⟩ := h
  exact ⟨rs, s _ _ h1, Paired.mapP h2 fun _ _ z => z.da s⟩
def spLaw (E : Ev) : Pr := fun vs H Q => ∃ l, ∃ ns : List Int, vs = [.ref l] ∧ SqL E.K H l (ns.map V.int) ∧ ns.length ≤ 63 ∧ ∀ H', Q (.bl true) H'
end
section
-- 84 _law_years: ["_law_takes", "_law_lets", "_law_carried_here", "_law_rows", "_law_found", "_law_ahead", "_law_row", "_law_taken", "_law_take", "_law_come"]
abbrev N84 : List Str := ["_law_takes", "_law_lets", "_law_carried_here", "_law_rows", "_law_found", "_law_ahead", "_law_row", "_law_taken", "_law_take", "_law_come"]
theorem sc84 : FnScope N84 ["_law_takes", "_law_lets", "_law_carried_here", "_law_rows"] (defScope (top 84)) := ⟨rfl, rfl, rfl, by decide +kernel, rfl, by decide +kernel, by decide +kernel⟩
theorem nm84 : visB N84 (defScope (top 84)) 3 "_law_rows" = true ∧ visB N84 (defScope (top 84)) 0 "_law_takes" = true ∧ visB N84 (defScope (top 84)) 7 "_law_taken" = true ∧ visB N84 (defScope (top 84)) 8 "_law_take" = true ∧ visB N84 (defScope (top 84)) 6 "_law_row" = true ∧ visB N84 (defScope (top 84)) 2 "_law_carried_here" = true ∧ visB N84 (defScope (top 84)) 5 "_law_ahead" = true ∧ visB N84 (defScope (top 84)) 9 "_law_come" = true ∧ visB N84 (defScope (top 84)) 1 "_law_lets" = true ∧ visB N84 (defScope (top 84)) 4 "_law_found" = true ∧ locB true N84 (defScope (top 84)) 4 "_law_found" = true ∧ locB true N84 (defScope (top 84)) 5 "_law_ahead" = true ∧ locB true N84 (defScope (top 84)) 6 "_law_row" = true ∧ locB true N84 (defScope (top 84)) 7 "_law_taken" = true ∧ locB true N84 (defScope (top 84)) 8 "_law_take" = true ∧ locB true N84 (defScope (top 84)) 9 "_law_come" = true ∧ gloB (defScope (top 84)) "_law_dues" = true :=
  ⟨by decide +kernel, by decide +kernel, by decide +kernel, by decide +kernel, by decide +kernel, by decide +kernel, by decide +kernel, by decide +kernel, by decide +kernel, by decide +kernel, by decide +kernel, by decide +kernel, by decide +kernel, by decide +kernel, by decide +kernel, by decide +kernel, by decide +kernel⟩
-- obtain ⟨n3, n0, n7, n8, n6, n2, n5, n9, n1, n4, l4, l5, l6, l7, l8, l9, g__law_dues⟩ := nm84
theorem da_nil {E : Ev} {H : Hp} {a : Addr} {d : Dc} (h : DA E H a d) : ∃ kvs, H a = some (.dK kvs) ∧ decide (kvs = []) = decide (d = []) := by
  obtain ⟨kvs, h1, h2⟩ := h
  refine ⟨kvs, h1, ?_⟩
  cases h2 with
  | nil => rfl
  | cons _ _ => rfl
theorem ok_lyears {E : Ev} (t : Tx E) : Dg E 15 "_law_years" (spLyears E) := by
  refine dg_of (t.gd _ _ _ (by decide +kernel)) sc84 (fun vs H Q ⟨_, _, _, _, _, _, _, _, _, e, _⟩ => by rw [e]; rfl) fun X vs H Q c ⟨l1, l2, cd, rl, tk, lets, car, rows, rs, e, ht, hlt, hcd, hr, prH, ok, am0, hz, q⟩ => ?_
  subst e
  have B := t.B
  obtain ⟨n3, n0, n7, n8, n6, n2, n5, n9, n1, n4, l4, l5, l6, l7, l8, l9, g__law_dues⟩ := nm84
  have hln := Paired.length prH
  obtain ⟨⟨c1, c2, c3⟩, csome, okl, nd, ndt, ndc, ct⟩ := ok
  have dl := ok_ldues t
  walk_at "go"
  intro f hf
  have sf : Same H (upd H f (.lst [])) := Same.new hf
  walk_at "go"
  refine w_dict0 fun a0 ha0 => ?_
  have s0 : Same H (upd (upd H f (.lst [])) a0 (.dK [])) := sf.trans (Same.new ha0)
  have na0 : a0 ≠ f := fun z => by rw [z, upd_same] at ha0; cases ha0
  have hf0 : upd (upd H f (.lst [])) a0 (.dK []) f = some (.lst []) := Same.new ha0 _ _ upd_same
  have da0 : DA E (upd (upd H f (.lst [])) a0 (.dK [])) a0 [] := ⟨[], upd_same, .nil⟩
  generalize upd (upd H f (.lst [])) a0 (.dK []) = H0 at s0 hf0 da0
  walk_at "go"
  refine ws_forS c (wi_list c ?_)
  walk_at "go"
  refine ⟨⟨_, SqL.of (s0 _ _ hr)⟩, forS (src_list (SqL.of hr)) (fun i σ H' => Same H H' ∧ ∃ vs ys ad a o1 o2 o3 o4, H' f = some (.lst vs) ∧ Paired (YN E H H') vs ys ∧ ys.length = i ∧ ys ++ yearsF tk lets car (rows.drop i) a = yearsF tk lets car rows [] ∧ DA E H' ad a ∧ H ad = none ∧ ad ≠ f ∧ (a = [] ∨ a.map (·.1) = lets.map (·.1)) ∧
    σ = [some (.ref l1), some (.ref l2), some (.ref cd), some (.ref rl), some (.ref f), some (.ref ad), o1, o2, o3, o4])
    ⟨s0, [], [], a0, [], none, none, none, none, hf0, .nil, rfl, rfl, da0, none_of sf ha0, na0, .inl rfl, rfl⟩ (fun i σ H h => h.1) ?_ ?_⟩
  · rintro σ H' ⟨s1, vs, ys, ad, a, o1, o2, o3, o4, hv, pv, hyl, hys, had, hadn, hadf, hal, rfl⟩
    walk_at "go"
    refine q f vs H' s1 hf hv ?_
    rw [List.length_map, List.drop_eq_nil_of_le (by omega)] at hys
    have : ys = yearsF tk lets car rows [] := by rw [← hys]; exact (List.append_nil _).symm
    rw [← this]
    exact pv
  · rintro i σ H' x H2 hi ⟨s1, vs, ys, ad, a, o1, o2, o3, o4, hv, pv, hyl, hys, had, hadn, hadf, hal, rfl⟩ s2 hy
    rw [List.length_map] at hi
    obtain ⟨rd, hrd, rfl⟩ : ∃ rd, rs[i]? = some rd ∧ x = .ref rd := by
      rw [List.getElem?_map, List.getElem?_eq_getElem hi] at hy
      exact ⟨rs[i], List.getElem?_eq_getElem hi, by injection hy with hy; exact hy.symm⟩
    obtain ⟨row, hrow, hda⟩ := pair_at prH hrd
    have am := am0 row (List.mem_of_getElem? hrow)
    have s12 := s1.trans s2
    refine wg_name c l6 ?_
    walk_at "go"
    refine w_dict0 fun T hT => ?_
    walk_at "go"
    have sT : Same H2 (upd H2 T (.dK [])) := Same.new hT
    have hTn : H T = none := none_of s12 hT
    refine ws_forS c (wi_list c ?_)
    walk_at "go"
    have hT4 : DA E (upd H2 T (.dK [])) T [] := ⟨[], upd_same, .nil⟩
    refine ⟨⟨_, SqL.of ((s12.trans sT) _ _ ht)⟩, forS (src_list (SqL.of (s12 _ _ ht))) (fun j σ H' => Same H2 H' ∧ DA E H' T (((tk.take j).map fun x => (x, takeV car row a x))) ∧ ∃ o o', σ = [some (.ref l1), some (.ref l2), some (.ref cd), some (.ref rl), some (.ref f), some (.ref ad), some (.ref rd), some (.ref T), o, o'])
      ⟨sT, hT4, o3, o4, rfl⟩ (fun i σ H h => h.1) ?_ ?_⟩
    · rintro σ H5 ⟨s6, hT5, o, o', rfl⟩
      rw [List.length_map, List.take_length] at hT5
      have s16 := s12.trans s6
      walk_at "go"
      refine ⟨l2, T, lets, _, rfl, hlt.mono s16, hT5, by omega, by rw [List.length_map]; omega, okLets_imp (fun y hy => (takenF_ok (row := row) (ahead := a) am).get y hy) okl, nd, fun D H6 s7 hD hDA => ?_⟩
      walk_at "go"
      refine w_append c ?_
      walk_at "go"
      have hv6 := s7 _ _ (s6 _ _ (s2 _ _ hv))
      refine ⟨f, _, rfl, hv6, ?_⟩
      walk_at "go"
      intro tt htt
      have st : Same H6 (upd H6 tt (.tup [.ref T, .ref D])) := Same.new htt
      refine ⟨vs, st _ _ hv6, by rw [Paired.length pv, hyl]; exact Nat.lt_of_lt_of_le (show i < 100000 by omega) (by decide), ?_⟩
      have hDn : H D = none := none_of s16 hD
      have nTf : T ≠ f := fun z => by rw [z, s2 _ _ hv] at hT; cases hT
      have nDf : D ≠ f := fun z => by rw [z] at hD; rw [s6 _ _ (s2 _ _ hv)] at hD; cases hD
      have sH : Same H (upd (upd H6 tt (.tup [.ref T, .ref D])) f (.lst (vs ++ [.ref tt]))) := Same.mut ((s16.trans s7).trans st) hf
      have ts : TS H' (upd (upd H6 tt (.tup [.ref T, .ref D])) f (.lst (vs ++ [.ref tt]))) := ((((s2.trans s6).trans s7).trans st).ts).trans (TS.upd (st _ _ hv6) rfl)
      have tsf : TS H6 (upd (upd H6 tt (.tup [.ref T, .ref D])) f (.lst (vs ++ [.ref tt]))) := st.ts.trans (TS.upd (st _ _ hv6) rfl)
      have hk : ∀ b kvs, H6 b = some (.dK kvs) → (upd (upd H6 tt (.tup [.ref T, .ref D])) f (.lst (vs ++ [.ref tt]))) b = some (.dK kvs) := fun b kvs hb => by
        rw [upd_ne (show b ≠ f from fun z => by rw [z, hv6] at hb; cases hb)]
        exact st _ _ hb
      have hDA2 : DA E (upd (upd H6 tt (.tup [.ref T, .ref D])) f (.lst (vs ++ [.ref tt]))) D (duesF lets (takenF tk car row a)) := by
        obtain ⟨kv, k1, k2⟩ := hDA
        exact ⟨kv, hk _ _ k1, k2.ts tsf⟩
      have hTA2 : DA E (upd (upd H6 tt (.tup [.ref T, .ref D])) f (.lst (vs ++ [.ref tt]))) T (takenF tk car row a) := by
        obtain ⟨kv, k1, k2⟩ := hT5.mono s7
        exact ⟨kv, hk _ _ k1, k2.ts tsf⟩
      refine ⟨sH, vs ++ [.ref tt], ys ++ [(takenF tk car row a, duesF lets (takenF tk car row a))], D, _, _, _, _, _, upd_same, ?_, by rw [List.length_append, hyl]; rfl, ?_, hDA2, hDn, nDf, .inr (duesF_names _ _), rfl⟩
      · refine Paired.snoc (Paired.mapP pv fun _ _ z => z.mono ts fun b kvs hb => hk b kvs (s7 _ _ (s6 _ _ (s2 _ _ hb)))) ⟨tt, T, D, rfl, (TS.upd (st _ _ hv6) rfl).sqt (SqT.of upd_same), hTn, hDn, hTA2, hDA2⟩
      · rw [← hys, List.append_assoc]
        rw [List.drop_eq_getElem_cons (by omega : i < rows.length)]
        rw [List.getElem?_eq_getElem (by omega)] at hrow
        injection hrow with hrow
        rw [hrow]
        rfl
    · rintro j σ H5 x H6 hj ⟨s6, hT5, o, o', rfl⟩ s7 hy
      rw [List.length_map] at hj
      obtain ⟨nm2, hnm, rfl⟩ := strs_at hy
      have s26 := s6.trans s7
      have s16 := s12.trans s26
      have hcd6 := s16 _ _ hcd
      have hT6 := hT5.mono s7
      have had6 := (had.mono s2).mono s26
      have hrow6 := hda.mono s16
      have ndT : T ≠ ad := fun z => by obtain ⟨_, z1, _⟩ := had.mono s2; rw [← z, hT] at z1; cases z1
      have htin : nm2 ∈ tk := List.mem_of_getElem? hnm
      have hnew : nm2 ∉ ((tk.take j).map fun x => (x, takeV car row a x)).map (·.1) := by
        rw [List.map_map]
        intro hm
        obtain ⟨x', hx', e'⟩ := List.mem_map.mp hm
        have e' : x' = nm2 := e'
        rw [e', List.mem_take_iff_getElem] at hx'
        obtain ⟨j2, hj2, ej⟩ := hx'
        rw [List.getElem?_eq_getElem hj] at hnm
        injection hnm with hnm
        exact List.pairwise_iff_getElem.mp ndt j2 j (by omega) hj (by omega) (by rw [ej, hnm])
      have e3 : ((tk.take (j + 1)).map fun x => (x, takeV car row a x)) = dput ((tk.take j).map fun x => (x, takeV car row a x)) nm2 (takeV car row a nm2) := by
        rw [dput_new hnew, List.take_succ, hnm, List.map_append]
        rfl
      have hlen : ((tk.take j).map fun x => (x, takeV car row a x)).length ≤ 1000 := by rw [List.length_map, List.length_take]; omega
      generalize hprev : ((tk.take j).map fun x => (x, takeV car row a x)) = prev at hT6 hnew e3 hlen
      obtain ⟨rkv, hrk1, hrk2⟩ := hrow6
      refine wg_name c l8 ?_
      refine wb_cons (ws_sub (w_get2 c ?_))
      walk_at "go"
      refine ⟨.inl ⟨_, .inl hrk1⟩, ?_⟩
      walk_at "go"
      intro z hzz
      have hz0 : PtA E (upd H6 z (.tup [.int 0, .int 1])) z 0 := SqT.of upd_same
      have s67 : Same H6 (upd H6 z (.tup [.int 0, .int 1])) := Same.new hzz
      generalize upd H6 z (.tup [.int 0, .int 1]) = H7 at hz0 s67
      obtain ⟨r, g1, g2, g3⟩ := rd_get (x := nm2) (H := H7) (.inl (s67 _ _ hrk1)) hrk2
      have hv0 : Pt E H7 (r.getD (.ref z)) ((dget row nm2).getD 0) := by
        cases e : dget row nm2 with
        | none =>
          rw [e] at g2
          cases r with
          | none => exact ⟨z, rfl, hz0⟩
          | some v => cases g2
        | some w =>
          obtain ⟨v, ev, pv⟩ := g3 w e
          rw [ev]
          exact pv.mono s67
      refine ⟨r, g1, ?_⟩
      walk_at "go"
      generalize r.getD (.ref z) = v0 at hv0
      refine i_da c (hT6.mono s67) (by omega) hv0 fun kvs8 hT8 ts8 => ?_
      have s28 : Same H2 (upd H7 T (.dK kvs8)) := Same.mut (s26.trans s67) hT
      have s18 : Same H (upd H7 T (.dK kvs8)) := Same.mut (s16.trans s67) hTn
      have had8 : DA E (upd H7 T (.dK kvs8)) ad a := (had6.mono s67).off (Ne.symm ndT) ts8
      generalize upd H7 T (.dK kvs8) = H8 at s28 s18 had8 hT8
      have hcd8 := s18 _ _ hcd
      walk_at "go"
      refine o_in_d c (r := (cget car nm2).map V.str) (by rw [← carK_get]; exact DGet.k (k := .inr nm2) hcd8) ⟨_, rfl, ?_⟩
      cases ecar : cget car nm2 with
      | none =>
        have hval : takeV car row a nm2 = (dget row nm2).getD 0 := by unfold takeV; rw [ecar]
        refine iteF ?_
        walk_at "go"
        exact ⟨s28, by rw [e3, hval]; exact hT8, _, _, rfl⟩
      | some lnm =>
        refine iteT ?_
        walk_at "go"
        refine w_dict0 fun e0 he0 => ?_
        have s89 : Same H8 (upd H8 e0 (.dK [])) := Same.new he0
        obtain ⟨akv, hak, eak⟩ := da_nil had8
        refine o_ne_d0 c (s89 _ _ hak) upd_same ?_
        rw [eak]
        refine ⟨_, rfl, ?_⟩
        generalize upd H8 e0 (.dK []) = H9 at s89
        have s29 := s28.trans s89
        have s19 := s18.trans s89
        have had9 := had8.mono s89
        have hT9 := hT8.mono s89
        by_cases ha : a = []
        · rw [decide_eq_true ha]
          have hval : takeV car row a nm2 = (dget row nm2).getD 0 := by
            unfold takeV
            rw [ecar, am.none (free_nodup ndt) (not_free ecar), ha]
            rfl
          refine iteF ?_
          walk_at "go"
          exact ⟨s29, by rw [e3, hval]; exact hT9, _, _, rfl⟩
        · rw [decide_eq_false ha]
          refine iteT ?_
          have hal2 := hal.resolve_left ha
          have hln : (dget a lnm).isSome = true := dget_names (by rw [hal2]; exact (ct _ (cget_mem ecar)).2)
          have hval : takeV car row a nm2 = mx 0 ((dget a lnm).getD 0) := by unfold takeV; rw [ecar]
          obtain ⟨t9, g9, p9⟩ := da_get had9 hln
          generalize (dget a lnm).getD 0 = y9 at p9 hval
          walk_at "go"
          refine x_dic c (fun _ _ => rfl) (v := .str lnm) (by rw [show some (V.str lnm) = (cget car nm2).map V.str by rw [ecar]; rfl, ← carK_get]; exact DGet.k (k := .inr nm2) (s19 _ _ hcd)) ?_
          refine x_dic c (fun _ _ => rfl) g9 ?_
          walk_at "go"
          have hneg := cn_neg y9
          refine iteC (fun hb => ?_) (fun hb => ?_)
          · have hb : y9 < 0 := hneg.mp (of_decide_eq_true hb)
            walk_at "go"
            intro z5 hz5
            have s9a : Same H9 (upd H9 z5 (.tup [.int 0, .int 1])) := Same.new hz5
            have p5 : PtA E (upd H9 z5 (.tup [.int 0, .int 1])) z5 (mx 0 y9) := by
              rw [mx_ge (by omega)]
              exact SqT.of upd_same
            generalize upd H9 z5 (.tup [.int 0, .int 1]) = H10 at s9a p5
            walk_at "go"
            refine i_da c (hT9.mono s9a) (Nat.le_trans (dput_len _ _ _) (by omega)) ⟨z5, rfl, p5⟩ fun kvs11 hT11 ts11 => ?_
            rw [dput_dput _ _ hnew] at hT11
            exact ⟨Same.mut (s29.trans s9a) hT, by rw [e3, hval]; exact hT11, _, _, rfl⟩
          · have hb : ¬ y9 < 0 := fun z => of_decide_eq_false hb (hneg.mpr z)
            have p5 : PtA E H9 t9 (mx 0 y9) := by
              rw [show mx 0 y9 = y9 by unfold mx; split <;> omega]
              exact p9
            walk_at "go"
            refine i_da c hT9 (Nat.le_trans (dput_len _ _ _) (by omega)) ⟨t9, rfl, p5⟩ fun kvs11 hT11 ts11 => ?_
            rw [dput_dput _ _ hnew] at hT11
            exact ⟨Same.mut s29 hT, by rw [e3, hval]; exact hT11, _, _, rfl⟩
end
section
-- 82 _law_carried: ["_law_charter", "_law_takes", "_law_cell", "_law_found", "_law_k", "_law_take"]
abbrev N82 : List Str := ["_law_charter", "_law_takes", "_law_cell", "_law_found", "_law_k", "_law_take"]
theorem sc82 : FnScope N82 ["_law_charter", "_law_takes", "_law_cell"] (defScope (top 82)) := ⟨rfl, rfl, rfl, by decide +kernel, rfl, by decide +kernel, by decide +kernel⟩
theorem nm82 : visB N82 (defScope (top 82)) 1 "_law_takes" = true ∧ visB N82 (defScope (top 82)) 2 "_law_cell" = true ∧ visB N82 (defScope (top 82)) 4 "_law_k" = true ∧ visB N82 (defScope (top 82)) 3 "_law_found" = true ∧ visB N82 (defScope (top 82)) 5 "_law_take" = true ∧ visB N82 (defScope (top 82)) 0 "_law_charter" = true ∧ locB true N82 (defScope (top 82)) 3 "_law_found" = true ∧ locB true N82 (defScope (top 82)) 4 "_law_k" = true ∧ locB true N82 (defScope (top 82)) 5 "_law_take" = true ∧ gloB (defScope (top 82)) "enumerate" = true ∧ gloB (defScope (top 82)) "_law_mixed" = true ∧ gloB (defScope (top 82)) "len" = true :=
  ⟨by decide +kernel, by decide +kernel, by decide +kernel, by decide +kernel, by decide +kernel, by decide +kernel, by decide +kernel, by decide +kernel, by decide +kernel, by decide +kernel, by decide +kernel, by decide +kernel⟩
-- obtain ⟨n1, n2, n4, n3, n5, n0, l3, l4, l5, g_enumerate, g__law_mixed, g_len⟩ := nm82
-- 83 _law_small: ["_law_takes", "_law_cell", "_law_found", "_law_k", "_law_take"]
abbrev N83 : List Str := ["_law_takes", "_law_cell", "_law_found", "_law_k", "_law_take"]
theorem sc83 : FnScope N83 ["_law_takes", "_law_cell"] (defScope (top 83)) := ⟨rfl, rfl, rfl, by decide +kernel, rfl, by decide +kernel, by decide +kernel⟩
theorem nm83 : visB N83 (defScope (top 83)) 0 "_law_takes" = true ∧ visB N83 (defScope (top 83)) 2 "_law_found" = true ∧ visB N83 (defScope (top 83)) 4 "_law_take" = true ∧ visB N83 (defScope (top 83)) 1 "_law_cell" = true ∧ visB N83 (defScope (top 83)) 3 "_law_k" = true ∧ locB true N83 (defScope (top 83)) 2 "_law_found" = true ∧ locB true N83 (defScope (top 83)) 3 "_law_k" = true ∧ locB true N83 (defScope (top 83)) 4 "_law_take" = true ∧ gloB (defScope (top 83)) "enumerate" = true ∧ gloB (defScope (top 83)) "_law_low" = true ∧ gloB (defScope (top 83)) "_law_mixed" = true ∧ gloB (defScope (top 83)) "dict" = true :=
  ⟨by decide +kernel, by decide +kernel, by decide +kernel, by decide +kernel, by decide +kernel, by decide +kernel, by decide +kernel, by decide +kernel, by decide +kernel, by decide +kernel, by decide +kernel, by decide +kernel⟩
-- obtain ⟨n0, n2, n4, n1, n3, l2, l3, l4, g_enumerate, g__law_low, g__law_mixed, g_dict⟩ := nm83
theorem ok_lcarried {E : Ev} (t : Tx E) : Dg E 3 "_law_carried" (spLcarried E) := by
  refine dg_of (t.gd _ _ _ (by decide +kernel)) sc82 (fun vs H Q ⟨_, _, _, _, _, e, _⟩ => by rw [e]; rfl) fun X vs H Q c ⟨p, l, tk, cell, lets, e, hc, hl, k1, k2, nd, hn, hz, q⟩ => ?_
  subst e
  have B := t.B
  obtain ⟨n1, n2, n4, n3, n5, n0, l3, l4, l5, g_enumerate, g__law_mixed, g_len⟩ := nm82
  have d1 := p_mixed t
  obtain ⟨dx, nm, l0, d', kvs', h1, h2, h3, h4⟩ := hc.ex
  walk_at "go"
  refine w_dict0 fun D hD => ?_
  have s1 : Same H (upd H D (.dK [])) := Same.new hD
  walk_at "go"
  refine ws_forS c (wi_enum c g_enumerate (B _ (by decide +kernel)) ?_)
  walk_at "go"
  refine l_lst c (SqL.of (s1 _ _ hl)) fun l1 hl1 => ?_
  rw [cutV_one, ← List.map_drop]
  have s2 : Same H (upd (upd H D (.dK [])) l1 (.lst ((tk.drop 1).map V.str))) := s1.trans (Same.new hl1)
  have nDl : D ≠ l1 := fun z => by rw [← z, upd_same] at hl1; cases hl1
  generalize hH2 : upd (upd H D (.dK [])) l1 (.lst ((tk.drop 1).map V.str)) = H2 at s2
  have e1 : H2 l1 = some (.lst ((tk.drop 1).map V.str)) := by rw [← hH2, upd_same]
  have e2 : H2 D = some (.dK (carK [])) := by rw [← hH2, upd_ne nDl, upd_same]; rfl
  refine ⟨_, _, rfl, SqL.of e1, forS (src_enum (H1 := del H2 D) (SqL.of (by rw [del_ne (Ne.symm nDl)]; exact e1))) (fun i σ H' => Same (del H2 D) H' ∧ Same H H' ∧ ∃ car o4 o5, CA H' D car ∧ (car.map (·.1)).Nodup ∧ car.length ≤ i ∧ (∀ q ∈ car, q.1 ∈ (tk.drop 1).take i ∧ q.2 ∈ lets.map (·.1)) ∧
    σ = [some (.ref p), some (.ref l), some (.int cell), some (.ref D), o4, o5]) ⟨del_same _ _, s2, [], none, none, e2, List.nodup_nil, Nat.le_refl _, fun q hq => absurd hq List.not_mem_nil, rfl⟩ (fun i σ H h => h.1) ?_ ?_⟩
  · rintro σ H' ⟨s3, s4, car, o4, o5, hcar, ndc, hcl, hct, rfl⟩
    walk_at "go"
    rw [List.length_map, List.length_drop] at hcl
    refine q D car H' s4 hD hcar ndc (by omega) fun q hq => ⟨?_, (hct q hq).2⟩
    exact List.mem_of_mem_drop (List.mem_of_mem_take (hct q hq).1)
  · rintro i σ H' x H3 hi ⟨s3, s4, car, o4, o5, hcar, ndc, hcl, hct, rfl⟩ s5 ⟨T0, y1, rfl, hT0, hy1⟩
    obtain ⟨tx, htx, rfl⟩ := strs_at hy1
    rw [List.length_map, List.length_drop] at hi
    have s6 := s4.trans s5
    refine wg_two c l4 l5 (SqT.of hT0) ?_
    walk_at "go"
    refine iteC (fun _ => ?_) (fun _ => ?_)
    · refine wb_one (ws_sub ?_)
      walk_at "go"
      refine w_meth0 c ?_
      walk_at "go"
      refine at_meth (R := fun sp => sp [.ref p] H3 _) (s6 _ _ h1) (lk_tl (by decide +kernel) (lk_tl (by decide +kernel) (lk_tl (by decide +kernel) rfl))) (ok_lets t) (by omega) ⟨p, tk, lets, rfl, hc.mono s6, fun l2 hl2 => ?_⟩
      have s7 := s6.trans (Same.new (o := .lst ((lets.map (·.1)).map V.str)) hl2)
      walk_at "go"
      refine w_meth0 c ?_
      walk_at "go"
      refine at_meth (R := fun sp => sp [.ref p] (upd H3 l2 (.lst ((lets.map (·.1)).map V.str))) _) (s7 _ _ h1) (lk_tl (by decide +kernel) (lk_tl (by decide +kernel) (lk_tl (by decide +kernel) rfl))) (ok_lets t) (show 1 ≤ 2 by omega) ⟨p, tk, lets, rfl, hc.mono s7, fun l3' hl3' => ?_⟩
      walk_at "go"
      have hlp : 0 < lets.length := List.length_pos_iff.mpr hn
      refine c_len_l c (SqL.of upd_same) (o_mod (by rw [List.length_map, List.length_map]; omega) ?_)
      obtain ⟨y2, hy2, hm2⟩ := at_mod (xs := (lets.map (·.1)).map V.str) (m := mixed cell (30 + i) / 3) (by simpa using hn)
      obtain ⟨z2, hz2, rfl⟩ := List.mem_map.mp hm2
      refine x_lst c (fun _ _ => rfl) (seq_up (SqL.of upd_same) (Same.new hl3')) hy2 ?_
      walk_at "go"
      have s8 := s7.trans (Same.new (o := .lst ((lets.map (·.1)).map V.str)) hl3')
      have hD3 : H3 D = some (.dK (carK car)) := s5 _ _ hcar
      have hD4 := (Same.new (o := .lst ((lets.map (·.1)).map V.str)) hl3') _ _ ((Same.new (o := .lst ((lets.map (·.1)).map V.str)) hl2) _ _ hD3)
      have hnew : tx ∉ car.map (·.1) := fun hm => by
        obtain ⟨q0, hq0, e0⟩ := List.mem_map.mp hm
        have h9 := (hct q0 hq0).1
        rw [e0, List.mem_take_iff_getElem] at h9
        obtain ⟨j, hj, ej⟩ := h9
        obtain ⟨hi3, ei3⟩ := List.getElem?_eq_some_iff.mp htx
        have nd1 : (tk.drop 1).Nodup := List.Pairwise.drop nd
        exact List.pairwise_iff_getElem.mp nd1 j i (by omega) hi3 (by omega) (ej.trans ei3.symm)
      refine i_dic c (.inl ⟨carK car, .inr tx, hD4, rfl, by unfold carK; rw [List.length_map]; exact Nat.lt_of_lt_of_le (show car.length < 100000 by omega) (by decide), rfl⟩) ?_
      rw [carK_put hnew]
      refine ⟨?_, ?_, car ++ [(tx, z2)], _, _, upd_same, ?_, by rw [List.length_append]; exact Nat.succ_le_succ hcl, ?_, rfl⟩
      · exact Same.mut (s3.trans (s5.trans ((Same.new hl2).trans (Same.new hl3')))) (del_at _ _)
      · exact Same.mut s8 hD
      · rw [List.map_append]
        exact List.nodup_append.mpr ⟨ndc, by simp, fun a ha b hb e => by rw [e, List.mem_singleton.mp hb] at ha; exact hnew ha⟩
      · intro q0 hq0
        have htk : (tk.drop 1).take (i + 1) = (tk.drop 1).take i ++ [tx] := by rw [List.take_succ, htx]; rfl
        rw [htk]
        rcases List.mem_append.mp hq0 with h9 | h9
        · exact ⟨List.mem_append_left _ (hct q0 h9).1, (hct q0 h9).2⟩
        · rw [List.mem_singleton.mp h9]
          exact ⟨List.mem_append_right _ (List.mem_singleton.mpr rfl), hz2⟩
    · walk_at "go"
      have htk : (tk.drop 1).take (i + 1) = (tk.drop 1).take i ++ [tx] := by rw [List.take_succ, htx]; rfl
      exact ⟨s3.trans s5, s6, car, _, _, s5 _ _ hcar, ndc, Nat.le_succ_of_le hcl, fun q0 hq0 => ⟨by rw [htk]; exact List.mem_append_left _ (hct q0 hq0).1, (hct q0 hq0).2⟩, rfl⟩
theorem ok_lsmall {E : Ev} (t : Tx E) : Dg E 2 "_law_small" (spLsmall E) := by
  refine dg_of (t.gd _ _ _ (by decide +kernel)) sc83 (fun vs H Q ⟨_, _, _, e, _⟩ => by rw [e]; rfl) fun X vs H Q c ⟨l, nms, cell, e, hl, hz, nd, q⟩ => ?_
  subst e
  have B := t.B
  obtain ⟨n0, n2, n4, n1, n3, l2, l3, l4, g_enumerate, g__law_low, g__law_mixed, g_dict⟩ := nm83
  have d1 := p_mixed t
  have d2 := p_low t
  walk_at "go"
  intro D hD
  have s1 : Same H (upd H D (.lst [])) := Same.new hD
  walk_at "go"
  refine ws_forS c (wi_enum c g_enumerate (B _ (by decide +kernel)) ?_)
  walk_at "go"
  refine ⟨_, _, rfl, SqL.of (s1 _ _ hl), forS (src_enum (SqL.of hl)) (fun i σ H' => Same H H' ∧ ∃ ys d o3 o4, H' D = some (.lst ys) ∧ Paired (PairA E H') d ys ∧ d.map (·.1) = nms.take i ∧ (∀ q ∈ d, 0 ≤ q.2) ∧ σ = [some (.ref l), some (.int cell), some (.ref D), o3, o4])
    ⟨s1, [], [], none, none, upd_same, .nil, rfl, fun q hq => absurd hq List.not_mem_nil, rfl⟩ (fun i σ H h => h.1) ?_ ?_⟩
  · rintro σ H' ⟨s2, ys, d, o3, o4, hD2, pr, hnm, hpos, rfl⟩
    rw [List.length_map, List.take_length] at hnm
    have fin : ∀ (p : Addr) (kvs : List (Key × V)) (d2 : Dc) (H5 : Hp), Same H' H5 → H5 p = none → (∀ q, q ∈ d2 ↔ q ∈ d) → d2.length = d.length → DA E (upd H5 p (.dK kvs)) p d2 → Q (.ref p) (upd H5 p (.dK kvs)) := by
      intro p kvs d2 H5 s5 hp hm hl2 hd2
      have s6 := s2.trans s5
      refine q p d2 _ (s6.trans (Same.new hp)) (none_of s6 hp) hd2 ⟨by rw [hl2, ← hnm, List.length_map], fun x hx => ?_, fun q0 hq0 => hpos q0 ((hm q0).mp hq0)⟩
      rw [← hnm] at hx
      obtain ⟨q0, h0, e0⟩ := List.mem_map.mp hx
      exact dget_names (List.mem_map.mpr ⟨q0, (hm q0).mpr h0, e0⟩)
    have ndd : (d.map (·.1)).Nodup := by rw [hnm]; exact nd
    walk_at "go"
    refine ⟨_, _, rfl, SqL.of hD2, ?_⟩
    walk_at "go"
    intro L1 hL1
    walk_at "go"
    have hD3 := Same.new (o := .lst [.int 1, .int (-1)]) hL1 _ _ hD2
    have hc2 : cell % 2 = 0 ∨ cell % 2 = 1 := by omega
    rcases hc2 with hc2 | hc2
    · rw [hc2]
      refine x_lst c (fun _ _ => rfl) (SqL.of upd_same) (v := .int 1) (atI_nat (j := 0) rfl) ⟨SqL.of hD3, .inl ⟨rfl, fun L2 hL2 => ?_⟩⟩
      walk_at "go"
      have s7 : Same H' (upd (upd H' L1 (.lst [.int 1, .int (-1)])) L2 (.lst ys)) := (Same.new hL1).trans (Same.new hL2)
      exact c_dict_q c (SqL.of upd_same) (Paired.mapP pr fun _ _ z => z.ts s7.ts) ndd fun p kvs hp hdp => fin p kvs d _ s7 hp (fun _ => Iff.rfl) rfl hdp
    · rw [hc2]
      refine x_lst c (fun _ _ => rfl) (SqL.of upd_same) (v := .int (-1)) (atI_nat (j := 1) rfl) ⟨SqL.of hD3, .inr ⟨rfl, fun L2 hL2 => ?_⟩⟩
      walk_at "go"
      have s7 : Same H' (upd (upd H' L1 (.lst [.int 1, .int (-1)])) L2 (.lst ys.reverse)) := (Same.new hL1).trans (Same.new hL2)
      have pr7 : Paired (PairA E (upd (upd H' L1 (.lst [.int 1, .int (-1)])) L2 (.lst ys.reverse))) d.reverse ys.reverse := paired_rev (Paired.mapP pr fun _ _ z => z.ts s7.ts)
      exact c_dict_q c (SqL.of upd_same) pr7 (by rw [List.map_reverse]; exact nodup_rev ndd) fun p kvs hp hdp => fin p kvs d.reverse _ s7 hp (fun _ => List.mem_reverse) List.length_reverse hdp
  · rintro i σ H' x H3 hi ⟨s2, ys, d, o3, o4, hD2, pr, hnm, hpos, rfl⟩ s3 ⟨T0, y1, rfl, hT0, hy1⟩
    obtain ⟨tx, htx, rfl⟩ := strs_at hy1
    rw [List.length_map] at hi
    have s4 := s2.trans s3
    have hD3 := s3 _ _ hD2
    refine wg_two c l3 l4 (SqT.of hT0) ?_
    refine wb_one (ws_expr (w_append c ?_))
    walk_at "go"
    refine ⟨_, _, rfl, hD3, ?_⟩
    walk_at "go"
    have hm := Int.emod_nonneg (mixed cell (300 + i) / 3) (show (60 : Int) ≠ 0 by omega)
    generalize mixed cell (300 + i) / 3 % 60 = u at hm
    have hc2 : cell / 5 % 2 = 0 ∨ cell / 5 % 2 = 1 := by omega
    have hz2 : ∃ z : Int, 0 ≤ z ∧ 2 * u = z * (1 + cell / 5 % 2) := by
      rcases hc2 with h | h
      · exact ⟨2 * u, by omega, by rw [h]; omega⟩
      · exact ⟨u, hm, by rw [h]; omega⟩
    obtain ⟨z, hz0, ez⟩ := hz2
    refine ⟨u, 1 + cell / 5 % 2, z, rfl, by omega, ez, ret_in fun u5 H5 s5 p5 => ?_⟩
    walk_at "go"
    intro T hT
    have s6 : Same H3 (upd H5 T (.tup [.str tx, .ref u5])) := s5.trans (Same.new hT)
    have hD6 := s6 _ _ hD3
    refine ⟨ys, hD6, ?_, ?_⟩
    · have h7 := Paired.length pr
      have h8 := congrArg List.length hnm
      rw [List.length_map, List.length_take] at h8
      exact Nat.lt_of_lt_of_le (show ys.length < 100000 by omega) (by decide)
    · have ts : TS H' (upd (upd H5 T (.tup [.str tx, .ref u5])) D (.lst (ys ++ [.ref T]))) := (s3.trans s6).ts.trans (TS.upd hD6 rfl)
      have ts5 : TS (upd H5 T (.tup [.str tx, .ref u5])) (upd (upd H5 T (.tup [.str tx, .ref u5])) D (.lst (ys ++ [.ref T]))) := TS.upd hD6 rfl
      refine ⟨Same.mut (s4.trans s6) hD, ys ++ [.ref T], d ++ [(tx, z)], _, _, upd_same, Paired.snoc (Paired.mapP pr fun _ _ z => z.ts ts) ⟨T, u5, rfl, ts5.sqt (SqT.of upd_same), p5.ts ((Same.new hT).ts.trans ts5)⟩, ?_, ?_, rfl⟩
      · rw [List.map_append, hnm, List.take_succ, htx]
        rfl
      · intro q0 hq0
        rcases List.mem_append.mp hq0 with h9 | h9
        · exact hpos q0 h9
        · rw [List.mem_singleton.mp h9]
          exact hz0
end
section
-- 89 _law_deed: ["_law_m", "_law_free", "_law_cell", "_law_way"]
abbrev N89 : List Str := ["_law_m", "_law_free", "_law_cell", "_law_way"]
theorem sc89 : FnScope N89 ["_law_m", "_law_free", "_law_cell"] (defScope (top 89)) := ⟨rfl, rfl, rfl, by decide +kernel, rfl, by decide +kernel, by decide +kernel⟩
theorem nm89 : visB N89 (defScope (top 89)) 2 "_law_cell" = true ∧ visB N89 (defScope (top 89)) 3 "_law_way" = true ∧ visB N89 (defScope (top 89)) 0 "_law_m" = true ∧ visB N89 (defScope (top 89)) 1 "_law_free" = true ∧ locB true N89 (defScope (top 89)) 3 "_law_way" = true ∧ gloB (defScope (top 89)) "_law_small" = true ∧ gloB (defScope (top 89)) "len" = true :=
  ⟨by decide +kernel, by decide +kernel, by decide +kernel, by decide +kernel, by decide +kernel, by decide +kernel, by decide +kernel⟩
-- obtain ⟨n2, n3, n0, n1, l3, g__law_small, g_len⟩ := nm89
-- 91 _law_told: ["_law_ledger", "_law_year"]
abbrev N91 : List Str := ["_law_ledger", "_law_year"]
theorem sc91 : FnScope N91 ["_law_ledger"] (defScope (top 91)) := ⟨rfl, rfl, rfl, by decide +kernel, rfl, by decide +kernel, by decide +kernel⟩
theorem nm91 : visB N91 (defScope (top 91)) 0 "_law_ledger" = true ∧ gloB (defScope (top 91)) "range" = true :=
  ⟨by decide +kernel, by decide +kernel⟩
-- obtain ⟨n0, g_range⟩ := nm91
theorem ok_ltold {E : Ev} (t : Tx E) : Dg E 19 "_law_told" (spLtold E) := by
  refine dg_of (t.gd _ _ _ (by decide +kernel)) sc91 (fun vs H Q ⟨_, _, _, _, e, _⟩ => by rw [e]; rfl) fun X vs H Q c ⟨F, p, S, os, e, L, ok, q⟩ => ?_
  subst e
  have B := t.B
  obtain ⟨n0, g_range⟩ := nm91
  obtain ⟨f1, f2, f3⟩ := ok.few
  have d1 := l_years t
  have d2 := l_taken_in t
  have d3 := l_dues_of t
  obtain ⟨dx, fs, hpA, hnoA⟩ := L.fld
  walk_at "go"
  refine w_lcI c [("_law_year", 1)] (by decide +kernel) (wi_range c g_range (B _ (by decide +kernel)) (w_mO0 c ?_))
  walk_at "go"
  refine ⟨p, _, dx, fs, _, _, rfl, hpA, hnoA _ (by decide +kernel), d1, by omega, F, p, S, os, rfl, L, ?_⟩
  walk_at "go"
  refine ⟨by omega, by omega, ?_⟩
  refine lcI (F := fun _ => none) src_range (by omega) (fun D i ys Hc => ∃ F', Led E F' Hc p S os ∧ Stp F os H F' os Hc ∧ F' D = none ∧ D ∉ os ∧ Hc D = some (.lst ys) ∧ Paired (YN E H Hc) ys (S.years.take i))
    (fun D hD => ⟨F, L.grow (Same.new hD), Stp.grow (Same.new hD), none_of L.fs hD, L.fresh hD, upd_same, .nil⟩) (fun D i ys Hc ⟨F', _, _, _, _, h, pr⟩ => ⟨(fun _ _ z => nomatch z), h, by have := Paired.length pr; rw [List.length_take] at this; omega⟩) (fun D i ys Hc x H' hD hi ⟨F', L1, st1, a1, a2, a3, a4⟩ s1 hx Y cY => ?_) fun D ys Hc hD ⟨F', L1, st1, a1, a2, a3, a4⟩ => ?_
  · subst hx
    have hil : i < S.rows.length := by omega
    obtain ⟨yr, hyr⟩ : ∃ yr, S.years[i]? = some yr := ⟨_, List.getElem?_eq_getElem (by rw [S.years_len]; exact hil)⟩
    refine wg_name cY (by decide +kernel) ⟨wipe_one, fun Y3 c3 => ?_⟩
    have L2' := L1.grow s1
    have st2 := st1.trans (Stp.grow (F := F') (os := os) s1)
    have hD2 := s1 _ _ a3
    obtain ⟨dx2, fs2, hpA2, hnoA2⟩ := L2'.fld
    walk_at "go"
    refine w_mO c3 ?_
    walk_at "go"
    refine ⟨p, _, dx2, fs2, _, _, rfl, hpA2, hnoA2 _ (by decide +kernel), d2, by omega, ?_⟩
    walk_at "go"
    refine ⟨F', p, S, os, i, yr, rfl, L2', ok, hyr, fun F3 H3 Da s3 L3 na nFa da => ?_⟩
    have hD3 := s3.keep D _ a2 hD2
    have hFD3 := s3.fno a1 hD2
    obtain ⟨dx3, fs3, hpA3, hnoA3⟩ := L3.fld
    walk_at "go"
    refine w_mO c3 ?_
    walk_at "go"
    refine ⟨p, _, dx3, fs3, _, _, rfl, hpA3, hnoA3 _ (by decide +kernel), d3, by omega, ?_⟩
    walk_at "go"
    refine ⟨F3, p, S, os, i, yr, rfl, L3, ok, hyr, fun F4 H4 Db s4 L4 nb nFb db => ?_⟩
    have hD4 := s4.keep D _ a2 hD3
    have hFD4 := s4.fno hFD3 hD3
    walk_at "go"
    intro T hT
    have sT := Same.new (o := .tup [.ref Da, .ref Db]) hT
    have hD5 := sT _ _ hD4
    have nDT : D ≠ T := fun z => by rw [z, hT] at hD4; cases hD4
    have ts5 : TS (upd H4 T (.tup [.ref Da, .ref Db])) (upd (upd H4 T (.tup [.ref Da, .ref Db])) D (.lst (ys ++ [.ref T]))) := TS.upd hD5 rfl
    have st5 := (((st2.trans s3).trans s4).trans (Stp.grow (F := F4) (os := os) sT)).scr (o := .lst (ys ++ [.ref T])) hD hD5 rfl
    have hk5 : ∀ b kvs, H4 b = some (.dK kvs) → upd (upd H4 T (.tup [.ref Da, .ref Db])) D (.lst (ys ++ [.ref T])) b = some (.dK kvs) := fun b kvs hb => by
      rw [upd_ne (show b ≠ D from fun z => by rw [z, hD4] at hb; cases hb)]
      exact sT _ _ hb
    have hk4 : ∀ b kvs, H3 b = some (.dK kvs) → H4 b = some (.dK kvs) := fun b kvs hb => s4.keep b _ (L3.noD hb) hb
    have hk3 : ∀ b kvs, Hc b = some (.dK kvs) → H3 b = some (.dK kvs) := fun b kvs hb => s3.keep b _ (L2'.noD (s1 _ _ hb)) (s1 _ _ hb)
    have tsA : TS H4 (upd (upd H4 T (.tup [.ref Da, .ref Db])) D (.lst (ys ++ [.ref T]))) := sT.ts.trans ts5
    have da5 : DA E (upd (upd H4 T (.tup [.ref Da, .ref Db])) D (.lst (ys ++ [.ref T]))) Da yr.1 := by
      obtain ⟨kv, k1, k2⟩ := da
      exact ⟨kv, hk5 _ _ (hk4 _ _ k1), k2.ts (s4.ts.trans tsA)⟩
    have db5 : DA E (upd (upd H4 T (.tup [.ref Da, .ref Db])) D (.lst (ys ++ [.ref T]))) Db yr.2 := by
      obtain ⟨kv, k1, k2⟩ := db
      exact ⟨kv, hk5 _ _ k1, k2.ts tsA⟩
    refine ⟨hD5, F4, (L4.grow sT).off a2 hFD4 ts5, st5, hFD4, a2, upd_same, ?_⟩
    rw [List.take_succ, hyr]
    refine Paired.snoc (Paired.mapP a4 fun _ _ z => z.mono (((s1.ts.trans s3.ts).trans s4.ts).trans tsA) fun b kvs hb => hk5 b kvs (hk4 _ _ (hk3 _ _ hb))) ⟨T, Da, Db, rfl, ts5.sqt (SqT.of upd_same), st2.dom _ na, (st2.trans s3).dom _ nb, da5, db5⟩
  · have e : S.years.take (S.rows.length : Int).toNat = S.years := List.take_of_length_le (by rw [S.years_len]; simp)
    rw [e] at a4
    exact q F' Hc D ys st1 L1 hD a1 a3 a4
theorem ok_ldeed {E : Ev} (t : Tx E) : Dg E 3 "_law_deed" (spLdeed E) := by
  refine dg_of (t.gd _ _ _ (by decide +kernel)) sc89 (fun vs H Q ⟨_, _, _, _, _, _, _, _, _, _, _, _, _, e, _⟩ => by rw [e]; rfl) fun X vs H Q c ⟨F, am, r, pp, g, pls, ns, rows, past, notes, fl, fr, cell, e, M, hfl, hfr, nd, hz, q⟩ => ?_
  subst e
  have B := t.B
  obtain ⟨n2, n3, n0, n1, l3, g__law_small, g_len⟩ := nm89
  have d1 := ok_lsmall t
  obtain ⟨hr, hp, hg⟩ := mk_at M.ha
  obtain ⟨rs, hrs, prs⟩ := M.hr
  have lrs := Paired.length prs
  walk_at "go"
  refine iteC (fun hb => ?_) (fun hb => ?_)
  · refine iteT ?_
    walk_at "go"
    refine ⟨fl, fr, cell / 7, rfl, hfl, hfr, nd, fun D d H' s hD da am => ?_⟩
    walk_at "go"
    intro T hT
    exact q (.ref T) (.add d) (some D) _ ((s.trans (Same.new hT))) ⟨T, D, rfl, rfl, SqT.of upd_same, da.mono (Same.new hT)⟩ (fun a e => by cases e; exact none_of (Same.refl H) hD) am
  · walk_at "go"
    refine x_dic c (fun _ _ => rfl) hr ?_
    walk_at "go"
    intro l hl
    have s1 : Same H (upd H l (.lst [])) := Same.new hl
    refine o_eq_nil c (SqL.of (s1 _ _ hrs)) (SqL.of upd_same) ⟨_, rfl, ?_⟩
    have hfl1 := s1 _ _ hfl
    have hrs1 := s1 _ _ hrs
    obtain ⟨hr1, _, _⟩ := mk_at (s1 _ _ M.ha)
    generalize upd H l (.lst []) = H1 at s1 hfl1 hrs1 hr1
    have e0 : decide (rs.map V.ref = []) = decide (rows = []) := by
      cases prs with
      | nil => rfl
      | cons _ _ => rfl
    rw [e0]
    by_cases hne : rows = []
    · rw [decide_eq_true hne]
      refine iteT ?_
      walk_at "go"
      by_cases h6 : cell % 7 < 6
      · rw [decide_eq_true h6]
        refine iteT ?_
        walk_at "go"
        refine ⟨fl, fr, cell / 7, rfl, hfl1, hfr, nd, fun D d H' s hD da am => ?_⟩
        walk_at "go"
        intro T hT
        exact q (.ref T) (.add d) (some D) _ (s1.trans (s.trans (Same.new hT))) ⟨T, D, rfl, rfl, SqT.of upd_same, da.mono (Same.new hT)⟩ (fun a e => by cases e; exact none_of s1 hD) am
      · rw [decide_eq_false h6]
        refine iteF ?_
        walk_at "go"
        intro T hT
        exact q (.ref T) .undo none _ (s1.trans (Same.new hT)) ⟨T, rfl, rfl, SqT.of upd_same⟩ (fun a e => by cases e) trivial
    · rw [decide_eq_false hne]
      refine iteF ?_
      walk_at "go"
      refine iteC (fun hb2 => ?_) (fun hb2 => ?_)
      · walk_at "go"
        refine x_dic c (fun _ _ => rfl) hr1 ?_
        walk_at "go"
        rw [List.length_map, lrs]
        have hn0 : 0 < rows.length := List.length_pos_iff.mpr hne
        obtain ⟨y, hy⟩ := Int.eq_ofNat_of_zero_le (Int.emod_nonneg (cell / 7) (show ((rows.length : Nat) : Int) ≠ 0 by omega))
        have hy2 := Int.emod_lt_of_pos (cell / 7) (show (0 : Int) < ((rows.length : Nat) : Int) by omega)
        rw [hy] at hy2
        refine o_mod (by omega) ?_
        rw [hy]
        walk_at "go"
        refine ⟨fl, fr, cell / 7, rfl, hfl1, hfr, nd, fun D d H' s hD da am => ?_⟩
        walk_at "go"
        intro T hT
        exact q (.ref T) (.mend y d) (some D) _ (s1.trans (s.trans (Same.new hT))) ⟨T, D, rfl, rfl, SqT.of upd_same, da.mono (Same.new hT)⟩ (fun a e => by cases e; exact none_of s1 hD) ⟨am, by omega⟩
      · walk_at "go"
        intro T hT
        exact q (.ref T) .undo none _ (s1.trans (Same.new hT)) ⟨T, rfl, rfl, SqT.of upd_same⟩ (fun a e => by cases e) trivial
end
section
-- 92 _law_cut_right: ["_law_ledger", "_law_rows_then", "_law_begun_here", "_law_at", "_law_takes", "_law_lets", "_law_carried_here", "_law_log", "_law_other", "_law_ahead", "_law_deed_here"]
abbrev N92 : List Str := ["_law_ledger", "_law_rows_then", "_law_begun_here", "_law_at", "_law_takes", "_law_lets", "_law_carried_here", "_law_log", "_law_other", "_law_ahead", "_law_deed_here"]
theorem sc92 : FnScope N92 ["_law_ledger", "_law_rows_then", "_law_begun_here", "_law_at"] (defScope (top 92)) := ⟨rfl, rfl, rfl, by decide +kernel, rfl, by decide +kernel, by decide +kernel⟩
theorem nm92 : visB N92 (defScope (top 92)) 2 "_law_begun_here" = true ∧ visB N92 (defScope (top 92)) 0 "_law_ledger" = true ∧ visB N92 (defScope (top 92)) 3 "_law_at" = true ∧ visB N92 (defScope (top 92)) 8 "_law_other" = true ∧ visB N92 (defScope (top 92)) 7 "_law_log" = true ∧ visB N92 (defScope (top 92)) 4 "_law_takes" = true ∧ visB N92 (defScope (top 92)) 5 "_law_lets" = true ∧ visB N92 (defScope (top 92)) 6 "_law_carried_here" = true ∧ visB N92 (defScope (top 92)) 1 "_law_rows_then" = true ∧ visB N92 (defScope (top 92)) 9 "_law_ahead" = true ∧ visB N92 (defScope (top 92)) 10 "_law_deed_here" = true ∧ locB true N92 (defScope (top 92)) 4 "_law_takes" = true ∧ locB true N92 (defScope (top 92)) 5 "_law_lets" = true ∧ locB true N92 (defScope (top 92)) 6 "_law_carried_here" = true ∧ locB true N92 (defScope (top 92)) 7 "_law_log" = true ∧ locB true N92 (defScope (top 92)) 8 "_law_other" = true ∧ locB true N92 (defScope (top 92)) 9 "_law_ahead" = true ∧ locB true N92 (defScope (top 92)) 10 "_law_deed_here" = true ∧ gloB (defScope (top 92)) "_law_told" = true ∧ gloB (defScope (top 92)) "_law_years" = true ∧ gloB (defScope (top 92)) "min" = true ∧ gloB (defScope (top 92)) "len" = true :=
  ⟨by decide +kernel, by decide +kernel, by decide +kernel, by decide +kernel, by decide +kernel, by decide +kernel, by decide +kernel, by decide +kernel, by decide +kernel, by decide +kernel, by decide +kernel, by decide +kernel, by decide +kernel, by decide +kernel, by decide +kernel, by decide +kernel, by decide +kernel, by decide +kernel, by decide +kernel, by decide +kernel, by decide +kernel, by decide +kernel⟩
-- obtain ⟨n2, n0, n3, n8, n7, n4, n5, n6, n1, n9, n10, l4, l5, l6, l7, l8, l9, l10, g__law_told, g__law_years, g_min, g_len⟩ := nm92
def spCutRight (E : Ev) : Pr := fun vs H Q => ∃ F p S os rt tT tkl ltl cd, ∃ rls : List Addr, ∃ n : Nat, vs = [.ref p, .ref rt, .ref tT, .int (n : Nat)] ∧ Led E F H p S os ∧ Hs S ∧ S.notes.length ≤ 900 ∧ H rt = some (.lst (rls.map V.ref)) ∧
  Paired (RwA E H) rls ((List.range (S.notes.length + 1)).map (rowsAt S)) ∧ SqT E.K H tT [.ref tkl, .ref ltl, .ref cd] ∧ H tkl = some (.lst (S.tk.map V.str)) ∧ LtL E H ltl S.lets ∧ CA H cd S.car ∧ n ≤ S.notes.length ∧ ∀ H', Same H H' → Q (.bl true) H'
theorem rls_at {E : Ev} {H : Hp} {S : LS} {rls : List Addr} (pr : Paired (RwA E H) rls ((List.range (S.notes.length + 1)).map (rowsAt S))) {i : Nat} (hi : i ≤ S.notes.length) : ∃ a, rls[i]? = some a ∧ RwA E H a (rowsAt S i) := by
  obtain ⟨a, h1, h2⟩ := pair_at' pr (i := i) (y := rowsAt S i) (by rw [List.getElem?_map, List.getElem?_range (by omega)]; rfl)
  exact ⟨a, h1, h2⟩
theorem atI_neg1 {xs : List V} {k : Nat} {v : V} (hl : xs.length = k + 1) (h : xs[k]? = some v) : atI xs (-1) = some v := by
  unfold atI ixN
  rw [if_neg (by omega), if_pos (by omega)]
  show xs[((-1 : Int) + (xs.length : Nat)).toNat]? = _
  rw [show ((-1 : Int) + (xs.length : Nat)).toNat = k by omega]
  exact h
theorem ok_cut_right {E : Ev} (t : Tx E) : Dg E 20 "_law_cut_right" (spCutRight E) := by
  refine dg_of (t.gd _ _ _ (by decide +kernel)) sc92 (fun vs H Q ⟨_, _, _, _, _, _, _, _, _, _, _, e, _⟩ => by rw [e]; rfl) fun X vs H Q c ⟨F, p, S, os, rt, tT, tkl, ltl, cd, rls, n, e, L, hs, hz, hrt, prl, hT, htk, hlt, hca, hn, q⟩ => ?_
  subst e
  have B := t.B
  obtain ⟨n2, n0, n3, n8, n7, n4, n5, n6, n1, n9, n10, l4, l5, l6, l7, l8, l9, l10, g__law_told, g__law_years, g_min, g_len⟩ := nm92
  have dLog := l_log t
  have dCut := l_cut t
  have dDoes := l_does t
  have dYears := l_years t
  have dUndo := l_undo t
  have dTold := ok_ltold t
  have dLy := ok_lyears t
  have ok := hs.ok
  obtain ⟨f1, f2, f3⟩ := ok.few
  have amAt : ∀ k, ∀ d ∈ rowsAt S k, AmOk d (freeOf S.tk S.car) := fun k => by
    have h1 := (hs.at_ k).rows
    obtain ⟨a1, a2, a3⟩ := redo_fix (S.notes.take k) (ls0 S.tk S.lets S.car)
    rw [a1, a3] at h1
    exact h1
  have fewAt : ∀ k, (rowsAt S k).length ≤ 5000 := fun k => (hs.at_ k).few.1
  have ynd : ∀ rows a, ∀ y ∈ yearsF S.tk S.lets S.car rows a, (y.1.map (·.1)).Nodup ∧ (y.2.map (·.1)).Nodup := fun rows a => years_nd ok.ch.ndt ok.ch.nd
  have hfix := fun k => redo_fix (S.notes.take k) (ls0 S.tk S.lets S.car)
  -- takes, lets, carried = begun
  refine wb_cons (ws_asg (w_name c n2 rfl (wg_tup c hT rfl (wgs_cons (wg_name c l4 (wgs_cons (wg_name c l5 (wgs_cons (wg_name c l6 (wgs_nil ?_)))))))))) 
  -- log = ledger.log()
  obtain ⟨dx, fs, hpA, hnoA⟩ := L.fld
  refine wb_cons (ws_set c l7 (w_mO0 c ?_))
  walk_at "go"
  refine ⟨p, _, dx, fs, _, _, rfl, hpA, hnoA _ (by decide +kernel), dLog, by omega, F, p, S, os, rfl, L, ok, fun D0 ys0 as0 HB s1 hD0 hl0 dl0 => ?_⟩
  have L1 := L.grow s1
  have pa0 := dl0.pa
  have ndN : ∀ d ∈ S.notes, ndD d := okRun_nd hs.run
  replace hrt := s1 _ _ hrt
  replace prl : Paired (RwA E HB) rls _ := Paired.mapP prl fun _ _ z => z.mono s1
  replace htk := s1 _ _ htk
  replace hlt := hlt.mono s1
  replace hca : CA HB cd S.car := s1 _ _ hca
  -- other = ledger.cut(at)
  obtain ⟨dx1, fs1, hpA1, hnoA1⟩ := L1.fld
  refine wb_cons (ws_set c l8 (w_mO c ?_))
  walk_at "go"
  refine ⟨p, _, dx1, fs1, _, _, rfl, hpA1, hnoA1 _ (by decide +kernel), dCut, by omega, ?_⟩
  walk_at "go"
  refine ⟨F, p, S, os, n, rfl, L1, ok, hn, okRun_take n hs.run, hs.at_ n, fun F2 p2 os2 H2 s2 hos2 L2 hF2 => ?_⟩
  obtain ⟨e1, e2, e3⟩ := hfix n
  have ok2 := hs.at_ n
  have en2 : (redo (ls0 S.tk S.lets S.car) (S.notes.take n)).notes = S.notes.take n := redo_notes _ _
  have er2 : (redo (ls0 S.tk S.lets S.car) (S.notes.take n)).rows = rowsAt S n := rfl
  have ed2 : okRun (redo (ls0 S.tk S.lets S.car) (S.notes.take n)) (S.notes.drop n) := okRun_drop n hs.run
  generalize hS2 : redo (ls0 S.tk S.lets S.car) (S.notes.take n) = S2 at L2 e1 e2 e3 ok2 en2 er2 ed2
  have e1 : S2.tk = S.tk := e1
  have e2 : S2.lets = S.lets := e2
  have e3 : S2.car = S.car := e3
  have ey2 : S2.years = yearsF S.tk S.lets S.car (rowsAt S n) [] := by unfold LS.years; rw [e1, e2, e3, er2]
  -- the first look
  refine wb_cons (ws_mid (fun σ' Hc => ∃ F3 os3, Led E F3 Hc p2 S2 os3 ∧ (∀ a ∈ os3, HB a = none) ∧ Same HB Hc ∧ σ' = [some (.ref p), some (.ref rt), some (.ref tT), some (.int (n : Nat)), some (.ref tkl), some (.ref ltl), some (.ref cd), some (.ref D0), some (.ref p2), none, none]) ?_ ?_)
  · obtain ⟨dx2, fs2, hpA2, hnoA2⟩ := L2.fld
    walk_at "go"
    refine w_mO0 c ?_
    walk_at "go"
    refine ⟨p2, _, dx2, fs2, _, _, rfl, hpA2, hnoA2 _ (by decide +kernel), dLog, by omega, F2, p2, S2, os2, rfl, L2, ok2, fun D1 ys1 as1 H3 s3 hD1 hl1 dl1 => ?_⟩
    walk_at "go"
    have s23 := s2.trans s3
    refine l_lst c (SqL.of (s23 _ _ hl0)) fun l4' hl4 => ?_
    have s4 := Same.new (o := .lst (cutV ys0 none (some (n : Int)))) hl4
    have s24 := s23.trans s4
    rw [cutV_to] at s4 s24 ⊢
    have pa1 : Paired (DeedA E (upd H3 l4' (.lst (ys0.take n))) (upd H3 l4' (.lst (ys0.take n)))) ys1 (S.notes.take n) := by
      rw [← en2]
      exact Paired.mapP dl1.pa fun _ _ z => z.mono s4 s4.ts
    have pa2 : Paired (DeedA E (upd H3 l4' (.lst (ys0.take n))) (upd H3 l4' (.lst (ys0.take n)))) (ys0.take n) (S.notes.take n) := Paired.takeP n (Paired.mapP pa0 fun _ _ z => z.mono s24 s24.ts)
    refine o_ne_lx c (SqL.of (s4 _ _ hl1)) (SqL.of upd_same) (deeds_eqx (fun d hd => ndN d (List.mem_of_mem_take hd)) pa1 pa2) (by omega) ⟨_, rfl, ?_⟩
    refine iteF ?_
    walk_at "go"
    refine ⟨F2, p2, S2, os2, rfl, L2.grow (s3.trans s4), ok2, fun F3 H5 D2 ys2 st hL hD2 hFD2 hl2 py => ?_⟩
    obtain ⟨hb5, ho5⟩ := st.hb (s24) hos2
    walk_at "go"
    obtain ⟨ra, hra, rw0⟩ := rls_at prl hn
    refine x_lst c (fun _ _ => rfl) (SqL.of (hb5 _ _ hrt)) (atI_nat (j := n) (by rw [List.getElem?_map, hra]; rfl)) ?_
    walk_at "go"
    obtain ⟨rs, hrs, prs⟩ := rw0.mono hb5
    refine ⟨tkl, ltl, cd, ra, S.tk, S.lets, S.car, rowsAt S n, rs, rfl, hb5 _ _ htk, hlt.mono hb5, hb5 _ _ hca, hrs, prs, ok.ch, amAt _, fewAt _, fun D3 ys3 H6 s6 hD3 hl3 py3 => ?_⟩
    rw [ey2] at py
    refine o_ne_lx c (SqL.of (s6 _ _ hl2)) (SqL.of hl3) (yn_eqx (ynd _ _) (Paired.mapP py fun _ _ z => z.mono s6.ts fun a kvs h => s6 _ _ h) py3) (by omega) ⟨_, rfl, ?_⟩
    refine iteF ?_
    walk_at "go"
    exact ⟨F3, os2, hL.grow s6, ho5, hb5.trans s6, rfl⟩
  rintro σ' H3 ⟨F3, os3, L3, ho3, s3, rfl⟩
  clear L2 hF2 s2
  have hln0 : ys0.length = S.notes.length := Paired.length pa0
  -- ahead = min(len(log), at + 7)
  obtain ⟨m, hm, hnm, hmv⟩ : ∃ m : Nat, m ≤ S.notes.length ∧ n ≤ m ∧ (if ((n : Int) + 7 < ((S.notes.length : Nat) : Int)) then (n : Int) + 7 else ((S.notes.length : Nat) : Int)) = ((m : Nat) : Int) := by
    by_cases h : n + 7 < S.notes.length
    · exact ⟨n + 7, by omega, by omega, by rw [if_pos (by omega)]; omega⟩
    · exact ⟨S.notes.length, by omega, hn, by rw [if_neg (by omega)]⟩
  refine wb_cons (ws_mid (fun σ' Hc => H3 = Hc ∧ σ' = [some (.ref p), some (.ref rt), some (.ref tT), some (.int (n : Nat)), some (.ref tkl), some (.ref ltl), some (.ref cd), some (.ref D0), some (.ref p2), some (.int (m : Nat)), none]) ?_ ?_)
  · have hl3 := s3 _ _ hl0
    walk_at "go"
    refine c_min c ?_
    rw [hln0, hmv]
    exact ⟨rfl, rfl⟩
  rintro σ' Hc ⟨eH, rfl⟩
  subst eH
  rename_i H3
  have ndm := fun (as : List (Option Addr)) (nd : (as.filterMap id).Nodup) => nd_sub nd n m
  generalize hds : (S.notes.take m).drop n = ds
  have eds : S.notes.take m = S.notes.take n ++ ds := by
    have h1 := (List.take_append_drop n (S.notes.take m)).symm
    rw [List.take_take, Nat.min_eq_left hnm, hds] at h1
    exact h1
  have run2 : okRun S2 ds := by
    have h1 := okRun_drop n (okRun_take m hs.run)
    rw [List.take_take, Nat.min_eq_left hnm, hS2, hds] at h1
    exact h1
  have eS3 : redo S2 ds = redo (ls0 S.tk S.lets S.car) (S.notes.take m) := by rw [eds, redo_app, hS2]
  -- the next deeds
  refine wb_cons (ws_mid (fun σ' Hc => ∃ F4 os4 o, Led E F4 Hc p2 (redo S2 ds) os4 ∧ (∀ a ∈ os4, HB a = none) ∧ Same HB Hc ∧ σ' = [some (.ref p), some (.ref rt), some (.ref tT), some (.int (n : Nat)), some (.ref tkl), some (.ref ltl), some (.ref cd), some (.ref D0), some (.ref p2), some (.int (m : Nat)), o]) ?_ ?_)
  · have L4 := L1.grow s3
    obtain ⟨dx4, fs4, hpA4, hnoA4⟩ := L4.fld
    refine ws_forS c (wi_list c (w_slice (w_mO0 c ?_)))
    walk_at "go"
    refine ⟨p, _, dx4, fs4, _, _, rfl, hpA4, hnoA4 _ (by decide +kernel), dLog, by omega, F, p, S, os, rfl, L4, ok, fun D4 ys4 as4 H4 s4 hD4 hl4 dl4 => ?_⟩
    walk_at "go"
    refine l_lst c (SqL.of hl4) fun D5 hD5 => ?_
    rw [cutV_mid]
    have s5 := Same.new (o := .lst ((ys4.take m).drop n)) hD5
    have s35 : Same HB (upd H4 D5 (.lst ((ys4.take m).drop n))) := (s3.trans s4).trans s5
    have ly4 : ys4.length = S.notes.length := Paired.length dl4.pa
    have la4 := dl4.len
    have dd0 : Dds E F3 (upd H4 D5 (.lst ((ys4.take m).drop n))) ((ys4.take m).drop n) (ds.zip ((as4.take m).drop n)) 0 := by
      rw [← hds]
      exact ((dl4.dds L3.fs).grow s5).sub n m
    have nda := ndm as4 dl4.nd
    have lz : ((ys4.take m).drop n).length = ds.length := by rw [← hds, List.length_drop, List.length_drop, List.length_take, List.length_take, ly4]
    have lda : ((as4.take m).drop n).length = ds.length := by rw [← hds, List.length_drop, List.length_drop, List.length_take, List.length_take, la4]
    have hD50 : upd H4 D5 (.lst ((ys4.take m).drop n)) D5 = some (.lst ((ys4.take m).drop n)) := upd_same
    have nD50 : D5 ∉ os3 := (L3.grow s4).fresh hD5
    have L30 := (L3.grow s4).grow s5
    generalize upd H4 D5 (.lst ((ys4.take m).drop n)) = H5 at s35 dd0 hD50 L30
    generalize hzs : (ys4.take m).drop n = zs at dd0 lz hD50
    refine ⟨D5, rfl, ⟨_, SqL.of hD50⟩, ?_⟩
    refine forS (src_list (H1 := upd (fun _ => none) D5 (.lst zs)) (SqL.of upd_same)) (fun i σ Hc => ∃ F4 os4 o, Led E F4 Hc p2 (redo S2 (ds.take i)) os4 ∧ (∀ a ∈ os4, HB a = none) ∧ Same HB Hc ∧ Hc D5 = some (.lst zs) ∧ D5 ∉ os4 ∧ Dds E F4 Hc zs (ds.zip ((as4.take m).drop n)) i ∧ σ = [some (.ref p), some (.ref rt), some (.ref tT), some (.int (n : Nat)), some (.ref tkl), some (.ref ltl), some (.ref cd), some (.ref D0), some (.ref p2), some (.int (m : Nat)), o])
      ⟨F3, os3, none, L30, ho3, s35, hD50, nD50, dd0, rfl⟩ (fun i σ Hc ⟨F4, os4, o, _, _, _, h, _⟩ => same_one h) ?_ ?_
    · rintro σ Hc ⟨F4, os4, o, L4, ho4, hb4, _, _, _, rfl⟩
      rw [lz, List.take_length] at L4
      exact ⟨F4, os4, o, L4, ho4, hb4, rfl⟩
    · rintro i σ Hc x H' hi ⟨F4, os4, o, L4, ho4, hb4, hD5c, nD5, dd, rfl⟩ s6 hx
      have hid : i < ds.length := by omega
      obtain ⟨d, hd⟩ : ∃ d, ds[i]? = some d := ⟨_, List.getElem?_eq_getElem hid⟩
      obtain ⟨a, hda⟩ : ∃ a, ((as4.take m).drop n)[i]? = some a := ⟨_, List.getElem?_eq_getElem (by omega)⟩
      have hq : (ds.zip ((as4.take m).drop n))[i]? = some (d, a) := by rw [List.getElem?_zip_eq_some]; exact ⟨hd, hda⟩
      have L5 := L4.grow s6
      have dd5 := dd.grow s6
      obtain ⟨hdO5, _⟩ := dd5 i (Nat.le_refl _) x (d, a) hx hq
      obtain ⟨okd, okS⟩ := okRun_at run2 hd
      have eR : (redo S2 (ds.take i)).does d = redo S2 (ds.take (i + 1)) := by rw [List.take_succ, hd]; exact (redo_snoc _ _ _).symm
      refine wg_name c l10 ?_
      obtain ⟨dx5, fs5, hpA5, hnoA5⟩ := L5.fld
      walk_at "go"
      refine w_mO c ?_
      walk_at "go"
      refine ⟨p2, _, dx5, fs5, _, _, rfl, hpA5, hnoA5 _ (by decide +kernel), dDoes, by omega, ?_⟩
      walk_at "go"
      refine ⟨F4, p2, redo S2 (ds.take i), os4, x, d, rfl, L5, okS, hdO5.a, okd, fun F6 os6 H6 st L6 => ?_⟩
      have dd6 := dd5.stp st fun b kvs hb => L5.noD hb
      obtain ⟨hb6, ho6⟩ := st.hb (hb4.trans s6) ho4
      have hD6 : H6 D5 = some (.lst zs) := st.keep D5 _ nD5 (s6 _ _ hD5c)
      have nD6 : D5 ∉ os6 := st.ono nD5 (s6 _ _ hD5c)
      obtain ⟨hdO, hdF⟩ := dd6 i (Nat.le_refl _) x (d, a) hx hq
      have hdO : DeedO E H6 x d a := hdO
      have hdF : ∀ b, a = some b → F6 b = none := hdF
      walk_at "go"
      match d, hdO, eR, L6 with
      | .add dc, hdO, eR, L6 =>
        obtain ⟨t1, b, ea, ex, k1, kvs, k2, k3⟩ := hdO
        subst ea ex
        walk_at "go"
        refine w_clear c ?_
        walk_at "go"
        refine ⟨b, kvs, rfl, k2, ?_⟩
        have hbN : HB b = none := none_of s3 (dl4.new b (by rw [List.getElem?_drop, List.getElem?_take] at hda; split at hda <;> first | exact List.mem_of_getElem? hda | cases hda))
        have ts7 : TS H6 (upd H6 b (.dK [])) := TS.upd k2 rfl
        have nbD : D5 ≠ b := fun z => by rw [z, k2] at hD6; cases hD6
        exact ⟨F6, os6, _, eR ▸ L6.off (L6.noD k2) (hdF b rfl) ts7, ho6, Same.mut hb6 hbN, by rw [upd_ne nbD]; exact hD6, nD6, dd6.clear nda k2 hda, rfl⟩
      | .mend yy dc, hdO, eR, L6 =>
        obtain ⟨t1, b, ea, ex, k1, kvs, k2, k3⟩ := hdO
        subst ea ex
        walk_at "go"
        refine w_clear c ?_
        walk_at "go"
        refine ⟨b, kvs, rfl, k2, ?_⟩
        have hbN : HB b = none := none_of s3 (dl4.new b (by rw [List.getElem?_drop, List.getElem?_take] at hda; split at hda <;> first | exact List.mem_of_getElem? hda | cases hda))
        have ts7 : TS H6 (upd H6 b (.dK [])) := TS.upd k2 rfl
        have nbD : D5 ≠ b := fun z => by rw [z, k2] at hD6; cases hD6
        exact ⟨F6, os6, _, eR ▸ L6.off (L6.noD k2) (hdF b rfl) ts7, ho6, Same.mut hb6 hbN, by rw [upd_ne nbD]; exact hD6, nD6, dd6.clear nda k2 hda, rfl⟩
      | .undo, hdO, eR, L6 =>
        obtain ⟨t1, ea, ex, k1⟩ := hdO
        subst ex
        walk_at "go"
        exact ⟨F6, os6, _, eR ▸ L6, ho6, hb6, hD6, nD6, dd6.succ, rfl⟩
  rintro σ' H4 ⟨F4, os4, o10, L4, ho4, s4, rfl⟩
  have ok3 : LsOk (redo S2 ds) := by rw [eS3]; exact hs.at_ m
  have ey3 : (redo S2 ds).years = yearsF S.tk S.lets S.car (rowsAt S m) [] := by
    obtain ⟨a1, a2, a3⟩ := hfix m
    rw [eS3]
    unfold LS.years
    rw [a1, a2, a3]
    rfl
  have hx3 : Hx (redo S2 ds) := by
    rw [eS3]
    exact hx_run (okRun_take m hs.run) (hs.at_ m) (hx_0 ok.ch)
  have en3 : (redo S2 ds).notes.length ≤ 900 := by
    rw [eS3, redo_notes]
    show (([] : List Deed) ++ S.notes.take m).length ≤ 900
    rw [List.nil_append, List.length_take]
    omega
  generalize redo S2 ds = S3 at L4 ok3 ey3 hx3 en3
  -- the second look
  refine wb_cons (ws_mid (fun σ' Hc => ∃ F3 os3, Led E F3 Hc p2 S3 os3 ∧ (∀ a ∈ os3, HB a = none) ∧ Same HB Hc ∧ σ' = [some (.ref p), some (.ref rt), some (.ref tT), some (.int (n : Nat)), some (.ref tkl), some (.ref ltl), some (.ref cd), some (.ref D0), some (.ref p2), some (.int (m : Nat)), o10]) ?_ ?_)
  · obtain ⟨dx2, fs2, hpA2, hnoA2⟩ := L4.fld
    walk_at "go"
    refine ⟨F4, p2, S3, os4, rfl, L4, ok3, fun F3 H5 D2 ys2 st hL hD2 hFD2 hl2 py => ?_⟩
    obtain ⟨hb5, ho5⟩ := st.hb (s4) ho4
    walk_at "go"
    obtain ⟨ra, hra, rw0⟩ := rls_at prl hm
    refine x_lst c (fun _ _ => rfl) (SqL.of (hb5 _ _ hrt)) (atI_nat (j := m) (by rw [List.getElem?_map, hra]; rfl)) ?_
    walk_at "go"
    obtain ⟨rs, hrs, prs⟩ := rw0.mono hb5
    refine ⟨tkl, ltl, cd, ra, S.tk, S.lets, S.car, rowsAt S m, rs, rfl, hb5 _ _ htk, hlt.mono hb5, hb5 _ _ hca, hrs, prs, ok.ch, amAt _, fewAt _, fun D3 ys3 H6 s6 hD3 hl3 py3 => ?_⟩
    rw [ey3] at py
    refine o_ne_lx c (SqL.of (s6 _ _ hl2)) (SqL.of hl3) (yn_eqx (ynd _ _) (Paired.mapP py fun _ _ z => z.mono s6.ts fun a kvs h => s6 _ _ h) py3) (by omega) ⟨_, rfl, ?_⟩
    refine iteF ?_
    walk_at "go"
    exact ⟨F3, os4, hL.grow s6, ho5, hb5.trans s6, rfl⟩
  clear L4 ho4 s4
  rintro σ' H4 ⟨F4, os4, L4, ho4, s4, rfl⟩
  -- all is undone
  refine wb_cons (ws_mid (fun σ' Hc => ∃ F5 os5 S5, Led E F5 Hc p2 S5 os5 ∧ Same HB Hc ∧ LsOk S5 ∧ σ' = [some (.ref p), some (.ref rt), some (.ref tT), some (.int (n : Nat)), some (.ref tkl), some (.ref ltl), some (.ref cd), some (.ref D0), some (.ref p2), some (.int (m : Nat)), o10]) (ws_while c ?_) ?_)
  · refine ⟨fun k σ Hc => ∃ F5 os5 S5, Led E F5 Hc p2 S5 os5 ∧ (∀ a ∈ os5, HB a = none) ∧ Same HB Hc ∧ Hx S5 ∧ S5.notes.length ≤ 1000 ∧ k + S5.notes.length = 2000 ∧ σ = [some (.ref p), some (.ref rt), some (.ref tT), some (.int (n : Nat)), some (.ref tkl), some (.ref ltl), some (.ref cd), some (.ref D0), some (.ref p2), some (.int (m : Nat)), o10], ⟨2000 - S3.notes.length, F4, os4, S3, L4, ho4, s4, hx3, by omega, by omega, rfl⟩, ?_⟩
    rintro k σ Hc ⟨F5, os5, S5, L5, ho5, hb5, hx5, hn5, hk5, rfl⟩
    obtain ⟨dx5, fs5, hpA5, hnoA5⟩ := L5.fld
    walk_at "go"
    refine w_mO0 c ?_
    walk_at "go"
    refine ⟨p2, _, dx5, fs5, _, _, rfl, hpA5, hnoA5 _ (by decide +kernel), dYears, by omega, F5, p2, S5, os5, rfl, L5, ?_⟩
    walk_at "go"
    by_cases hr : (0 : Int) < ((S5.rows.length : Nat) : Int)
    · rw [decide_eq_true hr]
      refine iteT ?_
      walk_at "go"
      refine w_mO0 c ?_
      walk_at "go"
      refine ⟨p2, _, dx5, fs5, _, _, rfl, hpA5, hnoA5 _ (by decide +kernel), dLog, by omega, F5, p2, S5, os5, rfl, L5, hx5.ok, fun D6 ys6 as6 H6 s6 hD6 hl6 dl6 => ?_⟩
      have ly6 : ys6.length = S5.notes.length := Paired.length dl6.pa
      have hl06 := (hb5.trans s6) _ _ hl0
      have L6 := L5.grow s6
      obtain ⟨dx6, fs6, hpA6, hnoA6⟩ := L6.fld
      walk_at "go"
      rw [ly6, hln0]
      by_cases hc : ((S5.notes.length : Nat) : Int) < ((S.notes.length : Nat) : Int) + 20
      · rw [decide_eq_true hc]
        refine iteT ⟨fun σ' H' => ∃ m', m' < k ∧ ∃ F5 os5 S5, Led E F5 H' p2 S5 os5 ∧ (∀ a ∈ os5, HB a = none) ∧ Same HB H' ∧ Hx S5 ∧ S5.notes.length ≤ 1000 ∧ m' + S5.notes.length = 2000 ∧ σ' = [some (.ref p), some (.ref rt), some (.ref tT), some (.int (n : Nat)), some (.ref tkl), some (.ref ltl), some (.ref cd), some (.ref D0), some (.ref p2), some (.int (m : Nat)), o10], fun σ' H' h => h, ?_⟩
        refine wb_one (ws_expr (w_mO0 c ?_))
        walk_at "go"
        refine ⟨p2, _, dx6, fs6, _, _, rfl, hpA6, hnoA6 _ (by decide +kernel), dUndo, by omega, F5, p2, S5, os5, rfl, L6, hx5.ok, hx_past hx5 (by omega), fun F7 os7 H7 st L7 => ?_⟩
        obtain ⟨hb7, ho7⟩ := st.hb (hb5.trans s6) ho5
        have en : S5.undo.notes.length = S5.notes.length + 1 := by
          show (S5.notes ++ [Deed.undo]).length = _
          rw [List.length_append]; rfl
        exact ⟨k - 1, by omega, F7, os7, S5.undo, L7, ho7, hb7, hx_undo hx5 (hx_past hx5 (by omega)) (by omega), by omega, by omega, rfl⟩
      · rw [decide_eq_false hc]
        refine iteF ?_
        exact ⟨F5, os5, S5, L6, hb5.trans s6, hx5.ok, rfl⟩
    · rw [decide_eq_false hr]
      refine iteF (iteF ?_)
      exact ⟨F5, os5, S5, L5, hb5, hx5.ok, rfl⟩
  clear L4 ho4 s4
  rintro σ' H4 ⟨F4, os4, S4, L4, s4, ok4, rfl⟩
  -- its log is spoilt
  refine wb_cons (ws_mid (fun σ' Hc => ∃ o, Same HB Hc ∧ σ' = [some (.ref p), some (.ref rt), some (.ref tT), some (.int (n : Nat)), some (.ref tkl), some (.ref ltl), some (.ref cd), some (.ref D0), some (.ref p2), some (.int (m : Nat)), o]) ?_ ?_)
  · obtain ⟨dx5, fs5, hpA5, hnoA5⟩ := L4.fld
    refine ws_forS c (wi_list c (w_mO0 c ?_))
    walk_at "go"
    refine ⟨p2, _, dx5, fs5, _, _, rfl, hpA5, hnoA5 _ (by decide +kernel), dLog, by omega, F4, p2, S4, os4, rfl, L4, ok4, fun D6 ys6 as6 H6 s6 hD6 hl6 dl6 => ?_⟩
    refine ⟨D6, rfl, ⟨_, SqL.of hl6⟩, ?_⟩
    have s5 := s4
    have ly6 : ys6.length = S4.notes.length := Paired.length dl6.pa
    have la6 := dl6.len
    refine forS (src_list (H1 := upd (fun _ => none) D6 (.lst ys6)) (SqL.of upd_same)) (fun i σ Hc => ∃ o, Same HB Hc ∧ Hc D6 = some (.lst ys6) ∧ Dds E (fun _ => none) Hc ys6 (S4.notes.zip as6) i ∧ σ = [some (.ref p), some (.ref rt), some (.ref tT), some (.int (n : Nat)), some (.ref tkl), some (.ref ltl), some (.ref cd), some (.ref D0), some (.ref p2), some (.int (m : Nat)), o])
      ⟨o10, s4.trans s6, hl6, dl6.dds (fun _ _ z => nomatch z), rfl⟩ (fun i σ Hc ⟨o, _, h, _⟩ => same_one h) ?_ ?_
    · rintro σ Hc ⟨o, hb, _, _, rfl⟩
      exact ⟨o, hb, rfl⟩
    · rintro i σ Hc x H' hi ⟨o, hb, hD6c, dd, rfl⟩ s7 hx
      obtain ⟨d, hd⟩ : ∃ d, S4.notes[i]? = some d := ⟨_, List.getElem?_eq_getElem (by omega)⟩
      obtain ⟨a, hda⟩ : ∃ a, as6[i]? = some a := ⟨_, List.getElem?_eq_getElem (by omega)⟩
      have hq : (S4.notes.zip as6)[i]? = some (d, a) := by rw [List.getElem?_zip_eq_some]; exact ⟨hd, hda⟩
      have dd7 := dd.grow s7
      have hD7 := s7 _ _ hD6c
      have hdO : DeedO E H' x d a := (dd7 i (Nat.le_refl _) x (d, a) hx hq).1
      refine wg_name c l10 ?_
      walk_at "go"
      match d, hdO with
      | .add dc, hdO =>
        obtain ⟨t1, b, ea, ex, k1, kvs, k2, k3⟩ := hdO
        subst ea ex
        walk_at "go"
        refine w_clear c ?_
        walk_at "go"
        refine ⟨b, kvs, rfl, k2, ?_⟩
        have hbN : HB b = none := none_of s5 (dl6.new b (List.mem_of_getElem? hda))
        have nbD : D6 ≠ b := fun z => by rw [z, k2] at hD7; cases hD7
        exact ⟨_, Same.mut (hb.trans s7) hbN, by rw [upd_ne nbD]; exact hD7, dd7.clear dl6.nd k2 hda, rfl⟩
      | .mend yy dc, hdO =>
        obtain ⟨t1, b, ea, ex, k1, kvs, k2, k3⟩ := hdO
        subst ea ex
        walk_at "go"
        refine w_clear c ?_
        walk_at "go"
        refine ⟨b, kvs, rfl, k2, ?_⟩
        have hbN : HB b = none := none_of s5 (dl6.new b (List.mem_of_getElem? hda))
        have nbD : D6 ≠ b := fun z => by rw [z, k2] at hD7; cases hD7
        exact ⟨_, Same.mut (hb.trans s7) hbN, by rw [upd_ne nbD]; exact hD7, dd7.clear dl6.nd k2 hda, rfl⟩
      | .undo, hdO =>
        obtain ⟨t1, ea, ex, k1⟩ := hdO
        subst ex
        walk_at "go"
        exact ⟨_, hb.trans s7, hD7, dd7.succ, rfl⟩
  clear L4 s4
  rintro σ' H4 ⟨o, s4, rfl⟩
  -- the ledger itself
  have L4 := L1.grow s4
  obtain ⟨dx5, fs5, hpA5, hnoA5⟩ := L4.fld
  walk_at "go"
  refine w_mO0 c ?_
  walk_at "go"
  refine ⟨p, _, dx5, fs5, _, _, rfl, hpA5, hnoA5 _ (by decide +kernel), dLog, by omega, F, p, S, os, rfl, L4, ok, fun D6 ys6 as6 H6 s6 hD6 hl6 dl6 => ?_⟩
  have s46 := s4.trans s6
  walk_at "go"
  refine o_eq_lx c (SqL.of hl6) (SqL.of (s46 _ _ hl0)) (deeds_eqx ndN dl6.pa (Paired.mapP pa0 fun _ _ z => z.mono s46 s46.ts)) (by omega) ⟨_, rfl, ?_⟩
  refine iteT ?_
  have L6 := L4.grow s6
  obtain ⟨dx6, fs6, hpA6, hnoA6⟩ := L6.fld
  walk_at "go"
  refine w_mO0 c ?_
  walk_at "go"
  refine ⟨p, _, dx6, fs6, _, _, rfl, hpA6, hnoA6 _ (by decide +kernel), dYears, by omega, F, p, S, os, rfl, L6, ?_⟩
  walk_at "go"
  obtain ⟨ra, hra, rw0⟩ := rls_at prl (Nat.le_refl S.notes.length)
  have hrl : rls.length = S.notes.length + 1 := by rw [Paired.length prl, List.length_map, List.length_range]
  refine x_lst c (fun _ _ => rfl) (SqL.of (s46 _ _ hrt)) (atI_neg1 (k := S.notes.length) (by rw [List.length_map, hrl]) (by rw [List.getElem?_map, hra]; rfl)) ?_
  walk_at "go"
  obtain ⟨rs, hrs, prs⟩ := rw0.mono s46
  have hrl2 : rs.length = S.rows.length := by
    rw [Paired.length prs]
    show (redo (ls0 S.tk S.lets S.car) (S.notes.take S.notes.length)).rows.length = _
    rw [List.take_length, hs.eq]
  refine c_len_l c (SqL.of hrs) ?_
  rw [List.length_map, hrl2]
  refine o_eqI ?_
  rw [decide_eq_true rfl]
  exact q _ (s1.trans s46)
end
section
-- 85 _law_plain_lets: ["_law_takes", "_law_cell", "_law_found", "_law_k", "_law_names", "_law_name", "_law_told_here", "_law_draw", "_law_one", "_law_other", "_law_pairs", "_law_some"]
abbrev N85 : List Str := ["_law_takes", "_law_cell", "_law_found", "_law_k", "_law_names", "_law_name", "_law_told_here", "_law_draw", "_law_one", "_law_other", "_law_pairs", "_law_some"]
theorem sc85 : FnScope N85 ["_law_takes", "_law_cell"] (defScope (top 85)) := ⟨rfl, rfl, rfl, by decide +kernel, rfl, by decide +kernel, by decide +kernel⟩
theorem nm85 : visB N85 (defScope (top 85)) 1 "_law_cell" = true ∧ visB N85 (defScope (top 85)) 0 "_law_takes" = true ∧ visB N85 (defScope (top 85)) 2 "_law_found" = true ∧ visB N85 (defScope (top 85)) 3 "_law_k" = true ∧ visB N85 (defScope (top 85)) 4 "_law_names" = true ∧ visB N85 (defScope (top 85)) 7 "_law_draw" = true ∧ visB N85 (defScope (top 85)) 8 "_law_one" = true ∧ visB N85 (defScope (top 85)) 9 "_law_other" = true ∧ visB N85 (defScope (top 85)) 10 "_law_pairs" = true ∧ visB N85 (defScope (top 85)) 11 "_law_some" = true ∧ locB true N85 (defScope (top 85)) 2 "_law_found" = true ∧ locB true N85 (defScope (top 85)) 3 "_law_k" = true ∧ locB true N85 (defScope (top 85)) 4 "_law_names" = true ∧ locB true N85 (defScope (top 85)) 7 "_law_draw" = true ∧ locB true N85 (defScope (top 85)) 8 "_law_one" = true ∧ locB true N85 (defScope (top 85)) 9 "_law_other" = true ∧ locB true N85 (defScope (top 85)) 10 "_law_pairs" = true ∧ locB true N85 (defScope (top 85)) 11 "_law_some" = true ∧ gloB (defScope (top 85)) "range" = true ∧ gloB (defScope (top 85)) "_law_mixed" = true ∧ gloB (defScope (top 85)) "len" = true :=
  ⟨by decide +kernel, by decide +kernel, by decide +kernel, by decide +kernel, by decide +kernel, by decide +kernel, by decide +kernel, by decide +kernel, by decide +kernel, by decide +kernel, by decide +kernel, by decide +kernel, by decide +kernel, by decide +kernel, by decide +kernel, by decide +kernel, by decide +kernel, by decide +kernel, by decide +kernel, by decide +kernel, by decide +kernel⟩
-- obtain ⟨n1, n0, n2, n3, n4, n7, n8, n9, n10, n11, l2, l3, l4, l7, l8, l9, l10, l11, g_range, g__law_mixed, g_len⟩ := nm85
abbrev sg (l D : Addr) (cell : Int) (i : Nat) (a b c d e f : Option V) : L2.St := [some (.ref l), some (.int cell), some (.ref D), some (.int i), a, none, none, b, c, d, e, f]
theorem ok_lplain {E : Ev} (t : Tx E) : Dg E 2 "_law_plain_lets" (spLplain E) := by
  refine dg_of (t.gd _ _ _ (by decide +kernel)) sc85 (fun vs H Q ⟨_, _, _, e, _⟩ => by rw [e]; rfl) fun X vs H Q c ⟨l, tk, cell, e, hl, k1, k2, htk, q⟩ => ?_
  subst e
  have B := t.B
  obtain ⟨n1, n0, n2, n3, n4, n7, n8, n9, n10, n11, l2, l3, l4, l7, l8, l9, l10, l11, g_range, g__law_mixed, g_len⟩ := nm85
  have d1 := p_mixed t
  walk_at "go"
  intro D hD
  have s1 : Same H (upd H D (.lst [])) := Same.new hD
  walk_at "go"
  have hcr : 0 ≤ cell % 4 ∧ cell % 4 < 4 := by omega
  refine ws_forS c (wi_range c g_range (B _ (by decide +kernel)) ?_)
  walk_at "go"
  refine ⟨by omega, by omega, forS src_range (fun i σ H' => Same H H' ∧ ∃ ys lets o3 o4 o7 o8 o9 o10 o11, H' D = some (.lst ys) ∧ Paired (LtP E H' (fun l => l ≠ D ∧ H' l ≠ none)) ys lets ∧ PlOk tk lets ∧ lets.map (·.1) = letNms.take i ∧ lets.length = i ∧ σ = [some (.ref l), some (.int cell), some (.ref D), o3, o4, none, none, o7, o8, o9, o10, o11])
    ⟨s1, [], [], none, none, none, none, none, none, none, upd_same, .nil, trivial, rfl, rfl, rfl⟩ (fun i σ H h => h.1) ?_ ?_⟩
  · rintro σ H' ⟨s2, ys, lets, o3, o4, o7, o8, o9, o10, o11, hy, pr, ok, hnm, hlen, rfl⟩
    walk_at "go"
    exact q D lets H' s2 hD ⟨ys, hy, Paired.mapP pr fun _ _ z => z.lt⟩ ok (by omega) (by omega)
  · rintro i σ H' x H3 hi ⟨s2, ys, lets, o3, o4, o7, o8, o9, o10, o11, hy, pr, ok, hnm, hlen, rfl⟩ s3 hx
    have s4 := s2.trans s3
    have hi4 : i < 4 := by omega
    have hl3 := s4 _ _ hl
    have hy3 := s3 _ _ hy
    have pr3 : Paired (LtP E H3 (fun l => l ≠ D ∧ H' l ≠ none)) ys lets := Paired.mapP pr fun _ _ z => z.kp s3.kp
    have hyl := Paired.length pr
    subst hx
    refine wg_name c l3 ?_
    refine wb_cons (ws_mid (fun σ' H4 => Same H3 H4 ∧ ∃ L, H4 L = some (.lst ((tk ++ letNms.take i).map V.str)) ∧ σ' = sg l D cell i (some (.ref L)) o7 o8 o9 o10 o11) ?_ ?_)
    · walk_at "go"
      refine w_lcS c [("_law_name", 5), ("_law_told_here", 6)] (by decide +kernel) (wi_list c ?_)
      walk_at "go"
      refine ⟨⟨_, SqL.of hy3⟩, ?_⟩
      refine lcS0 (src_list (SqL.of hy3)) (by omega) (fun j y H4 => ∃ q, lets[j]? = some q ∧ y = .str q.1) (fun _ _ _ _ _ h => h) (fun j x H4 hj s5 hx Y cY => ?_) fun D2 zs H4 hD2 s5 hz4 pr5 => ?_
      · obtain ⟨⟨nmx, w⟩, hw, tt, u, rfl, h1, h2⟩ := pair_at pr3 hx
        refine wg_two cY (by decide +kernel) (by decide +kernel) (s5.tup h1) ⟨wipe_two (by decide), Same.refl _, fun Y3 c3 => ?_⟩
        walk_at "go"
        exact ⟨Same.refl _, _, hw, rfl⟩
      · rw [hyl] at pr5
        have pq := of_range (l := lets) (R := fun q y => y = V.str q.1) pr5
        have ez : zs = (lets.map (·.1)).map V.str := by
          clear hz4 pr5 hyl pr3 pr ok hnm hlen
          induction pq with
          | nil => rfl
          | cons r _ ih => rw [ih, r]; rfl
        rw [hnm] at ez
        refine o_catL (s5 _ _ hl3) (by rw [ez] at hz4; exact hz4) (by rw [List.length_map, List.length_map, List.length_take]; exact Nat.le_trans (show tk.length + min i letNms.length ≤ 1000 by omega) (by decide)) fun L hL => ?_
        walk_at "go"
        exact ⟨s5.trans (Same.new hL), L, by rw [upd_same, List.map_append], rfl⟩
    · rintro σ' H4 ⟨s5, L, hL, rfl⟩
      have hkn : 0 < ((tk ++ letNms.take i).map V.str).length := by rw [List.length_map, List.length_append]; omega
      have hmem : ∀ y ∈ (tk ++ letNms.take i).map V.str, ∃ x, x ∈ tk ++ letNms.take i ∧ y = .str x := fun y hy => by
        obtain ⟨x, hx, rfl⟩ := List.mem_map.mp hy
        exact ⟨x, hx, rfl⟩
      generalize hkn0 : tk ++ letNms.take i = kn at hL hkn hmem
      refine wb_cons (ws_mid (fun σ' H' => H4 = H' ∧ σ' = sg l D cell i (some (.ref L)) (some (.int (mixed cell (700 + i)))) o8 o9 o10 o11) ?_ ?_)
      · walk_at "go"
        exact ⟨rfl, rfl⟩
      rintro σ' H' ⟨eH, rfl⟩
      subst eH
      have hmx := mixed_bd cell (700 + i)
      generalize mixed cell (700 + i) = draw at hmx
      have hkn1 : kn.map V.str ≠ [] := fun z => by rw [z] at hkn; cases hkn
      have hL4 := hL
      refine wb_cons (ws_mid (fun σ' H' => Same H4 H' ∧ ∃ v x, Told E H' (.nm x) v ∧ x ∈ kn ∧ σ' = sg l D cell i (some (.ref L)) (some (.int draw)) (some v) o9 o10 o11) ?_ ?_)
      · walk_at "go"
        obtain ⟨y0, hy0, hm0⟩ := at_mod (xs := kn.map V.str) (m := draw) hkn1
        obtain ⟨x0, hx0, rfl⟩ := hmem y0 hm0
        refine x_lst c (fun _ _ => rfl) (SqL.of hL4) hy0 ?_
        walk_at "go"
        intro a1 ha1
        walk_at "go"
        exact ⟨Same.new ha1, _, x0, ⟨a1, rfl, SqT.of upd_same⟩, hx0, rfl⟩
      rintro σ' H5 ⟨s45, one, x1, h1, hx1, rfl⟩
      have hL5 := s45 _ _ hL4
      refine wb_cons (ws_mid (fun σ' H' => Same H5 H' ∧ ∃ v x, Told E H' (.nm x) v ∧ x ∈ kn ∧ σ' = sg l D cell i (some (.ref L)) (some (.int draw)) (some one) (some v) o10 o11) ?_ ?_)
      · walk_at "go"
        obtain ⟨y0, hy0, hm0⟩ := at_mod (xs := kn.map V.str) (m := draw / 8) hkn1
        obtain ⟨x0, hx0, rfl⟩ := hmem y0 hm0
        refine x_lst c (fun _ _ => rfl) (SqL.of hL5) hy0 ?_
        walk_at "go"
        intro a1 ha1
        walk_at "go"
        exact ⟨Same.new ha1, _, x0, ⟨a1, rfl, SqT.of upd_same⟩, hx0, rfl⟩
      rintro σ' H6 ⟨s56, other, x2, h2, hx2, rfl⟩
      replace h1 := h1.mono s56
      have hy6 := s56 _ _ (s45 _ _ (s5 _ _ hy3))
      have hr1 : 0 ≤ draw / 64 % 3 ∧ draw / 64 % 3 ≤ 10 := by omega
      have hr2 : -10 ≤ draw / 192 % 4 - 1 ∧ draw / 192 % 4 - 1 ≤ 10 := by omega
      have hrw := rw_two hr1 hr2
      refine wb_cons (ws_mid (fun σ' H' => Same H6 H' ∧ ∃ pl, RowsA E H' pl [(2 * 0, 2 * (draw / 64 % 3)), (2 * 20, 2 * (draw / 192 % 4 - 1))] ∧ (∃ xs, H' pl = some (.lst xs)) ∧ pl ≠ D ∧ σ' = sg l D cell i (some (.ref L)) (some (.int draw)) (some one) (some other) (some (.ref pl)) o11) ?_ ?_)
      · walk_at "go"
        intro a1 az1
        walk_at "go"
        intro a2 az2
        walk_at "go"
        intro a3 az3
        walk_at "go"
        intro a4 az4
        walk_at "go"
        intro a5 az5
        walk_at "go"
        intro a6 az6
        walk_at "go"
        intro a7 az7
        walk_at "go"
        exact ⟨(Same.trans (Same.new az1) (Same.trans (Same.new az2) (Same.trans (Same.new az3) (Same.trans (Same.new az4) (Same.trans (Same.new az5) (Same.trans (Same.new az6) (Same.new az7))))))), a7, ⟨[a3, a6], SqL.of upd_same, .cons ⟨a1, a2, (tup_up (SqT.of upd_same) (Same.trans (Same.new az4) (Same.trans (Same.new az5) (Same.trans (Same.new az6) (Same.new az7))))), (pta_two (tup_up (SqT.of upd_same) (Same.trans (Same.new az2) (Same.trans (Same.new az3) (Same.trans (Same.new az4) (Same.trans (Same.new az5) (Same.trans (Same.new az6) (Same.new az7)))))))), (pta_two (tup_up (SqT.of upd_same) (Same.trans (Same.new az3) (Same.trans (Same.new az4) (Same.trans (Same.new az5) (Same.trans (Same.new az6) (Same.new az7)))))))⟩ (.cons ⟨a4, a5, (tup_up (SqT.of upd_same) (Same.new az7)), (pta_two (tup_up (SqT.of upd_same) (Same.trans (Same.new az5) (Same.trans (Same.new az6) (Same.new az7))))), (pta_two (tup_up (SqT.of upd_same) (Same.trans (Same.new az6) (Same.new az7))))⟩ .nil)⟩, ⟨_, upd_same⟩, fun z => (by have h9 : H6 a7 = none := none_of (Same.trans (Same.new az1) (Same.trans (Same.new az2) (Same.trans (Same.new az3) (Same.trans (Same.new az4) (Same.trans (Same.new az5) (Same.new az6)))))) az7; rw [z, hy6] at h9; cases h9), rfl⟩
      rintro σ' H7 ⟨s67, pl, hpl, hplx, npD, rfl⟩
      replace h1 := h1.mono s67
      replace h2 := h2.mono s67
      have hy7 := s67 _ _ hy6
      generalize hrr : [((2 * 0 : Int), 2 * (draw / 64 % 3)), (2 * 20, 2 * (draw / 192 % 4 - 1))] = rows at hpl hrw
      refine wb_cons (ws_mid (fun σ' H' => Same H7 H' ∧ ∃ so vs, H' so = some (.lst vs) ∧ H7 so = none ∧ AllT E H' (fun l => l = pl) kn vs ∧ vs.length = 3 ∧ σ' = sg l D cell i (some (.ref L)) (some (.int draw)) (some one) (some other) (some (.ref pl)) (some (.ref so))) ?_ ?_)
      · walk_at "go"
        intro b1 bz1
        walk_at "go"
        intro b2 bz2
        walk_at "go"
        intro b3 bz3
        walk_at "go"
        intro b4 bz4
        walk_at "go"
        intro b5 bz5
        walk_at "go"
        intro b6 bz6
        walk_at "go"
        exact ⟨(Same.trans (Same.new bz1) (Same.trans (Same.new bz2) (Same.trans (Same.new bz3) (Same.trans (Same.new bz4) (Same.trans (Same.new bz5) (Same.new bz6)))))), b6, [.ref b1, .ref b4, .ref b5], upd_same, none_of (Same.trans (Same.new bz1) (Same.trans (Same.new bz2) (Same.trans (Same.new bz3) (Same.trans (Same.new bz4) (Same.new bz5))))) bz6, AllT.cons (w := .two .less (.nm x1) (.nm x2)) ⟨b1, one, other, rfl, (tup_up (SqT.of upd_same) (Same.trans (Same.new bz2) (Same.trans (Same.new bz3) (Same.trans (Same.new bz4) (Same.trans (Same.new bz5) (Same.new bz6)))))), h1.mono (Same.trans (Same.new bz1) (Same.trans (Same.new bz2) (Same.trans (Same.new bz3) (Same.trans (Same.new bz4) (Same.trans (Same.new bz5) (Same.new bz6)))))), h2.mono (Same.trans (Same.new bz1) (Same.trans (Same.new bz2) (Same.trans (Same.new bz3) (Same.trans (Same.new bz4) (Same.trans (Same.new bz5) (Same.new bz6))))))⟩ ((gd_tn (gd_nm hx1) hx2 (by omega)).up (by omega))
          (AllT.cons (w := .two .lesser (.nm x1) (.am (2 * (draw / 64 % 50)))) ⟨b4, one, .ref b3, rfl, (tup_up (SqT.of upd_same) (Same.trans (Same.new bz5) (Same.new bz6))), h1.mono (Same.trans (Same.new bz1) (Same.trans (Same.new bz2) (Same.trans (Same.new bz3) (Same.trans (Same.new bz4) (Same.trans (Same.new bz5) (Same.new bz6)))))), ⟨b3, b2, rfl, (tup_up (SqT.of upd_same) (Same.trans (Same.new bz4) (Same.trans (Same.new bz5) (Same.new bz6)))), (pta_two (tup_up (SqT.of upd_same) (Same.trans (Same.new bz3) (Same.trans (Same.new bz4) (Same.trans (Same.new bz5) (Same.new bz6))))))⟩⟩ ((gd_ta (gd_nm hx1) (by omega)).up (by omega))
          (AllT.cons (w := .bands (.nm x1) rows) ⟨b5, one, pl, rfl, (tup_up (SqT.of upd_same) (Same.new bz6)), h1.mono (Same.trans (Same.new bz1) (Same.trans (Same.new bz2) (Same.trans (Same.new bz3) (Same.trans (Same.new bz4) (Same.trans (Same.new bz5) (Same.new bz6)))))), hpl.mono (Same.trans (Same.new bz1) (Same.trans (Same.new bz2) (Same.trans (Same.new bz3) (Same.trans (Same.new bz4) (Same.trans (Same.new bz5) (Same.new bz6)))))), rfl⟩ ((gd_bands hx1 hrw).up (by omega)) AllT.nil)), rfl, rfl⟩
      rintro σ' H8 ⟨s78, so, vs, hso, hsn, hat, hvl, rfl⟩
      replace h1 := h1.mono s78
      replace h2 := h2.mono s78
      replace hpl := hpl.mono s78
      refine wb_cons (ws_mid (fun σ' H' => Same H8 H' ∧ ∃ so vs, H' so = some (.lst vs) ∧ H8 so = none ∧ AllT E H' (fun l => l = pl) kn vs ∧ vs.length = 5 ∧ σ' = sg l D cell i (some (.ref L)) (some (.int draw)) (some one) (some other) (some (.ref pl)) (some (.ref so))) ?_ ?_)
      · walk_at "go"
        intro b1 bz1
        walk_at "go"
        intro b2 bz2
        walk_at "go"
        intro b3 bz3
        walk_at "go"
        intro b4 bz4
        walk_at "go"
        intro b5 bz5
        walk_at "go"
        intro b6 bz6
        walk_at "go"
        intro b7 bz7
        walk_at "go"
        intro b8 bz8
        walk_at "go"
        refine o_catL ((Same.trans (Same.new bz1) (Same.trans (Same.new bz2) (Same.trans (Same.new bz3) (Same.trans (Same.new bz4) (Same.trans (Same.new bz5) (Same.trans (Same.new bz6) (Same.trans (Same.new bz7) (Same.new bz8)))))))) _ _ hso) upd_same (by rw [hvl]; exact le_sz (show 3 + 2 ≤ 100000 by omega)) fun b9 bz9 => ?_
        walk_at "go"
        exact ⟨(Same.trans (Same.new bz1) (Same.trans (Same.new bz2) (Same.trans (Same.new bz3) (Same.trans (Same.new bz4) (Same.trans (Same.new bz5) (Same.trans (Same.new bz6) (Same.trans (Same.new bz7) (Same.trans (Same.new bz8) (Same.new bz9))))))))), b9, _, upd_same, none_of (Same.trans (Same.new bz1) (Same.trans (Same.new bz2) (Same.trans (Same.new bz3) (Same.trans (Same.new bz4) (Same.trans (Same.new bz5) (Same.trans (Same.new bz6) (Same.trans (Same.new bz7) (Same.new bz8)))))))) bz9, AllT.app (hat.mono (Same.trans (Same.new bz1) (Same.trans (Same.new bz2) (Same.trans (Same.new bz3) (Same.trans (Same.new bz4) (Same.trans (Same.new bz5) (Same.trans (Same.new bz6) (Same.trans (Same.new bz7) (Same.trans (Same.new bz8) (Same.new bz9)))))))))) (AllT.cons (w := .two .greater (.two .less (.nm x1) (.am (2 * 25))) (.am (2 * (-5)))) ⟨b6, .ref b3, .ref b5, rfl, (tup_up (SqT.of upd_same) (Same.trans (Same.new bz7) (Same.trans (Same.new bz8) (Same.new bz9)))), ⟨b3, one, .ref b2, rfl, (tup_up (SqT.of upd_same) (Same.trans (Same.new bz4) (Same.trans (Same.new bz5) (Same.trans (Same.new bz6) (Same.trans (Same.new bz7) (Same.trans (Same.new bz8) (Same.new bz9))))))), h1.mono (Same.trans (Same.new bz1) (Same.trans (Same.new bz2) (Same.trans (Same.new bz3) (Same.trans (Same.new bz4) (Same.trans (Same.new bz5) (Same.trans (Same.new bz6) (Same.trans (Same.new bz7) (Same.trans (Same.new bz8) (Same.new bz9))))))))), ⟨b2, b1, rfl, (tup_up (SqT.of upd_same) (Same.trans (Same.new bz3) (Same.trans (Same.new bz4) (Same.trans (Same.new bz5) (Same.trans (Same.new bz6) (Same.trans (Same.new bz7) (Same.trans (Same.new bz8) (Same.new bz9)))))))), (pta_two (tup_up (SqT.of upd_same) (Same.trans (Same.new bz2) (Same.trans (Same.new bz3) (Same.trans (Same.new bz4) (Same.trans (Same.new bz5) (Same.trans (Same.new bz6) (Same.trans (Same.new bz7) (Same.trans (Same.new bz8) (Same.new bz9))))))))))⟩⟩, ⟨b5, b4, rfl, (tup_up (SqT.of upd_same) (Same.trans (Same.new bz6) (Same.trans (Same.new bz7) (Same.trans (Same.new bz8) (Same.new bz9))))), (pta_two (tup_up (SqT.of upd_same) (Same.trans (Same.new bz5) (Same.trans (Same.new bz6) (Same.trans (Same.new bz7) (Same.trans (Same.new bz8) (Same.new bz9)))))))⟩⟩ ((gd_ta (gd_ta (gd_nm hx1) (by omega)) (by omega)).up (by omega))
          (AllT.cons (w := .two .plus (.nm x1) (.nm x2)) ⟨b7, one, other, rfl, (tup_up (SqT.of upd_same) (Same.trans (Same.new bz8) (Same.new bz9))), h1.mono (Same.trans (Same.new bz1) (Same.trans (Same.new bz2) (Same.trans (Same.new bz3) (Same.trans (Same.new bz4) (Same.trans (Same.new bz5) (Same.trans (Same.new bz6) (Same.trans (Same.new bz7) (Same.trans (Same.new bz8) (Same.new bz9))))))))), h2.mono (Same.trans (Same.new bz1) (Same.trans (Same.new bz2) (Same.trans (Same.new bz3) (Same.trans (Same.new bz4) (Same.trans (Same.new bz5) (Same.trans (Same.new bz6) (Same.trans (Same.new bz7) (Same.trans (Same.new bz8) (Same.new bz9)))))))))⟩ ((gd_tn (gd_nm hx1) hx2 (by omega)).up (by omega)) AllT.nil)), by rw [List.length_append, hvl]; rfl, rfl⟩
      rintro σ' H9 ⟨s89, so2, vs2, hso2, hsn2, hat2, hvl2, rfl⟩
      replace h1 := h1.mono s89
      replace h2 := h2.mono s89
      replace hpl := hpl.mono s89
      refine wb_cons (ws_mid (fun σ' H' => Same H9 H' ∧ ∃ so vs, H' so = some (.lst vs) ∧ H9 so = none ∧ AllT E H' (fun l => l = pl) kn vs ∧ vs.length = 7 ∧ σ' = sg l D cell i (some (.ref L)) (some (.int draw)) (some one) (some other) (some (.ref pl)) (some (.ref so))) ?_ ?_)
      · walk_at "go"
        intro b1 bz1
        walk_at "go"
        intro b2 bz2
        walk_at "go"
        intro b3 bz3
        walk_at "go"
        intro b4 bz4
        walk_at "go"
        intro b5 bz5
        walk_at "go"
        refine o_catL ((Same.trans (Same.new bz1) (Same.trans (Same.new bz2) (Same.trans (Same.new bz3) (Same.trans (Same.new bz4) (Same.new bz5))))) _ _ hso2) upd_same (by rw [hvl2]; exact le_sz (show 5 + 2 ≤ 100000 by omega)) fun b6 bz6 => ?_
        walk_at "go"
        exact ⟨(Same.trans (Same.new bz1) (Same.trans (Same.new bz2) (Same.trans (Same.new bz3) (Same.trans (Same.new bz4) (Same.trans (Same.new bz5) (Same.new bz6)))))), b6, _, upd_same, none_of (Same.trans (Same.new bz1) (Same.trans (Same.new bz2) (Same.trans (Same.new bz3) (Same.trans (Same.new bz4) (Same.new bz5))))) bz6, AllT.app (hat2.mono (Same.trans (Same.new bz1) (Same.trans (Same.new bz2) (Same.trans (Same.new bz3) (Same.trans (Same.new bz4) (Same.trans (Same.new bz5) (Same.new bz6))))))) (AllT.cons (w := .steps (.nm x1) rows) ⟨b1, one, pl, rfl, (tup_up (SqT.of upd_same) (Same.trans (Same.new bz2) (Same.trans (Same.new bz3) (Same.trans (Same.new bz4) (Same.trans (Same.new bz5) (Same.new bz6)))))), h1.mono (Same.trans (Same.new bz1) (Same.trans (Same.new bz2) (Same.trans (Same.new bz3) (Same.trans (Same.new bz4) (Same.trans (Same.new bz5) (Same.new bz6)))))), hpl.mono (Same.trans (Same.new bz1) (Same.trans (Same.new bz2) (Same.trans (Same.new bz3) (Same.trans (Same.new bz4) (Same.trans (Same.new bz5) (Same.new bz6)))))), rfl⟩ ((gd_steps hx1 hrw).up (by omega))
          (AllT.cons (w := .iff (.nm x1) (.nm x2) (.nm x1) (.am (2 * 7))) ⟨b4, one, other, one, .ref b3, rfl, (tup_up (SqT.of upd_same) (Same.trans (Same.new bz5) (Same.new bz6))), h1.mono (Same.trans (Same.new bz1) (Same.trans (Same.new bz2) (Same.trans (Same.new bz3) (Same.trans (Same.new bz4) (Same.trans (Same.new bz5) (Same.new bz6)))))), h2.mono (Same.trans (Same.new bz1) (Same.trans (Same.new bz2) (Same.trans (Same.new bz3) (Same.trans (Same.new bz4) (Same.trans (Same.new bz5) (Same.new bz6)))))), h1.mono (Same.trans (Same.new bz1) (Same.trans (Same.new bz2) (Same.trans (Same.new bz3) (Same.trans (Same.new bz4) (Same.trans (Same.new bz5) (Same.new bz6)))))), ⟨b3, b2, rfl, (tup_up (SqT.of upd_same) (Same.trans (Same.new bz4) (Same.trans (Same.new bz5) (Same.new bz6)))), (pta_two (tup_up (SqT.of upd_same) (Same.trans (Same.new bz3) (Same.trans (Same.new bz4) (Same.trans (Same.new bz5) (Same.new bz6))))))⟩⟩ ((gd_if hx1 hx2).up (by omega)) AllT.nil)), by rw [List.length_append, hvl2]; rfl, rfl⟩
      clear hso hsn hat hvl
      rintro σ' H10 ⟨s90, so, vs, hso, hsn, hat, hvl, rfl⟩
      replace h1 := h1.mono s90
      replace h2 := h2.mono s90
      replace hpl := hpl.mono s90
      have s79 : Same H7 H9 := s78.trans s89
      have s37 : Same H3 H7 := s5.trans (s45.trans (s56.trans s67))
      have s3a : Same H3 H10 := (s37.trans s79).trans s90
      have nsp : pl ≠ so := fun z => by
        obtain ⟨_, hx9⟩ := hplx
        rw [← z, s79 _ _ hx9] at hsn
        cases hsn
      have hsn3 : H3 so = none := none_of (s37.trans s79) hsn
      have hpl10 : ∃ xs, H10 pl = some (.lst xs) := by
        obtain ⟨xs, hx9⟩ := hplx
        exact ⟨xs, s90 _ _ (s79 _ _ hx9)⟩
      clear s78 s89 s90 s79 s37 hplx hso2 hat2 hsn2 hy6 hy7 s67 s56 s45
      refine wb_cons (ws_mid (fun σ' H' => Same H3 H' ∧ (∃ xs, H' pl = some (.lst xs)) ∧ ∃ vs, H' so = some (.lst vs) ∧ AllT E H' (fun l => l = pl) kn vs ∧ vs.length = 8 ∧ σ' = sg l D cell i (some (.ref L)) (some (.int draw)) (some one) (some other) (some (.ref pl)) (some (.ref so))) (ws_expr (w_append c ?_)) ?_)
      · walk_at "go"
        refine ⟨so, _, rfl, hso, ?_⟩
        walk_at "go"
        intro b1 bz1
        walk_at "go"
        intro b2 bz2
        walk_at "go"
        intro b3 bz3
        have sG : Same H10 (upd (upd (upd H10 b1 (.tup [.int 99, .int 1])) b2 (.tup [.str "amount", .ref b1])) b3 (.tup [.str "lesser", one, .ref b2])) := (Same.trans (Same.new bz1) (Same.trans (Same.new bz2) (Same.new bz3)))
        have T3 : SqT E.K (upd (upd (upd H10 b1 (.tup [.int 99, .int 1])) b2 (.tup [.str "amount", .ref b1])) b3 (.tup [.str "lesser", one, .ref b2])) b3 [.str "lesser", one, .ref b2] := (tup_up (SqT.of upd_same) (Same.refl _))
        have T2 : SqT E.K (upd (upd (upd H10 b1 (.tup [.int 99, .int 1])) b2 (.tup [.str "amount", .ref b1])) b3 (.tup [.str "lesser", one, .ref b2])) b2 [.str "amount", .ref b1] := (tup_up (SqT.of upd_same) (Same.new bz3))
        have P1 : PtA E (upd (upd (upd H10 b1 (.tup [.int 99, .int 1])) b2 (.tup [.str "amount", .ref b1])) b3 (.tup [.str "lesser", one, .ref b2])) b1 (2 * 99) := (pta_two (tup_up (SqT.of upd_same) (Same.trans (Same.new bz2) (Same.new bz3))))
        generalize upd (upd (upd H10 b1 (.tup [.int 99, .int 1])) b2 (.tup [.str "amount", .ref b1])) b3 (.tup [.str "lesser", one, .ref b2]) = G at sG T3 T2 P1
        have hso3 := sG _ _ hso
        have K : Kp E (fun l => l = pl) G (upd G so (.lst (vs ++ [.ref b3]))) := Kp.upd hso3 rfl (fun l hl => by rw [hl]; exact nsp)
        refine ⟨vs, hso3, by rw [hvl]; exact Nat.lt_of_lt_of_le (show 7 < 100000 by omega) (by decide), ?_⟩
        have h1b : ToldP E G (fun l => l = pl) (.nm x1) one := h1.mono sG
        obtain ⟨xs9, hx9⟩ := hpl10
        refine ⟨Same.mut (s3a.trans sG) hsn3, ⟨xs9, by rw [upd_ne nsp]; exact sG _ _ hx9⟩, vs ++ [.ref b3], upd_same, AllT.app ((hat.mono sG).kp K) (AllT.cons (w := .two .lesser (.nm x1) (.am (2 * 99))) ⟨b3, one, .ref b2, rfl, K.ts.sqt T3, h1b.kp K, ⟨b2, b1, rfl, K.ts.sqt T2, P1.ts K.ts⟩⟩ ((gd_ta (gd_nm hx1) (by omega)).up (by omega)) AllT.nil), by rw [List.length_append, hvl]; rfl, rfl⟩
      clear hso hat hvl hpl10 h1 h2 hpl hsn vs2 hvl2
      rintro σ' H11 ⟨s3b, ⟨xs9, hx9⟩, vs, hso, hat, hvl, rfl⟩
      have hy11 := s3b _ _ hy3
      obtain ⟨cp, hcp1, hcp2⟩ := abcd_at hi4
      refine wb_one (ws_expr (w_append c ?_))
      walk_at "go"
      refine ⟨D, _, rfl, hy11, ?_⟩
      walk_at "go"
      refine x_str (fun _ _ => rfl) (le_sz (by decide +kernel)) hcp1 ?_
      refine o_adds (le_sz (by show 1 + 1 ≤ 100000; omega)) ?_
      generalize (("l" : Str) ++ (⟨#[cp]⟩ : Str)) = nml at hcp2
      walk_at "go"
      obtain ⟨vw, hvw, hvm⟩ := at_mod (xs := vs) (m := draw / 768) (fun z => by rw [z] at hvl; cases hvl)
      have e8 : ((vs.length : Nat) : Int) = 8 := by omega
      rw [e8] at hvw
      refine x_lst c (fun _ _ => rfl) (SqL.of hso) hvw ?_
      obtain ⟨w, hw, gw⟩ := hat vw hvm
      walk_at "go"
      intro c1 cz1
      walk_at "go"
      intro c2 cz2
      walk_at "go"
      intro c3 cz3
      walk_at "go"
      intro c4 cz4
      have sG : Same H11 (upd (upd (upd (upd H11 c1 (.tup [.int (10 ^ (6 : Int).toNat), .int 1])) c2 (.tup [.str "amount", .ref c1])) c3 (.tup [.str "lesser", vw, .ref c2])) c4 (.tup [.str nml, .ref c3])) := (Same.trans (Same.new cz1) (Same.trans (Same.new cz2) (Same.trans (Same.new cz3) (Same.new cz4))))
      have T4 : SqT E.K (upd (upd (upd (upd H11 c1 (.tup [.int (10 ^ (6 : Int).toNat), .int 1])) c2 (.tup [.str "amount", .ref c1])) c3 (.tup [.str "lesser", vw, .ref c2])) c4 (.tup [.str nml, .ref c3])) c4 [.str nml, .ref c3] := (tup_up (SqT.of upd_same) (Same.refl _))
      have T3 : SqT E.K (upd (upd (upd (upd H11 c1 (.tup [.int (10 ^ (6 : Int).toNat), .int 1])) c2 (.tup [.str "amount", .ref c1])) c3 (.tup [.str "lesser", vw, .ref c2])) c4 (.tup [.str nml, .ref c3])) c3 [.str "lesser", vw, .ref c2] := (tup_up (SqT.of upd_same) (Same.new cz4))
      have T2 : SqT E.K (upd (upd (upd (upd H11 c1 (.tup [.int (10 ^ (6 : Int).toNat), .int 1])) c2 (.tup [.str "amount", .ref c1])) c3 (.tup [.str "lesser", vw, .ref c2])) c4 (.tup [.str nml, .ref c3])) c2 [.str "amount", .ref c1] := (tup_up (SqT.of upd_same) (Same.trans (Same.new cz3) (Same.new cz4)))
      have P1 : PtA E (upd (upd (upd (upd H11 c1 (.tup [.int (10 ^ (6 : Int).toNat), .int 1])) c2 (.tup [.str "amount", .ref c1])) c3 (.tup [.str "lesser", vw, .ref c2])) c4 (.tup [.str nml, .ref c3])) c1 (2 * 10 ^ (6 : Int).toNat) := (pta_two (tup_up (SqT.of upd_same) (Same.trans (Same.new cz2) (Same.trans (Same.new cz3) (Same.new cz4)))))
      generalize upd (upd (upd (upd H11 c1 (.tup [.int (10 ^ (6 : Int).toNat), .int 1])) c2 (.tup [.str "amount", .ref c1])) c3 (.tup [.str "lesser", vw, .ref c2])) c4 (.tup [.str nml, .ref c3]) = G at sG T4 T3 T2 P1
      have hy4 := sG _ _ hy11
      have K : Kp E (fun l => l ≠ D ∧ H' l ≠ none) G (upd G D (.lst (ys ++ [.ref c4]))) := Kp.upd hy4 rfl (fun l hl => hl.1)
      have K2 : Kp E (fun l => l = pl) G (upd G D (.lst (ys ++ [.ref c4]))) := Kp.upd hy4 rfl (fun l hl => by rw [hl]; exact npD)
      refine ⟨ys, hy4, by rw [hyl]; exact Nat.lt_of_lt_of_le (show lets.length < 100000 by omega) (by decide), ?_⟩
      have sHf : ∀ l, l ≠ D → H' l ≠ none → upd G D (.lst (ys ++ [.ref c4])) l ≠ none := fun l h5 h6 => by
        rw [upd_ne h5]
        cases q5 : H' l with
        | none => exact absurd q5 h6
        | some u5 => rw [(s3.trans (s3b.trans sG)) _ _ q5]; exact fun z => by cases z
      have hplf : upd G D (.lst (ys ++ [.ref c4])) pl ≠ none := by
        rw [upd_ne npD, sG _ _ hx9]
        exact fun z => by cases z
      obtain ⟨hnb, hnn⟩ := let_new hcp2 htk
      have hi5 : letNms.take i = lets.map (·.1) := hnm.symm
      rw [hi5] at hnn
      have ekn : kn = tk ++ lets.map (·.1) := by rw [← hkn0, hi5]
      refine ⟨Same.mut ((s4.trans s3b).trans sG) hD, ys ++ [.ref c4], lets ++ [(nml, .two .lesser w (.am (2 * 10 ^ (6 : Int).toNat)))], _, _, _, _, _, _, _, upd_same, Paired.snoc (Paired.mapP pr3 fun _ _ z => ((z.kp (s3b.trans sG).kp).kp K).imp fun l hl => ⟨hl.1, sHf l hl.1 hl.2⟩)
        ⟨c4, .ref c3, rfl, K.ts.sqt T4, (show ToldP E (upd G D (.lst (ys ++ [.ref c4]))) (fun l => l ≠ D ∧ upd G D (.lst (ys ++ [.ref c4])) l ≠ none) (.two .lesser w (.am (2 * 10 ^ (6 : Int).toNat))) (.ref c3) from ⟨c3, vw, .ref c2, rfl, K.ts.sqt T3, ((hw.kp sG.kp).kp K2).imp fun l hl => by rw [hl]; exact ⟨npD, hplf⟩, ⟨c2, c1, rfl, K.ts.sqt T2, P1.ts K.ts⟩⟩)⟩,
        ok.snoc hnb hnn ((gd_ta (ekn ▸ gw) (by omega)).up (by omega)), ?_, by rw [List.length_append, hlen]; rfl, rfl⟩
      rw [List.map_append, hnm, List.take_succ, hcp2]
      rfl
end
section
-- 86 _law_begun: ["_law_script", "_law_cell", "_law_one", "_law_takes", "_law_lets", "_law_charter", "_law_name", "_law_told_here"]
abbrev N86 : List Str := ["_law_script", "_law_cell", "_law_one", "_law_takes", "_law_lets", "_law_charter", "_law_name", "_law_told_here"]
theorem sc86 : FnScope N86 ["_law_script"] (defScope (top 86)) := ⟨rfl, rfl, rfl, by decide +kernel, rfl, by decide +kernel, by decide +kernel⟩
theorem nm86 : visB N86 (defScope (top 86)) 0 "_law_script" = true ∧ visB N86 (defScope (top 86)) 1 "_law_cell" = true ∧ visB N86 (defScope (top 86)) 3 "_law_takes" = true ∧ visB N86 (defScope (top 86)) 4 "_law_lets" = true ∧ visB N86 (defScope (top 86)) 5 "_law_charter" = true ∧ locB true N86 (defScope (top 86)) 1 "_law_cell" = true ∧ locB true N86 (defScope (top 86)) 3 "_law_takes" = true ∧ locB true N86 (defScope (top 86)) 4 "_law_lets" = true ∧ locB true N86 (defScope (top 86)) 5 "_law_charter" = true ∧ gloB (defScope (top 86)) "_law_mixed" = true ∧ gloB (defScope (top 86)) "sum" = true ∧ gloB (defScope (top 86)) "len" = true ∧ gloB (defScope (top 86)) "_law_plain_lets" = true ∧ gloB (defScope (top 86)) "Charter" = true ∧ gloB (defScope (top 86)) "_law_carried" = true :=
  ⟨by decide +kernel, by decide +kernel, by decide +kernel, by decide +kernel, by decide +kernel, by decide +kernel, by decide +kernel, by decide +kernel, by decide +kernel, by decide +kernel, by decide +kernel, by decide +kernel, by decide +kernel, by decide +kernel, by decide +kernel⟩
-- obtain ⟨n0, n1, n3, n4, n5, l1, l3, l4, l5, g__law_mixed, g_sum, g_len, g__law_plain_lets, g_Charter, g__law_carried⟩ := nm86
theorem ok_begun {E : Ev} (t : Tx E) : Dg E 25 "_law_begun" (spBegun E) := by
  refine dg_of (t.gd _ _ _ (by decide +kernel)) sc86 (fun vs H Q ⟨_, _, e, _⟩ => by rw [e]; rfl) fun X vs H Q c ⟨l, ns, e, hl, hz, q⟩ => ?_
  subst e
  have B := t.B
  obtain ⟨n0, n1, n3, n4, n5, l1, l3, l4, l5, g__law_mixed, g_sum, g_len, g__law_plain_lets, g_Charter, g__law_carried⟩ := nm86
  have d1 := p_mixed t
  have d2 := ok_lplain t
  have d3 := ok_charter t
  have d4 := ok_lcarried t
  refine wb_cons (ws_mid (fun σ' H' => Same H H' ∧ ∃ cell : Int, σ' = [some (.ref l), some (.int cell), none, none, none, none, none, none]) ?_ ?_)
  · walk_at "go"
    refine w_lcS c [("_law_one", 2)] (by decide +kernel) (wi_list c ?_)
    walk_at "go"
    refine ⟨⟨_, hl⟩, ?_⟩
    refine lcS0 (src_list hl) (by rw [List.length_map]; omega) (fun i y H4 => ∃ n : Int, y = .int n) (fun _ _ _ _ _ h => h) (fun i x H4 hi s4 hx Y cY => ?_) fun D2 zs H4 hD2 s4 hz4 pr => ?_
    · obtain ⟨n, rfl⟩ : ∃ n, x = .int n := by
        obtain ⟨n, _, rfl⟩ := List.mem_map.mp (List.mem_of_getElem? hx)
        exact ⟨n, rfl⟩
      refine wg_name cY (by decide +kernel) ⟨wipe_one, Same.refl _, fun Y3 c3 => ?_⟩
      walk_at "go"
      refine o_mod (by decide) ⟨Same.refl _, _, rfl⟩
    · obtain ⟨ms, rfl⟩ : ∃ ms : List Int, zs = ms.map V.int := by
        have h1 := pair_all pr
        clear pr hz4
        induction zs with
        | nil => exact ⟨[], rfl⟩
        | cons z zs ih =>
          obtain ⟨ms, e1⟩ := ih fun y hy => h1 y (List.mem_cons_of_mem _ hy)
          obtain ⟨n, e2⟩ := h1 z List.mem_cons_self
          exact ⟨n :: ms, by rw [e1, e2]; rfl⟩
      walk_at "go"
      refine c_sum c (SqL.of hz4) ?_
      walk_at "go"
      refine ⟨_, _, rfl, by rw [List.length_map]; omega, ?_⟩
      walk_at "go"
      exact ⟨s4, _, rfl⟩
  rintro σ' H1 ⟨s1, cell, rfl⟩
  obtain ⟨j, hj⟩ := Int.eq_ofNat_of_zero_le (show 0 ≤ 1 + cell % 4 by omega)
  have hj1 : 1 ≤ j ∧ j ≤ 4 := by omega
  refine wb_cons (ws_mid (fun σ' H' => Same H1 H' ∧ ∃ tkl, H' tkl = some (.lst ((takeNms.take j).map V.str)) ∧ H1 tkl = none ∧ σ' = [some (.ref l), some (.int cell), none, some (.ref tkl), none, none, none, none]) ?_ ?_)
  · walk_at "go"
    intro a1 z1
    walk_at "go"
    rw [hj]
    refine l_lst c (SqL.of upd_same) fun a2 z2 => ?_
    rw [cutV_to]
    refine ⟨Same.trans (Same.new z1) (Same.new z2), a2, ?_, none_of (Same.new z1) z2, rfl⟩
    rw [upd_same, List.map_take]
    rfl
  rintro σ' H2 ⟨s2, tkl, htk, htn, rfl⟩
  have s12 := s1.trans s2
  have htl : (takeNms.take j).length = j := by rw [List.length_take]; show min j 5 = j; omega
  generalize htk0 : takeNms.take j = tk at htk htl
  have hgood : ∀ x ∈ tk, x ∈ takeNms ∧ nameB x = true := by rw [← htk0]; exact take_good
  have hnd : tk.Nodup := by rw [← htk0]; exact nodup_takeNms j
  refine wb_cons (ws_mid (fun σ' H' => Same H2 H' ∧ ∃ ltl lets, LtL E H' ltl lets ∧ PlOk tk lets ∧ 1 ≤ lets.length ∧ lets.length ≤ 4 ∧ σ' = [some (.ref l), some (.int cell), none, some (.ref tkl), some (.ref ltl), none, none, none]) ?_ ?_)
  · walk_at "go"
    refine ⟨tkl, tk, _, rfl, htk, by omega, by omega, fun x hx => (hgood x hx).1, fun D lets H' s3 hD hL ok k1 k2 => ?_⟩
    exact ⟨s3, D, lets, hL, ok, k1, k2, rfl⟩
  rintro σ' H3 ⟨s3, ltl, lets, hL, ok, k1, k2, rfl⟩
  have s13 := s12.trans s3
  have each := ok.each fun x hx => (hgood x hx).2
  obtain ⟨ys, hL1, prL⟩ := hL
  have hylen := Paired.length prL
  have hlne : lets ≠ [] := fun z => by rw [z] at k1; simp at k1
  refine wb_cons (ws_mid (fun σ' H' => ∃ chp F4, Same H3 F4 ∧ Same F4 H' ∧ Ch E F4 chp tk lets ∧ σ' = [some (.ref l), some (.int cell), none, some (.ref tkl), some (.ref ltl), some (.ref chp), none, none]) ?_ ?_)
  · walk_at "go"
    refine w_lcI c [("_law_name", 6), ("_law_told_here", 7)] (by decide +kernel) (wi_list c ?_)
    walk_at "go"
    refine ⟨⟨_, SqL.of hL1⟩, ?_⟩
    refine lcI (src_list (SqL.of hL1)) (by omega) (fun D i ys Hc => ∃ F', Same H3 F' ∧ Same F' Hc ∧ F' D = none ∧ Hc D = some (.lst ys) ∧ Paired (LetA E F') ys (lets.take i)) (fun D hD => ⟨H3, Same.refl _, Same.new hD, hD, upd_same, .nil⟩)
      (fun D i ys Hc ⟨F', a, b, _, h, p⟩ => ⟨a.trans b, h, by have := Paired.length p; rw [List.length_take] at this; omega⟩) (fun D i ys Hc x H' hD hi ⟨F', a1, a2, a3, a4, a5⟩ s4 hx Y cY => ?_) fun D ys H4 hD ⟨F', a1, a2, a3, a4, a5⟩ => ?_
    · obtain ⟨⟨nmx, w⟩, hw, tt, u, rfl, h1, h2⟩ := pair_at prL hx
      have s34 := (a1.trans a2).trans s4
      refine wg_two cY (by decide +kernel) (by decide +kernel) (s34.tup h1) ⟨wipe_two (by decide), fun Y3 c3 => ?_⟩
      obtain ⟨e1, e2, e3, e4, e5⟩ := each _ (List.mem_of_getElem? hw)
      have dw := ok_word_of t w
      walk_at "go"
      refine ⟨F', u, rfl, a2.trans s4, h2.mono a1, e2, e3, e4, e5, fun v F5 H5 m5 hv => ?_⟩
      walk_at "go"
      intro T zT
      have hD5 : H5 D = some (.lst ys) := m5.s _ _ (s4 _ _ a4)
      have nTD : D ≠ T := fun z => by rw [z, zT] at hD5; cases hD5
      have hF5 : F5 D = none := by
        cases q5 : F5 D with
        | none => rfl
        | some u5 =>
          rcases m5.new D u5 q5 with h9 | h9
          · rw [a3] at h9; cases h9
          · rw [s4 _ _ a4] at h9; cases h9
      have mT := Mkd.frz (u := .tup [.str nmx, v]) m5.up zT
      refine ⟨Same.new zT _ _ hD5, upd F5 T (.tup [.str nmx, v]), a1.trans (m5.ff.trans mT.ff), Same.mut mT.up (by rw [upd_ne nTD]; exact hF5), by rw [upd_ne nTD]; exact hF5, upd_same, ?_⟩
      rw [List.take_succ, hw]
      exact Paired.snoc (Paired.mapP a5 fun _ _ z => z.mono (m5.ff.trans mT.ff)) ⟨T, v, rfl, SqT.of upd_same, hv.mono mT.ff⟩
    · rw [hylen, List.take_length] at a5
      walk_at "go"
      refine ⟨F', "levy", tkl, D, tk, lets, ys, rfl, a2, by decide +kernel, (a1.trans a2) _ _ (s3 _ _ htk), a4, a5, by omega, by omega, fun x hx => (hgood x hx).2, hnd, by omega, by omega, ok.okNew, fun p F6 H6 m6 hp hch => ?_⟩
      exact ⟨p, F6, a1.trans m6.ff, m6.up, hch, rfl⟩
  rintro σ' H4 ⟨chp, F4, b1, b2, hch, rfl⟩
  walk_at "go"
  refine ⟨chp, tkl, tk, cell, lets, rfl, hch.mono b2, (b1.trans b2) _ _ (s3 _ _ htk), by omega, by omega, hnd, hlne, by omega, fun cd car H7 s7 hcn hca ndc hlt hct => ?_⟩
  walk_at "go"
  intro T zT
  have mT := Mkd.frz (u := .tup [.ref chp, .ref tkl, .ref ltl, .ref cd]) (b2.trans s7) zT
  have nTc : cd ≠ T := fun z => by rw [z] at hca; rw [show H7 T = _ from hca] at zT; cases zT
  obtain ⟨nd1, _⟩ := okNew_nd ok.okNew
  refine q (upd F4 T (.tup [.ref chp, .ref tkl, .ref ltl, .ref cd])) _ T chp tkl ltl cd tk lets car ((s13.trans b1).trans mT.ff) mT.up upd_same (hch.mono mT.ff) ((s3.trans (b1.trans mT.ff)) _ _ htk) (LtL.mono (b1.trans mT.ff) ⟨ys, hL1, prL⟩) (by show upd H7 T _ cd = _; rw [upd_ne nTc]; exact hca) (by rw [upd_ne nTc]; exact none_of b2 hcn)
    ⟨⟨by omega, by omega, hlt⟩, hlne, ok.okLets fun x hx => hx, nd1, hnd, ndc, hct⟩ (by omega) (by omega)
end
section
-- 93 _law_long_right: ["_law_cell", "_law_charter", "_law_ledger", "_law_amount", "_law_log", "_law_k", "_law_deed_here", "_law_at"]
abbrev N93 : List Str := ["_law_cell", "_law_charter", "_law_ledger", "_law_amount", "_law_log", "_law_k", "_law_deed_here", "_law_at"]
theorem sc93 : FnScope N93 ["_law_cell"] (defScope (top 93)) := ⟨rfl, rfl, rfl, by decide +kernel, rfl, by decide +kernel, by decide +kernel⟩
theorem nm93 : visB N93 (defScope (top 93)) 1 "_law_charter" = true ∧ visB N93 (defScope (top 93)) 0 "_law_cell" = true ∧ visB N93 (defScope (top 93)) 3 "_law_amount" = true ∧ visB N93 (defScope (top 93)) 4 "_law_log" = true ∧ visB N93 (defScope (top 93)) 2 "_law_ledger" = true ∧ visB N93 (defScope (top 93)) 6 "_law_deed_here" = true ∧ visB N93 (defScope (top 93)) 7 "_law_at" = true ∧ visB N93 (defScope (top 93)) 5 "_law_k" = true ∧ locB true N93 (defScope (top 93)) 1 "_law_charter" = true ∧ locB true N93 (defScope (top 93)) 2 "_law_ledger" = true ∧ locB true N93 (defScope (top 93)) 3 "_law_amount" = true ∧ locB true N93 (defScope (top 93)) 4 "_law_log" = true ∧ locB true N93 (defScope (top 93)) 6 "_law_deed_here" = true ∧ locB true N93 (defScope (top 93)) 7 "_law_at" = true ∧ locB true N93 (defScope (top 93)) 5 "_law_k" = true ∧ gloB (defScope (top 93)) "Charter" = true ∧ gloB (defScope (top 93)) "word_of" = true ∧ gloB (defScope (top 93)) "Ledger" = true ∧ gloB (defScope (top 93)) "range" = true ∧ gloB (defScope (top 93)) "_law_not_now" = true :=
  ⟨by decide +kernel, by decide +kernel, by decide +kernel, by decide +kernel, by decide +kernel, by decide +kernel, by decide +kernel, by decide +kernel, by decide +kernel, by decide +kernel, by decide +kernel, by decide +kernel, by decide +kernel, by decide +kernel, by decide +kernel, by decide +kernel, by decide +kernel, by decide +kernel, by decide +kernel, by decide +kernel⟩
-- obtain ⟨n1, n0, n3, n4, n2, n6, n7, n5, l1, l2, l3, l4, l6, l7, l5, g_Charter, g_word_of, g_Ledger, g_range, g__law_not_now⟩ := nm93
theorem ok_long_right {E : Ev} (t : Tx E) (tx : TxE E) : Dg E 25 "_law_long_right" (spLongRight E) := by
  refine dg_of (t.gd _ _ _ (by decide +kernel)) sc93 (fun vs H Q ⟨_, e, _⟩ => by rw [e]; rfl) fun X vs H Q c ⟨cell, e, q⟩ => ?_
  subst e
  have B := t.B
  obtain ⟨n1, n0, n3, n4, n2, n6, n7, n5, l1, l2, l3, l4, l6, l7, l5, g_Charter, g_word_of, g_Ledger, g_range, g__law_not_now⟩ := nm93
  have dWord := ok_word_of t (.nm "ta")
  have dCh := ok_charter t
  have dLed := l_ledger t
  have dLog := l_log t
  have dCut := l_cut t
  have dDoes := l_does t
  have dYears := l_years t
  have dUndo := l_undo t
  have dTk := l_taken_in t
  have dDu := l_dues_of t
  have dNot := ok_not_now t tx
  -- the ledger
  refine wb_cons (ws_mid (fun σ' Hc => ∃ chp F, Same H Hc ∧ Same F Hc ∧ Ch E F chp taN laL ∧ σ' = [some (.int cell), some (.ref chp), none, none, none, none, none, none]) ?_ ?_)
  · walk_at "go"
    intro A1 zA1
    walk_at "go"
    intro T1 zT1
    walk_at "go"
    have sA : Same H (upd (upd H A1 (.lst [.str "ta"])) T1 (.tup [.str "name", .str "ta"])) := Same.trans (Same.new zA1) (Same.new zT1)
    have hA : upd (upd H A1 (.lst [.str "ta"])) T1 (.tup [.str "name", .str "ta"]) A1 = some (.lst (taN.map V.str)) := (Same.new zT1) _ _ upd_same
    have hT : SqT E.K (upd (upd H A1 (.lst [.str "ta"])) T1 (.tup [.str "name", .str "ta"])) T1 [.str "name", .str "ta"] := SqT.of upd_same
    generalize upd (upd H A1 (.lst [.str "ta"])) T1 (.tup [.str "name", .str "ta"]) = H1 at sA hA hT
    refine ⟨H1, .ref T1, rfl, Same.refl _, ⟨T1, rfl, hT⟩, trivial, (by show nameB "ta" = true; decide +kernel), (by decide), (by decide), fun v F2 H2 m2 hv => ?_⟩
    walk_at "go"
    intro T2 zT2
    walk_at "go"
    intro A2 zA2
    walk_at "go"
    have s3 : Same H2 (upd (upd H2 T2 (.tup [.str "la", v])) A2 (.lst [.ref T2])) := Same.trans (Same.new zT2) (Same.new zA2)
    have hT2 : SqT E.K (upd H2 T2 (.tup [.str "la", v])) T2 [.str "la", v] := SqT.of upd_same
    have hA2 : upd (upd H2 T2 (.tup [.str "la", v])) A2 (.lst [.ref T2]) A2 = some (.lst [.ref T2]) := upd_same
    have sT : Same (upd H2 T2 (.tup [.str "la", v])) (upd (upd H2 T2 (.tup [.str "la", v])) A2 (.lst [.ref T2])) := Same.new zA2
    generalize upd (upd H2 T2 (.tup [.str "la", v])) A2 (.lst [.ref T2]) = H3 at s3 hA2 sT
    have s03 : Same H H3 := sA.trans (m2.s.trans s3)
    refine ⟨H3, "levy", A1, A2, taN, laL, [.ref T2], rfl, Same.refl _, by decide +kernel, (m2.s.trans s3) _ _ hA, hA2, .cons ⟨T2, v, rfl, sT.tup hT2, hv.mono (m2.up.trans s3)⟩ .nil, by decide, by decide, by decide +kernel, by decide +kernel, by decide, by decide, ?_, fun p F4 H4 m4 hp hch => ?_⟩
    · exact ⟨by decide +kernel, by decide +kernel, List.mem_singleton.mpr rfl, by decide, by decide, trivial⟩
    · exact ⟨p, F4, s03.trans m4.s, m4.up, hch, rfl⟩
  rintro σ' H1 ⟨chp, F1, s01, sF1, hch, rfl⟩
  refine wb_cons (ws_mid (fun σ' Hc => ∃ F q os, Same H Hc ∧ Led E F Hc q (lgS 0) os ∧ (∀ a ∈ os, H a = none) ∧ σ' = [some (.int cell), some (.ref chp), some (.ref q), none, none, none, none, none]) ?_ ?_)
  · walk_at "go"
    refine w_dict0 fun cd hcd => ?_
    walk_at "go"
    have sd := Same.new (o := .dK []) hcd
    refine ⟨F1, chp, cd, taN, laL, [], rfl, hch, sF1.trans sd, none_of sF1 hcd, upd_same, lg_ch lg_0, fun F2 p os H2 s12 _ _ hos hL => ?_⟩
    exact ⟨F2, p, os, s01.trans (sd.trans s12), hL, fun a ha => none_of (s01.trans sd) (hos a ha), rfl⟩
  clear hch sF1 s01
  rintro σ' H2 ⟨F2, p, os2, s02, L2', ho2, rfl⟩
  obtain ⟨m, hm⟩ := Int.eq_ofNat_of_zero_le (show 0 ≤ 250 + cell % 500 by omega)
  have hm1 : 250 ≤ m ∧ m ≤ 749 := by omega
  refine wb_cons (ws_mid (fun σ' Hc => Hc = H2 ∧ σ' = [some (.int cell), some (.ref chp), some (.ref p), some (.int (m : Nat)), none, none, none, none]) ?_ ?_)
  · walk_at "go"
    rw [hm]
    exact ⟨rfl, rfl⟩
  rintro σ' H3 ⟨hq, rfl⟩
  subst hq
  -- the log
  refine wb_cons (ws_mid (fun σ' Hc => ∃ lg zs, Same H3 Hc ∧ H3 lg = none ∧ Hc lg = some (.lst zs) ∧ Paired (DeedA E (gr F2 H3 Hc) Hc) zs ((List.range (m + 1)).map lgDeed) ∧ σ' = [some (.int cell), some (.ref chp), some (.ref p), some (.int (m : Nat)), some (.ref lg), none, none, none]) ?_ ?_)
  · walk_at "go"
    refine w_disp1 fun D1 hD1 => ?_
    walk_at "go"
    intro t1 ht1
    walk_at "go"
    have nD1 : D1 ≠ t1 := fun e => by rw [← e, upd_same] at ht1; cases ht1
    refine ⟨by rw [upd_ne nD1]; exact upd_same, "ta", rfl, ?_⟩
    have z1 : DA E (upd (upd (upd H3 D1 (.dK [])) t1 (.tup [.int 0, .int 1])) D1 (.dK [(.inr "ta", .ref t1)])) D1 (taD 0) := ⟨_, upd_same, .cons ⟨rfl, t1, rfl, SqT.of (by rw [upd_ne (Ne.symm nD1)]; exact upd_same)⟩ .nil⟩
    have s1 : Same H3 (upd (upd (upd H3 D1 (.dK [])) t1 (.tup [.int 0, .int 1])) D1 (.dK [(.inr "ta", .ref t1)])) := Same.mut (Same.trans (Same.new hD1) (Same.new ht1)) hD1
    generalize upd (upd (upd H3 D1 (.dK [])) t1 (.tup [.int 0, .int 1])) D1 (.dK [(.inr "ta", .ref t1)]) = H4 at z1 s1
    walk_at "go"
    intro T0 zT0
    walk_at "go"
    intro A0 zA0
    have s4 : Same H4 (upd (upd H4 T0 (.tup [.str "add", .ref D1])) A0 (.lst [.ref T0])) := Same.trans (Same.new zT0) (Same.new zA0)
    have hT0 : SqT E.K (upd (upd H4 T0 (.tup [.str "add", .ref D1])) A0 (.lst [.ref T0])) T0 [.str "add", .ref D1] := tup_up (SqT.of upd_same) (Same.new zA0)
    have hA0 : upd (upd H4 T0 (.tup [.str "add", .ref D1])) A0 (.lst [.ref T0]) A0 = some (.lst [.ref T0]) := upd_same
    generalize upd (upd H4 T0 (.tup [.str "add", .ref D1])) A0 (.lst [.ref T0]) = H5 at s4 hT0 hA0
    have s5 := s1.trans s4
    have z5 := z1.mono s4
    refine w_lcS c [("_law_k", 5)] (by decide +kernel) (wi_range c g_range (B _ (by decide +kernel)) ?_)
    walk_at "go"
    refine ⟨by omega, by omega, ?_⟩
    refine lcS0 src_range (by omega) (fun i y Hc => ∃ t a, y = .ref t ∧ SqT E.K Hc t [.str "mend", .int 0, .ref a] ∧ DA E Hc a (taD (2 * ((i + 1 : Nat) : Int))) ∧ H3 a = none) (fun i y H H' nl ⟨t, a, e1, e2, ⟨kvs, e3, e4⟩, e5⟩ => ⟨t, a, e1, nl.ts.sqt e2, ⟨kvs, nl _ _ e3 (fun xs z => by cases z), e4.ts nl.ts⟩, e5⟩) (fun i x H6 hi s6 hx Y cY => ?_) fun Dl zs H6 hDl s6 hz6 pr => ?_
    · have hx : x = .int i := hx
      subst hx
      refine wg_name cY (by decide +kernel) ⟨wipe_one, Same.refl _, fun Y3 c3 => ?_⟩
      walk_at "go"
      refine w_disp1 fun D2 hD2 => ?_
      walk_at "go"
      intro t2 ht2
      walk_at "go"
      have nD2 : D2 ≠ t2 := fun e => by rw [← e, upd_same] at ht2; cases ht2
      refine ⟨by rw [upd_ne nD2]; exact upd_same, "ta", rfl, ?_⟩
      have z2 : DA E (upd (upd (upd H6 D2 (.dK [])) t2 (.tup [.int ((i : Nat) + 1), .int 1])) D2 (.dK [(.inr "ta", .ref t2)])) D2 (taD (2 * ((i + 1 : Nat) : Int))) := ⟨_, upd_same, .cons ⟨rfl, t2, rfl, pta_two (SqT.of (by rw [upd_ne (Ne.symm nD2)]; exact upd_same))⟩ .nil⟩
      have s7 : Same H6 (upd (upd (upd H6 D2 (.dK [])) t2 (.tup [.int ((i : Nat) + 1), .int 1])) D2 (.dK [(.inr "ta", .ref t2)])) := Same.mut (Same.trans (Same.new hD2) (Same.new ht2)) hD2
      generalize upd (upd (upd H6 D2 (.dK [])) t2 (.tup [.int ((i : Nat) + 1), .int 1])) D2 (.dK [(.inr "ta", .ref t2)]) = H7 at z2 s7
      walk_at "go"
      intro T7 hT7
      exact ⟨s7.trans (Same.new hT7), T7, D2, rfl, SqT.of upd_same, z2.mono (Same.new hT7), none_of (s5.trans s6) hD2⟩
    · rw [Int.toNat_natCast] at pr
      have s56 := s5.trans s6
      refine o_catL (s6 _ _ hA0) hz6 (by have := Paired.length pr; rw [List.length_range] at this; exact Nat.le_trans (show 1 + zs.length ≤ 1000 by omega) (by decide)) fun lg hlg => ?_
      have s7 := Same.new (o := .lst ([V.ref T0] ++ zs)) hlg
      have s37 := s56.trans s7
      refine ⟨lg, .ref T0 :: zs, s37, none_of s56 hlg, upd_same, ?_, rfl⟩
      generalize upd H6 lg (.lst ([V.ref T0] ++ zs)) = H7 at s7 s37
      rw [List.range_succ_eq_map, List.map_cons, List.map_map]
      refine .cons ⟨T0, D1, rfl, (s6.trans s7).tup hT0, ?_⟩ ?_
      · obtain ⟨kvs, e1, e2⟩ := z5.mono (s6.trans s7)
        exact ⟨kvs, by rw [gr_new hD1]; exact e1, e2⟩
      · refine pair_of (by rw [← Paired.length pr, List.length_map]) fun i y d h1 h2 => ?_
        obtain ⟨j, h3, t, a, e1, e2, e3, e4⟩ := pair_at' pr h1
        rw [List.getElem?_map, h3] at h2
        cases h2
        obtain ⟨kvs, e5, e6⟩ := e3.mono s7
        exact ⟨t, a, e1, s7.tup e2, kvs, by rw [gr_new e4]; exact e5, e6⟩
  rintro σ' H4 ⟨lg, zs, s34, nlg, hlg, pz, rfl⟩
  have L4 := L2'.growF s34
  have hlgF : gr F2 H3 H4 lg = some (.lst zs) := by rw [gr_new nlg]; exact hlg
  have s04 := s02.trans s34
  generalize gr F2 H3 H4 = F4 at L4 hlgF pz
  have lz : zs.length = m + 1 := by rw [Paired.length pz, List.length_map, List.length_range]
  -- the deeds
  refine wb_cons (ws_mid (fun σ' Hc => ∃ F os o6, Led E F Hc p (lgS (m + 1)) os ∧ Same F4 F ∧ Same H Hc ∧ (∀ a ∈ os, H a = none) ∧ TS H4 Hc ∧ σ' = [some (.int cell), some (.ref chp), some (.ref p), some (.int (m : Nat)), some (.ref lg), none, o6, none]) ?_ ?_)
  · refine ws_forS c (wi_list c ?_)
    walk_at "go"
    refine ⟨⟨_, SqL.of hlg⟩, ?_⟩
    refine forS (src_list (H1 := F4) (SqL.of hlgF)) (fun i σ' Hc => ∃ F os o6, Led E F Hc p (lgS i) os ∧ Same F4 F ∧ Same H Hc ∧ (∀ a ∈ os, H a = none) ∧ TS H4 Hc ∧ σ' = [some (.int cell), some (.ref chp), some (.ref p), some (.int (m : Nat)), some (.ref lg), none, o6, none])
      ⟨F4, os2, none, L4, Same.refl _, s04, ho2, TS.refl _, rfl⟩ (fun i σ Hc ⟨F, os, o6, h1, h2, _⟩ => h2.trans h1.fs) ?_ ?_
    · rintro σ Hc ⟨F, os, o6, h1, h2, h3, h4, h5, rfl⟩
      rw [lz] at h1
      exact ⟨F, os, o6, h1, h2, h3, h4, h5, rfl⟩
    · rintro i σ Hc x Hx hi ⟨F, os, o6, h1, h2, h3, h4, h5, rfl⟩ s6 hx
      obtain ⟨d, hd, dA⟩ := pair_at pz hx
      obtain rfl : lgDeed i = d := by
        rw [List.getElem?_map, List.getElem?_range (by omega)] at hd
        exact Option.some.inj hd
      have L6 := h1.grow s6
      obtain ⟨dx1, fs1, hpA1, hnoA1⟩ := L6.fld
      refine wg_name c l6 ?_
      walk_at "go"
      refine w_mO c ?_
      walk_at "go"
      refine ⟨p, _, dx1, fs1, _, _, rfl, hpA1, hnoA1 _ (by decide +kernel), dDoes, by omega, ?_⟩
      walk_at "go"
      refine ⟨F, p, lgS i, os, x, lgDeed i, rfl, L6, lgS_ok i (by omega), dA.mono (h2.trans L6.fs) (h5.trans s6.ts), lg_okd (lgS_lg i), fun F7 os7 H7 st7 L7 => ?_⟩
      obtain ⟨hb7, ho7⟩ := st7.hb (h3.trans s6) h4
      walk_at "go"
      exact ⟨F7, os7, _, by rw [lgS_succ]; exact L7, h2.trans st7.ff, hb7, ho7, h5.trans (s6.ts.trans st7.ts), rfl⟩
  clear L4 s34 nlg hlg L2' ho2 s02
  rintro σ' H5 ⟨F5, os5, o6, L5, s45, s05, ho5, ts5, rfl⟩
  -- at
  obtain ⟨at_, hat⟩ := Int.eq_ofNat_of_zero_le (show 0 ≤ 1 + cell / 500 % (m : Nat) by have := Int.emod_nonneg (cell / 500) (show ((m : Nat) : Int) ≠ 0 by omega); omega)
  have hat1 : 1 ≤ at_ ∧ at_ ≤ m := by
    have h1 := Int.emod_nonneg (cell / 500) (show ((m : Nat) : Int) ≠ 0 by omega)
    have h2 := Int.emod_lt_of_pos (cell / 500) (show 0 < ((m : Nat) : Int) by omega)
    omega
  refine wb_cons (ws_mid (fun σ' Hc => Hc = H5 ∧ σ' = [some (.int cell), some (.ref chp), some (.ref p), some (.int (m : Nat)), some (.ref lg), none, o6, some (.int (at_ : Nat))]) ?_ ?_)
  · walk_at "go"
    rw [hat]
    exact ⟨rfl, rfl⟩
  rintro σ' H6 ⟨hq, rfl⟩
  subst hq
  -- the looks
  have okm := lgS_ok (m + 1) (by omega)
  obtain ⟨hrun, hcut⟩ := lgS_hs (m + 1) (by omega)
  have ndl : ∀ d ∈ (lgS (m + 1)).notes, ndD d := okRun_nd hrun
  have nl : (lgS (m + 1)).notes.length = m + 1 := by rw [lgS_notes, List.length_map, List.length_range]
  have pz6 : Paired (DeedA E H6 H6) zs (lgS (m + 1)).notes := by rw [lgS_notes]; exact Paired.mapP pz fun _ _ z => z.mono (s45.trans L5.fs) ts5
  have hl6 : H6 lg = some (.lst zs) := (s45.trans L5.fs) _ _ hlgF
  refine wb_cons (ws_mid (fun σ' Hc => Same H6 Hc ∧ σ' = [some (.int cell), some (.ref chp), some (.ref p), some (.int (m : Nat)), some (.ref lg), none, o6, some (.int (at_ : Nat))]) ?_ ?_)
  · walk_at "go"
    obtain ⟨dx1, fs1, hpA1, hnoA1⟩ := L5.fld
    refine w_mO0 c ?_
    walk_at "go"
    refine ⟨p, _, dx1, fs1, _, _, rfl, hpA1, hnoA1 _ (by decide +kernel), dLog, by omega, F5, p, lgS (m + 1), os5, rfl, L5, okm, fun D7 ys7 as7 H7 s7 hD7 hl7 dl7 => ?_⟩
    walk_at "go"
    refine o_ne_lx c (SqL.of hl7) (SqL.of (s7 _ _ hl6)) (deeds_eqx ndl dl7.pa (Paired.mapP pz6 fun _ _ z => z.mono s7 s7.ts)) (by omega) ⟨_, rfl, ?_⟩
    refine iteF ?_
    have L7 := L5.grow s7
    obtain ⟨dx2, fs2, hpA2, hnoA2⟩ := L7.fld
    walk_at "go"
    refine w_mO c ?_
    walk_at "go"
    refine w_mO c ?_
    walk_at "go"
    refine ⟨p, _, dx2, fs2, _, _, rfl, hpA2, hnoA2 _ (by decide +kernel), dCut, by omega, ?_⟩
    walk_at "go"
    refine ⟨F5, p, lgS (m + 1), os5, at_, rfl, L7, okm, by omega, okRun_take at_ hrun, by rw [hcut]; exact lgS_ok _ (by omega), fun F8 p8 os8 H8 s8 hos8 L8 hF8 => ?_⟩
    rw [hcut, Nat.min_eq_left (by omega)] at L8
    obtain ⟨j, rfl⟩ : ∃ j, at_ = j + 1 := ⟨at_ - 1, by omega⟩
    obtain ⟨dx3, fs3, hpA3, hnoA3⟩ := L8.fld
    refine ⟨p8, _, dx3, fs3, _, _, rfl, hpA3, hnoA3 _ (by decide +kernel), dTk, by omega, ?_⟩
    walk_at "go"
    have hy8 := lg_years (lgS_lg (j + 1))
    refine ⟨F8, p8, lgS (j + 1), os8, 0, _, rfl, L8, lgS_ok _ (by omega), by rw [hy8]; rfl, fun F9 H9 D9 st9 L9 hD9 hF9 d9 => ?_⟩
    obtain ⟨s79, ho9⟩ := st9.hb s8 hos8
    walk_at "go"
    refine w_disp1 fun D1 hD1 => ?_
    walk_at "go"
    intro t1 ht1
    walk_at "go"
    have nD1 : D1 ≠ t1 := fun e => by rw [← e, upd_same] at ht1; cases ht1
    refine ⟨by rw [upd_ne nD1]; exact upd_same, "ta", rfl, ?_⟩
    have e1 : ((j + 1 : Nat) : Int) - 1 = (j : Int) := by omega
    rw [e1]
    have z1 : DA E (upd (upd (upd H9 D1 (.dK [])) t1 (.tup [.int (j : Nat), .int 1])) D1 (.dK [(.inr "ta", .ref t1)])) D1 (taD (2 * (j : Int))) := ⟨_, upd_same, .cons ⟨rfl, t1, rfl, pta_two (SqT.of (by rw [upd_ne (Ne.symm nD1)]; exact upd_same))⟩ .nil⟩
    have s10 : Same H9 (upd (upd (upd H9 D1 (.dK [])) t1 (.tup [.int (j : Nat), .int 1])) D1 (.dK [(.inr "ta", .ref t1)])) := Same.mut (Same.trans (Same.new hD1) (Same.new ht1)) hD1
    generalize upd (upd (upd H9 D1 (.dK [])) t1 (.tup [.int (j : Nat), .int 1])) D1 (.dK [(.inr "ta", .ref t1)]) = H10 at z1 s10
    refine o_ne_da c (d9.mono s10) z1 (by show (taN).Nodup; decide +kernel) ⟨_, rfl, ?_⟩
    refine iteF ?_
    have s710 := s79.trans s10
    have L10 := L7.grow s710
    obtain ⟨dx4, fs4, hpA4, hnoA4⟩ := L10.fld
    walk_at "go"
    refine w_mO0 c ?_
    refine w_mO c ?_
    walk_at "go"
    refine ⟨p, _, dx4, fs4, _, _, rfl, hpA4, hnoA4 _ (by decide +kernel), dCut, by omega, ?_⟩
    walk_at "go"
    refine ⟨F5, p, lgS (m + 1), os5, j + 1, rfl, L10, okm, by omega, okRun_take (j + 1) hrun, by rw [hcut]; exact lgS_ok _ (by omega), fun F11 p11 os11 H11 s11 hos11 L11 hF11 => ?_⟩
    rw [hcut, Nat.min_eq_left (by omega)] at L11
    obtain ⟨dx5, fs5, hpA5, hnoA5⟩ := L11.fld
    refine ⟨p11, _, dx5, fs5, _, _, rfl, hpA5, hnoA5 _ (by decide +kernel), dLog, by omega, F11, p11, lgS (j + 1), os11, rfl, L11, lgS_ok _ (by omega), fun D12 ys12 as12 H12 s12 hD12 hl12 dl12 => ?_⟩
    walk_at "go"
    have s612 := s7.trans (s710.trans (s11.trans s12))
    refine l_lst c (SqL.of (s612 _ _ hl6)) fun D13 hD13 => ?_
    rw [cutV_to]
    have s13 := Same.new (o := .lst (zs.take (j + 1))) hD13
    have en : (lgS (j + 1)).notes = (lgS (m + 1)).notes.take (j + 1) := by rw [lgS_notes, lgS_notes, ← List.map_take, List.take_range, Nat.min_eq_left (by omega)]
    have pz13 : Paired (DeedA E (upd H12 D13 (.lst (zs.take (j + 1)))) (upd H12 D13 (.lst (zs.take (j + 1))))) (zs.take (j + 1)) (lgS (j + 1)).notes := by
      rw [en]
      exact Paired.takeP _ (Paired.mapP pz6 fun _ _ z => z.mono (s612.trans s13) (s612.trans s13).ts)
    refine o_ne_lx c (SqL.of (s13 _ _ hl12)) (SqL.of upd_same) (deeds_eqx (fun d hd => ndl d (by rw [en] at hd; exact List.mem_of_mem_take hd)) (Paired.mapP dl12.pa fun _ _ z => z.mono s13 s13.ts) pz13) (by omega) ⟨_, rfl, ?_⟩
    refine iteF (wb_nil ?_)
    exact ⟨s612.trans s13, rfl⟩
  clear hrun hcut ndl pz6 hl6 pz hlgF s45 lz s04 ts5 hat hat1
  rintro σ' H7 ⟨s67, rfl⟩
  have L7 := L5.grow s67
  have s07 := s05.trans s67
  clear L5 s67 s05
  -- all is undone
  refine wb_cons (ws_mid (fun σ' Hc => ∃ F os o5 S, Led E F Hc p S os ∧ Lg 1 S ∧ Hx S ∧ S.notes.length ≤ 2 * m + 1 ∧ Same H Hc ∧ (∀ a ∈ os, H a = none) ∧ σ' = [some (.int cell), some (.ref chp), some (.ref p), some (.int (m : Nat)), some (.ref lg), o5, o6, some (.int (at_ : Nat))]) (ws_forS c (wi_range c g_range (B _ (by decide +kernel)) ?_)) ?_)
  · walk_at "go"
    refine ⟨by omega, by omega, ?_⟩
    rw [Int.toNat_natCast]
    refine forS (F := fun _ => none) src_range (fun i σ' Hc => ∃ F os o5 S, Led E F Hc p S os ∧ Lg (m + 1 - i) S ∧ Hx S ∧ S.notes.length = m + 1 + i ∧ Same H Hc ∧ (∀ a ∈ os, H a = none) ∧ σ' = [some (.int cell), some (.ref chp), some (.ref p), some (.int (m : Nat)), some (.ref lg), o5, o6, some (.int (at_ : Nat))])
      ⟨F5, os5, none, lgS (m + 1), L7, lgS_lg _, lgS_hx _ (by omega), nl, s07, ho5, rfl⟩ (fun i σ Hc _ a u h => by cases h) ?_ ?_
    · rintro σ Hc ⟨F, os, o5, S, h1, h2, h3, h4, h5, h6, rfl⟩
      rw [show m + 1 - m = 1 by omega] at h2
      exact ⟨F, os, o5, S, h1, h2, h3, by omega, h5, h6, rfl⟩
    · rintro i σ Hc x Hx' hi ⟨F, os, o5, S, h1, h2, h3, h4, h5, h6, rfl⟩ s6 hx
      have hx : x = .int i := hx
      subst hx
      obtain ⟨j, hj⟩ : ∃ j, m + 1 - i = j + 1 + 1 := ⟨m + 1 - i - 2, by omega⟩
      rw [hj] at h2
      have hne : S.past ≠ [] := by rw [h2.past, List.range_succ]; simp
      have h2' := lg_undo h2
      have h3' := hx_undo h3 hne (by omega)
      have L8 := h1.grow s6
      obtain ⟨dx1, fs1, hpA1, hnoA1⟩ := L8.fld
      refine wg_name c l5 ?_
      walk_at "go"
      refine w_mO0 c ?_
      walk_at "go"
      refine ⟨p, _, dx1, fs1, _, _, rfl, hpA1, hnoA1 _ (by decide +kernel), dUndo, by omega, F, p, S, os, rfl, L8, h3.ok, hne, fun F9 os9 H9 st9 L9 => ?_⟩
      obtain ⟨s09, ho9⟩ := st9.hb (h5.trans s6) h6
      walk_at "go"
      obtain ⟨dx2, fs2, hpA2, hnoA2⟩ := L9.fld
      refine w_mO c ?_
      walk_at "go"
      refine ⟨p, _, dx2, fs2, _, _, rfl, hpA2, hnoA2 _ (by decide +kernel), dDu, by omega, ?_⟩
      walk_at "go"
      refine ⟨F9, p, S.undo, os9, 0, _, rfl, L9, h3'.ok, by rw [lg_years h2']; rfl, fun F10 H10 D10 st10 L10 hD10 hF10 d10 => ?_⟩
      obtain ⟨s010, ho10⟩ := st10.hb s09 ho9
      walk_at "go"
      refine w_disp1 fun D1 hD1 => ?_
      walk_at "go"
      intro t1 ht1
      walk_at "go"
      have nD1 : D1 ≠ t1 := fun e => by rw [← e, upd_same] at ht1; cases ht1
      refine ⟨by rw [upd_ne nD1]; exact upd_same, "la", rfl, ?_⟩
      have e1 : ((m : Nat) : Int) - 1 - ((i : Nat) : Int) = (j : Int) := by omega
      rw [e1]
      have z1 : DA E (upd (upd (upd H10 D1 (.dK [])) t1 (.tup [.int (j : Nat), .int 1])) D1 (.dK [(.inr "la", .ref t1)])) D1 (laD (2 * (j : Int))) := ⟨_, upd_same, .cons ⟨rfl, t1, rfl, pta_two (SqT.of (by rw [upd_ne (Ne.symm nD1)]; exact upd_same))⟩ .nil⟩
      have s11 : Same H10 (upd (upd (upd H10 D1 (.dK [])) t1 (.tup [.int (j : Nat), .int 1])) D1 (.dK [(.inr "la", .ref t1)])) := Same.mut (Same.trans (Same.new hD1) (Same.new ht1)) hD1
      generalize upd (upd (upd H10 D1 (.dK [])) t1 (.tup [.int (j : Nat), .int 1])) D1 (.dK [(.inr "la", .ref t1)]) = H11 at z1 s11
      refine o_ne_da c (d10.mono s11) z1 (by show (["la"] : List Str).Nodup; decide +kernel) ⟨_, rfl, ?_⟩
      refine iteF (wb_nil ?_)
      refine ⟨F10, os9, _, S.undo, L10.grow s11, ?_, h3', ?_, s010.trans s11, ho10, rfl⟩
      · rw [show m + 1 - (i + 1) = j + 1 by omega]
        exact h2'
      · show (S.notes ++ [Deed.undo]).length = _
        rw [List.length_append, h4]
        rfl
  clear L7 s07 nl okm ho5
  rintro σ' H8 ⟨F8, os8, o5, S, L8, hS, hx8, hn8, s08, ho8, rfl⟩
  obtain ⟨dx1, fs1, hpA1, hnoA1⟩ := L8.fld
  have hne : S.past ≠ [] := by rw [hS.past]; decide
  have hS' := lg_undo hS
  walk_at "go"
  refine w_mO0 c ?_
  walk_at "go"
  refine ⟨p, _, dx1, fs1, _, _, rfl, hpA1, hnoA1 _ (by decide +kernel), dUndo, by omega, F8, p, S, os8, rfl, L8, hx8.ok, hne, fun F9 os9 H9 st9 L9 => ?_⟩
  obtain ⟨s09, ho9⟩ := st9.hb s08 ho8
  obtain ⟨dx2, fs2, hpA2, hnoA2⟩ := L9.fld
  walk_at "go"
  refine w_mO0 c ?_
  walk_at "go"
  refine ⟨p, _, dx2, fs2, _, _, rfl, hpA2, hnoA2 _ (by decide +kernel), dYears, by omega, F9, p, S.undo, os9, rfl, L9, ?_⟩
  have er : S.undo.rows.length = 0 := by rw [hS'.rows]; rfl
  rw [er]
  have ep : S.undo.past = [] := by rw [hS'.past]; rfl
  walk_at "go"
  refine ⟨F9, p, S.undo, os9, rfl, L9, ep, fun H10 s10 => ?_⟩
  exact q _ (s09.trans s10)
end
section
local macro_rules | `(tactic| walk_at "ex") => `(tactic| first | refine w_listItems ‹Cxt _ _ _ _ _ _› ‹Bl _› (by with_reducible assumption) ?_ | refine w_listVals ‹Cxt _ _ _ _ _ _› ‹Bl _› (by with_reducible assumption) ?_)
-- 90 _law_stands: ["_law_ledger", "_law_m", "_law_takes", "_law_lets", "_law_carried_here", "_law_due", "_law_total", "_law_name", "_law_told_here", "_law_year", "_law_pair"]
abbrev N90 : List Str := ["_law_ledger", "_law_m", "_law_takes", "_law_lets", "_law_carried_here", "_law_due", "_law_total", "_law_name", "_law_told_here", "_law_year", "_law_pair"]
theorem sc90 : FnScope N90 ["_law_ledger", "_law_m", "_law_takes", "_law_lets", "_law_carried_here"] (defScope (top 90)) := ⟨rfl, rfl, rfl, by decide +kernel, rfl, by decide +kernel, by decide +kernel⟩
theorem nm90 : visB N90 (defScope (top 90)) 2 "_law_takes" = true ∧ visB N90 (defScope (top 90)) 3 "_law_lets" = true ∧ visB N90 (defScope (top 90)) 4 "_law_carried_here" = true ∧ visB N90 (defScope (top 90)) 1 "_law_m" = true ∧ visB N90 (defScope (top 90)) 0 "_law_ledger" = true ∧ visB N90 (defScope (top 90)) 5 "_law_due" = true ∧ visB N90 (defScope (top 90)) 9 "_law_year" = true ∧ visB N90 (defScope (top 90)) 10 "_law_pair" = true ∧ visB N90 (defScope (top 90)) 6 "_law_total" = true ∧ visB N90 (defScope (top 90)) 7 "_law_name" = true ∧ locB true N90 (defScope (top 90)) 5 "_law_due" = true ∧ locB true N90 (defScope (top 90)) 6 "_law_total" = true ∧ locB true N90 (defScope (top 90)) 9 "_law_year" = true ∧ locB true N90 (defScope (top 90)) 10 "_law_pair" = true ∧ locB true N90 (defScope (top 90)) 7 "_law_name" = true ∧ gloB (defScope (top 90)) "_law_years" = true ∧ gloB (defScope (top 90)) "len" = true ∧ gloB (defScope (top 90)) "dict" = true ∧ gloB (defScope (top 90)) "enumerate" = true ∧ gloB (defScope (top 90)) "list" = true ∧ gloB (defScope (top 90)) "_law_sum" = true :=
  ⟨by decide +kernel, by decide +kernel, by decide +kernel, by decide +kernel, by decide +kernel, by decide +kernel, by decide +kernel, by decide +kernel, by decide +kernel, by decide +kernel, by decide +kernel, by decide +kernel, by decide +kernel, by decide +kernel, by decide +kernel, by decide +kernel, by decide +kernel, by decide +kernel, by decide +kernel, by decide +kernel, by decide +kernel⟩
-- obtain ⟨n2, n3, n4, n1, n0, n5, n9, n10, n6, n7, l5, l6, l9, l10, l7, g__law_years, g_len, g_dict, g_enumerate, g_list, g__law_sum⟩ := nm90
theorem ok_stands {E : Ev} (t : Tx E) : Dg E 19 "_law_stands" (spStands E) := by
  refine dg_of (t.gd _ _ _ (by decide +kernel)) sc90 (fun vs H Q ⟨_, _, _, _, _, _, _, _, _, _, _, _, _, e, _⟩ => by rw [e]; rfl) fun X vs H Q c ⟨F, p, S, os, am, r, pp, g, pls, ns, tkl, ltl, cd, e, J, ok, nds, htk, hlt, hca, q⟩ => ?_
  subst e
  have B := t.B
  obtain ⟨n2, n3, n4, n1, n0, n5, n9, n10, n6, n7, l5, l6, l9, l10, l7, g__law_years, g_len, g_dict, g_enumerate, g_list, g__law_sum⟩ := nm90
  have dLog := l_log t
  have dYears := l_years t
  have dLy := ok_lyears t
  have dTk := l_taken_in t
  have dDu := l_dues_of t
  have dOw := l_owed t
  have dSum := p_sum t
  obtain ⟨f1, f2, f3⟩ := ok.few
  have M := J.md
  obtain ⟨hr, hp, hg⟩ := mk_at M.ha
  obtain ⟨rs, hrs, prs⟩ := M.hr
  have ynd : ∀ y ∈ S.years, (y.1.map (·.1)).Nodup ∧ (y.2.map (·.1)).Nodup := years_nd ok.ch.ndt ok.ch.nd
  -- due
  refine wb_cons (ws_set c l5 ?_)
  walk_at "go"
  refine x_dic c (fun _ _ => rfl) hr ?_
  walk_at "go"
  refine ⟨tkl, ltl, cd, r, S.tk, S.lets, S.car, S.rows, rs, rfl, htk, hlt, hca, hrs, Paired.mapP prs fun _ _ z => z.da J.led.fs, ok.ch, ok.rows, f1, fun D1 ys1 H1 s1 hD1 hl1 py1 => ?_⟩
  have L1 := J.led.grow s1
  have M1 := M.grow s1
  have ly1 : ys1.length = S.rows.length := by rw [Paired.length py1]; exact S.years_len
  obtain ⟨dx1, fs1, hpA1, hnoA1⟩ := L1.fld
  -- the looks
  walk_at "go"
  refine w_mO0 c ?_
  walk_at "go"
  refine ⟨p, _, dx1, fs1, _, _, rfl, hpA1, hnoA1 _ (by decide +kernel), dYears, by omega, F, p, S, os, rfl, L1, ?_⟩
  walk_at "go"
  refine w_mO0 c ?_
  walk_at "go"
  refine ⟨p, _, dx1, fs1, _, _, rfl, hpA1, hnoA1 _ (by decide +kernel), dLog, by omega, F, p, S, os, rfl, L1, ok, fun D2 ys2 as2 H2 s2 hD2 hl2 dl2 => ?_⟩
  have M2 := M1.grow s2
  have L2' := L1.grow s2
  obtain ⟨_, _, hg2⟩ := mk_at M2.ha
  walk_at "go"
  refine x_dic c (fun _ _ => rfl) hg2 ?_
  refine o_ne_lx c (SqL.of hl2) (SqL.of M2.hg) (deeds_eqx nds dl2.pa (Paired.mapP M2.hns fun _ _ z => z.mono L2'.fs (TS.refl _))) (by omega) ⟨_, rfl, ?_⟩
  refine iteF (wb_nil ?_)
  -- total
  have s12 := s1.trans s2
  have hlt2 := hlt.mono s12
  have hl12 := s2 _ _ hl1
  have py2 : Paired (YN E H H2) ys1 S.years := Paired.mapP py1 fun _ _ z => z.mono s2.ts fun a kvs h => s2 _ _ h
  have nD1 : D1 ∉ os := J.led.fresh hD1
  clear hrs prs hr hp hg htk hlt hca hl2 dl2 hg2 M2 M1 M J hpA1 hnoA1 L1 py1 hl1
  obtain ⟨zs0, hz1, pl⟩ := hlt2
  have hzl : zs0.length = S.lets.length := Paired.length pl
  obtain ⟨⟨fw1, fw2, fw3⟩, _⟩ := ok.ch
  refine wb_cons (ws_mid (fun σ' H' => Same H2 H' ∧ ∃ D3, H2 D3 = none ∧ DA E H' D3 (S.lets.map fun q => (q.1, 0)) ∧ σ' = [some (.ref p), some (.ref am), some (.ref tkl), some (.ref ltl), some (.ref cd), some (.ref D1), some (.ref D3), none, none, none, none]) ?_ ?_)
  · refine ws_set c l6 (w_dict c B g_dict (wa_cons (w_lcS c [("_law_name", 7), ("_law_told_here", 8)] (by decide +kernel) (wi_list c ?_))))
    walk_at "go"
    refine ⟨⟨_, SqL.of hz1⟩, ?_⟩
    refine lcS0 (src_list (SqL.of hz1)) (by omega) (fun i y H4 => ∃ q, (S.lets.map fun q => (q.1, (0 : Int)))[i]? = some q ∧ PairA E H4 q y) (fun _ _ _ _ nl ⟨q, h1, h2⟩ => ⟨q, h1, h2.ts nl.ts⟩) (fun i x H4 hi s4 hx Y cY => ?_) fun D2' zs H4 hD2' s4 hz4 pr => ?_
    · obtain ⟨⟨nmx, w⟩, hw, tt, u, rfl, h1, h2⟩ := pair_at pl hx
      refine wg_two cY (by decide +kernel) (by decide +kernel) (s4.tup h1) ⟨wipe_two (by decide), Same.refl _, fun Y3 c3 => ?_⟩
      walk_at "go"
      intro z hz
      walk_at "go"
      intro T hT
      exact ⟨(Same.new hz).trans (Same.new hT), (nmx, 0), by rw [List.getElem?_map, hw]; rfl, T, z, rfl, SqT.of upd_same, tup_up (SqT.of upd_same) (Same.new hT)⟩
    · rw [hzl, show S.lets.length = (S.lets.map fun q => (q.1, (0 : Int))).length from (List.length_map _).symm] at pr
      have pq := of_range pr
      walk_at "go"
      exact c_dict_q c (SqL.of hz4) pq (by rw [List.map_map]; exact ok.ch.nd) fun p' kvs hp' hdp => ⟨s4.trans (Same.new hp'), p', none_of s4 hp', hdp, rfl⟩
  rintro σ' H3 ⟨s3, D3, hD3, hd3, rfl⟩
  have nD3 : D3 ∉ os := (L2'.fresh hD3)
  have dr3 : ∀ x ∈ S.lets.map (·.1), dget (S.lets.map fun q => (q.1, (0 : Int))) x = some (sumF S 0 x) := fun x hx => by
    obtain ⟨q, h1, rfl⟩ := List.mem_map.mp hx
    obtain ⟨j, hj, ej⟩ := List.mem_iff_getElem.mp h1
    exact dget_at (i := j) (by rw [List.map_map]; exact ok.ch.nd) (by rw [List.getElem?_map, List.getElem?_eq_getElem hj, ej]; rfl)
  have ym3 : Paired (YM E D3 H3) ys1 S.years := Paired.mapP py2 fun v y ⟨t1, a, b, k1, k2, k3, k4, ⟨u1, k5, k6⟩, ⟨u2, k7, k8⟩⟩ => ⟨t1, a, b, k1, s3.ts.sqt k2, (fun e => by rw [e, hD3] at k5; cases k5), (fun e => by rw [e, hD3] at k7; cases k7), ⟨u1, s3 _ _ k5, k6.ts s3.ts⟩, ⟨u2, s3 _ _ k7, k8.ts s3.ts⟩⟩
  have ly : ys1.length = S.years.length := Paired.length py2
  have L3 := L2'.grow s3
  refine wb_cons (ws_mid (fun σ' Hc => ∃ F' tot o7 o9 o10, Led E F' Hc p S os ∧ F' D3 = none ∧ DA E Hc D3 tot ∧ tot.map (·.1) = S.lets.map (·.1) ∧ (∀ x ∈ S.lets.map (·.1), dget tot x = some (sumF S S.years.length x)) ∧ σ' = [some (.ref p), some (.ref am), some (.ref tkl), some (.ref ltl), some (.ref cd), some (.ref D1), some (.ref D3), o7, none, o9, o10]) (ws_forS c (wi_enum c g_enumerate (B _ (by decide +kernel)) ?_)) ?_)
  · walk_at "go"
    refine ⟨D1, _, rfl, SqL.of (s3 _ _ hl12), ?_⟩
    refine forS (src_enum (H1 := upd (fun _ => none) D1 (.lst ys1)) (SqL.of upd_same)) (fun i σ' Hc => ∃ F' tot o7 o9 o10, Led E F' Hc p S os ∧ F' D3 = none ∧ Hc D1 = some (.lst ys1) ∧ Paired (YM E D3 Hc) ys1 S.years ∧ DA E Hc D3 tot ∧ tot.map (·.1) = S.lets.map (·.1) ∧ (∀ x ∈ S.lets.map (·.1), dget tot x = some (sumF S i x)) ∧ σ' = [some (.ref p), some (.ref am), some (.ref tkl), some (.ref ltl), some (.ref cd), some (.ref D1), some (.ref D3), o7, none, o9, o10])
      ⟨F, _, none, none, none, L3, none_of L2'.fs hD3, s3 _ _ hl12, ym3, hd3, by rw [List.map_map]; rfl, dr3, rfl⟩ (fun i σ Hc ⟨F', tot, o7, o9, o10, _, _, h, _⟩ => same_one h) ?_ ?_
    · rintro σ Hc ⟨F', tot, o7, o9, o10, h1, h2, h3, h4, h5, h6, h7, rfl⟩
      rw [ly] at h7
      exact ⟨F', tot, o7, o9, o10, h1, h2, h5, h6, h7, rfl⟩
    · rintro i σ Hc x Hx hi ⟨F', tot, o7, o9, o10, Lc, hFc, hc1, ymc, dtc, ntc, gtc, rfl⟩ s5 ⟨T, u, ex, hT, hu⟩
      subst ex
      have L5 := Lc.grow s5
      obtain ⟨y, hy, t5, a5, b5, ex, k1, k2, k3, k4, k5⟩ := pair_at ymc hu
      subst ex
      refine wg_two c (i := 9) (j := 10) (by decide +kernel) (by decide +kernel) (SqT.of hT) ?_
      walk_at "go"
      obtain ⟨dx1, fs1, hpA1, hnoA1⟩ := L5.fld
      refine w_mO c ?_
      walk_at "go"
      refine ⟨p, _, dx1, fs1, _, _, rfl, hpA1, hnoA1 _ (by decide +kernel), dTk, by omega, ?_⟩
      walk_at "go"
      refine ⟨F', p, S, os, i, y, rfl, L5, ok, hy, fun F6 H6 D6 st6 L6 hD6 hF6 dd6 => ?_⟩
      obtain ⟨ku6, e6, r6⟩ := dd6
      refine ⟨D6, ku6, rfl, e6, fun H7 p7 ts7 s7 hp7 hts7 hnp7 hpp7 pr7 => ?_⟩
      have s7 : Same H6 H7 := s7
      have L7 := L6.grow s7
      have noD5 : ∀ {a kvs}, Hx a = some (.dK kvs) → H7 a = some (.dK kvs) := fun {a kvs} h => s7 _ _ (st6.keep a _ (L5.noD h) h)
      have tsx : TS Hc H7 := s5.ts.trans (st6.ts.trans s7.ts)
      obtain ⟨ka5, ea5, ra5⟩ := k4
      obtain ⟨kb5, eb5, rb5⟩ := k5
      have ea7 := noD5 (s5 _ _ ea5)
      have eb7 := noD5 (s5 _ _ eb5)
      have ra7 := ra5.ts tsx
      have rb7 := rb5.ts tsx
      have k17 := tsx.sqt k1
      walk_at "go"
      refine ⟨a5, ka5, rfl, ea7, fun H8 p8 ts8 s8 hp8 hts8 hnp8 hpp8 pr8 => ?_⟩
      have s8 : Same H7 H8 := s8
      have L8 := L7.grow s8
      refine o_ne_lx c (SqL.of (s8 _ _ hpp7)) (SqL.of hpp8) (items_eqx (Paired.mapP pr7 fun _ _ z => s8 _ _ z) pr8 (r6.ts (s7.ts.trans s8.ts)) (ra7.ts s8.ts)) (by omega) ⟨_, rfl, iteF (wb_nil ?_)⟩
      have s68 : Same H6 H8 := s7.trans s8
      have hF68 : F6 D3 = none := st6.fno hFc (s5 _ _ dtc.choose_spec.1)
      have hc16 := s68 _ _ (st6.keep D1 _ nD1 (s5 _ _ hc1))
      have tsx8 := tsx.trans s8.ts
      have keepD : ∀ {a kvs}, Hc a = some (.dK kvs) → H8 a = some (.dK kvs) := fun {a kvs} h => s8 _ _ (noD5 (s5 _ _ h))
      have ym8 : Paired (YM E D3 H8) ys1 S.years := Paired.mapP ymc fun _ _ z => z.off tsx8 fun a kvs _ h => keepD h
      have dt8 : DA E H8 D3 tot := by
        obtain ⟨k9, e9, r9⟩ := dtc
        exact ⟨k9, keepD e9, r9.ts tsx8⟩
      have eb8 := s8 _ _ eb7
      have rb8 := rb7.ts s8.ts
      have k18 := s8.ts.sqt k17
      clear s5 st6 pr7 pr8 hpp7 hpp8 s7 s8 hp7 hp8 hts7 hts8 L7 L6 L5 Lc ymc dtc hc1 hFc ea7 ra7 eb7 rb7 eb5 rb5 ea5 ra5 k1 k17 tsx tsx8 hT hpA1 keepD noD5 s68 r6 e6
      -- the dues
      obtain ⟨dx2, fs2, hpA2, hnoA2⟩ := L8.fld
      walk_at "go"
      refine w_mO c ?_
      walk_at "go"
      refine ⟨p, _, dx2, fs2, _, _, rfl, hpA2, hnoA2 _ (by decide +kernel), dDu, by omega, ?_⟩
      walk_at "go"
      refine ⟨F6, p, S, os, i, y, rfl, L8, ok, hy, fun F9 H9 D9 st9 L9 hD9 hF9 dd9 => ?_⟩
      obtain ⟨ku9, e9, r9⟩ := dd9
      refine ⟨D9, ku9, rfl, e9, fun H10 p10 ts10 s10 hp10 hts10 hnp10 hpp10 pr10 => ?_⟩
      have s10 : Same H9 H10 := s10
      have L10 := L9.grow s10
      have noD8 : ∀ {a kvs}, H8 a = some (.dK kvs) → H10 a = some (.dK kvs) := fun {a kvs} h => s10 _ _ (st9.keep a _ (L8.noD h) h)
      have tsy : TS H8 H10 := st9.ts.trans s10.ts
      have eb10 := noD8 eb8
      have rb10 := rb8.ts tsy
      have k110 := tsy.sqt k18
      walk_at "go"
      refine ⟨b5, kb5, rfl, eb10, fun H11 p11 ts11 s11 hp11 hts11 hnp11 hpp11 pr11 => ?_⟩
      have s11 : Same H10 H11 := s11
      have L11 := L10.grow s11
      refine o_ne_lx c (SqL.of (s11 _ _ hpp10)) (SqL.of hpp11) (items_eqx (Paired.mapP pr10 fun _ _ z => s11 _ _ z) pr11 (r9.ts (s10.ts.trans s11.ts)) (rb10.ts s11.ts)) (by omega) ⟨_, rfl, iteF (wb_nil ?_)⟩
      have tsz : TS H8 H11 := tsy.trans s11.ts
      have keepE : ∀ {a kvs}, H8 a = some (.dK kvs) → H11 a = some (.dK kvs) := fun {a kvs} h => s11 _ _ (noD8 h)
      have hF11 : F9 D3 = none := st9.fno hF68 dt8.choose_spec.1
      have hc11 := s11 _ _ (s10 _ _ (st9.keep D1 _ nD1 hc16))
      have ym11 : Paired (YM E D3 H11) ys1 S.years := Paired.mapP ym8 fun _ _ z => z.off tsz fun a kvs _ h => keepE h
      have dt11 : DA E H11 D3 tot := by
        obtain ⟨k9, e9, r9⟩ := dt8
        exact ⟨k9, keepE e9, r9.ts tsz⟩
      have eb11 := s11 _ _ eb10
      have rb11 := rb10.ts s11.ts
      have k111 := s11.ts.sqt k110
      clear st9 pr10 pr11 hpp10 hpp11 s10 s11 hp10 hp11 hts10 hts11 L10 L9 L8 ym8 dt8 hc16 hF68 eb10 rb10 eb8 rb8 k18 k110 tsy tsz hpA2 keepE noD8 r9 e9
      -- the sums
      obtain ⟨kt11, et11, rt11⟩ := dt11
      refine wb_cons (ws_forS c (wi_list c ?_))
      walk_at "go"
      refine c_list_d c et11 fun l hl => ?_
      rw [dr_keys rt11, ntc]
      have ndl3 : l ≠ D3 := fun e => by rw [e, et11] at hl; cases hl
      have hl0 : upd H11 l (.lst ((S.lets.map (·.1)).map V.str)) l = some (.lst ((S.lets.map (·.1)).map V.str)) := upd_same
      have s12' : Same H11 (upd H11 l (.lst ((S.lets.map (·.1)).map V.str))) := Same.new hl
      generalize upd H11 l (.lst ((S.lets.map (·.1)).map V.str)) = H12 at hl0 s12'
      have L12 := L11.grow s12'
      have hc12 := s12' _ _ hc11
      have ym12 : Paired (YM E D3 H12) ys1 S.years := Paired.mapP ym11 fun _ _ z => z.off s12'.ts fun a kvs _ h => s12' _ _ h
      have dt12 : DA E H12 D3 tot := ⟨kt11, s12' _ _ et11, rt11.ts s12'.ts⟩
      have eb12 := s12' _ _ eb11
      have rb12 := rb11.ts s12'.ts
      have k112 := s12'.ts.sqt k111
      have nd13 : D1 ≠ D3 := fun e => by rw [e, s12' _ _ et11] at hc12; cases hc12
      clear s12' L11 hc11 ym11 et11 rt11 eb11 rb11 k111 hl
      refine ⟨l, rfl, ⟨_, SqL.of hl0⟩, ?_⟩
      refine forS (src_list (H1 := del H12 D3) (SqL.of (by rw [del_ne ndl3]; exact hl0))) (fun j σ' Hc => ∃ tot o7, Led E F9 Hc p S os ∧ Same (del H12 D3) Hc ∧ TS H12 Hc ∧ DA E Hc D3 tot ∧ tot.map (·.1) = S.lets.map (·.1) ∧ (∀ x ∈ S.lets.map (·.1), dget tot x = some (if x ∈ (S.lets.map (·.1)).take j then sumF S (i + 1) x else sumF S i x)) ∧ σ' = [some (.ref p), some (.ref am), some (.ref tkl), some (.ref ltl), some (.ref cd), some (.ref D1), some (.ref D3), o7, none, some (.int (i : Nat)), some (.ref t5)])
        ⟨tot, o7, L12, del_same _ _, TS.refl _, dt12, ntc, fun x hx => by rw [List.take_zero, if_neg List.not_mem_nil]; exact gtc x hx, rfl⟩ (fun i σ Hc ⟨_, _, _, h, _⟩ => h) ?_ ?_
      · rintro σ Hc ⟨tot', o7', h1, h2, h3, h4, h5, h6, rfl⟩
        refine wb_nil ⟨F9, tot', o7', _, _, h1, hF11, h2 _ _ (by rw [del_ne nd13]; exact hc12), Paired.mapP ym12 fun _ _ z => z.off h3 fun a kvs na h => h2 _ _ (by rw [del_ne na]; exact h), h4, h5, fun x hx => ?_, rfl⟩
        rw [h6 x hx, List.length_map, List.take_length, if_pos hx]
      · rintro j σ Hd x Hy hj ⟨tot', o7', L13, h2, h3, h4, h5, h6, rfl⟩ s14 hx
        obtain ⟨nmx, hnm, rfl⟩ : ∃ nmx, (S.lets.map (·.1))[j]? = some nmx ∧ x = .str nmx := by
          have hx' : ((S.lets.map (·.1)).map V.str)[j]? = some x := hx
          rw [List.getElem?_map] at hx'
          cases e : (S.lets.map (·.1))[j]? with
          | none => rw [e] at hx'; cases hx'
          | some nmx => rw [e] at hx'; cases hx'; exact ⟨nmx, rfl, rfl⟩
        have hmem : nmx ∈ S.lets.map (·.1) := List.mem_of_getElem? hnm
        have L14 := L13.grow s14
        have h24 := h2.trans s14
        have h34 := h3.trans s14.ts
        have dt14 := h4.mono s14
        have hg1 : (dget tot' nmx).isSome = true := by rw [h6 nmx hmem]; rfl
        obtain ⟨tt, gt1, pt1⟩ := da_get dt14 hg1
        have eb14 := h24 _ _ (show del H12 D3 b5 = some (.dK kb5) by rw [del_ne k3]; exact eb12)
        have db14 : DA E Hy b5 y.2 := ⟨kb5, eb14, rb12.ts h34⟩
        have hg2 : (dget y.2 nmx).isSome = true := dget_names (by rw [yearsF_names _ _ _ _ _ y (List.mem_of_getElem? hy)]; exact hmem)
        obtain ⟨tb, gb1, pb1⟩ := da_get db14 hg2
        have k114 := h34.sqt k112
        refine wg_name c l7 ?_
        walk_at "go"
        refine x_dic c (fun _ _ => rfl) gt1 ?_
        walk_at "go"
        refine x_dic c (fun _ _ => rfl) gb1 ?_
        walk_at "go"
        rename_i tv Hz s15 pv0
        have pv : Pt E Hz (.ref tv) ((dget tot' nmx).getD 0 + (dget y.2 nmx).getD 0) := ⟨tv, rfl, pv0⟩
        have dt15 := dt14.mono s15
        have L15 := L14.grow s15
        have tle : tot'.length ≤ 10000 := by
          have := congrArg List.length h5
          rw [List.length_map, List.length_map] at this
          omega
        refine i_da c dt15 tle pv fun kvs16 d16 ts16 => ?_
        have eput : (dget tot' nmx).getD 0 + (dget y.2 nmx).getD 0 = sumF S (i + 1) nmx := by
          rw [sumF_succ hy, h6 nmx hmem, if_neg ?_]
          · rfl
          · intro hm
            rw [List.mem_take_iff_getElem] at hm
            obtain ⟨j2, hj2, ej⟩ := hm
            obtain ⟨hj3, ej3⟩ := List.getElem?_eq_some_iff.mp hnm
            exact List.pairwise_iff_getElem.mp ok.ch.nd j2 j (by omega) hj3 (by omega) (by rw [ej, ej3])
        refine ⟨_, _, L15.off nD3 hF11 ts16, ?_, h34.trans (s15.ts.trans ts16), d16, by rw [dput_names (by rw [h5]; exact hmem)]; exact h5, fun x hx => ?_, rfl⟩
        · exact Same.mut (h24.trans s15) (del_at _ _)
        · rw [dget_put, eput]
          by_cases ex : x = nmx
          · rw [if_pos ex, ex, if_pos (by rw [List.mem_take_iff_getElem]; obtain ⟨hj3, ej3⟩ := List.getElem?_eq_some_iff.mp hnm; exact ⟨j, by omega, ej3⟩)]
          · rw [if_neg ex, h6 x hx]
            by_cases hm : x ∈ (S.lets.map (·.1)).take j
            · rw [if_pos hm, if_pos]
              exact List.take_subset_take_left _ (by omega) hm
            · rw [if_neg hm, if_neg]
              intro hm2
              rw [List.take_succ, hnm] at hm2
              rcases List.mem_append.mp hm2 with h | h
              · exact hm h
              · exact ex (List.mem_singleton.mp h)
  · clear L2' s3 hd3 ym3 L3 dr3 hl12 py2
    rintro σ' Hc ⟨F', tot, o7, o9, o10, Lc, hFc, dtc, ntc, gtc, rfl⟩
    obtain ⟨kvc, edc, rdc⟩ := dtc
    have ltot : tot.length = S.lets.length := by rw [← List.length_map (f := (·.1)), ntc, List.length_map]
    have lkv : kvc.length = tot.length := Paired.length rdc
    walk_at "go"
    refine w_lock ⟨D3, _, edc, trivial, fun od => ?_⟩
    have tsl : TS Hc (upd Hc D3 (.frz od (.dK kvc))) := TS.upd edc rfl
    have Ll : Led E F' (upd Hc D3 (.frz od (.dK kvc))) p S os := Lc.off nD3 hFc tsl
    have rdl := rdc.ts tsl
    have edl : upd Hc D3 (.frz od (.dK kvc)) D3 = some (.frz od (.dK kvc)) := upd_same
    generalize upd Hc D3 (.frz od (.dK kvc)) = Hl at tsl Ll rdl edl
    clear Lc edc rdc tsl
    refine w_lcI c [("_law_name", 7)] (by decide +kernel) (wi_keys ?_)
    walk_at "go"
    refine ⟨D3, od, kvc, rfl, edl, lcI (src_keys (H1 := upd (fun _ => none) D3 (.frz od (.dK kvc))) upd_same) (by omega) (fun D i ys Hd => ∃ F1, Led E F1 Hd p S os ∧ F1 D3 = none ∧ F1 D = none ∧ D ∉ os ∧ D ≠ D3 ∧ Hd D3 = some (.frz od (.dK kvc)) ∧ Hd D = some (.lst ys) ∧ TS Hl Hd ∧ Paired (fun v (x : Str) => Pt E Hd v (sumF S S.years.length x)) ys ((tot.map (·.1)).take i))
      (fun D hD => ?_) (fun D i ys H ⟨F1, _, _, _, _, _, h1, h2, _, h3⟩ => ⟨same_one h1, h2, ?_⟩) ?_ ?_⟩
    · have hFl : F' D3 = none := by assumption
      have nD : D ≠ D3 := fun e => by rw [e, edl] at hD; cases hD
      exact ⟨F', Ll.grow (Same.new hD), hFl, none_of Ll.fs hD, Ll.fresh hD, nD, by rw [upd_ne (Ne.symm nD)]; exact edl, upd_same, (Same.new hD).ts, .nil⟩
    · rw [Paired.length h3, List.length_take]
      omega
    · rintro D i ys Hd x He hD0 hi ⟨F1, L1, hF1, hFD, nD, nDD, hd1, hd2, td, prd⟩ s5 ⟨kk, v, hkv, rfl⟩ Y cY
      obtain ⟨q0, hq0, eq1, _⟩ := pair_at rdl hkv
      have eq1 : kk = .inr q0.1 := eq1
      subst eq1
      have hnx : (tot.map (·.1))[i]? = some q0.1 := by rw [List.getElem?_map, hq0]; rfl
      have hmem : q0.1 ∈ S.lets.map (·.1) := by rw [← ntc]; exact List.mem_of_getElem? hnx
      have L5 := L1.grow s5
      refine wg_name cY (by decide +kernel) ⟨wipe_one, fun Y3 c3 => ?_⟩
      obtain ⟨dx1, fs1, hpA1, hnoA1⟩ := L5.fld
      walk_at "go"
      refine w_mO c3 ?_
      walk_at "go"
      refine ⟨p, _, dx1, fs1, _, _, rfl, hpA1, hnoA1 _ (by decide +kernel), dOw, by omega, ?_⟩
      walk_at "go"
      refine ⟨F1, p, S, os, q0.1, rfl, L5, ok, hmem, fun F6 H6 v6 st6 L6 pv6 => ?_⟩
      have hD6 := st6.keep D _ nD (s5 _ _ hd2)
      have ts6 : TS H6 (upd H6 D (.lst (ys ++ [v6]))) := TS.upd hD6 rfl
      have hFD6 := st6.fno hFD (s5 _ _ hd2)
      refine ⟨hD6, F6, L6.off nD hFD6 ts6, st6.fno hF1 (s5 _ _ hd1), hFD6, nD, nDD, by rw [upd_ne (Ne.symm nDD)]; exact st6.keep D3 _ nD3 (s5 _ _ hd1), upd_same, td.trans (s5.ts.trans (st6.ts.trans ts6)), ?_⟩
      rw [List.take_succ, hnx]
      refine pair_snoc2 (Paired.mapP prd fun _ _ z => z.ts (s5.ts.trans (st6.ts.trans ts6))) ?_
      have esum : ((S.years.map fun y => (dget y.2 q0.1).getD 0).sum) = sumF S S.years.length q0.1 := by unfold sumF; rw [List.take_length]
      rw [← esum]
      exact pv6.ts ts6
    · rintro D ys Hd hD0 ⟨F1, L1, hF1, hFD, nD, nDD, hd1, hd2, td, prd⟩
      rw [lkv, show (tot.map (·.1)).take tot.length = tot.map (·.1) from by rw [← List.length_map (f := (·.1)), List.take_length]] at prd
      refine ⟨hd1, ?_⟩
      have tsu : TS Hd (upd Hd D3 (.dK kvc)) := ts_thaw hd1
      walk_at "go"
      refine ⟨D3, kvc, rfl, upd_same, fun l hl => ?_⟩
      have s8 : Same (upd Hd D3 (.dK kvc)) (upd (upd Hd D3 (.dK kvc)) l (.lst (kvc.map (·.2)))) := Same.new hl
      have rdz := rdl.ts (td.trans (tsu.trans s8.ts))
      refine o_eq_lx c (SqL.of (s8 _ _ (show upd Hd D3 (.dK kvc) D = _ by rw [upd_ne nDD]; exact hd2))) (SqL.of upd_same) (n := 1) ?_ (by omega) (q _)
      refine pair_of (by rw [List.length_map, Paired.length prd, List.length_map, lkv]) fun i v w e1 e2 => ?_
      obtain ⟨x, h1, h2⟩ := pair_at prd e1
      rw [List.getElem?_map] at e2
      cases e3 : kvc[i]? with
      | none => rw [e3] at e2; cases e2
      | some kv =>
        rw [e3] at e2
        cases e2
        obtain ⟨q0, hq0, eq1, eq2⟩ := pair_at rdz e3
        rw [List.getElem?_map, hq0] at h1
        cases h1
        have hg := gtc q0.1 (by rw [← ntc]; exact List.mem_map_of_mem (List.mem_of_getElem? hq0))
        rw [dget_at (by rw [ntc]; exact ok.ch.nd) (z := q0.2) hq0] at hg
        injection hg with hg
        rw [← hg] at h2
        exact eqx_pt 0 (h2.ts (tsu.trans s8.ts)) eq2
end
section
/-! ### list + list, of lists that are read -/
theorem op_catK {X : Cx} : OpR X (binaryOp .Add) (fun x y H Q => ∃ l b xs zs, x = .ref l ∧ y = .ref b ∧ SqL X.K H l xs ∧ SqL X.K H b zs ∧ xs.length + zs.length ≤ sizeLine ∧ ∀ p, H p = none → Q (.ref p) (upd H p (.lst (xs ++ zs)))) := by
  intro pins s σ H x y v u Q I rx ry h
  obtain ⟨l, b, xs, zs, rfl, rfl, hH, hB, hz, q⟩ := h
  cases rx
  cases ry
  obtain ⟨its, r, ⟨⟨cls, dd, data, sl⟩, n, ho, hc, _, hd⟩, hl⟩ := I.list hH
  obtain ⟨its2, r2, ⟨⟨cls2, dd2, data2, sl2⟩, n2, ho2, hc2, _, hd2⟩, hl2⟩ := I.list hB
  simp only at hc hd hc2 hd2
  subst hc hd hc2 hd2
  have e1 := r.length
  have e2 := r2.length
  refine concat_meets ⟨_, ho, rfl⟩ ⟨_, ho2, rfl⟩ noFill_list_add seq_list_add PySem.F.slot_list_add PySem.F.entry_list_add (PySem.F.args_list_add_2 _ _) (list_addW l b its.toArray its2.toArray n n2 dd dd2 sl sl2 (by rw [List.size_toArray, List.size_toArray]; omega)) ⟨ho, ho2, ?_⟩
  have ea : its.toArray ++ its2.toArray = (its ++ its2).toArray := by simp
  rw [ea]
  exact ⟨.ref _, _, I.lnew (t' := s.toks) (r.append r2) (by rw [List.length_append]; omega), rfl, q _ I.fresh⟩
theorem o_catK {E : Ev} {k : Nat} {N : List Str} {sc : Scope} {dd : Bool} {X : Cx} {H : Hp} {Q : VK} {a b : Addr} {xs ys : List V} (c : Cxt E k N sc dd X) (h1 : SqL E.K H a xs) (h2 : SqL E.K H b ys) (hz : xs.length + ys.length ≤ sizeLine) (q : ∀ t, H t = none → Q (.ref t) (upd H t (.lst (xs ++ ys)))) : WBo X .Add (.ref a) (.ref b) H Q :=
  wbo_of op_catK ⟨a, b, xs, ys, rfl, rfl, by rw [c.hK]; exact h1, by rw [c.hK]; exact h2, hz, q⟩
end
section
-- 94 law: ["_law_script", "_law_draw", "_law_charter", "_law_takes", "_law_lets", "_law_carried_here", "_law_free", "_law_take", "_law_ledger", "_law_m", "_law_rows_then", "_law_k", "_law_cell", "_law_deed_here", "_law_done_here", "_law_count", "_law_at"]
abbrev N94 : List Str := ["_law_script", "_law_draw", "_law_charter", "_law_takes", "_law_lets", "_law_carried_here", "_law_free", "_law_take", "_law_ledger", "_law_m", "_law_rows_then", "_law_k", "_law_cell", "_law_deed_here", "_law_done_here", "_law_count", "_law_at"]
theorem sc94 : FnScope N94 ["_law_script"] (defScope (top 94)) := ⟨rfl, rfl, rfl, by decide +kernel, rfl, by decide +kernel, by decide +kernel⟩
theorem nm94 : visB N94 (defScope (top 94)) 0 "_law_script" = true ∧ visB N94 (defScope (top 94)) 1 "_law_draw" = true ∧ visB N94 (defScope (top 94)) 3 "_law_takes" = true ∧ visB N94 (defScope (top 94)) 5 "_law_carried_here" = true ∧ visB N94 (defScope (top 94)) 2 "_law_charter" = true ∧ visB N94 (defScope (top 94)) 12 "_law_cell" = true ∧ visB N94 (defScope (top 94)) 11 "_law_k" = true ∧ visB N94 (defScope (top 94)) 9 "_law_m" = true ∧ visB N94 (defScope (top 94)) 6 "_law_free" = true ∧ visB N94 (defScope (top 94)) 8 "_law_ledger" = true ∧ visB N94 (defScope (top 94)) 13 "_law_deed_here" = true ∧ visB N94 (defScope (top 94)) 14 "_law_done_here" = true ∧ visB N94 (defScope (top 94)) 10 "_law_rows_then" = true ∧ visB N94 (defScope (top 94)) 15 "_law_count" = true ∧ visB N94 (defScope (top 94)) 4 "_law_lets" = true ∧ visB N94 (defScope (top 94)) 16 "_law_at" = true ∧ locB true N94 (defScope (top 94)) 1 "_law_draw" = true ∧ locB true N94 (defScope (top 94)) 2 "_law_charter" = true ∧ locB true N94 (defScope (top 94)) 3 "_law_takes" = true ∧ locB true N94 (defScope (top 94)) 4 "_law_lets" = true ∧ locB true N94 (defScope (top 94)) 5 "_law_carried_here" = true ∧ locB true N94 (defScope (top 94)) 6 "_law_free" = true ∧ locB true N94 (defScope (top 94)) 8 "_law_ledger" = true ∧ locB true N94 (defScope (top 94)) 9 "_law_m" = true ∧ locB true N94 (defScope (top 94)) 10 "_law_rows_then" = true ∧ locB true N94 (defScope (top 94)) 11 "_law_k" = true ∧ locB true N94 (defScope (top 94)) 12 "_law_cell" = true ∧ locB true N94 (defScope (top 94)) 13 "_law_deed_here" = true ∧ locB true N94 (defScope (top 94)) 14 "_law_done_here" = true ∧ locB true N94 (defScope (top 94)) 15 "_law_count" = true ∧ locB true N94 (defScope (top 94)) 16 "_law_at" = true ∧ gloB (defScope (top 94)) "_law_mixed" = true ∧ gloB (defScope (top 94)) "_law_long_right" = true ∧ gloB (defScope (top 94)) "_law_begun" = true ∧ gloB (defScope (top 94)) "Ledger" = true ∧ gloB (defScope (top 94)) "enumerate" = true ∧ gloB (defScope (top 94)) "_law_deed" = true ∧ gloB (defScope (top 94)) "len" = true ∧ gloB (defScope (top 94)) "_law_done" = true ∧ gloB (defScope (top 94)) "list" = true ∧ gloB (defScope (top 94)) "range" = true ∧ gloB (defScope (top 94)) "_law_cut_right" = true ∧ gloB (defScope (top 94)) "_law_stands" = true :=
  ⟨by decide +kernel, by decide +kernel, by decide +kernel, by decide +kernel, by decide +kernel, by decide +kernel, by decide +kernel, by decide +kernel, by decide +kernel, by decide +kernel, by decide +kernel, by decide +kernel, by decide +kernel, by decide +kernel, by decide +kernel, by decide +kernel, by decide +kernel, by decide +kernel, by decide +kernel, by decide +kernel, by decide +kernel, by decide +kernel, by decide +kernel, by decide +kernel, by decide +kernel, by decide +kernel, by decide +kernel, by decide +kernel, by decide +kernel, by decide +kernel, by decide +kernel, by decide +kernel, by decide +kernel, by decide +kernel, by decide +kernel, by decide +kernel, by decide +kernel, by decide +kernel, by decide +kernel, by decide +kernel, by decide +kernel, by decide +kernel, by decide +kernel⟩
-- obtain ⟨n0, n1, n3, n5, n2, n12, n11, n9, n6, n8, n13, n14, n10, n15, n4, n16, l1, l2, l3, l4, l5, l6, l8, l9, l10, l11, l12, l13, l14, l15, l16, g__law_mixed, g__law_long_right, g__law_begun, g_Ledger, g_enumerate, g__law_deed, g_len, g__law_done, g_list, g_range, g__law_cut_right, g__law_stands⟩ := nm94
theorem law_body {E : Ev} (t : Tx E) (tx : TxE E) (X : Cx) (vs : List V) (H : Hp) (Q : VK) (c : Cxt E 29 N94 (defScope (top 94)) true X) (h : spLaw E vs H Q) : WB X (defBody (top 94)) { nx := fun _ H' => Q .non H', rt := Q } (start N94 vs) H := by
  obtain ⟨l, ns, e, hl, hz, q⟩ := h
  subst e
  have B := t.B
  obtain ⟨n0, n1, n3, n5, n2, n12, n11, n9, n6, n8, n13, n14, n10, n15, n4, n16, l1, l2, l3, l4, l5, l6, l8, l9, l10, l11, l12, l13, l14, l15, l16, g__law_mixed, g__law_long_right, g__law_begun, g_Ledger, g_enumerate, g__law_deed, g_len, g__law_done, g_list, g_range, g__law_cut_right, g__law_stands⟩ := nm94
  have dMix := p_mixed t
  have dLong := ok_long_right t tx
  have dBeg := ok_begun t
  have dLed := l_ledger t
  have dDeed := ok_ldeed t
  have dDone := ok_ldone t tx
  have dCutR := ok_cut_right t
  have dSt := ok_stands t
  -- the draw
  refine wb_cons (ws_mid (fun σ' Hc => ∃ dr : Int, Same H Hc ∧ σ' = [some (.ref l), some (.int dr), none, none, none, none, none, none, none, none, none, none, none, none, none, none, none]) ?_ ?_)
  · walk_at "go"
    intro A0 zA0
    walk_at "go"
    have s1 := Same.new (o := .lst [.int 0]) zA0
    refine o_catK c (s1.seq hl) (SqL.of upd_same) (by rw [List.length_map]; exact Nat.le_trans (show ns.length + 1 ≤ 1000 by omega) (by decide)) fun A1 zA1 => ?_
    have s2 := s1.trans (Same.new (o := .lst (ns.map V.int ++ [.int 0])) zA1)
    obtain ⟨z, hz0⟩ : ∃ z : Int, atI (ns.map V.int ++ [.int 0]) 0 = some (.int z) := by
      cases ns with
      | nil => exact ⟨0, rfl⟩
      | cons a r => exact ⟨a, atI_nat (j := 0) rfl⟩
    walk_at "go"
    refine x_lst c (fun _ _ => rfl) (SqL.of upd_same) hz0 ?_
    walk_at "go"
    refine o_mod (by decide +kernel) ?_
    walk_at "go"
    exact ⟨_, s2, rfl⟩
  rintro σ' H1 ⟨dr, s01, rfl⟩
  have hl1 := s01.seq hl
  refine wb_cons (ws_mid (fun σ' Hc => Same H1 Hc ∧ σ' = [some (.ref l), some (.int dr), none, none, none, none, none, none, none, none, none, none, none, none, none, none, none]) ?_ ?_)
  · walk_at "go"
    by_cases hd : dr % 8 = 3
    · rw [decide_eq_true hd]
      refine iteT ?_
      walk_at "go"
      intro H2 s12
      exact ⟨true, rfl, iteF (wb_nil ⟨s12, rfl⟩)⟩
    · rw [decide_eq_false hd]
      refine iteF ?_
      walk_at "go"
      exact ⟨Same.refl _, rfl⟩
  rintro σ' H2 ⟨s12, rfl⟩
  have hl2 := s12.seq hl1
  -- the charter
  refine wb_cons (ws_mid (fun σ' Hc => ∃ F chp tkl ltl cd tk lets car, Same F Hc ∧ Ch E F chp tk lets ∧ SqL E.K F l (ns.map V.int) ∧ F tkl = some (.lst (tk.map V.str)) ∧ LtL E F ltl lets ∧ CA Hc cd car ∧ F cd = none ∧ ChOk tk lets car ∧ tk.length ≤ 5 ∧ lets.length ≤ 4 ∧ σ' = [some (.ref l), some (.int dr), some (.ref chp), some (.ref tkl), some (.ref ltl), some (.ref cd), none, none, none, none, none, none, none, none, none, none, none]) ?_ ?_)
  · refine ws_asg ?_
    walk_at "go"
    refine ⟨l, ns, rfl, hl2, hz, fun F' H' T chp tkl ltl cd tk lets car b1 b2 b3 b4 b5 b6 b7 b8 b9 b10 b11 => ?_⟩
    refine wg_tup c (SqT.of (b2 _ _ b3)) rfl (wgs_cons (wg_name c l2 (wgs_cons (wg_name c l3 (wgs_cons (wg_name c l4 (wgs_cons (wg_name c l5 (wgs_nil ?_)))))))))
    exact ⟨F', chp, tkl, ltl, cd, tk, lets, car, b2, b4, b1.seq hl2, b5, b6, b7, b8, b9, b10, b11, rfl⟩
  clear hl hl1 hl2 s01 s12
  rintro σ' H3 ⟨F, chp, tkl, ltl, cd, tk, lets, car, sF, hch, hl, htk, hlt, hca, hcd, ok, hk5, hl4, rfl⟩
  -- the free
  refine wb_cons (ws_mid (fun σ' Hc => ∃ fl, Same H3 Hc ∧ Hc fl = some (.lst ((freeOf tk car).map V.str)) ∧ σ' = [some (.ref l), some (.int dr), some (.ref chp), some (.ref tkl), some (.ref ltl), some (.ref cd), some (.ref fl), none, none, none, none, none, none, none, none, none, none]) ?_ ?_)
  · have htk3 := sF _ _ htk
    refine ws_setLcS c l6 (by decide +kernel) [("_law_take", 7)] (by decide +kernel) rfl rfl (by decide +kernel) (wi_list c ?_)
    walk_at "go"
    refine ⟨⟨_, SqL.of htk3⟩, ?_⟩
    refine lcS (src_list (SqL.of htk3)) (by rw [List.length_map]; omega) (fun i => (fun x => (cget car x).isNone) (tk.getD i "")) (fun i y _ => y = .str (tk.getD i "")) (fun _ _ _ _ _ h => h) (fun i y H' hi s2 hy Y cY => ?_) fun D ys H' hD s2 hl2 pr => ?_
    · obtain ⟨x, hx, rfl⟩ : ∃ x, tk[i]? = some x ∧ y = .str x := by
        rw [List.getElem?_map] at hy
        cases q : tk[i]? with
        | none => rw [q] at hy; cases hy
        | some x => rw [q] at hy; cases hy; exact ⟨x, rfl, rfl⟩
      have eg : tk.getD i "" = x := by rw [List.getD_eq_getElem?_getD, hx]; rfl
      have hcd2 : CA H' cd car := s2 _ _ hca
      refine wg_name cY (by decide +kernel) ⟨wipe_one, Same.refl _, fun Y3 c3 => ?_⟩
      walk_at "go"
      refine o_notin_d c3 (DGet.k (k := .inr x) hcd2) ?_
      refine ⟨_, rfl, Same.refl _, ?_, fun _ Y4 c4 => ?_⟩
      · rw [eg, carK_get]
        show (!((cget car x).map V.str).isSome) = (cget car x).isNone
        cases cget car x <;> rfl
      · walk_at "go"
        exact ⟨Same.refl _, by rw [eg]⟩
    · rw [List.length_map] at pr
      have p2 := pair_map (R := fun (x : Str) y => y = V.str x) (fun i => tk.getD i "") pr
      rw [range_filter (fun x => (cget car x).isNone) "" tk] at p2
      have ey : ys = (freeOf tk car).map V.str := by
        apply List.ext_getElem?
        intro i
        have hln := Paired.length p2
        rw [List.getElem?_map]
        cases q : (freeOf tk car)[i]? with
        | none => rw [List.getElem?_eq_none_iff] at q; rw [List.getElem?_eq_none (by rw [← hln]; exact q)]; rfl
        | some x => obtain ⟨y, h1, h2⟩ := pair_at p2 q; rw [h1, h2]; rfl
      rw [ey] at hl2
      exact ⟨D, s2, hl2, rfl⟩
  rintro σ' H4 ⟨fl, s34, hfl, rfl⟩
  have hcd4 : CA H4 cd car := s34 _ _ hca
  have sF4 := sF.trans s34
  clear s34 hca sF
  -- the ledger
  refine wb_cons (ws_mid (fun σ' Hc => ∃ F p os, Same H4 Hc ∧ Led E F Hc p (ls0 tk lets car) os ∧ (∀ a ∈ os, H4 a = none) ∧ σ' = [some (.ref l), some (.int dr), some (.ref chp), some (.ref tkl), some (.ref ltl), some (.ref cd), some (.ref fl), none, some (.ref p), none, none, none, none, none, none, none, none]) ?_ ?_)
  · walk_at "go"
    refine ⟨F, chp, cd, tk, lets, car, rfl, hch, sF4, hcd, hcd4, ok, fun F2 p os H2 s12 _ _ hos hL => ?_⟩
    exact ⟨F2, p, os, s12, hL, hos, rfl⟩
  have hl := sF4.seq hl
  have htk := sF4 _ _ htk
  have hlt := hlt.mono sF4
  clear hch sF4 hcd
  rintro σ' H5 ⟨F5, p, os5, s45, L5, ho5, rfl⟩
  -- the tally
  refine wb_cons (ws_mid (fun σ' Hc => ∃ am r pp g, Same H5 Hc ∧ Jt E F5 Hc p (ls0 tk lets car) os5 am r pp g [] [] ∧ (∀ a ∈ mo am r pp g [], H5 a = none) ∧ σ' = [some (.ref l), some (.int dr), some (.ref chp), some (.ref tkl), some (.ref ltl), some (.ref cd), some (.ref fl), none, some (.ref p), some (.ref am), none, none, none, none, none, none, none]) ?_ ?_)
  · walk_at "go"
    refine w_disp3 fun am ham => ?_
    walk_at "go"
    intro r hr
    walk_at "go"
    intro pp hpp
    walk_at "go"
    intro g hg
    walk_at "go"
    have hr5 : H5 r = none := none_of (Same.new ham) hr
    have nra : am ≠ r := fun e => by rw [← e, upd_same] at hr; cases hr
    have s1 := Same.new (o := .dK []) ham
    have s2 := s1.trans (Same.new (o := .lst []) hr)
    have hpp5 := none_of s2 hpp
    have npa : am ≠ pp := fun e => by rw [← e, upd_ne nra, upd_same] at hpp; cases hpp
    have npr : r ≠ pp := fun e => by rw [← e, upd_same] at hpp; cases hpp
    have s3 := s2.trans (Same.new (o := .lst []) hpp)
    have hg5 := none_of s3 hg
    have nga : am ≠ g := fun e => by rw [← e, upd_ne npa, upd_ne nra, upd_same] at hg; cases hg
    have ngr : r ≠ g := fun e => by rw [← e, upd_ne npr, upd_same] at hg; cases hg
    have ngp : pp ≠ g := fun e => by rw [← e, upd_same] at hg; cases hg
    have s4 := s3.trans (Same.new (o := .lst []) hg)
    refine ⟨by rw [upd_ne nga, upd_ne npa, upd_ne nra]; exact upd_same, "rows", "past", "log", rfl, rfl, rfl, ?_⟩
    have s5 := Same.mut (o := .dK (mK r pp g)) s4 ham
    have allN : ∀ a ∈ mo am r pp g [], H5 a = none := fun a ha => by
      simp only [mo, List.mem_cons, List.not_mem_nil, or_false] at ha
      rcases ha with rfl | rfl | rfl | rfl
      · exact ham
      · exact hr5
      · exact hpp5
      · exact hg5
    refine ⟨am, r, pp, g, s5, ⟨L5.grow s5, ⟨?_, fun a ha => none_of L5.fs (allN a ha), upd_same, ⟨[], ?_, .nil⟩, ?_, .nil, ?_, .nil⟩, fun a ha => L5.fresh (allN a ha)⟩, allN, rfl⟩
    · simp only [mo, List.nodup_cons, List.mem_cons, List.not_mem_nil, or_false, not_or]
      exact ⟨⟨nra, npa, nga⟩, ⟨npr, ngr⟩, ngp, not_false, List.nodup_nil⟩
    · show upd _ am _ r = _
      rw [upd_ne (Ne.symm nra), upd_ne ngr, upd_ne npr, upd_same]; rfl
    · show upd _ am _ pp = _
      rw [upd_ne (Ne.symm npa), upd_ne ngp, upd_same]; rfl
    · show upd _ am _ g = _
      rw [upd_ne (Ne.symm nga), upd_same]
  clear L5
  rintro σ' H6 ⟨am, r, pp, g, s56, J6, hmo6, rfl⟩
  -- the rows as they stood
  have ho6 : ∀ a ∈ os5 ++ mo am r pp g [], H4 a = none := fun a ha => by
    rcases List.mem_append.mp ha with h | h
    · exact ho5 a h
    · exact none_of s45 (hmo6 a h)
  have s46 := s45.trans s56
  clear s45 s56 ho5 hmo6
  refine wb_cons (ws_mid (fun σ' Hc => ∃ F rt l0, Same H4 Hc ∧ Jt E F Hc p (ls0 tk lets car) os5 am r pp g [] [] ∧ H4 rt = none ∧ Hc rt = some (.lst [.ref l0]) ∧ F rt = none ∧ rt ∉ os5 ++ mo am r pp g [] ∧ RwF E F Hc l0 [] ∧ σ' = [some (.ref l), some (.int dr), some (.ref chp), some (.ref tkl), some (.ref ltl), some (.ref cd), some (.ref fl), none, some (.ref p), some (.ref am), some (.ref rt), none, none, none, none, none, none]) ?_ ?_)
  · walk_at "go"
    intro l0 hl0
    walk_at "go"
    intro rt hrt
    walk_at "go"
    have s7 := Same.new (o := .lst []) hl0
    have s8 := Same.new (o := .lst [.ref l0]) hrt
    have hrt6 := none_of s7 hrt
    have J7 : Jt E (gr F5 H6 (upd H6 l0 (.lst []))) (upd H6 l0 (.lst [])) p (ls0 tk lets car) os5 am r pp g [] [] := ⟨J6.led.growF s7, J6.md.growF J6.led.fs s7, J6.dis⟩
    have hF0 : gr F5 H6 (upd H6 l0 (.lst [])) l0 = some (.lst []) := by rw [gr_new hl0]; exact upd_same
    refine ⟨_, rt, l0, s46.trans (s7.trans s8), ⟨J7.led.grow s8, J7.md.grow s8, J7.dis⟩, none_of s46 hrt6, upd_same, none_of J7.led.fs hrt, ?_, ⟨[], hF0, .nil⟩, rfl⟩
    intro hm
    rcases List.mem_append.mp hm with h | h
    · exact J7.led.fresh hrt h
    · exact J7.md.fresh hrt h
  clear J6 s46
  rintro σ' H7 ⟨F7, rt, l0, s47, J7, nrt, hrt, hFrt, hort, rw0, rfl⟩
  have rw1 : Paired (RwF E F7 H7) [l0] ((List.range ((ls0 tk lets car).notes.length + 1)).map (rowsAt (ls0 tk lets car))) := .cons rw0 .nil
  -- the deeds
  refine wb_cons (ws_mid (fun σ' Hc => ∃ F S os r pls ns' rls o1 o11 o12 o13 o14, Same H4 Hc ∧ Jt E F Hc p S os am r pp g pls ns' ∧ Hs S ∧ Bd S ∧ S.notes.length ≤ 100 ∧ S.tk = tk ∧ S.lets = lets ∧ S.car = car ∧ Hc rt = some (.lst (rls.map V.ref)) ∧ Paired (RwF E F Hc) rls ((List.range (S.notes.length + 1)).map (rowsAt S)) ∧
    σ' = [some (.ref l), some (.int o1), some (.ref chp), some (.ref tkl), some (.ref ltl), some (.ref cd), some (.ref fl), none, some (.ref p), some (.ref am), some (.ref rt), o11, o12, o13, o14, none, none]) (ws_forS c (wi_enum c g_enumerate (B _ (by decide +kernel)) ?_)) ?_)
  · walk_at "go"
    refine l_lst c (s47.seq hl) fun C1 zC1 => ?_
    rw [show cutV (ns.map V.int) none (some 63) = (ns.map V.int).take 63 from cutV_to _ 63]
    have s8 := Same.new (o := .lst ((ns.map V.int).take 63)) zC1
    have hC1 : upd H7 C1 (.lst ((ns.map V.int).take 63)) C1 = some (.lst ((ns.map V.int).take 63)) := upd_same
    generalize upd H7 C1 (.lst ((ns.map V.int).take 63)) = H8 at s8 hC1
    walk_at "go"
    intro C2 zC2
    walk_at "go"
    have s9 := Same.new (o := .lst [.int 0, .int 1, .int 2]) zC2
    refine o_catL (s9 _ _ hC1) upd_same (by rw [List.length_take, List.length_map]; exact Nat.le_trans (show min 63 ns.length + 3 ≤ 1000 by omega) (by decide)) fun D zD => ?_
    have ecs : (ns.map V.int).take 63 ++ [.int 0, .int 1, .int 2] = (ns.take 63 ++ [0, 1, 2]).map V.int := by rw [List.map_append, List.map_take]; rfl
    rw [ecs]
    have lcs : (ns.take 63 ++ [0, 1, 2]).length ≤ 66 := by rw [List.length_append, List.length_take]; show min 63 ns.length + 3 ≤ 66; omega
    generalize ns.take 63 ++ [0, 1, 2] = cs at lcs
    have s10 := Same.new (o := .lst (cs.map V.int)) zD
    have s710 := s8.trans (s9.trans s10)
    have hD10 : upd (upd H8 C2 (.lst [.int 0, .int 1, .int 2])) D (.lst (cs.map V.int)) D = some (.lst (cs.map V.int)) := upd_same
    have zD7 : H7 D = none := none_of (s8.trans s9) zD
    generalize upd (upd H8 C2 (.lst [.int 0, .int 1, .int 2])) D (.lst (cs.map V.int)) = H10 at s710 hD10
    have J10 : Jt E (gr F7 H7 H10) H10 p (ls0 tk lets car) os5 am r pp g [] [] := ⟨J7.led.growF s710, J7.md.growF J7.led.fs s710, J7.dis⟩
    have hFD : gr F7 H7 H10 D = some (.lst (cs.map V.int)) := by rw [gr_new zD7]; exact hD10
    have hFrt10 : gr F7 H7 H10 rt = none := by rw [gr_old hrt]; exact hFrt
    have rw10 := Paired.mapP rw1 fun _ _ z => z.mono (gr_ff (H' := H10) J7.led.fs) s710.ts
    have hrt10 := s710 _ _ hrt
    generalize gr F7 H7 H10 = F10 at J10 hFD hFrt10 rw10
    walk_at "go"
    refine ⟨D, _, rfl, SqL.of hD10, ?_⟩
    refine forS (src_enum (H1 := upd (fun _ => none) D (.lst (cs.map V.int))) (SqL.of upd_same)) (fun i σ' Hc => ∃ F S os r pls ns' rls o1 o11 o12 o13 o14, Same H4 Hc ∧ Jt E F Hc p S os am r pp g pls ns' ∧ F D = some (.lst (cs.map V.int)) ∧ Hs S ∧ Bd S ∧ S.notes.length ≤ i ∧ S.tk = tk ∧ S.lets = lets ∧ S.car = car ∧ Hc rt = some (.lst (rls.map V.ref)) ∧ F rt = none ∧ rt ∉ os ++ mo am r pp g pls ∧ Paired (RwF E F Hc) rls ((List.range (S.notes.length + 1)).map (rowsAt S)) ∧
      (∀ a ∈ os ++ mo am r pp g pls, H4 a = none) ∧ σ' = [some (.ref l), some (.int o1), some (.ref chp), some (.ref tkl), some (.ref ltl), some (.ref cd), some (.ref fl), none, some (.ref p), some (.ref am), some (.ref rt), o11, o12, o13, o14, none, none])
      ⟨F10, ls0 tk lets car, os5, r, [], [], [l0], dr, none, none, none, none, s47.trans s710, J10, hFD, hs_0 ok, bd_0 _ _ _, Nat.le_refl _, rfl, rfl, rfl, hrt10, hFrt10, hort, rw10, ho6, rfl⟩ (fun i σ Hc ⟨F, S, os, r, pls, ns', rls, o1, o11, o12, o13, o14, _, h, h2, _⟩ => same_one (h.led.fs _ _ h2)) ?_ ?_
    · rintro σ Hc ⟨F, S, os, r, pls, ns', rls, o1, o11, o12, o13, o14, h1, h2, h3, h4, h5, h6, h7, h8, h9, h10, h11, h12, h13, h14, rfl⟩
      rw [List.length_map] at h6
      exact ⟨F, S, os, r, pls, ns', rls, o1, o11, o12, o13, o14, h1, h2, h4, h5, by omega, h7, h8, h9, h10, h13, rfl⟩
    · rintro i σ Hc x Hx hi ⟨F, S, os, r, pls, ns', rls, o1, o11, o12, o13, o14, h1, h2, h3, h4, h5, h6, h7, h8, h9, h10, h11, h12, h13, h14, rfl⟩ s6 ⟨T, u, ex, hT, hu⟩
      rw [List.length_map] at hi
      subst ex
      obtain ⟨cell, rfl⟩ : ∃ cell : Int, u = .int cell := by
        obtain ⟨n, _, e⟩ := List.mem_map.mp (List.mem_of_getElem? hu)
        exact ⟨n, e.symm⟩
      refine wg_two c (i := 11) (j := 12) (by decide +kernel) (by decide +kernel) (SqT.of hT) ?_
      walk_at "go"
      have J6 : Jt E F Hx p S os am r pp g pls ns' := ⟨h2.led.grow s6, h2.md.grow s6, h2.dis⟩
      have efr : freeOf S.tk S.car = freeOf tk car := by rw [h7, h9]
      have h16 := h1.trans s6
      have hrow : S.rows.length ≤ 66 := by have := h5.r; omega
      refine ⟨F, am, r, pp, g, pls, ns', S.rows, S.past, S.notes, fl, freeOf tk car, _, rfl, J6.md, h16 _ _ hfl, ?_, free_nodup ok.ndt, by omega, fun v d o H11 s11 hO hnew okr => ?_⟩
      · have : (freeOf tk car).length ≤ tk.length := List.length_filter_le _ _
        omega
      have J11 : Jt E (gr F Hx H11) H11 p S os am r pp g pls ns' := ⟨J6.led.growF s11, J6.md.growF J6.led.fs s11, J6.dis⟩
      have hdA := deedO_F (F := F) hO hnew
      have okl : okL S d := by
        cases d with
        | add d => exact ⟨by rw [efr]; exact okr, by omega⟩
        | mend y d => exact ⟨by rw [efr]; exact okr.1, okr.2⟩
        | undo => trivial
      have hFD11 : gr F Hx H11 D = some (.lst (cs.map V.int)) := gr_ff J6.led.fs _ _ h3
      have hFrt11 : gr F Hx H11 rt = none := by rw [gr_old (s6 _ _ h10)]; exact h11
      have rw11 := Paired.mapP h13 fun _ _ z => z.mono (gr_ff (H' := H11) J6.led.fs) (s6.ts.trans s11.ts)
      have hrt11 := s11 _ _ (s6 _ _ h10)
      have h111 := h16.trans s11
      generalize gr F Hx H11 = F11 at J11 hdA hFD11 hFrt11 rw11
      clear h1 h2 h3 h10 h11 h13 h16 J6 hO hnew okr hT s6 s11
      obtain ⟨hgr, hgp, hgg⟩ := mk_at J11.md.ha
      walk_at "go"
      refine x_dic c (fun _ _ => rfl) hgg ?_
      walk_at "go"
      have e0 : ns'.length = S.notes.length := Paired.length J11.md.hns
      refine c_len_l c (SqL.of J11.md.hg) ?_
      walk_at "go"
      refine ⟨F11, p, S, os, am, r, pp, g, pls, ns', v, d, rfl, J11, h4.ok, by have := h5.p; omega, by omega, hdA, okl, fun F12 os12 H12 r' pls' ns12 st12 J12 => ?_⟩
      obtain ⟨h112, h14'⟩ := st12.hb h111 h14
      have hrt12 := st12.keep rt _ h12 hrt11
      have hFrt12 := st12.fno hFrt11 hrt11
      have h12' := st12.ono h12 hrt11
      have hFD12 := st12.ff _ _ hFD11
      have rw12 := Paired.mapP rw11 fun _ _ z => z.mono st12.ff st12.ts
      clear rw11 hFD11 hFrt11 hrt11 J11 h111 st12 h14 h12 hdA hgr hgp hgg
      obtain ⟨hgr, hgp, hgg⟩ := mk_at J12.md.ha
      walk_at "go"
      refine x_dic c (fun _ _ => rfl) hgg ?_
      walk_at "go"
      refine c_len_l c (SqL.of J12.md.hg) ?_
      have e12 : ns12.length = (lstep S d).notes.length := Paired.length J12.md.hns
      rw [e0, e12]
      walk_at "go"
      rcases lstep_or okl with ⟨es, od⟩ | es
      · rw [es] at J12 e12 ⊢
        have en : (S.does d).notes.length = S.notes.length + 1 := by rw [does_notes, List.length_append]; rfl
        rw [decide_eq_true (show ((S.notes.length : Nat) : Int) < (((S.does d).notes.length : Nat) : Int) by omega)]
        refine iteT ?_
        refine wb_one (ws_expr (w_append c ?_))
        walk_at "go"
        refine ⟨rt, _, rfl, hrt12, ?_⟩
        walk_at "go"
        refine x_dic c (fun _ _ => rfl) hgr ?_
        obtain ⟨rs, hrs, prs⟩ := J12.md.hr
        walk_at "go"
        intro cl hcl
        have s13 := Same.new (o := .lst (rs.map V.ref)) hcl
        have hcl13 : upd H12 cl (.lst (rs.map V.ref)) cl = some (.lst (rs.map V.ref)) := upd_same
        generalize upd H12 cl (.lst (rs.map V.ref)) = H13 at s13 hcl13
        have J13 : Jt E (gr F12 H12 H13) H13 p (S.does d) os12 am r' pp g pls' ns12 := ⟨J12.led.growF s13, J12.md.growF J12.led.fs s13, J12.dis⟩
        have hFcl : gr F12 H12 H13 cl = some (.lst (rs.map V.ref)) := by rw [gr_new hcl]; exact hcl13
        have hFrt13 : gr F12 H12 H13 rt = none := by rw [gr_old hrt12]; exact hFrt12
        have ff13 : Same F12 (gr F12 H12 H13) := gr_ff J12.led.fs
        have hFD13 := ff13 _ _ hFD12
        have prs13 := Paired.mapP prs fun _ _ z => z.mono ff13 s13.ts
        have rw13 := Paired.mapP rw12 fun _ _ z => z.mono ff13 s13.ts
        have hrt13 := s13 _ _ hrt12
        have h113 := h112.trans s13
        generalize gr F12 H12 H13 = F13 at J13 hFcl hFrt13 hFD13 prs13 rw13
        have lrl : rls.length = S.notes.length + 1 := by rw [Paired.length rw12, List.length_map, List.length_range]
        refine ⟨_, hrt13, by rw [List.length_map, lrl]; exact Nat.lt_of_lt_of_le (show S.notes.length + 1 < 1000 by omega) (by decide), ?_⟩
        have e14 : rls.map V.ref ++ [V.ref cl] = (rls ++ [cl]).map V.ref := by rw [List.map_append]; rfl
        rw [e14]
        have ts14 : TS H13 (upd H13 rt (.lst ((rls ++ [cl]).map V.ref))) := TS.upd hrt13 rfl
        have nrt1 : rt ∉ os12 := fun z => h12' (List.mem_append_left _ z)
        have nrt2 : ∀ a ∈ mo am r' pp g pls', a ≠ rt := fun a ha z => h12' (List.mem_append_right _ (z ▸ ha))
        obtain ⟨ef1, ef2, ef3⟩ := does_fix S d
        refine ⟨F13, S.does d, os12, r', pls', ns12, rls ++ [cl], _, _, _, _, _, Same.mut h113 nrt, ⟨J13.led.off nrt1 hFrt13 ts14, J13.md.keep (Same.refl _) ts14 (fun a ha => upd_ne (nrt2 a ha)) J13.md.out, J13.dis⟩, hFD13, hs_does h4 h5 od (by omega), bd_does h5, by omega, by rw [ef1]; exact h7, by rw [ef2]; exact h8, by rw [ef3]; exact h9, upd_same, hFrt13, h12', ?_, h14', rfl⟩
        rw [rowsAt_does h4 d]
        exact pair_snoc2 (Paired.mapP rw13 fun _ _ z => z.mono (Same.refl _) ts14) ⟨rs, hFcl, Paired.mapP prs13 fun _ _ z => z.mono (Same.refl _) ts14⟩
      · rw [es] at J12 e12 ⊢
        rw [decide_eq_false (by omega)]
        refine iteF (wb_nil ?_)
        exact ⟨F12, S, os12, r', pls', ns12, rls, _, _, _, _, _, h112, J12, hFD12, h4, h5, by omega, h7, h8, h9, hrt12, hFrt12, h12', rw12, h14', rfl⟩
  · rintro σ' H8 ⟨F8, S, os, r, pls, ns', rls, o1, o11, o12, o13, o14, s48, J8, hs, bd, hz8, ek, el, ec, hrt8, rw8, rfl⟩
    clear rw1 rw0 hort hFrt hrt nrt J7 ho6
    obtain ⟨hgr, hgp, hgg⟩ := mk_at J8.md.ha
    have e0 : ns'.length = S.notes.length := Paired.length J8.md.hns
    refine wb_cons (ws_mid (fun σ' Hc => Same H8 Hc ∧ σ' = [some (.ref l), some (.int o1), some (.ref chp), some (.ref tkl), some (.ref ltl), some (.ref cd), some (.ref fl), none, some (.ref p), some (.ref am), some (.ref rt), o11, o12, o13, o14, some (.int (S.notes.length : Nat)), none]) ?_ ?_)
    · walk_at "go"
      refine x_dic c (fun _ _ => rfl) hgg ?_
      walk_at "go"
      refine c_len_l c (SqL.of J8.md.hg) ?_
      rw [e0]
      walk_at "go"
      exact ⟨Same.refl _, rfl⟩
    rintro σ' H9 ⟨s89, rfl⟩
    have hl9 := s89.seq (s48.seq hl)
    refine wb_cons (ws_mid (fun σ' Hc => ∃ o16, Same H9 Hc ∧ σ' = [some (.ref l), some (.int o1), some (.ref chp), some (.ref tkl), some (.ref ltl), some (.ref cd), some (.ref fl), none, some (.ref p), some (.ref am), some (.ref rt), o11, o12, o13, o14, some (.int (S.notes.length : Nat)), o16]) (ws_forS c (wi_list c ?_)) ?_)
    · walk_at "go"
      intro A0 zA0
      have s1 := Same.new (o := .lst [.int 0, .int (S.notes.length : Nat)]) zA0
      have hA0 : upd H9 A0 (.lst [.int 0, .int (S.notes.length : Nat)]) A0 = some (.lst [.int 0, .int (S.notes.length : Nat)]) := upd_same
      generalize upd H9 A0 (.lst [.int 0, .int (S.notes.length : Nat)]) = H10 at s1 hA0
      have hl10 := s1.seq hl9
      refine w_lcS c [("_law_k", 11)] (by decide +kernel) (wi_range c g_range (B _ (by decide +kernel)) ?_)
      walk_at "go"
      refine ⟨by omega, by omega, ?_⟩
      refine lcS0 src_range (by decide) (fun i y Hc => ∃ n : Nat, y = .int n ∧ n ≤ S.notes.length) (fun _ _ _ _ _ h => h) (fun i x H6 hi s6 hx Y cY => ?_) fun D ys H6 hD s6 hz6 pr => ?_
      · have hx : x = .int i := hx
        subst hx
        have hl6 := s6.seq hl10
        have hi4 : i < 4 := hi
        refine wg_name cY (by decide +kernel) ⟨wipe_one, Same.refl _, fun Y3 c3 => ?_⟩
        walk_at "go"
        have hp : (0 : Int) < (S.notes.length : Nat) + 1 := by omega
        generalize mixed _ _ = z
        have z1 := Int.emod_nonneg z (Int.ne_of_gt hp)
        have z2 := Int.emod_lt_of_pos z hp
        exact ⟨Same.refl _, (z % ((S.notes.length : Nat) + 1)).toNat, congrArg V.int (Int.toNat_of_nonneg z1).symm, by omega⟩
      · have ly : ys.length = 4 := by rw [← Paired.length pr, List.length_range]; rfl
        refine o_catL (s6 _ _ hA0) hz6 (by rw [ly]; show 2 + 4 ≤ sizeLine; decide) fun C zC => ?_
        have s7 := Same.new (o := .lst ([.int 0, .int (S.notes.length : Nat)] ++ ys)) zC
        have hC : upd H6 C (.lst ([.int 0, .int (S.notes.length : Nat)] ++ ys)) C = some (.lst ([.int 0, .int (S.notes.length : Nat)] ++ ys)) := upd_same
        generalize upd H6 C (.lst ([.int 0, .int (S.notes.length : Nat)] ++ ys)) = H11 at s7 hC
        have s911 := s1.trans (s6.trans s7)
        have all : ∀ x ∈ [V.int 0, .int (S.notes.length : Nat)] ++ ys, ∃ n : Nat, x = .int n ∧ n ≤ S.notes.length := fun x hx => by
          rcases List.mem_append.mp hx with h | h
          · rcases List.mem_cons.mp h with rfl | h
            · exact ⟨0, rfl, Nat.zero_le _⟩
            · rcases List.mem_cons.mp h with rfl | h
              · exact ⟨_, rfl, Nat.le_refl _⟩
              · cases h
          · obtain ⟨i, hi⟩ := List.getElem?_of_mem h
            obtain ⟨_, _, z⟩ := pair_at' pr hi
            exact z
        generalize [V.int 0, .int (S.notes.length : Nat)] ++ ys = cs at hC all
        refine ⟨C, rfl, ⟨_, SqL.of hC⟩, ?_⟩
        have s811 := s89.trans s911
        have J11 : Jt E F8 H11 p S os am r pp g pls ns' := ⟨J8.led.grow s811, J8.md.grow s811, J8.dis⟩
        have s411 := s48.trans s811
        have hrt11 := s811 _ _ hrt8
        refine forS (src_list (SqL.of hC)) (fun i σ' Hc => ∃ o16, Same H11 Hc ∧ σ' = [some (.ref l), some (.int o1), some (.ref chp), some (.ref tkl), some (.ref ltl), some (.ref cd), some (.ref fl), none, some (.ref p), some (.ref am), some (.ref rt), o11, o12, o13, o14, some (.int (S.notes.length : Nat)), o16]) ⟨none, Same.refl _, rfl⟩ (fun i σ Hc ⟨_, h, _⟩ => h) ?_ ?_
        · rintro σ Hc ⟨o16, h, rfl⟩
          exact ⟨o16, s911.trans h, rfl⟩
        · rintro i σ Hc x Hx hi ⟨o16, h1, rfl⟩ s6 hx
          obtain ⟨n, rfl, hn⟩ := all _ (List.mem_of_getElem? hx)
          have h2 := h1.trans s6
          refine wg_name c l16 ?_
          walk_at "go"
          intro TT zTT
          have s12 := Same.new (o := .tup [.ref tkl, .ref ltl, .ref cd]) zTT
          have hTT : SqT E.K (upd Hx TT (.tup [.ref tkl, .ref ltl, .ref cd])) TT [.ref tkl, .ref ltl, .ref cd] := SqT.of upd_same
          generalize upd Hx TT (.tup [.ref tkl, .ref ltl, .ref cd]) = H12 at s12 hTT
          have h12 := h2.trans s12
          have h412 := s411.trans h12
          have L12 := J11.led.grow h12
          walk_at "go"
          refine ⟨F8, p, S, os, rt, TT, tkl, ltl, cd, rls, n, rfl, L12, hs, by omega, h12 _ _ hrt11, ?_, hTT, by rw [ek]; exact h412 _ _ htk, by rw [el]; exact hlt.mono h412, by rw [ec]; exact h412 _ _ hcd4, hn, fun H13 s13 => ?_⟩
          · exact Paired.mapP rw8 fun _ _ z => (z.a J8.led.fs).mono (s811.trans h12)
          · exact ⟨true, rfl, iteF (wb_nil ⟨_, h12.trans s13, rfl⟩)⟩
    · rintro σ' H10 ⟨o16, s910, rfl⟩
      have s810 := s89.trans s910
      have s410 := s48.trans s810
      walk_at "go"
      exact ⟨F8, p, S, os, am, r, pp, g, pls, ns', tkl, ltl, cd, rfl, ⟨J8.led.grow s810, J8.md.grow s810, J8.dis⟩, hs.ok, okRun_nd hs.run, by rw [ek]; exact s410 _ _ htk, by rw [el]; exact hlt.mono s410, by rw [ec]; exact s410 _ _ hcd4, fun H' => q H'⟩
end
section
/-! ### the end -/
theorem hFacts {P : Program} {w : World} {K : PySem.W.Frag} {h : Heap} {mg : Str → Option Value} {f : Addr} (X : K.In h) (G : h.Ns mainGlobals mg) (hfa : mg ("law" : Str) = some (.ref f)) (c : He.SaysT hFa hFn hTs w K) (cx : hEx K = true) :
    ∃ fd : FuncData, (∀ (s : Shared) (v : Value), BindsTo s fd ⟨[v], []⟩ [("_law_script", v)]) ∧ ∀ base : Heap, K.In base → base.Ns mainGlobals mg → FnOk P w K mg base CX0 30 f fd ["_law_script"] (up (spLaw ⟨P, w, K, mg, h⟩)) := by
  obtain ⟨fd, F⟩ := c.d.defs (d := dL) List.mem_cons_self
  have e := hfa.symm.trans (He.glo_ok X G (fa_end c (f := .glo "law") (List.mem_cons_of_mem _ (List.mem_cons_of_mem _ List.mem_cons_self))))
  cases e
  have b := FunD.bindsA (ps := ["_law_script"]) F fun _ _ _ _ _ _ us hl => match us, hl with | [_], _ => rfl
  refine ⟨fd, fun s v => b s [v] rfl, fun base _ _ => F.ok sc94 (fun vs H Q E h => ?_) fun cdv A outer s H vs Q E hr h => ?_⟩
  · obtain ⟨_, _, e, _⟩ := h
    rw [e] <;> rfl
  · exact ⟨WB _ (defBody (top 94)), PSs.nox wb_pss, law_body (hTx X G c cx P base) (hTxE X G c cx P base) _ vs H Q ⟨rfl, rfl, rfl, rfl, rfl, rfl, sc94.nd, rfl, hr, rfl, fun _ _ => rfl, rfl⟩ h⟩
theorem hAll (w : World) (mg : Str → Option Value) (fa : Addr) (h : Heap) (Y : hHk.says w h) (G : h.Ns mainGlobals mg) (hmg : mg ("law" : Str) = some (.ref fa)) :
    ∃ (K : PySem.W.Frag) (fd : FuncData) (sp : Sp), K.In h ∧ (∀ (s : Shared) (u : Value), BindsTo s fd ⟨[u], []⟩ [("_law_script", u)]) ∧
      (∀ (H : Hp) (a : Addr) (ns : List Int), ns.length ≤ 63 → Only H → SqL K H a (ns.map V.int) → sp [.ref a] H (fun v _ => v = .bl true) fun _ _ _ => False) ∧
      ∀ base : Heap, K.In base → base.Ns mainGlobals mg → FnOk (PySem.Challenge.rw_levyhouse_k72_whole_cut_anywhere).prog w K mg base CX0 30 fa fd ["_law_script"] sp := by
  obtain ⟨K, KX, c, cx⟩ := Y
  obtain ⟨fd, hb, hF⟩ := hFacts (P := (PySem.Challenge.rw_levyhouse_k72_whole_cut_anywhere).prog) (w := w) KX G hmg c cx
  exact ⟨K, fd, up (spLaw ⟨_, w, K, mg, h⟩), KX, hb, fun H a ns hl _ hS => ⟨a, ns, rfl, hS, hl, fun _ => rfl⟩, hF⟩
end
end Lv
theorem PySem.Challenge.cw_levyhouse_k72_whole_cut_anywhere_holds : PySem.Challenge.rw_levyhouse_k72_whole_cut_anywhere.Holds :=
  Lv.hEnd Lv.hAll
