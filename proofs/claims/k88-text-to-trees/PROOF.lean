import PyProof.Rows.All
import Wide.All
import OpenK.AllK
import Wide.FinOn
import HandS.ForMost
import HandS.Exc
import HandS.Defaults
import HandS.HeadHook1
import HandS.HeadHook2
import HandS.HeadHook3
import HandS.HeadHook4
import PySem.Challenge.RW_cheaptree_k88_whole_from_text_to_trees_w
import KE.KStateDown
import Lean
import HandS.Head0
import HandS.Head1
import HandS.Head2
import HandS.HeadEnd
import HandS.Conv
import HandS.IsInst
import HandS.TupAny
import HandS.ReplaceDef
import HandS.ReplaceLit
import HandS.More
import HandS.Walk
import HandS.SortKw
import KE.SortData
import KE.SortKeyHeap
import KE.DataMinMax
import KE.DataMinKey
import KE.KSortTupAny
import KE.KDictList
import KE.GoesMore
import KE.GoesZip
import KE.GoesEnum
import HandS.Evl
import KE.KIntText
import PyProof.Rows.StrIntSpec
section
set_option Elab.async false
set_option linter.all false
set_option maxRecDepth 100000
/-! The text by places, the head's facts. -/
namespace Ct
open PySem L2
def top (i : Nat) : Stmt := PySem.Challenge.pw_cheaptree_k88_whole_from_text_to_trees_w.main.body.getD i (.Pass ⟨0, 0, 0, 0⟩)
abbrev s_is_whole : Stmt := top 4
abbrev s_is_word : Stmt := top 5
abbrev s_empty : Stmt := top 6
abbrev s_is_open : Stmt := top 7
abbrev s_opened : Stmt := top 8
abbrev s_waiting : Stmt := top 9
abbrev s_price : Stmt := top 10
abbrev s_tie_of : Stmt := top 11
abbrev s_Groups_init : Stmt := inClass (top 22) 0
abbrev s_Groups_joins : Stmt := inClass (top 22) 1
abbrev s_cost_of : Stmt := top 23
abbrev s_way : Stmt := top 24
abbrev s_cheapest : Stmt := top 26
abbrev s_cost_within : Stmt := top 37
abbrev s_coming_in : Stmt := top 38
abbrev s_dearest_of : Stmt := top 39
abbrev s_margin : Stmt := top 40
abbrev s_is_deed : Stmt := top 45
abbrev s_look_deed : Stmt := top 46
abbrev s_with_tie : Stmt := top 47
abbrev s_without_tie : Stmt := top 48
abbrev s_changed : Stmt := top 49
abbrev s_without : Stmt := top 51
abbrev s_exchange : Stmt := top 52
abbrev s_exchanged : Stmt := top 54
abbrev s_Keeper_init : Stmt := inClass (top 55) 0
abbrev s_Keeper_do : Stmt := inClass (top 55) 1
abbrev s_Keeper_back : Stmt := inClass (top 55) 2
abbrev s_Keeper_net : Stmt := inClass (top 55) 3
abbrev s_Keeper_tree : Stmt := inClass (top 55) 4
abbrev s_Keeper_cost : Stmt := inClass (top 55) 5
abbrev s_net_text : Stmt := top 58
abbrev s_number_in : Stmt := top 59
abbrev s_thing_in : Stmt := top 69
abbrev s_order_in : Stmt := top 70
abbrev s_exchange_text : Stmt := top 71
abbrev s_margin_text : Stmt := top 72
abbrev s_Desk_init : Stmt := inClass (top 75) 0
abbrev s_Desk_say : Stmt := inClass (top 75) 1
abbrev s_Desk_done : Stmt := inClass (top 75) 2
abbrev s_Desk_gone_back : Stmt := inClass (top 75) 3
abbrev s_Desk_asked : Stmt := inClass (top 75) 4
abbrev s_Desk_told : Stmt := inClass (top 75) 5
abbrev s_l_begin : Stmt := top 77
abbrev s_l_next : Stmt := top 78
abbrev s_l_words : Stmt := top 79
abbrev s_l_cost : Stmt := top 80
abbrev s_l_ends : Stmt := top 81
abbrev s_l_net : Stmt := top 82
abbrev s_l_way : Stmt := top 83
abbrev s_l_is_cheapest : Stmt := top 84
abbrev s_l_words_of : Stmt := top 85
abbrev s_l_moved : Stmt := top 86
abbrev s_l_at : Stmt := top 87
abbrev s_l_margin : Stmt := top 88
abbrev s_l_lines : Stmt := top 89
abbrev s_l_told : Stmt := top 90
abbrev s_law : Stmt := top 91
abbrev FnP (K : PySem.W.Frag) (x q : Str) (st : Stmt) (f : Addr) (fd : FuncData) : Prop := FunD K x q (defArgs st) (defBody st) (defScope st) [] [] f fd
def d_is_whole : He.DefD := ⟨("is_whole", none), "is_whole", "is_whole", defArgs s_is_whole, defBody s_is_whole, defScope s_is_whole, [], []⟩
def d_is_word : He.DefD := ⟨("is_word", none), "is_word", "is_word", defArgs s_is_word, defBody s_is_word, defScope s_is_word, [], []⟩
def d_empty : He.DefD := ⟨("empty", none), "empty", "empty", defArgs s_empty, defBody s_empty, defScope s_empty, [], []⟩
def d_is_open : He.DefD := ⟨("is_open", none), "is_open", "is_open", defArgs s_is_open, defBody s_is_open, defScope s_is_open, [], []⟩
def d_opened : He.DefD := ⟨("opened", none), "opened", "opened", defArgs s_opened, defBody s_opened, defScope s_opened, [], []⟩
def d_waiting : He.DefD := ⟨("waiting", none), "waiting", "waiting", defArgs s_waiting, defBody s_waiting, defScope s_waiting, [], []⟩
def d_price : He.DefD := ⟨("price", none), "price", "price", defArgs s_price, defBody s_price, defScope s_price, [], []⟩
def d_tie_of : He.DefD := ⟨("tie_of", none), "tie_of", "tie_of", defArgs s_tie_of, defBody s_tie_of, defScope s_tie_of, [], []⟩
def d_Groups_init : He.DefD := ⟨("Groups", some "__init__"), "__init__", "Groups.__init__", defArgs s_Groups_init, defBody s_Groups_init, defScope s_Groups_init, [], []⟩
def d_Groups_joins : He.DefD := ⟨("Groups", some "joins"), "joins", "Groups.joins", defArgs s_Groups_joins, defBody s_Groups_joins, defScope s_Groups_joins, [], []⟩
def d_cost_of : He.DefD := ⟨("cost_of", none), "cost_of", "cost_of", defArgs s_cost_of, defBody s_cost_of, defScope s_cost_of, [], []⟩
def d_way : He.DefD := ⟨("way", none), "way", "way", defArgs s_way, defBody s_way, defScope s_way, [], []⟩
def d_cheapest : He.DefD := ⟨("cheapest", none), "cheapest", "cheapest", defArgs s_cheapest, defBody s_cheapest, defScope s_cheapest, [], []⟩
def d_cost_within : He.DefD := ⟨("cost_within", none), "cost_within", "cost_within", defArgs s_cost_within, defBody s_cost_within, defScope s_cost_within, [], []⟩
def d_coming_in : He.DefD := ⟨("coming_in", none), "coming_in", "coming_in", defArgs s_coming_in, defBody s_coming_in, defScope s_coming_in, [], []⟩
def d_dearest_of : He.DefD := ⟨("dearest_of", none), "dearest_of", "dearest_of", defArgs s_dearest_of, defBody s_dearest_of, defScope s_dearest_of, [], []⟩
def d_margin : He.DefD := ⟨("margin", none), "margin", "margin", defArgs s_margin, defBody s_margin, defScope s_margin, [], []⟩
def d_is_deed : He.DefD := ⟨("is_deed", none), "is_deed", "is_deed", defArgs s_is_deed, defBody s_is_deed, defScope s_is_deed, [], []⟩
def d_look_deed : He.DefD := ⟨("look_deed", none), "look_deed", "look_deed", defArgs s_look_deed, defBody s_look_deed, defScope s_look_deed, [], []⟩
def d_with_tie : He.DefD := ⟨("with_tie", none), "with_tie", "with_tie", defArgs s_with_tie, defBody s_with_tie, defScope s_with_tie, [], []⟩
def d_without_tie : He.DefD := ⟨("without_tie", none), "without_tie", "without_tie", defArgs s_without_tie, defBody s_without_tie, defScope s_without_tie, [], []⟩
def d_changed : He.DefD := ⟨("changed", none), "changed", "changed", defArgs s_changed, defBody s_changed, defScope s_changed, [], []⟩
def d_without : He.DefD := ⟨("without", none), "without", "without", defArgs s_without, defBody s_without, defScope s_without, [], []⟩
def d_exchange : He.DefD := ⟨("exchange", none), "exchange", "exchange", defArgs s_exchange, defBody s_exchange, defScope s_exchange, [], []⟩
def d_exchanged : He.DefD := ⟨("exchanged", none), "exchanged", "exchanged", defArgs s_exchanged, defBody s_exchanged, defScope s_exchanged, [], []⟩
def d_Keeper_init : He.DefD := ⟨("Keeper", some "__init__"), "__init__", "Keeper.__init__", defArgs s_Keeper_init, defBody s_Keeper_init, defScope s_Keeper_init, [], []⟩
def d_Keeper_do : He.DefD := ⟨("Keeper", some "do"), "do", "Keeper.do", defArgs s_Keeper_do, defBody s_Keeper_do, defScope s_Keeper_do, [], []⟩
def d_Keeper_back : He.DefD := ⟨("Keeper", some "back"), "back", "Keeper.back", defArgs s_Keeper_back, defBody s_Keeper_back, defScope s_Keeper_back, [], []⟩
def d_Keeper_net : He.DefD := ⟨("Keeper", some "net"), "net", "Keeper.net", defArgs s_Keeper_net, defBody s_Keeper_net, defScope s_Keeper_net, [], []⟩
def d_Keeper_tree : He.DefD := ⟨("Keeper", some "tree"), "tree", "Keeper.tree", defArgs s_Keeper_tree, defBody s_Keeper_tree, defScope s_Keeper_tree, [], []⟩
def d_Keeper_cost : He.DefD := ⟨("Keeper", some "cost"), "cost", "Keeper.cost", defArgs s_Keeper_cost, defBody s_Keeper_cost, defScope s_Keeper_cost, [], []⟩
def d_net_text : He.DefD := ⟨("net_text", none), "net_text", "net_text", defArgs s_net_text, defBody s_net_text, defScope s_net_text, [], []⟩
def d_number_in : He.DefD := ⟨("number_in", none), "number_in", "number_in", defArgs s_number_in, defBody s_number_in, defScope s_number_in, [], []⟩
def d_thing_in : He.DefD := ⟨("thing_in", none), "thing_in", "thing_in", defArgs s_thing_in, defBody s_thing_in, defScope s_thing_in, [], []⟩
def d_order_in : He.DefD := ⟨("order_in", none), "order_in", "order_in", defArgs s_order_in, defBody s_order_in, defScope s_order_in, [], []⟩
def d_exchange_text : He.DefD := ⟨("exchange_text", none), "exchange_text", "exchange_text", defArgs s_exchange_text, defBody s_exchange_text, defScope s_exchange_text, [], []⟩
def d_margin_text : He.DefD := ⟨("margin_text", none), "margin_text", "margin_text", defArgs s_margin_text, defBody s_margin_text, defScope s_margin_text, [], []⟩
def d_Desk_init : He.DefD := ⟨("Desk", some "__init__"), "__init__", "Desk.__init__", defArgs s_Desk_init, defBody s_Desk_init, defScope s_Desk_init, [], []⟩
def d_Desk_say : He.DefD := ⟨("Desk", some "say"), "say", "Desk.say", defArgs s_Desk_say, defBody s_Desk_say, defScope s_Desk_say, [], []⟩
def d_Desk_done : He.DefD := ⟨("Desk", some "done"), "done", "Desk.done", defArgs s_Desk_done, defBody s_Desk_done, defScope s_Desk_done, [], []⟩
def d_Desk_gone_back : He.DefD := ⟨("Desk", some "gone_back"), "gone_back", "Desk.gone_back", defArgs s_Desk_gone_back, defBody s_Desk_gone_back, defScope s_Desk_gone_back, [], []⟩
def d_Desk_asked : He.DefD := ⟨("Desk", some "asked"), "asked", "Desk.asked", defArgs s_Desk_asked, defBody s_Desk_asked, defScope s_Desk_asked, [], []⟩
def d_Desk_told : He.DefD := ⟨("Desk", some "told"), "told", "Desk.told", defArgs s_Desk_told, defBody s_Desk_told, defScope s_Desk_told, [], []⟩
def d_l_begin : He.DefD := ⟨("_law_begin", none), "_law_begin", "_law_begin", defArgs s_l_begin, defBody s_l_begin, defScope s_l_begin, [], []⟩
def d_l_next : He.DefD := ⟨("_law_next", none), "_law_next", "_law_next", defArgs s_l_next, defBody s_l_next, defScope s_l_next, [], []⟩
def d_l_words : He.DefD := ⟨("_law_words", none), "_law_words", "_law_words", defArgs s_l_words, defBody s_l_words, defScope s_l_words, [], []⟩
def d_l_cost : He.DefD := ⟨("_law_cost", none), "_law_cost", "_law_cost", defArgs s_l_cost, defBody s_l_cost, defScope s_l_cost, [], []⟩
def d_l_ends : He.DefD := ⟨("_law_ends", none), "_law_ends", "_law_ends", defArgs s_l_ends, defBody s_l_ends, defScope s_l_ends, [], []⟩
def d_l_net : He.DefD := ⟨("_law_net", none), "_law_net", "_law_net", defArgs s_l_net, defBody s_l_net, defScope s_l_net, [], []⟩
def d_l_way : He.DefD := ⟨("_law_way", none), "_law_way", "_law_way", defArgs s_l_way, defBody s_l_way, defScope s_l_way, [], []⟩
def d_l_is_cheapest : He.DefD := ⟨("_law_is_cheapest", none), "_law_is_cheapest", "_law_is_cheapest", defArgs s_l_is_cheapest, defBody s_l_is_cheapest, defScope s_l_is_cheapest, [], []⟩
def d_l_words_of : He.DefD := ⟨("_law_words_of", none), "_law_words_of", "_law_words_of", defArgs s_l_words_of, defBody s_l_words_of, defScope s_l_words_of, [], []⟩
def d_l_moved : He.DefD := ⟨("_law_moved", none), "_law_moved", "_law_moved", defArgs s_l_moved, defBody s_l_moved, defScope s_l_moved, [], []⟩
def d_l_at : He.DefD := ⟨("_law_at", none), "_law_at", "_law_at", defArgs s_l_at, defBody s_l_at, defScope s_l_at, [], []⟩
def d_l_margin : He.DefD := ⟨("_law_margin", none), "_law_margin", "_law_margin", defArgs s_l_margin, defBody s_l_margin, defScope s_l_margin, [], []⟩
def d_l_lines : He.DefD := ⟨("_law_lines", none), "_law_lines", "_law_lines", defArgs s_l_lines, defBody s_l_lines, defScope s_l_lines, [], []⟩
def d_l_told : He.DefD := ⟨("_law_told", none), "_law_told", "_law_told", defArgs s_l_told, defBody s_l_told, defScope s_l_told, [], []⟩
def d_law : He.DefD := ⟨("law", none), "law", "law", defArgs s_law, defBody s_law, defScope s_law, [], []⟩
def fnL0 : List He.DefD := [d_is_whole, d_is_word, d_empty, d_is_open, d_opened, d_waiting, d_price, d_tie_of, d_Groups_init, d_Groups_joins, d_cost_of, d_way, d_cheapest, d_cost_within, d_coming_in, d_dearest_of, d_margin, d_is_deed, d_look_deed, d_with_tie]
def fnL1 : List He.DefD := [d_without_tie, d_changed, d_without, d_exchange, d_exchanged, d_Keeper_init, d_Keeper_do, d_Keeper_back, d_Keeper_net, d_Keeper_tree, d_Keeper_cost, d_net_text, d_number_in, d_thing_in, d_order_in, d_exchange_text, d_margin_text, d_Desk_init, d_Desk_say, d_Desk_done]
def fnL2 : List He.DefD := [d_Desk_gone_back, d_Desk_asked, d_Desk_told, d_l_begin, d_l_next, d_l_words, d_l_cost, d_l_ends, d_l_net, d_l_way, d_l_is_cheapest, d_l_words_of, d_l_moved, d_l_at, d_l_margin, d_l_lines, d_l_told, d_law]
def fnL : List He.DefD := fnL0 ++ fnL1 ++ fnL2
def faL0 : List He.Fa := [.glo "is_whole", .glo "is_word", .glo "empty", .glo "is_open", .glo "opened", .glo "waiting", .glo "price", .glo "tie_of", .glo "cost_of", .glo "way", .glo "cheapest", .glo "cost_within", .glo "coming_in", .glo "dearest_of", .glo "margin", .glo "is_deed", .glo "look_deed", .glo "with_tie", .glo "without_tie", .glo "changed"]
def faL1 : List He.Fa := [.glo "without", .glo "exchange", .glo "exchanged", .glo "net_text", .glo "number_in", .glo "thing_in", .glo "order_in", .glo "exchange_text", .glo "margin_text", .glo "_law_begin", .glo "_law_next", .glo "_law_words", .glo "_law_cost", .glo "_law_ends", .glo "_law_net", .glo "_law_way", .glo "_law_is_cheapest", .glo "_law_words_of", .glo "_law_moved", .glo "_law_at"]
def faL2 : List He.Fa := [.glo "_law_margin", .glo "_law_lines", .glo "_law_told", .glo "law", .glo "Groups", .glo "Keeper", .glo "Desk", .glo "SIZES", .glo "FORMS", .glo "DEEDS", .str "LETTERS" "abcdefghijklmnopqrstuvwxyz", .str "FIGURES" "0123456789", .int "MOST_LETTERS" 8, .free "isinstance", .free "int", .free "bool", .free "str", .free "tuple", .free "len", .free "all"]
def faL3 : List He.Fa := [.free "dict", .free "list", .free "sorted", .free "min", .free "max", .free "sum", .free "range", .free "abs", .free "zip", .cls "Groups", .mkr "Groups", .cls "Keeper", .mkr "Keeper", .cls "Desk", .mkr "Desk", .meth "Groups" "joins", .meth "Keeper" "do", .meth "Keeper" "back", .meth "Keeper" "net", .meth "Keeper" "tree"]
def faL4 : List He.Fa := [.meth "Keeper" "cost", .meth "Desk" "say", .meth "Desk" "done", .meth "Desk" "gone_back", .meth "Desk" "asked", .meth "Desk" "told", .noat "Groups" "label", .noat "Keeper" "now", .noat "Keeper" "kept", .noat "Keeper" "past", .noat "Desk" "keeper"]
def faL : List He.Fa := faL0 ++ faL1 ++ faL2 ++ faL3 ++ faL4
def nsL0 : List Str := ["is_whole", "is_word", "empty", "is_open", "opened", "waiting", "price", "tie_of", "cost_of", "way", "cheapest", "cost_within", "coming_in", "dearest_of", "margin", "is_deed", "look_deed", "with_tie", "without_tie", "changed"]
def nsL1 : List Str := ["without", "exchange", "exchanged", "net_text", "number_in", "thing_in", "order_in", "exchange_text", "margin_text", "_law_begin", "_law_next", "_law_words", "_law_cost", "_law_ends", "_law_net", "_law_way", "_law_is_cheapest", "_law_words_of", "_law_moved", "_law_at"]
def nsL2 : List Str := ["_law_margin", "_law_lines", "_law_told", "law", "Groups", "Keeper", "Desk", "SIZES", "FORMS", "DEEDS"]
def nsL : List Str := nsL0 ++ nsL1 ++ nsL2
def kv_SIZES : List (Str × He.Dv) := [("place", .int 2), ("leave", .int 2), ("tie", .int 5), ("untie", .int 2), ("cost", .int 3)]
def kv_FORMS : List (Str × He.Dv) := [("place", .str "W"), ("leave", .str "W"), ("tie", .str "WWWC"), ("untie", .str "W"), ("cost", .str "WC"), ("back", .str ""), ("tree", .str ""), ("sum", .str ""), ("pieces", .str ""), ("wait", .str ""), ("margin", .str "W"), ("dear", .str "WW"), ("next", .str "K"), ("many", .str ""), ("net", .str "")]
def tsL : List He.Tab := [(fun K => He.ga K "SIZES", kv_SIZES.map (·.1)), (fun K => He.ga K "FORMS", kv_FORMS.map (·.1))]
def dv_DEEDS : List He.Dv := [.str "place", .str "leave", .str "tie", .str "untie", .str "cost"]
def exL (K : PySem.W.Frag) : Bool := He.valsB K (He.ga K "SIZES") kv_SIZES && (He.valsB K (He.ga K "FORMS") kv_FORMS && He.tupB K "DEEDS" dv_DEEDS)
def looseL0 : List Str := ["_wall", "LETTERS", "MOST_LETTERS", "is_whole", "is_word", "empty", "is_open", "opened", "waiting", "price", "tie_of", "reached", "pieces_by", "pieces", "rows_of", "row_below", "determinant", "how_many", "Groups", "cost_of"]
def looseL1 : List Str := ["way", "cheapest", "TreeError", "NoDeed", "Taken", "NoPlace", "NoTie", "NoTree", "NoBack", "NoLine", "cost_within", "coming_in", "dearest_of", "margin", "dearest", "SIZES", "is_deed", "look_deed", "with_tie", "without_tie"]
def looseL2 : List Str := ["changed", "without", "exchange", "exchanged", "Keeper", "FIGURES", "net_text", "number_in", "least_with", "parts_behind", "rank_of", "trees", "tree_at", "FORMS", "DEEDS", "thing_in", "order_in", "exchange_text", "margin_text", "dear_text"]
def looseL3 : List Str := ["next_text", "Desk", "_law_begin", "_law_next", "_law_words", "_law_cost", "_law_ends", "_law_net", "_law_way", "_law_is_cheapest", "_law_words_of", "_law_moved", "_law_at", "_law_margin", "_law_lines", "_law_told"]
def looseL : List Str := looseL0 ++ looseL1 ++ looseL2 ++ looseL3
def lawAt : Nat := 91
end Ct
end

section
set_option Elab.async false
set_option linter.all false
set_option maxRecDepth 100000
set_option maxHeartbeats 0
namespace Ct
open PySem PySem.Spec PyProof.Rows L2
abbrev R : PySem.W.OpenRow := PySem.W.OpenLaw.row PySem.Challenge.rw_cheaptree_k88_whole_from_text_to_trees_w
/-- what the needed names reach, level by level -/
def refsAll (g : Addr → Option Obj) (as : List Addr) : List Addr := as.flatMap fun a => match g a with
  | some o => He.refsD o
  | none => []
def nearG (ns : List Str) (g : Addr → Option Obj) : List Addr :=
  let l1 := ns.map (He.ga (He.frG g [mainGlobals]))
  let l2 := refsAll g l1
  let l3 := refsAll g l2
  let l4 := refsAll g l3
  mainGlobals :: (l1 ++ (l2 ++ (l3 ++ l4)))
abbrev AlC : Type := He.AlT × Bool
def obsC (ns : List Str) (fa : List He.Fa) (fn : List He.DefD) (ts : List He.Tab) (ex : PySem.W.Frag → Bool) (g : Addr → Option Obj) : AlC := (He.obsT fa fn ts (He.frG g (nearG ns g)), ex (He.frG g (nearG ns g)))
def hookC (ns : List Str) (fa : List He.Fa) (fn : List He.DefD) (ts : List He.Tab) (ex : PySem.W.Frag → Bool) : PySem.W.Hook where
  α := AlC
  obs := fun s => obsC ns fa fn ts ex s.heap.get?
  val := fun w => (He.valT fn ts w, true)
  says := fun w h => ∃ K : PySem.W.Frag, K.In h ∧ He.SaysT fa fn ts w K ∧ ex K = true
  of := fun _ _ e => ⟨_, He.frG_in, congrArg (fun z : AlC => z.1) e, congrArg (fun z : AlC => z.2) e⟩
  keeps := fun _ _ _ ⟨K, hK, c⟩ k => ⟨K, PySem.W.Frag.In.keeps hK k, c⟩
abbrev hk : PySem.W.Hook := hookC nsL faL fnL tsL exL
def ob (s : PySem.W.SharedT) : AlC := obsC nsL faL fnL tsL exL (HandSHeadRun.getT s)
theorem ob_eq (s : PySem.W.SharedT) : ob s = hk.obs s.abs := by
  have e : HandSHeadRun.getT s = s.abs.heap.get? := funext (HandSHeadRun.getT_eq s)
  show obsC nsL faL fnL tsL exL (HandSHeadRun.getT s) = obsC nsL faL fnL tsL exL s.abs.heap.get?
  rw [e]
theorem run0 (w : World) : HandSHeadRun.RunEq R (PySem.W.view R.prog [lawAt]) hk ob 6000 looseL (w.withFollow "special-get-raises" false) := by
  intro os
  kernel_rfl
theorem run1 (w : World) : HandSHeadRun.RunEq R (PySem.W.view R.prog [lawAt]) hk ob 6000 looseL (w.withFollow "special-get-raises" true) := by
  intro os
  kernel_rfl
theorem run (w : World) : HandSHeadRun.RunEq R (PySem.W.view R.prog [lawAt]) hk ob 6000 looseL w := PySem.W.byRow2 "special-get-raises" (P := fun w => HandSHeadRun.RunEq R (PySem.W.view R.prog [lawAt]) hk ob 6000 looseL w) run0 run1 w
end Ct
end

section
set_option Elab.async false
set_option linter.all false
set_option maxRecDepth 100000
set_option maxHeartbeats 4000000
namespace Ct
open PySem PySem.Spec PyProof.Rows L2
/-! what a def of the text, a method, a class keeps -/
structure Dk (P : Program) (w : World) (K : PySem.W.Frag) (mg : Str → Option Value) (base : Heap) (x : Str) (k : Nat) (ps : List Str) (sp : Sp) (f : Addr) (fd : FuncData) : Prop where
  ok : FnOk P w K mg base CX0 k f fd ps sp
  mgf : mg x = some (.ref f)
  kp : PySem.W.keepIn K (.ref f) = true
  b : Binds K fd ps []
structure Dm (P : Program) (w : World) (K : PySem.W.Frag) (mg : Str → Option Value) (base : Heap) (C : Addr) (m : Str) (k : Nat) (ps : List Str) (sp : Sp) (f : Addr) (fd : FuncData) : Prop where
  ok : FnOk P w K mg base CX0 k f fd ps sp
  m : Meth K C m f
  b : Binds K fd ps []
structure Dc (P : Program) (w : World) (K : PySem.W.Frag) (mg : Str → Option Value) (base : Heap) (x : Str) (C : Addr) (k : Nat) (ps : List Str) (sp : Sp) (f : Addr) (fd : FuncData) : Prop where
  ok : FnOk P w K mg base CX0 k f fd ps sp
  mkc : Mk K C f
  mgC : mg x = some (.ref C)
  b : Binds K fd ps []
/-- the written part's facts -/
structure Txt (w : World) (K : PySem.W.Frag) (mg : Str → Option Value) (CG CK CD : Addr) : Prop where
  b_isinstance : mg "isinstance" = none
  b_int : mg "int" = none
  b_bool : mg "bool" = none
  b_str : mg "str" = none
  b_tuple : mg "tuple" = none
  b_len : mg "len" = none
  b_all : mg "all" = none
  b_dict : mg "dict" = none
  b_list : mg "list" = none
  b_sorted : mg "sorted" = none
  b_min : mg "min" = none
  b_max : mg "max" = none
  b_sum : mg "sum" = none
  b_range : mg "range" = none
  b_abs : mg "abs" = none
  b_zip : mg "zip" = none
  v_LETTERS : ∃ t, mg "LETTERS" = some (.str "abcdefghijklmnopqrstuvwxyz" t)
  v_FIGURES : ∃ t, mg "FIGURES" = some (.str "0123456789" t)
  v_MOST_LETTERS : ∃ t, mg "MOST_LETTERS" = some (.int 8 t)
  c_Groups : Cls K CG
  c_Keeper : Cls K CK
  c_Desk : Cls K CD
  a_label : NoAttr K CG "label"
  a_now : NoAttr K CK "now"
  a_kept : NoAttr K CK "kept"
  a_past : NoAttr K CK "past"
  a_keeper : NoAttr K CD "keeper"
  k_SIZES : ∃ d es n, mg "SIZES" = some (.ref d) ∧ KDict K w d es n ∧ He.valsB K d kv_SIZES = true
  k_FORMS : ∃ d es n, mg "FORMS" = some (.ref d) ∧ KDict K w d es n ∧ He.valsB K d kv_FORMS = true
  m_DEEDS : ∃ d, mg "DEEDS" = some (.ref d) ∧ ∀ H, SqT K H d (dv_DEEDS.map (He.Dv.v K))

section
variable {X : Cx}
/-! ### rules with the written part said -/
variable {K : PySem.W.Frag}
theorem ix_tupK (h : X.K = K) : IxR X (rIxT K) := by subst h; exact ix_tup
theorem ix_listK (h : X.K = K) : IxR X (rIxL K) := by subst h; exact ix_list
theorem op_in_seqK (h : X.K = K) : OpR X (compareOp .In) (rIn K false) := by subst h; exact op_in_seq
theorem op_notIn_seqK (h : X.K = K) : OpR X (compareOp .NotIn) (rIn K true) := by subst h; exact op_notIn_seq
theorem sl_tupAK (h : X.K = K) : SlR X (rSlA K) := by subst h; exact sl_tupA
theorem sl_listK (h : X.K = K) : SlR X (rSlL K) := by subst h; exact sl_list
theorem op_catAK (h : X.K = K) : OpR X (binaryOp .Add) (rCatA K) := by subst h; exact op_catA
/-- len(xs), list(xs), tuple(xs) of a list or a tuple -/
def rLenK (K : PySem.W.Frag) : List V → Hp → VK → Prop := fun xs H Q => ∃ p ys, xs = [.ref p] ∧ (SqL K H p ys ∨ SqT K H p ys) ∧ Q (.int ys.length) H
def rListK (K : PySem.W.Frag) : List V → Hp → VK → Prop := fun xs H Q => ∃ p ys, xs = [.ref p] ∧ (SqL K H p ys ∨ SqT K H p ys) ∧ ∀ l, H l = none → Q (.ref l) (upd H l (.lst ys))
theorem call_len_seqK (h : X.K = K) : CallR X (.builtin "len") (rLenK K) := by subst h; exact call_len_seq
theorem call_list_ofK (h : X.K = K) : CallR X (.type "list") (rListK K) := by subst h; exact call_list_of
def rTupOf (K : PySem.W.Frag) : List V → Hp → VK → Prop := fun xs H Q => ∃ p ys, xs = [.ref p] ∧ ((SqL K H p ys ∧ ∀ l, H l = none → Q (.ref l) (upd H l (.tup ys))) ∨ (SqT K H p ys ∧ Q (.ref p) H))
theorem call_tuple_ofK (h : X.K = K) : CallR X (.type "tuple") (rTupOf K) := by subst h; exact call_tuple_of
def rDictP (K : PySem.W.Frag) : List V → Hp → VK → Prop := fun xs H Q => ∃ (a : Addr) (ps : List Addr) (kvs : List (Key × V)), xs = [.ref a] ∧ SqL K H a (ps.map V.ref) ∧ Paired (fun p kv => SqT K H p [kV kv.1, kv.2]) ps kvs ∧
  ∀ p, H p = none → Q (.ref p) (upd H p (.dK (mergeK [] kvs)))
theorem call_dictPK (h : X.K = K) (hc : X.calm = true) : CallR X (.type "dict") (rDictP K) := by subst h; exact call_dictP hc
theorem cr_sortedSK (h : X.K = K) : CallR X (.builtin "sorted") (rSortedS K) := by subst h; exact cr_sortedS
theorem cr_allK (h : X.K = K) (hc : X.calm = true) : CallR X (.builtin "all") (rAll K) := by subst h; exact cr_all hc
theorem cr_sumK (h : X.K = K) (hc : X.calm = true) : CallR X (.builtin "sum") (rSum K) := by subst h; exact cr_sum hc
theorem pi_listK {tg l : Expr} {tl : TE} (h : X.K = K) (hl : PE X l tl) : PI X tg l (iList K tl) := by subst h; exact pi_list hl
theorem pi_tupK {tg l : Expr} {tl : TE} (h : X.K = K) (hl : PE X l tl) : PI X tg l (iTup K tl) := by subst h; exact pi_tup hl
theorem pg_tupK {es : List Expr} {k : Nat} {pos : Pos} {t : TGs} {n : Nat} (hK : X.K = K) (hc : X.calm = true) (h : PGs X es t)
    (hn : (assignEach es X.env).length = n := by rfl) (hst : (assignEach es X.env).findIdx? (·.1) = none := by rfl) : PG X (.Tuple es k pos) (gTup K n t) := by subst hK; exact pg_tup hc h hn hst
theorem pe_K {e : Expr} (te : PySem.W.Frag → TE) (h : X.K = K) (p : PE X e (te X.K)) : PE X e (te K) := by subst h; exact p
def rJoin (K : PySem.W.Frag) : V → List V → Hp → VK → Prop := fun x xs H Q => ∃ a p, ∃ ys : List Str, x = .str a ∧ xs = [.ref p] ∧ (SqL K H p (ys.map V.str) ∨ SqT K H p (ys.map V.str)) ∧
  (ys.map (·.length)).sum + ys.length * a.length ≤ 16777216 ∧ Q (.str (Txt.join a ys)) H
theorem pe_joinK {o e : Expr} {to te : TE} {apos pos : Pos} (hK : X.K = K) (ho : PE X o to) (he : PE X e te) (hs : starEach [e] X.env = [(false, eval e X.env)] := by rfl) (hbase : attributeBase o "join" X.env (eval o X.env) = eval o X.env := by rfl)
    (hline : (apos.endLine == pos.line) = true := by rfl) : PE X (.Call (.Attribute o "join" apos) [e] [] pos) (tM1 (rJoin K) to te) := by subst hK; exact pe_join ho he hs hbase hline
/-! ### a new dict that is walked from here on -/
def tFrz (td : TE) : TE := fun σ H Q => td σ H fun x H1 => ∃ d kvs, x = .ref d ∧ H1 d = some (.dK kvs) ∧ ∀ o, Q x (upd H1 d (.frz o (.dK kvs)))
theorem pe_freeze {e : Expr} {td : TE} (h : PE X e td) : PE X e (tFrz td) := by
  refine ⟨fun pins s σ H Q I hw => ?_⟩
  refine thn (h.run pins s σ H _ I hw) fun v s1 ⟨x, H1, I1, r1, d, kvs, e1, hd, q⟩ => ?_
  obtain ⟨od, I2⟩ := I1.lock hd trivial
  exact ⟨x, _, I2, r1, q od⟩
/-! ### texts -/
def mulS (z : Str) (n : Nat) : Str := Txt.mul z (n : Int)
def ltS (i j : Str) : Bool := decide (i.cps.toList < j.cps.toList)
/-! ### the written dicts -/
def tKGet (K : PySem.W.Frag) (d : Addr) (te : TE) : TE := fun σ H Q => te σ H fun x H1 => ∃ z r, x = .str z ∧ PySem.W.nsIn K d z = some r ∧ (match r with
  | none => Q .non H1
  | some u => ∃ v, RelV v u ∧ Q v H1)
/-! ### zip of a text and a list -/
def Itsl (K : PySem.W.Frag) (z : Str) (b : Addr) : It where
  go := fun i H => ∃ ys, SqL K H b ys ∧ i < z.cps.size ∧ i < ys.length
  yld := fun i H v H' => ∃ T c y, v = .ref T ∧ H T = none ∧ H' = upd H T (.tup [.str ⟨#[c]⟩, y]) ∧ z.cps[i]? = some c ∧ ∀ ys, SqL K H b ys → ys[i]? = some y
  stop := fun i H => ∃ ys, SqL K H b ys ∧ i ≤ ys.length ∧ (z.cps.size ≤ i ∨ ys.length ≤ i)
def iZipSL (K : PySem.W.Frag) (ta : TA) : TI := fun σ H R => ta σ H fun vs H1 => ∃ z b ys, vs = [.str z, .ref b] ∧ SqL K H1 b ys ∧ R (Itsl K z b) H1
/-! ### ties and their prices as data -/
/-- what is told of a tuple of texts and whole numbers -/
inductive Sc | s (x : Str) | i (n : Int)
  deriving DecidableEq
def Sc.v : Sc → V
  | .s x => .str x
  | .i n => .int n
def Sc.d : Sc → PyData
  | .s x => .str x
  | .i n => .int n
def ltSc : Sc → Sc → Bool
  | .s x, .s y => ltS x y
  | .i m, .i n => decide (m < n)
  | _, _ => false
def ltRow : List Sc → List Sc → Bool
  | x :: xs, y :: ys => if x = y then ltRow xs ys else ltSc x y
  | [], _ :: _ => true
  | _, _ => false
/-- rows of one form -/
def alikeR : List Sc → List Sc → Bool
  | .s _ :: xs, .s _ :: ys => alikeR xs ys
  | .i _ :: xs, .i _ :: ys => alikeR xs ys
  | [], [] => true
  | _, _ => false
/-- sorted of a list of rows of one form -/
def rSortedD (K : PySem.W.Frag) : List V → Hp → VK → Prop := fun xs H Q => ∃ (a : Addr) (ps : List Addr) (r : Addr → List Sc), xs = [.ref a] ∧ SqL K H a (ps.map V.ref) ∧ (∀ p ∈ ps, SqT K H p ((r p).map Sc.v)) ∧ ps.length ≤ 1000 ∧
  (∀ p ∈ ps, r p ≠ []) ∧ (∀ p ∈ ps, ∀ q ∈ ps, alikeR (r p) (r q) = true) ∧ ∀ (ps' : List Addr) (l : Addr), ps'.Perm ps → ps'.Pairwise (fun p q => ltRow (r q) (r p) = false) → H l = none → Q (.ref l) (upd H l (.lst (ps'.map V.ref)))
/-- max of a list of rows of one form -/
def rMaxT (K : PySem.W.Frag) : List V → Hp → VK → Prop := fun xs H Q => ∃ (a : Addr) (ps : List Addr) (r : Addr → List Sc), xs = [.ref a] ∧ SqL K H a (ps.map V.ref) ∧ (∀ p ∈ ps, SqT K H p ((r p).map Sc.v)) ∧ ps ≠ [] ∧ ps.length ≤ 1000 ∧
  (∀ p ∈ ps, r p ≠ []) ∧ (∀ p ∈ ps, ∀ q ∈ ps, alikeR (r p) (r q) = true) ∧ ∀ p ∈ ps, (∀ q ∈ ps, ltRow (r p) (r q) = false) → Q (.ref p) H
/-! ### ties -/
structure Tie where
  n : Str
  a : Str
  b : Str
  c : Int
  deriving DecidableEq
def Tie.row (t : Tie) : List Sc := [.s t.n, .s t.a, .s t.b, .i t.c]
def Tie.pr (t : Tie) : List Sc := [.i t.c, .s t.n]
/-- cheaper -/
def prLt (s t : Tie) : Bool := ltRow s.pr t.pr
def TieAt (H : Hp) (p : Addr) (t : Tie) : Prop := H p = some (.tup (t.row.map Sc.v))
def spPrice : Sp := fun vs H Q _ => ∃ (t : Addr) (T : Tie), vs = [.ref t] ∧ TieAt H t T ∧ ∀ p, H p = none → Q (.ref p) (upd H p (.tup (T.pr.map Sc.v)))
/-! ### the view of a dict's values -/
def viewOf (v d : Addr) : Heap → Prop := fun h => h.IsValuesView v d
def tVals (td : TE) : TE := fun σ H Q => td σ H fun x H1 => ∃ d kvs, x = .ref d ∧ Rd H1 d (.dK kvs) ∧ ∀ v, H1 v = none → Q (.ref v) (upd H1 v (.ext (viewOf v d)))
/-! ### key=price -/
def rSortedVK (K : PySem.W.Frag) (f : Addr) : List V → List V → Hp → VK → Prop := fun vs zs H Q => ∃ (v d : Addr) (kvs : List (Key × V)) (ps : List Addr) (ts : List Tie), vs = [.ref v] ∧ zs = [.ref f] ∧ H v = some (.ext (viewOf v d)) ∧ Rd H d (.dK kvs) ∧
  kvs.map (·.2) = ps.map V.ref ∧ Paired (TieAt H) ps ts ∧ ts.length ≤ 1000 ∧
  ∀ (ps' : List Addr) (ts' : List Tie) (l : Addr) (H2 : Hp), Same H H2 → H l = none → H2 l = some (.lst (ps'.map V.ref)) → ts'.Perm ts → ts'.Pairwise (fun s t => prLt t s = false) → Paired (TieAt H2) ps' ts' → Q (.ref l) H2
def rMinK (K : PySem.W.Frag) (f : Addr) : List V → List V → Hp → VK → Prop := fun vs zs H Q => ∃ (l : Addr) (ps : List Addr) (ts : List Tie), vs = [.ref l] ∧ zs = [.ref f, .non] ∧ SqL K H l (ps.map V.ref) ∧ Paired (TieAt H) ps ts ∧ ts.length ≤ 1000 ∧
  ∀ H2, Same H H2 → (ts = [] → Q .non H2) ∧ ∀ (i : Nat) (p : Addr) (t : Tie), ps[i]? = some p → ts[i]? = some t → (∀ u ∈ ts, prLt u t = false) → Q (.ref p) H2
def rMaxK (K : PySem.W.Frag) (f : Addr) : List V → List V → Hp → VK → Prop := fun vs zs H Q => ∃ (l : Addr) (ps : List Addr) (ts : List Tie), vs = [.ref l] ∧ zs = [.ref f] ∧ SqL K H l (ps.map V.ref) ∧ Paired (TieAt H) ps ts ∧ 0 < ts.length ∧ ts.length ≤ 1000 ∧
  ∀ H2, Same H H2 → ∀ (i : Nat) (p : Addr) (t : Tie), ps[i]? = some p → ts[i]? = some t → (∀ u ∈ ts, prLt t u = false) → Q (.ref p) H2
end
end Ct
end

section
set_option Elab.async false
set_option linter.all false
set_option maxRecDepth 100000
set_option maxHeartbeats 4000000
namespace Cx2
open PySem PySem.Spec PyProof.Rows L2 Ct
section
variable {X : Cx} {K : PySem.W.Frag}
theorem op_mulS : OpR X (binaryOp .Mult) (fun x y H Q => ∃ z i, x = .str z ∧ y = .int i ∧ 0 ≤ i ∧ i ≤ 1000 ∧ z.length ≤ 1000 ∧ Q (.str (mulS z i.toNat)) H) := by
  intro pins s σ H x y v u Q I rx ry h
  obtain ⟨z, i, rfl, rfl, h0, h1, hz, q⟩ := h
  obtain ⟨t, rfl⟩ := rx
  obtain ⟨t', rfl⟩ := ry
  obtain ⟨n, rfl⟩ := Int.eq_ofNat_of_zero_le h0
  refine SB.mul ⟨?_, fun hn _ => ?_, fun hn _ => ?_⟩ fun t2 k => ⟨.str _, H, I.tok k, ⟨_, rfl⟩, q⟩
  · rw [decide_eq_false (by omega), decide_eq_false (by omega)]; rfl
  · have : ((z.length : Int)) ≤ (2 ^ 63 - 1) / (n : Int) := by
      refine Int.le_ediv_of_mul_le (by omega) ?_
      have h2 : z.length * n ≤ 1000 * 1000 := Nat.mul_le_mul hz (by omega)
      have h3 : ((z.length * n : Nat) : Int) ≤ 1000000 := by omega
      rw [Int.natCast_mul] at h3
      omega
    omega
  · have h2 : z.length * n ≤ 1000 * 1000 := Nat.mul_le_mul hz (by omega)
    show decide (z.length * ((n : Int)).toNat > sizeLine) = false
    rw [sizeLine_eq]
    exact decide_eq_false (by rw [Int.toNat_natCast]; omega)
theorem mulS_one (c n : Nat) : (mulS ⟨#[c]⟩ n).cps.toList = List.replicate n c := by
  unfold mulS Txt.mul
  by_cases h0 : n = 0
  · subst h0
    rw [if_pos (by decide)]; rfl
  · rw [if_neg (by omega)]
    by_cases h1 : n = 1
    · subst h1; rfl
    · have e1 : (((n : Int)) == 1 || (⟨#[c]⟩ : Str).length == 0) = false := by
        have a1 : (((n : Int)) == 1) = false := beq_eq_false_iff_ne.mpr (by omega)
        rw [a1]; rfl
      rw [e1, if_neg (by decide), Int.toNat_natCast]
      show ((List.replicate n #[c]).foldl (· ++ ·) #[]).toList = _
      have key : ∀ (m : Nat) (acc : Array Nat), ((List.replicate m #[c]).foldl (· ++ ·) acc).toList = acc.toList ++ List.replicate m c := by
        intro m
        induction m with
        | zero => intro acc; simp
        | succ m ih =>
          intro acc
          rw [List.replicate_succ, List.foldl_cons, ih, List.replicate_succ]
          simp
      rw [key]; rfl
theorem call_strA : CallR X (.type "str") (fun xs H Q => (∃ z, xs = [.str z] ∧ Q (.str z) H) ∨ ∃ i, xs = [.int i] ∧ i.natAbs.log2 < 1920 ∧ Q (.str (toString i)) H) := by
  intro pins s σ H xs us Q I r h
  rcases h with ⟨z, rfl, q⟩ | ⟨i, rfl, hi, q⟩
  · obtain ⟨u, rfl, t, rfl⟩ := vals1 r
    exact PySem.P.str_of_str ⟨.str z, H, I, ⟨_, rfl⟩, q⟩
  · obtain ⟨u, rfl, t, rfl⟩ := vals1 r
    exact PySem.P.str_of_int hi ⟨.str _, H, I.tok _, ⟨_, rfl⟩, q⟩
theorem pe_kget {d : Addr} {es : Array DictEntry} {n : Nat} {x : Str} {p apos cpos : Pos} {e : Expr} {te : TE} (D : KDict X.K X.w d es n) (hm : X.mg x = some (.ref d)) (hg : Gl X x) (he : PE X e te) (m : M1 X (.Name x p) "get" apos e cpos)
    (hd : (x == ("__debug__" : Str)) = false := by decide) : PE X (.Call (.Attribute (.Name x p) "get" apos) [e] [] cpos) (tKGet X.K d te) := by
  refine ⟨fun pins s σ H Q I h => ?_⟩
  have hn : PE X (.Name x p) (tC (.ref d)) := pe_glob (v := .ref d) hg hm rfl hd
  refine wpAny_Call_method m.base m.few m.line PySem.F.plainAttrs_dict PySem.F.slot_dict_get PySem.F.type_dict_get (thn (hn.run pins s σ H (fun y H1 => y = .ref d ∧ tKGet X.K d te σ H1 Q) I ⟨rfl, h⟩) fun u s1 ⟨x1, H1, I1, rx, e1, q1⟩ => ?_)
  subst e1
  obtain rfl : u = Value.ref d := rx
  have hm' := PySem.W.mapOf_K (prog := X.prog) (w := X.w) I1.kIn D.at_ D.lit
  refine ⟨hm'.typeIs, fun b q => ?_, ?_⟩
  · cases q
    exact ⟨_, I1.kIn _ _ D.at_, rfl⟩
  · rw [m.trees]
    refine Calls.callWith_builtin rfl (Calls.evalArgs_plain (Calls.spliced_cons (thn (he.run pins s1 σ H1 _ I1 q1) fun iv s2 ⟨y, H2, I2, ry, z, r, ey, hz, q2⟩ => Calls.spliced_nil ?_)))
    subst ey
    obtain ⟨t, rfl⟩ := ry
    have hm2 := PySem.W.mapOf_K (prog := X.prog) (w := X.w) I2.kIn D.at_ D.lit
    refine call_meetsIn PySem.F.slot_dict_get hm2.typeIs PySem.F.entry_dict_get (PySem.F.args_dict_get_2 _ _) (meets_dict_get (strKind X.prog X.w) d (strKind_is X.prog X.w z t) D.low) ⟨_, hm2, ?_⟩
    rw [PySem.W.find_K D.at_ hz]
    cases r with
    | none => exact ⟨.non, H2, I2.tok _, rfl, q2⟩
    | some v0 =>
      obtain ⟨v, rv, q3⟩ := q2
      exact ⟨v, H2, I2.tok _, rv, q3⟩
end
end Cx2
end

section
set_option Elab.async false
set_option linter.all false
set_option maxRecDepth 100000
set_option maxHeartbeats 4000000
namespace Cx2
open PySem PySem.Spec PyProof.Rows L2 Ct PySem.W PySem.SeqAt
theorem ltRow_cons (x y : Sc) (xs ys : List Sc) : ltRow (x :: xs) (y :: ys) = if x = y then ltRow xs ys else ltSc x y := by rw [ltRow]
theorem row_lt : ∀ {r t : List Sc}, alikeR r t = true → PyProof.Rows.lexLt itemOrd (keyToksAll (r.map Sc.d)) (keyToksAll (t.map Sc.d)) = ltRow r t
  | [], [], _ => rfl
  | [], _ :: _, h => by cases h
  | .s x :: r, [], h => by cases h
  | .i x :: r, [], h => by cases h
  | .s x :: r, .i y :: t, h => by cases h
  | .i x :: r, .s y :: t, h => by cases h
  | .s x :: r, .s y :: t, h => by
    have h' : alikeR r t = true := h
    show PyProof.Rows.lexLt itemOrd (keyToksAll (.str x :: r.map Sc.d)) (keyToksAll (.str y :: t.map Sc.d)) = _
    rw [dataLt_cons (x := .str x) (y := .str y) rfl, row_lt h', dataLt_str]
    rw [ltRow_cons]
    by_cases e : x = y
    · subst e
      rw [if_pos (by simp [PyData.eqv]), if_pos rfl]
    · rw [if_neg (by simp [PyData.eqv, e]), if_neg (fun z => e (Sc.s.inj z))]; rfl
  | .i x :: r, .i y :: t, h => by
    have h' : alikeR r t = true := h
    show PyProof.Rows.lexLt itemOrd (keyToksAll (.int x :: r.map Sc.d)) (keyToksAll (.int y :: t.map Sc.d)) = _
    rw [dataLt_cons (x := .int x) (y := .int y) rfl, row_lt h', dataLt_int]
    rw [ltRow_cons]
    by_cases e : x = y
    · subst e
      rw [if_pos (by simp [PyData.eqv]), if_pos rfl]
    · rw [if_neg (by simp [PyData.eqv, e]), if_neg (fun z => e (Sc.i.inj z))]; rfl
theorem row_alike : ∀ {r t : List Sc}, alikeR r t = true → alikeAll (r.map Sc.d) (t.map Sc.d) = true
  | [], [], _ => rfl
  | [], _ :: _, h => by cases h
  | .s x :: r, [], h => by cases h
  | .i x :: r, [], h => by cases h
  | .s x :: r, .i y :: t, h => by cases h
  | .i x :: r, .s y :: t, h => by cases h
  | .s x :: r, .s y :: t, h => by
    have h' : alikeR r t = true := h
    show alikeAll (.str x :: r.map Sc.d) (.str y :: t.map Sc.d) = true
    simp [alikeAll, alike, row_alike h']
  | .i x :: r, .i y :: t, h => by
    have h' : alikeR r t = true := h
    show alikeAll (.int x :: r.map Sc.d) (.int y :: t.map Sc.d) = true
    simp [alikeAll, alike, row_alike h']
theorem row_depth : ∀ r : List Sc, PyData.depthAll (r.map Sc.d) = 0
  | [] => rfl
  | .s x :: r => by
    show PyData.depthAll (.str x :: r.map Sc.d) = 0
    simp [PyData.depthAll, PyData.depth, row_depth r]
  | .i x :: r => by
    show PyData.depthAll (.int x :: r.map Sc.d) = 0
    simp [PyData.depthAll, PyData.depth, row_depth r]
def encR (r : List Sc) : PyData := .tuple (r.map Sc.d)
theorem encR_depth (r : List Sc) : (encR r).depth = 1 := by
  show PyData.depth (.tuple (r.map Sc.d)) = 1
  simp [PyData.depth, row_depth r]
theorem encR_alike {r t : List Sc} (h : alikeR r t = true) : alike (encR r) (encR t) = true := by
  show alike (.tuple (r.map Sc.d)) (.tuple (t.map Sc.d)) = true
  simp [alike, row_alike h]
theorem encR_lt {r t : List Sc} (h : alikeR r t = true) : dataLt (encR r) (encR t) = ltRow r t := by
  show dataLt (.tuple (r.map Sc.d)) (.tuple (t.map Sc.d)) = _
  rw [dataLt_tuple, row_lt h]
theorem dp_row {K : PySem.W.Frag} {H : Hp} : ∀ r : List Sc, DpAll K H (r.map Sc.v) (r.map Sc.d)
  | [] => .nil
  | .s x :: r => .cons (.str x) (dp_row r)
  | .i x :: r => .cons (.int x) (dp_row r)
theorem ref_vals : ∀ {ps : List Addr} {its : List Value}, Vals (ps.map V.ref) its → its = ps.map Value.ref
  | [], _, h => by cases h; rfl
  | p :: ps, _, h => by
    cases h with
    | cons a t => rw [ref_vals t]; cases (show _ = Value.ref p from a); rfl
theorem vals_ref : ∀ ps : List Addr, Vals (ps.map V.ref) (ps.map Value.ref)
  | [] => .nil
  | p :: ps => .cons rfl (vals_ref ps)
section
variable {X : Cx}
theorem reads_row {pins : List (Addr × Obj)} {σ : L2.St} {H : Hp} {s : Shared} (I : Inv X pins σ H s) {p : Addr} {r : List Sc} (h : SqT X.K H p (r.map Sc.v)) : ∃ as, Reads s.heap (.ref p) (encR r) as := Dp.reads I _ _ _ (Dp.tup h (dp_row r)) rfl
theorem each_ref {ps : List Addr} : EachIs (fun v p => v = Value.ref p) (ps.map Value.ref) ps := by
  induction ps with
  | nil => exact .nil
  | cons p ps ih => exact .cons rfl ih
theorem ref_each : ∀ {out : List Value} {ps : List Addr}, EachIs (fun v p => v = Value.ref p) out ps → out = ps.map Value.ref
  | _, _, .nil => rfl
  | _, _, .cons h t => by rw [h, ref_each t]; rfl
theorem each_all {R : Value → Addr → Prop} {ps : List Addr} (h : ∀ p ∈ ps, R (.ref p) p) : EachIs R (ps.map Value.ref) ps := by
  induction ps with
  | nil => exact .nil
  | cons p ps ih => exact .cons (h p (by simp)) (ih fun q hq => h q (List.mem_cons_of_mem _ hq))
theorem sort_rows (ps : List Addr) (r : Addr → List Sc) (hal : ∀ p ∈ ps, ∀ q ∈ ps, alikeR (r p) (r q) = true) : (ps.mergeSort (dataLe false fun p => encR (r p))).Perm ps ∧ (ps.mergeSort (dataLe false fun p => encR (r p))).Pairwise fun p q => ltRow (r q) (r p) = false := by
  have pm := List.mergeSort_perm ps (dataLe false fun p => encR (r p))
  refine ⟨pm, ?_⟩
  have pw := List.pairwise_mergeSort (le := dataLe false fun p => encR (r p)) (fun a b c h1 h2 => ?_) (fun a b => ?_) ps
  · refine List.Pairwise.imp_of_mem (fun {p q} hp hq h => ?_) pw
    rw [dataLe_eq] at h
    have h' : (!dataLt (encR (r q)) (encR (r p))) = true := h
    rw [encR_lt (hal q (pm.mem_iff.mp hq) p (pm.mem_iff.mp hp))] at h'
    cases e : ltRow (r q) (r p) with
    | false => rfl
    | true => rw [e] at h'; cases h'
  · rw [dataLe_eq] at h1 h2 ⊢
    have g1 : (!dataLt (encR (r b)) (encR (r a))) = true := h1
    have g2 : (!dataLt (encR (r c)) (encR (r b))) = true := h2
    show (!dataLt (encR (r c)) (encR (r a))) = true
    cases e : dataLt (encR (r c)) (encR (r a)) with
    | false => rfl
    | true =>
      rcases lex_negTrans _ (keyToks (encR (r b))) _ e with z | z
      · have z' : dataLt (encR (r c)) (encR (r b)) = true := z
        rw [z'] at g2; cases g2
      · have z' : dataLt (encR (r b)) (encR (r a)) = true := z
        rw [z'] at g1; cases g1
  · rw [dataLe_eq]
    show (!dataLt (encR (r b)) (encR (r a)) || !dataLt (encR (r a)) (encR (r b))) = true
    cases e1 : dataLt (encR (r b)) (encR (r a)) with
    | false => rfl
    | true =>
      cases e2 : dataLt (encR (r a)) (encR (r b)) with
      | false => rfl
      | true =>
        have := lex_trans _ _ _ e1 e2
        rw [lex_irrefl] at this; cases this
theorem cr_sortedD (hc : X.calm = true) (hu : X.A.units + 64 < cLine) : CallR X (.builtin "sorted") (rSortedD X.K) := by
  intro pins s σ H vs us Q I rv h
  obtain ⟨a, ps, r, rfl, hs, hr, hl, hne, hal, q⟩ := h
  obtain ⟨its, rv2, hl2, _⟩ := I.list hs
  rw [Vals.ref1 rv]
  have e := ref_vals rv2
  subst e
  obtain ⟨pm, pw⟩ := sort_rows ps r hal
  refine sorted_data (bs := ps) (enc := fun p => encR (r p)) (R := fun v p => v = Value.ref p) hl2.isList each_ref (each_all fun p hp => reads_row I (hr p hp)) ?_ (.inl ?_) (by rw [sizeLine_eq]; omega) (fun b _ => by rw [encR_depth]; omega) fun out ho he => ?_
  · intro d hd d' hd'
    obtain ⟨p, hp, rfl⟩ := List.mem_map.mp hd
    obtain ⟨p', hp', rfl⟩ := List.mem_map.mp hd'
    exact encR_alike (hal p hp p' hp')
  · intro d hd
    obtain ⟨p, hp, rfl⟩ := List.mem_map.mp hd
    cases hrp : r p with
    | nil => exact absurd hrp (hne p hp)
    | cons x t => exact ⟨x.d, t.map Sc.d, rfl⟩
  · have eo := ref_each he
    subst eo
    obtain ⟨ep, he'⟩ := PyProof.Rows.sortedAll_at s.heap (ps.map Value.ref) (List.toArray ((ps.mergeSort (dataLe false fun p => encR (r p))).map Value.ref))
    have hlen : ((ps.mergeSort (dataLe false fun p => encR (r p))).map V.ref).length ≤ sizeLine := by rw [List.length_map, pm.length_eq, sizeLine_eq]; omega
    exact ⟨.ref _, upd H (s.heap.objs.size + 1) (.lst ((ps.mergeSort (dataLe false fun p => encR (r p))).map V.ref)), I.laid (t' := s.toks) (fun _ _ => PyProof.Rows.sortedAll_old) (Nat.le_succ _) ⟨hlen, _, ep, vals_ref _, he'⟩, rfl, q _ _ pm pw (I.hok.fresh (Nat.le_succ _))⟩
end
end Cx2
end

section
set_option Elab.async false
set_option linter.all false
set_option maxRecDepth 100000
set_option maxHeartbeats 4000000
namespace Cx2
open PySem PySem.Spec PyProof.Rows L2 Ct PySem.W PySem.SeqAt
section
variable {X : Cx}
theorem op_gtD (hu : X.A.units + 64 < cLine) : OpR X (compareOp .Gt) (fun x y H Q => ∃ a b r t, x = .ref a ∧ y = .ref b ∧ SqT X.K H a (r.map Sc.v) ∧ SqT X.K H b (t.map Sc.v) ∧ r ≠ [] ∧ alikeR r t = true ∧ Q (.bl (ltRow t r)) H) := by
  intro pins s σ H x y v u Q I rx ry h
  obtain ⟨a, b, r, t, rfl, rfl, ha, hb, hne, hal, q⟩ := h
  cases rx
  cases ry
  obtain ⟨as, ra⟩ := reads_row I ha
  obtain ⟨bs, rb⟩ := reads_row I hb
  refine gt_data ra rb (encR_alike hal) (fun e => by cases e) ?_ ?_
  · rw [encR_depth, encR_depth]
    show X.A.units + 1 < cLine
    omega
  · have e1 : dataLt (encR t) (encR r) = ltRow t r := encR_lt (by
      have h1 := encR_alike hal
      have : ∀ {r t : List Sc}, alikeR r t = true → alikeR t r = true := by
        intro r
        induction r with
        | nil => intro t h; cases t with
          | nil => rfl
          | cons _ _ => cases h
        | cons x r ih => intro t h; cases t with
          | nil => cases x <;> cases h
          | cons y t => cases x <;> cases y <;> first | (cases h; done) | exact ih h
      exact this hal)
    rw [e1]
    exact ⟨.bl (ltRow t r), H, I, rfl, q⟩
/-- the greatest of data -/
theorem max_all {L : List PyData} : ∀ (x : PyData) (xs : List PyData), (∀ d ∈ xs, dataLt (maxD x xs) d = false) ∧ dataLt (maxD x xs) x = false
  | x, [] => ⟨fun d h => absurd h List.not_mem_nil, lex_irrefl _⟩
  | x, y :: xs => by
    have e : maxD x (y :: xs) = maxD (if dataLt x y then y else x) xs := rfl
    rw [e]
    obtain ⟨h1, h2⟩ := max_all (L := L) (if dataLt x y then y else x) xs
    have up : ∀ z, dataLt (if dataLt x y then y else x) z = false → dataLt (maxD (if dataLt x y then y else x) xs) z = false := fun z hz => by
      cases g : dataLt (maxD (if dataLt x y then y else x) xs) z with
      | false => rfl
      | true =>
        rcases lex_negTrans _ (keyToks (if dataLt x y then y else x)) _ g with w | w
        · have w' : dataLt (maxD (if dataLt x y then y else x) xs) (if dataLt x y then y else x) = true := w
          rw [h2] at w'; cases w'
        · have w' : dataLt (if dataLt x y then y else x) z = true := w
          rw [hz] at w'; cases w'
    refine ⟨fun d hd => ?_, ?_⟩
    · rcases List.mem_cons.mp hd with rfl | hd
      · refine up d ?_
        cases g : dataLt x d with
        | true => rw [if_pos rfl]; exact lex_irrefl _
        | false => rw [if_neg (by decide)]; exact g
      · exact h1 d hd
    · refine up x ?_
      cases g : dataLt x y with
      | true =>
        rw [if_pos rfl]
        cases w : dataLt y x with
        | false => rfl
        | true =>
          have := lex_trans _ _ _ g w
          rw [lex_irrefl] at this; cases this
      | false => rw [if_neg (by decide)]; exact lex_irrefl _
theorem max_mem : ∀ (x : PyData) (xs : List PyData), maxD x xs ∈ x :: xs
  | x, [] => by simp [maxD]
  | x, y :: xs => by
    have e : maxD x (y :: xs) = maxD (if dataLt x y then y else x) xs := rfl
    rw [e]
    have := max_mem (if dataLt x y then y else x) xs
    rcases List.mem_cons.mp this with h | h
    · rw [h]
      split <;> simp
    · exact List.mem_cons_of_mem _ (List.mem_cons_of_mem _ h)
theorem reads_all {h : Heap} {ps : List Addr} {r : Addr → List Sc} (hr : ∀ p ∈ ps, ∃ as, Reads h (.ref p) (encR (r p)) as) : ∃ as, ReadsAll h (ps.map Value.ref) (ps.map fun p => encR (r p)) as := by
  induction ps with
  | nil => exact ⟨_, .nil⟩
  | cons p ps ih =>
    obtain ⟨as, h1⟩ := hr p (by simp)
    obtain ⟨bs, h2⟩ := ih fun q hq => hr q (List.mem_cons_of_mem _ hq)
    exact ⟨_, .cons h1 h2⟩
theorem depths_le {ps : List Addr} {r : Addr → List Sc} : PyData.depthAll (ps.map fun p => encR (r p)) ≤ 1 := by
  induction ps with
  | nil => exact Nat.zero_le _
  | cons p ps ih =>
    show PyData.depthAll (encR (r p) :: ps.map fun p => encR (r p)) ≤ 1
    rw [PyData.depthAll, encR_depth]
    omega
theorem cr_maxT (hc : X.calm = true) (hu : X.A.units + 64 < cLine) : CallR X (.builtin "max") (rMaxT X.K) := by
  intro pins s σ H vs us Q I rv h
  obtain ⟨a, ps, r, rfl, hs, hr, hne0, hl, hne, hal, q⟩ := h
  obtain ⟨its, rv2, hl2, _⟩ := I.list hs
  rw [Vals.ref1 rv]
  have e := ref_vals rv2
  subst e
  cases ps with
  | nil => exact absurd rfl hne0
  | cons p0 ps =>
    obtain ⟨as, ra⟩ := reads_all (h := s.heap) (ps := p0 :: ps) (r := r) fun p hp => reads_row I (hr p hp)
    refine max_list_data (x := encR (r p0)) (xs := ps.map fun p => encR (r p)) (I.ok.hd hc) hl2.isList (by simpa using ra) ⟨?_, ?_⟩ ?_ fun i v h' tk bs hv hrd hk => ?_
    · intro d hd d' hd'
      have hd1 : d ∈ (p0 :: ps).map fun p => encR (r p) := hd
      have hd2 : d' ∈ (p0 :: ps).map fun p => encR (r p) := hd'
      obtain ⟨p, hp, rfl⟩ := List.mem_map.mp hd1
      obtain ⟨p', hp', rfl⟩ := List.mem_map.mp hd2
      exact encR_alike (hal p hp p' hp')
    · intro d hd
      have hd1 : d ∈ (p0 :: ps).map fun p => encR (r p) := hd
      obtain ⟨p, hp, rfl⟩ := List.mem_map.mp hd1
      exact fun e => by cases e
    · have := depths_le (ps := p0 :: ps) (r := r)
      have e2 : PyData.depthAll (encR (r p0) :: ps.map fun p => encR (r p)) ≤ 1 := this
      omega
    · have hv' : ((p0 :: ps).map Value.ref)[i]? = some v := by simpa using hv
      rw [List.getElem?_map] at hv'
      obtain ⟨p, hp, rfl⟩ := Option.map_eq_some_iff.mp hv'
      have hpm : p ∈ p0 :: ps := List.mem_of_getElem? hp
      obtain ⟨as2, r2⟩ := reads_row I (hr p hpm)
      have mm : maxD (encR (r p0)) (ps.map fun p => encR (r p)) ∈ (p0 :: ps).map fun p => encR (r p) := max_mem _ _
      obtain ⟨pm, hpm2, epm⟩ := List.mem_map.mp mm
      have eq : encR (r p) = maxD (encR (r p0)) (ps.map fun p => encR (r p)) := by
        rw [← epm] at hrd ⊢
        exact alike_unique _ _ _ _ _ (encR_alike (hal p hpm pm hpm2)) (PyProof.Rows.Reads.keeps hk r2) hrd
      refine ⟨.ref p, H, I.kept hk, rfl, q p hpm fun t ht => ?_⟩
      obtain ⟨m1, m2⟩ := max_all (L := []) (encR (r p0)) (ps.map fun p => encR (r p))
      rw [← eq] at m1 m2
      rw [← encR_lt (hal p hpm t ht)]
      rcases List.mem_cons.mp ht with rfl | ht
      · exact m2
      · exact m1 _ (List.mem_map_of_mem ht)
theorem strs_cmp {prog : Program} {w : World} {A : Around} {x y : Str} {t u : Tok} (op : CmpOp) (g : Str → Str → Bool) (hop : ∀ (x y : Str) (t u : Tok) (s : Shared) (Q E : Value → Shared → Prop), Q (.bool (g x y)) s → wpAny (model prog w) A (richCompare op (.str x t) (.str y u)) Q E s) :
    CmpOf prog w A op (fun i v => #[Value.str x t, Value.str y u][i]? = some v) (fun i j => g (if i = 0 then x else y) (if j = 0 then x else y)) := fun i j vi vj s Q E hi hj h => by
  have get : ∀ {i : Nat} {v : Value}, #[Value.str x t, Value.str y u][i]? = some v → ∃ t', v = .str (if i = 0 then x else y) t' := fun {i v} hi => by
    match i, hi with
    | 0, hi => exact ⟨t, (Option.some.inj hi).symm⟩
    | 1, hi => exact ⟨u, (Option.some.inj hi).symm⟩
    | n + 2, hi => simp at hi
  obtain ⟨t1, rfl⟩ := get hi
  obtain ⟨t2, rfl⟩ := get hj
  exact hop _ _ _ _ s Q E h
theorem rc_lt_str {prog : Program} {w : World} {A : Around} (x y : Str) (t u : Tok) (s : Shared) (Q E : Value → Shared → Prop) (h : Q (.bool (ltS x y)) s) : wpAny (model prog w) A (richCompare .Lt (.str x t) (.str y u)) Q E s :=
  richCompare_gives (op := .Lt) (typeIs_str s x t) (typeIs_str s y u) PySem.F.slot_str_lt PySem.F.entry_str_lt (PySem.F.args_str_lt_2 _ _) (gives_str_lt x y t u) (fun e => nomatch e) h
theorem rc_gt_str {prog : Program} {w : World} {A : Around} (x y : Str) (t u : Tok) (s : Shared) (Q E : Value → Shared → Prop) (h : Q (.bool (ltS y x)) s) : wpAny (model prog w) A (richCompare .Gt (.str x t) (.str y u)) Q E s :=
  richCompare_gives (op := .Gt) (typeIs_str s x t) (typeIs_str s y u) PySem.F.slot_str_gt PySem.F.entry_str_gt (PySem.F.args_str_gt_2 _ _) (gives_str_gt x y t u) (fun e => nomatch e) h
theorem min_strs {prog : Program} {w : World} {A : Around} {E : Value → Shared → Prop} {s : Shared} {Q : Value → Shared → Prop} {x y : Str} {t u : Tok} (hh : A.handled = none)
    (h : ∀ h' tk v, (∃ t', v = .str (if ltS y x then y else x) t') → (∀ c o, s.heap.get? c = some o → h'.get? c = some o) → Q v { s with heap := h', toks := tk }) :
    wpAny (model prog w) A (call (.builtin "min") [.str x t, .str y u]) Q E s := by
  have hT : (s.heap.push { cls := .type "tuple", data := .seq #[.str x t, .str y u] }).IsTuple s.heap.objs.size #[.str x t, .str y u] := ⟨_, Heap.get?_push_size _ rfl, rfl, 0, rfl⟩
  refine call_min_two (wpAny_pyIter_tuple hT ?_)
  have hsz : (s.heap.push { cls := .type "tuple", data := .seq #[.str x t, .str y u] }).objs.size = s.heap.objs.size + 1 := Heap.size_push ..
  refine ⟨_, [_, s.heap.objs.size], [_], _, _, _, _, rfl, Walks.tuple (A := A.in1) hh _ s.heap.objs.size (by rw [hsz]; exact Nat.ne_of_lt (Nat.lt_succ_self _)) #[.str x t, .str y u],
    ⟨⟨_, Heap.get?_push_size _ rfl, rfl, rfl⟩, hT.push _⟩, fun c hc => ?_, by simp, strs_cmp .Lt ltS fun x y t u s Q E h => rc_lt_str x y t u s Q E h, fun v h' tk hP hk => ?_⟩
  · show c < ((s.heap.push _).push _).objs.size
    rw [Heap.size_push, hsz]
    rcases List.mem_cons.mp hc with rfl | hc
    · rw [hsz]; exact Nat.lt_succ_self _
    · rcases List.mem_cons.mp hc with rfl | hc
      · exact Nat.lt_succ_of_lt (Nat.lt_succ_self _)
      · cases hc
  · refine h h' tk v ?_ fun c o e => ?_
    · cases hc : ltS y x with
      | true =>
        have e1 : (#[Value.str x t, Value.str y u] : Array Value)[1]? = some v := by simpa [argBest, hc] using hP
        exact ⟨u, (Option.some.inj e1).symm⟩
      | false =>
        have e1 : (#[Value.str x t, Value.str y u] : Array Value)[0]? = some v := by simpa [argBest, hc] using hP
        exact ⟨t, (Option.some.inj e1).symm⟩
    · refine hk c o (fun hm => ?_) (Heap.get?_push_of_some _ (Heap.get?_push_of_some _ e))
      rcases List.mem_cons.mp hm with e1 | hm
      · have := Heap.lt_size e; rw [e1, hsz] at this; exact Nat.lt_irrefl _ (Nat.lt_of_succ_lt this)
      · cases hm
theorem max_strs {prog : Program} {w : World} {A : Around} {E : Value → Shared → Prop} {s : Shared} {Q : Value → Shared → Prop} {x y : Str} {t u : Tok} (hh : A.handled = none)
    (h : ∀ h' tk v, (∃ t', v = .str (if ltS x y then y else x) t') → (∀ c o, s.heap.get? c = some o → h'.get? c = some o) → Q v { s with heap := h', toks := tk }) :
    wpAny (model prog w) A (call (.builtin "max") [.str x t, .str y u]) Q E s := by
  have hT : (s.heap.push { cls := .type "tuple", data := .seq #[.str x t, .str y u] }).IsTuple s.heap.objs.size #[.str x t, .str y u] := ⟨_, Heap.get?_push_size _ rfl, rfl, 0, rfl⟩
  refine call_max_two (wpAny_pyIter_tuple hT ?_)
  have hsz : (s.heap.push { cls := .type "tuple", data := .seq #[.str x t, .str y u] }).objs.size = s.heap.objs.size + 1 := Heap.size_push ..
  refine ⟨_, [_, s.heap.objs.size], [_], _, _, _, _, rfl, Walks.tuple (A := A.in1) hh _ s.heap.objs.size (by rw [hsz]; exact Nat.ne_of_lt (Nat.lt_succ_self _)) #[.str x t, .str y u],
    ⟨⟨_, Heap.get?_push_size _ rfl, rfl, rfl⟩, hT.push _⟩, fun c hc => ?_, by simp, strs_cmp .Gt (fun a b => ltS b a) fun x y t u s Q E h => rc_gt_str x y t u s Q E h, fun v h' tk hP hk => ?_⟩
  · show c < ((s.heap.push _).push _).objs.size
    rw [Heap.size_push, hsz]
    rcases List.mem_cons.mp hc with rfl | hc
    · rw [hsz]; exact Nat.lt_succ_self _
    · rcases List.mem_cons.mp hc with rfl | hc
      · exact Nat.lt_succ_of_lt (Nat.lt_succ_self _)
      · cases hc
  · refine h h' tk v ?_ fun c o e => ?_
    · cases hc : ltS x y with
      | true =>
        have e1 : (#[Value.str x t, Value.str y u] : Array Value)[1]? = some v := by simpa [argBest, hc] using hP
        exact ⟨u, (Option.some.inj e1).symm⟩
      | false =>
        have e1 : (#[Value.str x t, Value.str y u] : Array Value)[0]? = some v := by simpa [argBest, hc] using hP
        exact ⟨t, (Option.some.inj e1).symm⟩
    · refine hk c o (fun hm => ?_) (Heap.get?_push_of_some _ (Heap.get?_push_of_some _ e))
      rcases List.mem_cons.mp hm with e1 | hm
      · have := Heap.lt_size e; rw [e1, hsz] at this; exact Nat.lt_irrefl _ (Nat.lt_of_succ_lt this)
      · cases hm
theorem call_min2S (hc : X.calm = true) : CallR X (.builtin "min") (fun xs H Q => ∃ i j, xs = [.str i, .str j] ∧ Q (.str (if ltS j i then j else i)) H) := by
  intro pins s σ H xs us Q I r h
  obtain ⟨i, j, rfl, q⟩ := h
  obtain ⟨u, w', rfl, ⟨t, rfl⟩, ⟨t', rfl⟩⟩ := vals2 r
  exact min_strs (I.ok.hd hc) fun h' tk v ⟨t2, ev⟩ k => ⟨.str (if ltS j i then j else i), H, I.kept k, ⟨t2, ev⟩, q⟩
theorem call_max2S (hc : X.calm = true) : CallR X (.builtin "max") (fun xs H Q => ∃ i j, xs = [.str i, .str j] ∧ Q (.str (if ltS i j then j else i)) H) := by
  intro pins s σ H xs us Q I r h
  obtain ⟨i, j, rfl, q⟩ := h
  obtain ⟨u, w', rfl, ⟨t, rfl⟩, ⟨t', rfl⟩⟩ := vals2 r
  exact max_strs (I.ok.hd hc) fun h' tk v ⟨t2, ev⟩ k => ⟨.str (if ltS i j then j else i), H, I.kept k, ⟨t2, ev⟩, q⟩
end
end Cx2
end

section
set_option Elab.async false
set_option linter.all false
set_option maxRecDepth 100000
set_option maxHeartbeats 4000000
namespace Cx2
open PySem PySem.Spec PyProof.Rows L2 Ct PySem.W PySem.SeqAt
section
variable {X : Cx}
theorem pe_values {e : Expr} {td : TE} {apos cpos : Pos} (he : PE X e td) (hbase : attributeBase e "values" X.env (eval e X.env) = eval e X.env := by rfl) (hline : (apos.endLine == cpos.line) = true := by rfl) :
    PE X (.Call (.Attribute e "values" apos) [] [] cpos) (tVals td) := by
  refine ⟨fun pins s σ H Q I h => ?_⟩
  refine wpAny_Call_method (T := "dict") (id := "dict.values") hbase rfl hline PySem.F.plainAttrs_dict PySem.F.slot_dict_values PySem.F.type_dict_values (thn (he.run pins s σ H _ I h) fun u s1 ⟨x, H1, I1, rx, d, kvs, ex, hd, q⟩ => ?_)
  subst ex
  obtain rfl : u = Value.ref d := rx
  obtain ⟨z, hsys, vs, rel, dd⟩ := dk_rd I1.hok hd
  refine ⟨dd.typeIs, dd.mapOf.noDict, ?_⟩
  show wpAny _ _ (callWith cpos (.builtin "dict.values") [.ref d] [] []) _ X.xe s1
  refine method_meetsIn PySem.F.slot_dict_values PySem.F.entry_dict_values rfl (PySem.evalArgs_none ⟨rfl, dd.typeIs, PySem.F.args_dict_values_1 _, _, meets_dict_values (mixKind X.prog X.w) d hsys, ⟨vs, dd⟩, ?_⟩)
  exact ⟨.ref s1.heap.objs.size, upd H1 s1.heap.objs.size (.ext (viewOf s1.heap.objs.size d)), I1.laid (t' := s1.toks) (fun _ _ e => Heap.get?_push_of_some _ e) (Nat.le_refl _)
    ⟨⟨_, Heap.get?_push_size _ rfl, rfl, rfl⟩, ⟨_, Heap.get?_push_size _ rfl⟩, fun h1 h2 ⟨o, ho, r⟩ k => ⟨o, k o ho, r⟩⟩, rfl, q _ (I1.hok.fresh (Nat.le_refl _))⟩
end
end Cx2
end

section
set_option Elab.async false
set_option linter.all false
set_option maxRecDepth 100000
set_option maxHeartbeats 4000000
namespace Cx2
open PySem PySem.Spec PyProof.Rows L2 Ct PySem.W PySem.SeqAt
/-! ### a row of a tie's price in a heap -/
def RowAt (h : Heap) (p : Addr) (T : Tie) : Prop := ∃ its : List Value, Vals (T.pr.map Sc.v) its ∧ IsTup h p its.toArray
theorem RowAt.keep {h h' : Heap} {p : Addr} {T : Tie} (r : RowAt h p T) (k : ∀ o, h.get? p = some o → h'.get? p = some o) : RowAt h' p T := by
  obtain ⟨its, hv, o, ho, z⟩ := r
  exact ⟨its, hv, o, k o ho, z⟩
theorem RowAt.reads {h : Heap} {p : Addr} {T : Tie} (r : RowAt h p T) : ∃ as, Reads h (.ref p) (encR T.pr) as := by
  obtain ⟨its, hv, o, ho, hc, n, hd⟩ := r
  obtain ⟨v1, v2, rfl, ⟨t1, rfl⟩, ⟨t2, rfl⟩⟩ := vals2 (x := V.int T.c) (y := V.str T.n) hv
  exact ⟨_, Reads.tuple ho hc hd (.cons (.int T.c t1) (.cons (.str T.n t2) .nil))⟩
theorem pr_alike (T U : Tie) : alikeR T.pr U.pr = true := rfl
theorem RowAt.same {h : Heap} {p : Addr} {T U : Tie} (a : RowAt h p T) (b : RowAt h p U) : T.pr = U.pr := by
  obtain ⟨as, r⟩ := a.reads
  obtain ⟨bs, r'⟩ := b.reads
  have e := alike_unique _ _ _ _ _ (encR_alike (pr_alike T U)) r r'
  have e2 : [PyData.int T.c, PyData.str T.n] = [PyData.int U.c, PyData.str U.n] := by injection e
  injection e2 with e3 e4
  injection e3 with e5
  injection e4 with e6
  injection e6 with e7
  show [Sc.i T.c, Sc.s T.n] = [Sc.i U.c, Sc.s U.n]
  rw [e5, e7]
theorem RowAt.to {h : Heap} {p : Addr} {T U : Tie} (a : RowAt h p T) (e : T.pr = U.pr) : RowAt h p U := by
  obtain ⟨its, hv, z⟩ := a
  exact ⟨its, e ▸ hv, z⟩
/-! ### the order of prices -/
theorem pr_enc (T U : Tie) : dataLt (encR T.pr) (encR U.pr) = prLt T U := encR_lt (pr_alike T U)
theorem pr_irrefl (T : Tie) : prLt T T = false := by rw [← pr_enc]; exact lex_irrefl _
theorem pr_trans {T U W : Tie} (a : prLt T U = true) (b : prLt U W = true) : prLt T W = true := by
  rw [← pr_enc] at a b ⊢
  exact lex_trans _ _ _ a b
theorem best_all {bt : Nat → Nat → Bool} (hi : ∀ i, bt i i = false) (ht : ∀ i j k, bt i j = true → bt j k = true → bt i k = true) : ∀ k, argBest bt k ≤ k ∧ ∀ j, j ≤ k → bt j (argBest bt k) = false
  | 0 => ⟨Nat.le_refl _, fun j hj => by
      obtain rfl : j = 0 := by omega
      exact hi 0⟩
  | k + 1 => by
    obtain ⟨h1, h2⟩ := best_all hi ht k
    cases g : bt (k + 1) (argBest bt k) with
    | true =>
      have e : argBest bt (k + 1) = k + 1 := by rw [argBest, g]; rfl
      rw [e]
      refine ⟨Nat.le_refl _, fun j hj => ?_⟩
      by_cases hk : j = k + 1
      · rw [hk]; exact hi _
      · cases w : bt j (k + 1) with
        | false => rfl
        | true =>
          have := ht _ _ _ w g
          rw [h2 j (by omega)] at this; cases this
    | false =>
      have e : argBest bt (k + 1) = argBest bt k := by rw [argBest, g]; rfl
      rw [e]
      refine ⟨by omega, fun j hj => ?_⟩
      by_cases hk : j = k + 1
      · rw [hk]; exact g
      · exact h2 j (by omega)
/-! ### the key's turns -/
section
variable {X : Cx}
def KJ (X : Cx) (pins : List (Addr × Obj)) (σ : L2.St) (H : Hp) (S I : Addr) (s : Shared) : Prop :=
  ∃ H1, Inv X pins σ H1 s ∧ Same H H1 ∧ (∀ b o, H1 b = some o → H b = some o ∨ ∃ T : Tie, o = .tup (T.pr.map Sc.v)) ∧ FpOk X pins H1 S ∧ FpOk X pins H1 I
def KW (X : Cx) (H : Hp) (S I : Addr) (ts : List Tie) (i : Nat) (k : Value) (s : Shared) : Prop :=
  ∃ p T, k = .ref p ∧ ts[i]? = some T ∧ H p = none ∧ p ∉ frs X.stack ∧ p ≠ S ∧ p ≠ I ∧ RowAt s.heap p T
theorem FpOk.nstk {pins : List (Addr × Obj)} {σ : L2.St} {H : Hp} {s : Shared} {b : Addr} (I : Inv X pins σ H s) (f : FpOk X pins H b) : b ∉ frs X.stack := fun hb =>
  (List.mem_cons.mp (I.stkSub b hb)).elim (fun e => f.2.1 e) fun e => f.2.2.1 e
theorem KJ.moved {pins : List (Addr × Obj)} {σ : L2.St} {H : Hp} {S I : Addr} {s s' : Shared} (j : KJ X pins σ H S I s) (m : Moved [S, I] (fun a b => b = a) s s') : KJ X pins σ H S I s' := by
  obtain ⟨H1, J, sm, cl, f1, f2⟩ := j
  refine ⟨H1, ?_, sm, cl, f1, f2⟩
  have J' := J.turnedL (h' := s'.heap) (t' := s'.toks) (ch := [S, I]) (fun b o hb e => m.heap b o hb e) fun b hb => by
    rcases List.mem_cons.mp hb with rfl | hb
    · exact f1
    · rw [List.mem_singleton.mp hb]; exact f2
  obtain ⟨hp, g, d, tk, os⟩ := s'
  obtain rfl : g = s.gens := m.gens
  obtain rfl : d = s.drawn := m.drawn
  obtain rfl : os = s.os := m.os
  exact J'
theorem KW.moved {H : Hp} {S I : Addr} {ts : List Tie} {i : Nat} {k : Value} {s s' : Shared} {G : Array GenState → Array GenState → Prop} (j : KW X H S I ts i k s) (m : Moved [S, I] G s s') : KW X H S I ts i k s' := by
  obtain ⟨p, T, rfl, ht, hn, hf, h1, h2, r⟩ := j
  exact ⟨p, T, rfl, ht, hn, hf, h1, h2, r.keep fun o ho => m.heap p o (by simp [h1, h2]) ho⟩
theorem key_turn {pins : List (Addr × Obj)} {σ : L2.St} {H : Hp} {S I l : Addr} {f : Addr} {fd : FuncData} {k : Nat} {ps : List Addr} {ts : List Tie} (hr : Room (k + 3) X.A) (G : FnOk X.prog X.w X.K X.mg X.base CX0 k f fd ["tie"] spPrice) (hb : Binds X.K fd ["tie"] [])
    (hl : SqL X.K H l (ps.map V.ref)) (hp : Paired (TieAt H) ps ts) (i n : Nat) (v : Value) (s : Shared) (o : Obj) (Q : Value → Shared → Prop) (E : Value → Shared → Prop) (hv : (ps.map Value.ref).toArray[i]? = some v) (j : KJ X pins σ H S I s)
    (hst : s.heap.IsListIter I l n ∧ s.heap.IsList l (ps.map Value.ref).toArray) (hS : s.heap.get? S = some o)
    (q : ∀ k s', KJ X pins σ H S I s' → (s'.heap.IsListIter I l n ∧ s'.heap.IsList l (ps.map Value.ref).toArray) → s'.heap.get? S = some o → KW X H S I ts i k s' → (∀ j k', KW X H S I ts j k' s → KW X H S I ts j k' s') → Q k s') :
    wpAny (model X.prog X.w) X.A.in1 (call (.ref f) [v]) Q E s := by
  obtain ⟨H1, J, sm, cl, f1, f2⟩ := j
  have hv' : (ps.map Value.ref)[i]? = some v := by simpa using hv
  rw [List.getElem?_map] at hv'
  obtain ⟨p, hpi, rfl⟩ := Option.map_eq_some_iff.mp hv'
  have get : ∀ {ps : List Addr} {ts : List Tie} {i : Nat} {p : Addr}, Paired (TieAt H) ps ts → ps[i]? = some p → ∃ T, ts[i]? = some T ∧ TieAt H p T := by
    intro ps ts i p h
    induction h generalizing i with
    | nil => intro e; cases i <;> simp at e
    | cons a t ih =>
      intro e
      cases i with
      | zero =>
        simp only [List.getElem?_cons_zero] at e ⊢
        cases e
        exact ⟨_, rfl, a⟩
      | succ i =>
        simp only [List.getElem?_cons_succ] at e ⊢
        exact ih e
  obtain ⟨T, hT, hTa⟩ := get hp hpi
  have h : spPrice ([V.ref p] ++ []) H1 (fun v H2 => ∃ b, v = .ref b ∧ H1 b = none ∧ H2 = upd H1 b (.tup (T.pr.map Sc.v))) (fun _ _ _ => False) :=
    ⟨p, T, rfl, sm _ _ hTa, fun b hb => ⟨b, rfl, hb, rfl⟩⟩
  have hr1 : Room k X.A.in1 := (hr.mono (by omega : k + 1 ≤ k + 3)).in1
  refine wpAny_call (codeAny_mono (G.run X.A.in1 X.stack s H1 ⟨[.ref p], []⟩ ([Value.ref p] ++ []) ([V.ref p] ++ []) _ _ hr1 J.env0.in1 (hb s [Value.ref p] J.kIn rfl) (show Vals ([V.ref p] ++ []) ([Value.ref p] ++ []) from .cons (show RelV (.ref p) (.ref p) from rfl) .nil) h) fun r s' hq => ?_)
  cases r with
  | error e => exact hq.elim
  | ok fl =>
    cases fl with
    | next => exact False.elim hq
    | brk => exact False.elim hq
    | cont => exact False.elim hq
    | ret u =>
      obtain ⟨v, H', os, bare, un, hok, rv, b, rfl, hbn, rfl⟩ := hq
      obtain rfl : u = .ref b := rv
      have J' : Inv X pins σ (upd H1 b (.tup (T.pr.map Sc.v))) s' := J.call' os un hok bare (by simp)
      have sm' : Same H1 (upd H1 b (.tup (T.pr.map Sc.v))) := fun c u e => by rw [upd_ne (ne_of_none e hbn)]; exact e
      obtain ⟨⟨oI, hoI, zI⟩, _⟩ := hst
      have nS : upd H1 b (.tup (T.pr.map Sc.v)) S = none := un.free S o hS f1.1 (by simp)
      have nI : upd H1 b (.tup (T.pr.map Sc.v)) I = none := un.free I oI hoI f2.1 (by simp)
      have bS : b ≠ S := fun e => by rw [← e, upd_same] at nS; cases nS
      have bI : b ≠ I := fun e => by rw [← e, upd_same] at nI; cases nI
      have row : ∀ {c : Addr} {U : Tie} {H' : Hp} {s' : Shared}, Inv X pins σ H' s' → H' c = some (.tup (U.pr.map Sc.v)) → RowAt s'.heap c U := fun J e => (J.hok _ _ e).2
      refine q (.ref b) s' ⟨_, J', sm.trans sm', fun c u e => ?_, ⟨nS, f1.2⟩, ⟨nI, f2.2⟩⟩ ⟨⟨oI, un.keep I oI hoI f2.1 (FpOk.nstk J f2) (by simp), zI⟩, ?_⟩ (un.keep S o hS f1.1 (FpOk.nstk J f1) (by simp)) ⟨b, T, rfl, hT, sm.free hbn, fun z => ?_, bS, bI, row J' (upd_same ..)⟩ ?_
      · by_cases hc : c = b
        · subst hc
          rw [upd_same] at e
          cases e
          exact .inr ⟨T, rfl⟩
        · rw [upd_ne hc] at e
          exact cl c u e
      · obtain ⟨its, rv2, hl2, _⟩ := J'.list ((sm.trans sm').seq hl)
        have e := ref_vals rv2
        subst e
        exact hl2.isList
      · have := J'.stkFree b z
        rw [upd_same] at this; cases this
      · rintro j k' ⟨c, U, rfl, hU, hcn, hcf, h1, h2, rU⟩
        refine ⟨c, U, rfl, hU, hcn, hcf, h1, h2, ?_⟩
        cases hc : H1 c with
        | none => exact rU.keep fun oc ho => un.keep c oc ho hc hcf (by simp)
        | some u =>
          rcases cl c u hc with z | ⟨W, rfl⟩
          · rw [hcn] at z; cases z
          · have r1 : RowAt s.heap c W := row J hc
            have r2 : RowAt s'.heap c W := row J' (sm' _ _ hc)
            exact r2.to (r1.same rU)
def dT : Tie := ⟨"", "", "", 0⟩
theorem pair_len {α β : Type} {R : α → β → Prop} : ∀ {ps : List α} {ts : List β}, Paired R ps ts → ps.length = ts.length
  | _, _, .nil => rfl
  | _, _, .cons _ t => by rw [List.length_cons, List.length_cons, pair_len t]
theorem getD_of {ts : List Tie} {i : Nat} {T : Tie} (h : ts[i]? = some T) : ts.getD i dT = T := by rw [List.getD_eq_getElem?_getD, h]; rfl
theorem cr_minK {f : Addr} {fd : FuncData} {k : Nat} (hc : X.calm = true) (hr : Room (k + 3) X.A) (G : FnOk X.prog X.w X.K X.mg X.base CX0 k f fd ["tie"] spPrice) (hb : Binds X.K fd ["tie"] []) :
    CallRK X (.builtin "min") [Str.ofString "key", Str.ofString "default"] (rMinK X.K f) := by
  intro pins s σ H vs zs us ws Q I rv rz h
  obtain ⟨l, ps, ts, rfl, rfl, hs, hp, hlen, q⟩ := h
  obtain ⟨its, rv2, hl2, _⟩ := I.list hs
  rw [Vals.ref1 rv]
  obtain ⟨w1, w2, rfl, e1, e2⟩ := vals2 rz
  obtain rfl : w1 = .ref f := e1
  obtain rfl : w2 = Value.none := e2
  have e := ref_vals rv2
  subst e
  have hplen := pair_len hp
  refine call_min_walkKD (iter_listW (I.ok.hd hc) hl2.isList fun s₂ e2 W hst hfp hnw hk => ?_)
  have J2 : Inv X pins σ H s₂ := by
    rw [e2]
    exact I.kept (t' := s.toks) fun b o e => Heap.get?_push_of_some _ e
  have fI : FpOk X pins H s.heap.objs.size := I.fpOk (Nat.le_refl _) (I.hok.fresh (Nat.le_refl _))
  have fS : FpOk X pins H s₂.heap.objs.size := J2.fpOk (Nat.le_refl _) (J2.hok.fresh (Nat.le_refl _))
  refine ⟨s.heap.objs.size, _, _, _, _, _, _, KJ X pins σ H s₂.heap.objs.size s.heap.objs.size, KW X H s₂.heap.objs.size s.heap.objs.size ts, fun i j => prLt (ts.getD i dT) (ts.getD j dT), rfl, W, hst, hfp, ?_, ⟨H, J2, Same.refl _, fun b o e => .inl e, fS, fI⟩, ?_, ?_⟩
  · refine ⟨fun s s' j m => j.moved m, fun i k s s' j m => j.moved m, fun i v s o Q E hi hP j hst hS q => key_turn hr G hb hs hp i (i + 1) v s o Q E hP j hst hS q, fun i j ki kj s Q E hj hi' hj' hq => ?_⟩
    obtain ⟨p, T, rfl, hT, _, _, _, _, r1⟩ := hi'
    obtain ⟨p', T', rfl, hT', _, _, _, _, r2⟩ := hj'
    obtain ⟨as, r1⟩ := r1.reads
    obtain ⟨bs, r2⟩ := r2.reads
    refine rcLt_alike _ _ X.A.in1 s _ _ _ _ r1 r2 (encR_alike (pr_alike T T')) (fun e => by cases e) ?_ X.prog X.w E Q ?_
    · rw [encR_depth, encR_depth]
      have := (hr.mono (by omega : 0 + 1 ≤ k + 3)).in1.units
      omega
    · rw [pr_enc]
      simp only [getD_of hT, getD_of hT'] at hq
      exact hq
  · intro hn s' ⟨H1, J1, sm, _⟩
    have : ts = [] := List.eq_nil_of_length_eq_zero (by rw [← hplen]; simpa using hn)
    exact ⟨.non, H1, J1, rfl, (q H1 sm).1 this⟩
  · intro hn v s' hP ⟨H1, J1, sm, _⟩
    have hsz : (ps.map Value.ref).toArray.size = ts.length := by simp [hplen]
    rw [hsz] at hP hn
    have hv' : (ps.map Value.ref)[argBest (fun i j => prLt (ts.getD i dT) (ts.getD j dT)) (ts.length - 1)]? = some v := by simpa using hP
    rw [List.getElem?_map] at hv'
    obtain ⟨p, hpi, rfl⟩ := Option.map_eq_some_iff.mp hv'
    obtain ⟨b1, b2⟩ := best_all (bt := fun i j => prLt (ts.getD i dT) (ts.getD j dT)) (fun i => pr_irrefl _) (fun i j k a b => pr_trans a b) (ts.length - 1)
    refine ⟨.ref p, H1, J1, rfl, (q H1 sm).2 _ p (ts.getD (argBest (fun i j => prLt (ts.getD i dT) (ts.getD j dT)) (ts.length - 1)) dT) hpi ?_ fun u hu => ?_⟩
    · rw [List.getD_eq_getElem?_getD, List.getElem?_eq_getElem (by omega)]; rfl
    · obtain ⟨j, hj, rfl⟩ := List.mem_iff_getElem.mp hu
      have := b2 j (by omega)
      rw [getD_of (List.getElem?_eq_getElem hj)] at this
      exact this
theorem cr_maxK {f : Addr} {fd : FuncData} {k : Nat} (hc : X.calm = true) (hr : Room (k + 3) X.A) (G : FnOk X.prog X.w X.K X.mg X.base CX0 k f fd ["tie"] spPrice) (hb : Binds X.K fd ["tie"] []) :
    CallRK X (.builtin "max") [Str.ofString "key"] (rMaxK X.K f) := by
  intro pins s σ H vs zs us ws Q I rv rz h
  obtain ⟨l, ps, ts, rfl, rfl, hs, hp, hpos, hlen, q⟩ := h
  obtain ⟨its, rv2, hl2, _⟩ := I.list hs
  rw [Vals.ref1 rv]
  obtain ⟨w1, rfl, e1⟩ := vals1 rz
  obtain rfl : w1 = .ref f := e1
  have e := ref_vals rv2
  subst e
  have hplen := pair_len hp
  have hsz : (ps.map Value.ref).toArray.size = ts.length := by simp [hplen]
  refine call_max_walkK (iter_listW (I.ok.hd hc) hl2.isList fun s₂ e2 W hst hfp hnw hk => ?_)
  have J2 : Inv X pins σ H s₂ := by
    rw [e2]
    exact I.kept (t' := s.toks) fun b o e => Heap.get?_push_of_some _ e
  have fI : FpOk X pins H s.heap.objs.size := I.fpOk (Nat.le_refl _) (I.hok.fresh (Nat.le_refl _))
  have fS : FpOk X pins H s₂.heap.objs.size := J2.fpOk (Nat.le_refl _) (J2.hok.fresh (Nat.le_refl _))
  refine ⟨s.heap.objs.size, _, _, _, _, _, _, KJ X pins σ H s₂.heap.objs.size s.heap.objs.size, KW X H s₂.heap.objs.size s.heap.objs.size ts, fun i j => prLt (ts.getD j dT) (ts.getD i dT), rfl, W, hst, hfp, by rw [hsz]; exact hpos, ?_, ⟨H, J2, Same.refl _, fun b o e => .inl e, fS, fI⟩, ?_⟩
  · refine ⟨fun s s' j m => j.moved m, fun i k s s' j m => j.moved m, fun i v s o Q E hi hP j hst hS q => key_turn hr G hb hs hp i (i + 1) v s o Q E hP j hst hS q, fun i j ki kj s Q E hj hi' hj' hq => ?_⟩
    obtain ⟨p, T, rfl, hT, _, _, _, _, r1⟩ := hi'
    obtain ⟨p', T', rfl, hT', _, _, _, _, r2⟩ := hj'
    obtain ⟨as, r1⟩ := r1.reads
    obtain ⟨bs, r2⟩ := r2.reads
    refine rcGt_alike _ _ X.A.in1 s _ _ _ _ r1 r2 (encR_alike (pr_alike T T')) (fun e => by cases e) ?_ X.prog X.w E Q ?_
    · rw [encR_depth, encR_depth]
      have := (hr.mono (by omega : 0 + 1 ≤ k + 3)).in1.units
      omega
    · rw [pr_enc]
      simp only [getD_of hT, getD_of hT'] at hq
      exact hq
  · intro v s' hP ⟨H1, J1, sm, _⟩
    rw [hsz] at hP
    have hv' : (ps.map Value.ref)[argBest (fun i j => prLt (ts.getD j dT) (ts.getD i dT)) (ts.length - 1)]? = some v := by simpa using hP
    rw [List.getElem?_map] at hv'
    obtain ⟨p, hpi, rfl⟩ := Option.map_eq_some_iff.mp hv'
    obtain ⟨b1, b2⟩ := best_all (bt := fun i j => prLt (ts.getD j dT) (ts.getD i dT)) (fun i => pr_irrefl _) (fun i j k a b => pr_trans b a) (ts.length - 1)
    refine ⟨.ref p, H1, J1, rfl, q H1 sm _ p (ts.getD (argBest (fun i j => prLt (ts.getD j dT) (ts.getD i dT)) (ts.length - 1)) dT) hpi ?_ fun u hu => ?_⟩
    · rw [List.getD_eq_getElem?_getD, List.getElem?_eq_getElem (by omega)]; rfl
    · obtain ⟨j, hj, rfl⟩ := List.mem_iff_getElem.mp hu
      have := b2 j (by omega)
      rw [getD_of (List.getElem?_eq_getElem hj)] at this
      exact this
end
end Cx2
end

section
set_option Elab.async false
set_option linter.all false
set_option maxRecDepth 100000
set_option maxHeartbeats 4000000
namespace Cx2
open PySem PySem.Spec PyProof.Rows L2 Ct PySem.W PySem.SeqAt
theorem turn_zipSL {P : Program} {w : World} {K : PySem.W.Frag} {elts : List Expr} {kk : Nat} {tpos : Pos} {x : Str} {t : Tok} {b z TI TO i1 i2 : Addr} (D : ZipSep2 z TI TO i1 i2 [i1] [i2, b]) (hb : b ≠ i2) :
    Turn P w K (.Tuple elts kk tpos) (Itsl K x b) [z, TI, TO, i1, i2] z (fun i h => IsZip h z TI TO .none ∧ IsTupOf2 h TI (.ref i1) (.ref i2) ∧ (∃ x y, IsTupOf2 h TO x y) ∧ h.IsStrIter i1 (strIterType x) x t i ∧ h.IsListIter i2 b i ∧ i ≤ x.cps.size) where
  mem := by simp
  obj := fun i h st c hc => by
    obtain ⟨hz, hTI, ⟨x, y, hTO⟩, ⟨o1, e1, _, d1⟩, ⟨o2, e2, _, d2⟩, _⟩ := st
    have e' : c = z ∨ c = TI ∨ c = TO ∨ c = i1 ∨ c = i2 := by simpa using hc
    rcases e' with q | q | q | q | q
    · rw [q]; exact ⟨_, hz, fun v q => nomatch q⟩
    · rw [q]; exact ⟨_, hTI, fun v q => nomatch q⟩
    · rw [q]; exact ⟨_, hTO, fun v q => nomatch q⟩
    · rw [q]; exact ⟨o1, e1, fun v q => by rw [d1] at q; cases q⟩
    · rw [q]; exact ⟨o2, e2, fun v q => by rw [d2] at q; cases q⟩
  keep := fun i h h' st k => by
    obtain ⟨hz, hTI, ⟨x, y, hTO⟩, ⟨o1, e1, z1⟩, h2, hi⟩ := st
    exact ⟨k z (by simp) _ hz, k TI (by simp) _ hTI, ⟨x, y, k TO (by simp) _ hTO⟩, ⟨o1, k i1 (by simp) o1 e1, z1⟩, h2.at fun o q => k i2 (by simp) o q, hi⟩
  item := by
    intro X hP hw hK hc i pins s σ H E I hf st hg
    subst hP hw hK
    obtain ⟨hz, hTI, ⟨x0, y0, hTO⟩, h1, h2, hi⟩ := st
    obtain ⟨ys, hqy, hlt1, hlt2⟩ := hg
    obtain ⟨its2, rv2, p2, _⟩ := I.list hqy
    have l2 := rv2.length
    have hzl : z < s.heap.objs.size := Heap.lt_size hz
    have D1 := Draws.text (prog := X.prog) (w := X.w) (A := X.A.in1) (I.ok.hd hc) i1 x t
    have D2 := Draws.list (prog := X.prog) (w := X.w) (A := X.A.in1) (I.ok.hd hc) i2 b hb its2.toArray
    refine wpAny_pyNext_zipD2_item D D1 D2 hz hTI hTO h1 ⟨h2, p2.isList⟩ hlt1 (by simp; omega) fun x1 x2 h' tk y1 y2 z' TO' h1' h2' hT hsz hk => ?_
    obtain ⟨c, u1, hc1, rfl⟩ := y1
    refine ⟨_, rfl, wpAny_letOwnedTupleGo_zip (s := { s with heap := h', toks := tk }) z' fun h'' z'' sb => ?_⟩
    have hT2 : h''.get? s.heap.objs.size = some { cls := .type "tuple", data := .seq #[.str ⟨#[c]⟩ u1, x2] } := (sb.2 _ (Nat.ne_of_gt hzl)).trans hT
    have hx2 : its2[i]? = some x2 := by simpa using y2
    have hy : ∃ y, ys[i]? = some y ∧ RelV y x2 := by
      obtain ⟨y, e⟩ : ∃ y, ys[i]? = some y := ⟨_, List.getElem?_eq_getElem hlt2⟩
      obtain ⟨u, hu, ru⟩ := rv2.get e
      rw [hx2] at hu
      cases hu
      exact ⟨y, e, ru⟩
    obtain ⟨y, hyi, ry⟩ := hy
    have new : ObjOk X.prog X.w (upd H s.heap.objs.size (.tup [.str ⟨#[c]⟩, y])) h'' s.heap.objs.size (.tup [.str ⟨#[c]⟩, y]) :=
      ⟨by show 2 ≤ sizeLine; decide, [.str ⟨#[c]⟩ u1, x2], .cons ⟨_, rfl⟩ (.cons ry .nil), ⟨_, hT2, rfl, _, rfl⟩⟩
    have I1 : Inv X pins σ (upd H s.heap.objs.size (.tup [.str ⟨#[c]⟩, y])) { s with heap := h'', toks := tk } :=
      I.turnedNew (t' := tk) (ch := [z, TI, TO, i1, i2]) (fun c o hb q => (sb.2 c (fun q' => hb (by simp [q']))).trans (hk c o (fun q' => hb (by simp [q'])) (fun q' => hb (by simp [q'])) (fun q' => hb (by simp [q'])) (fun q' => hb (by simp [q'])) q)) hf (Nat.le_refl _) new
    refine ⟨.ref s.heap.objs.size, _, I1, rfl, ⟨_, c, y, rfl, I.hok.fresh (Nat.le_refl _), rfl, hc1, fun l hl => by rw [I.list_inj hl hqy]; exact hyi⟩, ⟨z'', ?_, ⟨Value.str ⟨#[c]⟩ u1, x2, ?_⟩, ?_, ?_, hlt1⟩, fun c hcm => ?_⟩
    · exact (sb.2 _ D.TIz).trans (hk _ _ D.TIz D.TITO D.TIi1 D.TIi2 hTI)
    · exact (sb.2 _ D.TOz).trans TO'
    · obtain ⟨o1, e1, z1⟩ := h1'
      exact ⟨o1, (sb.2 _ (Ne.symm D.zi1)).trans e1, z1⟩
    · exact h2'.1.at fun o q => (sb.2 _ (Ne.symm D.zi2)).trans q
    · have hlt : c < s.heap.objs.size := by
        have e' : c = z ∨ c = TI ∨ c = TO ∨ c = i1 ∨ c = i2 := by simpa using hcm
        rcases e' with q | q | q | q | q
        · rw [q]; exact hzl
        · rw [q]; exact Heap.lt_size hTI
        · rw [q]; exact Heap.lt_size hTO
        · rw [q]; obtain ⟨_, e1, _⟩ := h1; exact Heap.lt_size e1
        · rw [q]; obtain ⟨_, e2, _⟩ := h2; exact Heap.lt_size e2
      rw [upd_ne (Nat.ne_of_lt hlt)]
      exact (hf c hcm).1
  done := by
    intro X hP hw hK hc i pins s σ H E I hf st hg
    subst hP hw hK
    obtain ⟨hz, hTI, ⟨x0, y0, hTO⟩, h1, h2, hi⟩ := st
    obtain ⟨ys, hqy, hle, hend⟩ := hg
    obtain ⟨its2, rv2, p2, _⟩ := I.list hqy
    have l2 := rv2.length
    have D1 := Draws.text (prog := X.prog) (w := X.w) (A := X.A.in1) (I.ok.hd hc) i1 x t
    have D2 := Draws.list (prog := X.prog) (w := X.w) (A := X.A.in1) (I.ok.hd hc) i2 b hb its2.toArray
    exact wpAny_pyNext_zipD2_end D D1 D2 hz hTI hTO h1 ⟨h2, p2.isList⟩ hi (by simp; omega) (by simp; omega) fun h' tk hk => ⟨rfl, I.turnedL (t' := tk) (ch := [z, TI, TO, i1, i2]) (fun c o hb q =>
      hk c o (fun q' => hb (by simp [q'])) (fun q' => hb (by simp [q'])) (fun q' => hb (by simp [q'])) (fun q' => hb (by simp [q'])) q) hf⟩
  self := fun A i s Q E st h => wpAny_pyIter_zip st.1 h
theorem sep_of (n b : Nat) (h : b < n) : ZipSep2 (n + 4) (n + 2) (n + 3) n (n + 1) [n] [n + 1, b] := by
  have s1 : ∀ {a b : Nat}, a ≠ b → a ∉ [b] := fun h q => h (List.mem_singleton.mp q)
  have s2 : ∀ {a b c : Nat}, a ≠ b → a ≠ c → a ∉ [b, c] := fun h g q => (List.mem_cons.mp q).elim h fun e => g (List.mem_singleton.mp e)
  exact ⟨neN (by omega), neN (by omega), neN (by omega), neN (by omega), List.mem_cons_self, s1 (neN (by omega)), s1 (neN (by omega)), neN (by omega), List.mem_cons_self, s2 (neN (by omega)) (neN (by omega)), s2 (neN (by omega)) (neN (by omega)), s2 (neN (by omega)) (neN (by omega)), s1 (neN (by omega))⟩
theorem pi_zipSL {X : Cx} {elts : List Expr} {kk : Nat} {tpos p pos : Pos} {e e2 : Expr} {ta : TA} (hg : Gl X "zip") (hm : X.mg "zip" = none) (ha : PA X [e, e2] ta)
    (hs : starEach [e, e2] X.env = (false, eval e X.env) :: starEach [e2] X.env := by rfl) (hpl : (backTo pos (starEach [e2] X.env)).any (·.1) = false := by rfl) :
    PI X (.Tuple elts kk tpos) (.Call (.Name "zip" p) [e, e2] [] pos) (iZipSL X.K ta) := by
  refine ⟨fun pins s σ H R I h => ?_⟩
  refine Call_ (ld_blt I hg hm PyProof.Rows.boot_zip (PyProof.Rows.callWith_type1 (thn (ha.run pos pins s σ H _ I h) fun us s1 ⟨vs, H1, I1, r1, q1⟩ => ?_) hs hpl))
  obtain ⟨x, b, ys, ex, hqy, q⟩ := q1
  subst ex
  cases r1 with
  | cons r rr =>
    cases rr with
    | cons r' rr =>
      cases rr
      obtain ⟨t, rfl⟩ := r
      cases r'
      obtain ⟨its2, rv2, p2, _⟩ := I1.list hqy
      have lb : b < s1.heap.objs.size := p2.lt
      refine zip_begins2 (begins_text x t) (begins_list b its2.toArray) trivial p2.isList fun h' hz hTI hTO h1 h2 hsz hk => wpAny_pyIter_zip hz ?_
      have I2 : Inv X pins σ H1 { s1 with heap := h' } := I1.kept (t' := s1.toks) hk
      have D : ZipSep2 (s1.heap.objs.size + 4) (s1.heap.objs.size + 2) (s1.heap.objs.size + 3) s1.heap.objs.size (s1.heap.objs.size + 1) [s1.heap.objs.size] [s1.heap.objs.size + 1, b] := sep_of _ _ lb
      refine ⟨s1.heap.objs.size + 4, [s1.heap.objs.size + 4, s1.heap.objs.size + 2, s1.heap.objs.size + 3, s1.heap.objs.size, s1.heap.objs.size + 1], _, _, H1, rfl, I2, turn_zipSL (t := t) D (Nat.ne_of_lt (Nat.lt_succ_of_lt lb)), ⟨hz, hTI, ⟨_, _, hTO⟩, ⟨_, h1, rfl, rfl⟩, ⟨_, h2, rfl, rfl⟩, Nat.zero_le _⟩, fun c hcm => ?_, q⟩
      have e' : c = s1.heap.objs.size + 4 ∨ c = s1.heap.objs.size + 2 ∨ c = s1.heap.objs.size + 3 ∨ c = s1.heap.objs.size ∨ c = s1.heap.objs.size + 1 := by simpa using hcm
      have hle : s1.heap.objs.size ≤ c := by
        rcases e' with z | z | z | z | z
        · rw [z]; exact Nat.le_add_right _ _
        · rw [z]; exact Nat.le_add_right _ _
        · rw [z]; exact Nat.le_add_right _ _
        · rw [z]; exact Nat.le_refl _
        · rw [z]; exact Nat.le_add_right _ _
      exact I1.fpOk hle (I1.hok.fresh hle)
end Cx2
end

section
set_option Elab.async false
set_option linter.all false
set_option maxRecDepth 100000
set_option maxHeartbeats 4000000
namespace Cx2
open PySem PySem.Spec PyProof.Rows L2 Ct PySem.W PySem.SeqAt
/-! ### the items of a view are collected, then sorted -/
section
variable {prog : Program} {w : World} {A : Around} {E : Value → Shared → Prop} {s : Shared} {T : String} {r d : Addr} {n : Nat} {P : Nat → Value → Prop} {OK : Heap → Prop}
theorem collectV {R : List Value → Shared → Prop} (K : KdlSrc prog w T r d n P OK) (hh : A.handled = none) (hok : OK s.heap) (hn : n ≤ sizeLine)
    (h : ∀ (h' : Heap) (tk : Nat) (acc : Array Value), (∀ b o, s.heap.get? b = some o → h'.get? b = some o) → ItemsOf P acc n → R acc.toList { s with heap := h', toks := tk }) :
    wpAny (model prog w) A (collect (.ref r)) R E s := by
  obtain ⟨hr, hd⟩ := K.there _ hok
  unfold collect
  refine wpAny_bind (wpAny_runValue (codeAny_builtin PySem.F.entry_proto_collect ?_))
  rw [Around.under_plainId PySem.F.plain_proto_collect _]
  show wpAny _ A.in1 (newList [] >>= fun l => again (.builtin "list.__iadd__" ⟨[l, .ref r], []⟩)) _ _ s
  refine wpAny_bind (wpAny_newObj_type ?_)
  refine wpAny_pure ⟨plainId_quiet PySem.F.plain_list_iadd _, codeAny_builtin PySem.F.entry_list_iadd ?_⟩
  rw [Around.under_plainId PySem.F.plain_list_iadd _]
  have hS₁ : (s.heap.push { cls := .type "list", data := .seq ([] : List Value).toArray }).get? s.heap.objs.size = some { cls := .type "list", data := .seq #[] } := Heap.get?_push_size _ rfl
  show wpAny _ A.in1 (Builtin.List.listExtendWith (.ref s.heap.objs.size) (.ref r) (.ref s.heap.objs.size)) _ _ _
  have key := kdl_extend (prog := prog) (w := w) (A := A) (s := { s with heap := s.heap.push { cls := .type "list", data := .seq ([] : List Value).toArray } })
    (R := fun (q : Result) (s' : Shared) => ∃ (h' : Heap) (tk : Nat) (acc' : Array Value) (c' : Nat), q = .ok (.ret (.ref s.heap.objs.size)) ∧ s' = { s with heap := h', toks := tk } ∧
      (∀ b o, s.heap.get? b = some o → h'.get? b = some o) ∧ h'.get? s.heap.objs.size = some { cls := .type "list", dict := none, data := .seq acc' c', slots := #[] } ∧ ItemsOf P acc' n)
    K hh (K.keep _ _ hok fun b _ o e => Heap.get?_push_of_some _ e) s.heap.objs.size (Nat.ne_of_gt hr) (Nat.ne_of_gt hd) (.ref s.heap.objs.size) 0 hS₁
    (fun h' tk acc' c' hk hS' hacc => ⟨h', tk, acc', c', rfl, rfl, fun b o e => hk b o (Nat.ne_of_lt (Heap.lt_size e)) (Heap.get?_push_of_some _ e), hS', hacc⟩) hn
  refine wpAny_mono key (fun fin s' x => ?_) fun e s' x => ?_
  · cases fin with
    | done f =>
      obtain ⟨h', tk, acc', c', e, rfl, hk, hS', hacc⟩ := x
      cases e
      show wpAny _ A (load s.heap.objs.size >>= _) _ _ _
      refine wpAny_bind (wpAny_load hS' ?_)
      refine wpAny_pure ?_
      exact h h' tk acc' hk hacc
    | again c₁ =>
      refine ⟨x.1, codeAny_mono x.2 fun q s₂ y => ?_⟩
      obtain ⟨h', tk, acc', c', rfl, rfl, hk, hS', hacc⟩ := y
      show wpAny _ A (load s.heap.objs.size >>= _) _ _ _
      refine wpAny_bind (wpAny_load hS' ?_)
      refine wpAny_pure ?_
      exact h h' tk acc' hk hacc
  · obtain ⟨_, _, _, _, e', _⟩ := x
    cases e'
theorem sortedV {kw : List (Str × Value)} {Q : Value → Shared → Prop} (K : KdlSrc prog w T r d n P OK) (hh : A.handled = none) (hok : OK s.heap) (hn : n ≤ sizeLine) (ha1 : argsOk "sorted" ⟨[.ref r], kw⟩) (ha2 : ∀ x, argsOk "list.sort" ⟨[.ref x], kw⟩)
    (body : ∀ (h' : Heap) (tk : Nat) (acc : Array Value) (E' : Value → Shared → Prop), (∀ b o, s.heap.get? b = some o → h'.get? b = some o) → ItemsOf P acc n →
      wpAny (model prog w) A.in1.in1 (Builtin.«list.sort» ⟨[.ref h'.objs.size], kw⟩) (fun f s' => f = .done (.ret .none) ∧ Q (.ref h'.objs.size) s') E' { s with heap := h'.push (seqObj "list" acc.toList.toArray 0), toks := tk }) :
    wpAny (model prog w) A (call (.builtin "sorted") [.ref r] kw) Q E s := by
  refine call_function_entry_kw kind_sorted plain_sorted entry_sorted ha1 ?_
  unfold Builtin.«sorted»
  refine wpAny_bind (m := checkCount "sorted" 1 1 _) (wpAny_pure ?_)
  refine wpAny_bind (collectV (A := A.in1) K hh hok hn fun h' tk acc hk ha => ?_)
  refine wpAny_bind (wpAny_newList ?_ (by rw [Array.length_toList, ha.1]; exact hn))
  refine wpAny_bind (wpAny_holding (wpAny_call_entry_kw slot_list_sort ⟨_, Heap.get?_push_size _ rfl, rfl⟩ entry_list_sort ?body (ha2 _)))
  case body =>
    refine wpAny_mono (body h' tk acc _ hk ha) (fun f s' hf => ?_) fun _ _ e => e
    obtain ⟨rfl, hq⟩ := hf
    exact ⟨_, rfl, wpAny_pure ⟨_, rfl, hq⟩⟩
end
/-! ### the key's calls, two objects of ours standing by -/
section
variable {X : Cx}
def KJ2 (X : Cx) (pins : List (Addr × Obj)) (σ : L2.St) (H : Hp) (fp : List Addr) (s : Shared) : Prop :=
  ∃ H1, Inv X pins σ H1 s ∧ Same H H1 ∧ (∀ b o, H1 b = some o → H b = some o ∨ ∃ T : Tie, o = .tup (T.pr.map Sc.v)) ∧ ∀ b ∈ fp, FpOk X pins H1 b
def KW2 (X : Cx) (H : Hp) (fp : List Addr) (T : Tie) (k : Value) (s : Shared) : Prop :=
  ∃ p, k = .ref p ∧ H p = none ∧ p ∉ frs X.stack ∧ p ∉ fp ∧ RowAt s.heap p T
theorem KJ2.moved {pins : List (Addr × Obj)} {σ : L2.St} {H : Hp} {fp : List Addr} {s : Shared} {h' : Heap} {tk : Nat} (j : KJ2 X pins σ H fp s) (k : ∀ b o, b ∉ fp → s.heap.get? b = some o → h'.get? b = some o) : KJ2 X pins σ H fp { s with heap := h', toks := tk } := by
  obtain ⟨H1, J, sm, cl, f⟩ := j
  exact ⟨H1, J.turnedL k f, sm, cl, f⟩
theorem KW2.moved {H : Hp} {fp : List Addr} {T : Tie} {v : Value} {s : Shared} {h' : Heap} {tk : Nat} (j : KW2 X H fp T v s) (k : ∀ b o, b ∉ fp → s.heap.get? b = some o → h'.get? b = some o) : KW2 X H fp T v { s with heap := h', toks := tk } := by
  obtain ⟨p, rfl, hn, hf, h1, r⟩ := j
  exact ⟨p, rfl, hn, hf, h1, r.keep fun o ho => k p o h1 ho⟩
theorem key_call {pins : List (Addr × Obj)} {σ : L2.St} {H : Hp} {fp : List Addr} {f : Addr} {fd : FuncData} {k : Nat} {A' : Around} (hr : Room k A') (hE : ∀ H1 s, Inv X pins σ H1 s → Env0 X.prog X.w X.K X.mg X.base A' X.stack s H1) (G : FnOk X.prog X.w X.K X.mg X.base CX0 k f fd ["tie"] spPrice) (hb : Binds X.K fd ["tie"] [])
    {p : Addr} {T : Tie} (hT : TieAt H p T) (s : Shared) (Q : Value → Shared → Prop) (E : Value → Shared → Prop) (j : KJ2 X pins σ H fp s) (hfp : ∀ b ∈ fp, ∃ o, s.heap.get? b = some o)
    (q : ∀ k s', KJ2 X pins σ H fp s' → (∀ b ∈ fp, ∀ o, s.heap.get? b = some o → s'.heap.get? b = some o) → KW2 X H fp T k s' → (∀ U k', KW2 X H fp U k' s → KW2 X H fp U k' s') → Q k s') :
    wpAny (model X.prog X.w) A' (call (.ref f) [.ref p]) Q E s := by
  obtain ⟨H1, J, sm, cl, ff⟩ := j
  have h : spPrice ([V.ref p] ++ []) H1 (fun v H2 => ∃ b, v = .ref b ∧ H1 b = none ∧ H2 = upd H1 b (.tup (T.pr.map Sc.v))) (fun _ _ _ => False) :=
    ⟨p, T, rfl, sm _ _ hT, fun b hb => ⟨b, rfl, hb, rfl⟩⟩
  refine wpAny_call (codeAny_mono (G.run A' X.stack s H1 ⟨[.ref p], []⟩ ([Value.ref p] ++ []) ([V.ref p] ++ []) _ _ hr (hE _ _ J) (hb s [Value.ref p] J.kIn rfl) (show Vals ([V.ref p] ++ []) ([Value.ref p] ++ []) from .cons (show RelV (.ref p) (.ref p) from rfl) .nil) h) fun r s' hq => ?_)
  cases r with
  | error e => exact hq.elim
  | ok fl =>
    cases fl with
    | next => exact False.elim hq
    | brk => exact False.elim hq
    | cont => exact False.elim hq
    | ret u =>
      obtain ⟨v, H', os, bare, un, hok, rv, b, rfl, hbn, rfl⟩ := hq
      obtain rfl : u = .ref b := rv
      have J' : Inv X pins σ (upd H1 b (.tup (T.pr.map Sc.v))) s' := J.call' os un hok bare (by simp)
      have sm' : Same H1 (upd H1 b (.tup (T.pr.map Sc.v))) := fun c u e => by rw [upd_ne (ne_of_none e hbn)]; exact e
      have nf : ∀ c ∈ fp, upd H1 b (.tup (T.pr.map Sc.v)) c = none := fun c hc => by
        obtain ⟨o, ho⟩ := hfp c hc
        exact un.free c o ho (ff c hc).1 (by simp)
      have bf : b ∉ fp := fun hbf => by
        have z := nf b hbf
        rw [upd_same] at z; cases z
      have row : ∀ {c : Addr} {U : Tie} {H' : Hp} {s' : Shared}, Inv X pins σ H' s' → H' c = some (.tup (U.pr.map Sc.v)) → RowAt s'.heap c U := fun J e => (J.hok _ _ e).2
      refine q (.ref b) s' ⟨_, J', sm.trans sm', fun c u e => ?_, fun c hc => ⟨nf c hc, (ff c hc).2⟩⟩ (fun c hc o ho => un.keep c o ho (ff c hc).1 (FpOk.nstk J (ff c hc)) (by simp)) ⟨b, rfl, sm.free hbn, fun z => ?_, bf, row J' (upd_same ..)⟩ ?_
      · by_cases hc : c = b
        · subst hc
          rw [upd_same] at e
          cases e
          exact .inr ⟨T, rfl⟩
        · rw [upd_ne hc] at e
          exact cl c u e
      · have := J'.stkFree b z
        rw [upd_same] at this; cases this
      · rintro U k' ⟨c, rfl, hcn, hcf, h1, rU⟩
        refine ⟨c, rfl, hcn, hcf, h1, ?_⟩
        cases hc : H1 c with
        | none => exact rU.keep fun oc ho => un.keep c oc ho hc hcf (by simp)
        | some u =>
          rcases cl c u hc with z | ⟨W, rfl⟩
          · rw [hcn] at z; cases z
          · have r1 : RowAt s.heap c W := row J hc
            have r2 : RowAt s'.heap c W := row J' (sm' _ _ hc)
            exact r2.to (r1.same rU)
/-- an object of ours is told of from here on -/
theorem track {pins : List (Addr × Obj)} {σ : L2.St} {H : Hp} {s : Shared} {T : Addr} {ob : HO} (I : Inv X pins σ H s) (hf : FpOk X pins H T) (new : ObjOk X.prog X.w (upd H T ob) s.heap T ob) : Inv X pins σ (upd H T ob) s := by
  have hn : H T = none := hf.1
  exact I.step (h' := s.heap) (g' := s.gens) (d' := s.drawn) (t' := s.toks) (ch := [T]) (fun b hb => by rw [List.mem_singleton.mp hb]; exact ⟨hf.2.2.2.1, hf.2.1, hf.2.2.2.2.1, hf.2.2.2.2.2⟩) (fun b o _ _ hc e _ => e) (fun b o _ _ hc e _ => ⟨o.slots, e⟩)
    (fun b o hb e n => by rw [upd_ne (fun z => hb (by simp [z]))]; exact n) (fun b o hc e => ⟨o, e⟩) (fun b xs e => by rw [upd_ne (ne_of_none e hn)]; exact e) (fun b o u e => by rw [upd_ne (ne_of_none e hn)]; exact e) (fun b ps e => ⟨#[], by rw [upd_ne (ne_of_none e hn), e]; simp⟩) (fun m hm => hm) (fun b u e => by
      by_cases hb : b = T
      · subst hb
        rw [upd_same] at e
        cases e
        exact new
      · rw [upd_ne hb] at e
        exact (I.hok b u e).stay (fun c v _ q => q) (fun c q => by rw [upd_ne (ne_of_none q hn)]; exact q) fun c xs q => by rw [upd_ne (ne_of_none q hn)]; exact q) I.bare
theorem each_of_ix {β : Type} {R : Value → β → Prop} : ∀ (vs : List Value) (bs : List β), vs.length = bs.length → (∀ (m : Nat) v b, vs[m]? = some v → bs[m]? = some b → R v b) → EachIs R vs bs
  | [], [], _, _ => .nil
  | [], _ :: _, h, _ => by cases h
  | _ :: _, [], h, _ => by cases h
  | v :: vs, b :: bs, h, q => .cons (q 0 v b rfl rfl) (each_of_ix vs bs (Nat.succ.inj h) fun m v b h1 h2 => q (m + 1) v b h1 h2)
theorem pair_ix {α β : Type} {R : α → β → Prop} : ∀ {ps : List α} {ts : List β} {i : Nat} {p : α}, Paired R ps ts → ps[i]? = some p → ∃ T, ts[i]? = some T ∧ R p T := by
  intro ps ts i p h
  induction h generalizing i with
  | nil => intro e; cases i <;> simp at e
  | cons a t ih =>
    intro e
    cases i with
    | zero =>
      simp only [List.getElem?_cons_zero] at e ⊢
      cases e
      exact ⟨_, rfl, a⟩
    | succ i =>
      simp only [List.getElem?_cons_succ] at e ⊢
      exact ih e
theorem keyJ_rest {pins : List (Addr × Obj)} {σ : L2.St} {H : Hp} {f : Addr} {fd : FuncData} {k : Nat} {A' : Around} {a kS : Addr} {e1 : Nat} {ps : List Addr} {ts : List Tie} {s : Shared} {P : PySem.Fin → Shared → Prop} {E : Value → Shared → Prop}
    (hr : Room k A') (hE : ∀ H1 s, Inv X pins σ H1 s → Env0 X.prog X.w X.K X.mg X.base A' X.stack s H1) (G : FnOk X.prog X.w X.K X.mg X.base CX0 k f fd ["tie"] spPrice) (hb : Binds X.K fd ["tie"] [])
    (hp : Paired (TieAt H) ps ts) (hka : kS ≠ a) (j0 : KJ2 X pins σ H [a, kS] s) (nk : s.heap.get? kS = some (seqObj "list" #[] 0)) (na : s.heap.get? a = some (seqObj "list" #[] e1)) (hZ : ps.length ≤ sizeLine) (hu : A'.units + 1 < cLine)
    (h : ∀ s' out c, KJ2 X pins σ H [a, kS] s' → s'.heap.get? a = some (seqObj "list" (List.toArray out) c) → KeyedOut false (ts.map fun t => encR t.pr) (ps.map Value.ref) out → P (.done (.ret .none)) s') :
    wpAny (model X.prog X.w) A' (ksk_rest a (.ref f) false (ps.map Value.ref).toArray e1 (.ref kS)) P E s := by
  have hpl := pair_len hp
  unfold ksk_rest
  refine wpAny_bind (wpAny_rule ?_)
  rw [List.forIn_toArray]
  refine wpAny_bind (ksk_fold (fun i s' => KJ2 X pins σ H [a, kS] s' ∧ ∃ kA e, s'.heap.get? kS = some (seqObj "list" kA e) ∧ s'.heap.get? a = some (seqObj "list" #[] e1) ∧ kA.size = i ∧ ∀ (m : Nat) k, kA[m]? = some k → ∃ T, ts[m]? = some T ∧ KW2 X H [a, kS] T k s') (ps.map Value.ref) 0 s
    ⟨j0, #[], 0, nk, na, rfl, fun m k e => by simp at e⟩ ?step ?done)
  case step =>
    rintro j x s' hx ⟨jj, kA, e, nk', na', hsz, hk⟩
    simp only [Nat.zero_add] at hsz ⊢
    rw [List.getElem?_map] at hx
    obtain ⟨p, hpj, rfl⟩ := Option.map_eq_some_iff.mp hx
    have hjl : j < ps.length := (List.getElem?_eq_some_iff.mp hpj).1
    obtain ⟨T, hT, hTa⟩ := pair_ix hp hpj
    refine wpAny_bind (wpAny_attempt (key_call hr hE G hb hTa s' _ _ jj (fun b hb => ?_) fun kv s2 j2 kp w2 ws => ?_))
    · rcases List.mem_cons.mp hb with rfl | hb
      · exact ⟨_, na'⟩
      · rw [List.mem_singleton.mp hb]; exact ⟨_, nk'⟩
    · try dsimp only
      have nk2 := kp kS (by simp) _ nk'
      have na2 := kp a (by simp) _ na'
      have s1 := Heap.SameBut.update s2.heap kS (Obj.mapSeq (·.push kv))
      obtain ⟨c2, hc2⟩ : ∃ c2, (s2.heap.update kS (Obj.mapSeq (·.push kv))).get? kS = some (seqObj "list" (kA.push kv) c2) := ⟨_, get?_update_seq nk2 (·.push kv)⟩
      have mv : ∀ b o, b ∉ [a, kS] → s2.heap.get? b = some o → (s2.heap.update kS (Obj.mapSeq (·.push kv))).get? b = some o := fun b o hb e => (s1.2 b (fun z => hb (by simp [z]))).trans e
      refine wpAny_bind (listUpdate_at nk2 rfl ?_ (by omega) (by rw [Array.size_push]; omega))
      refine wpAny_pure ⟨rfl, j2.moved (tk := s2.toks) mv, kA.push kv, c2, hc2, (s1.2 a hka.symm).trans na2, by rw [Array.size_push, hsz], fun m kk e => ?_⟩
      rw [Array.getElem?_push] at e
      by_cases hm : m = kA.size
      · rw [if_pos hm] at e
        cases e
        exact ⟨T, by rw [hm, hsz]; exact hT, w2.moved (tk := s2.toks) mv⟩
      · rw [if_neg hm] at e
        obtain ⟨U, hU, wU⟩ := hk m kk e
        exact ⟨U, hU, (ws U kk wU).moved (tk := s2.toks) mv⟩
  case done =>
    rintro s' ⟨jj, kA, e, nk', na', hsz, hk⟩
    simp only [Nat.zero_add, List.length_map] at hsz
    have hk' : EachIs (fun v k => ∃ as, Reads s'.heap v k as) kA.toList (ts.map fun t => encR t.pr) := by
      refine each_of_ix _ _ (by rw [Array.length_toList, List.length_map, hsz, hpl]) fun m v d hv hd => ?_
      obtain ⟨T, hT, p, rfl, _, _, _, r⟩ := hk m v (by rw [← Array.getElem?_toList]; exact hv)
      rw [List.getElem?_map, hT] at hd
      cases hd
      exact r.reads
    have hal : AllAlike (ts.map fun t => encR t.pr) := fun d hd d' hd' => by
      obtain ⟨t, _, rfl⟩ := List.mem_map.mp hd
      obtain ⟨t', _, rfl⟩ := List.mem_map.mp hd'
      exact encR_alike (pr_alike t t')
    have hsk : Sortable (ts.map fun t => encR t.pr) := .inl fun d hd => by
      obtain ⟨t, _, rfl⟩ := List.mem_map.mp hd
      exact ⟨.int t.c, [.str t.n], rfl⟩
    obtain ⟨g, g1, g2⟩ := restrict s'.heap fun b => decide (b ≠ kS)
    have gS : g.get? kS = none := g2 kS (decide_eq_false fun z => z rfl)
    have gb : ∀ b o, g.get? b = some o → b ≠ kS ∧ s'.heap.get? b = some o := fun b o e => by
      by_cases hb : b = kS
      · rw [hb, gS] at e; cases e
      · rw [g1 b (decide_eq_true hb)] at e
        exact ⟨hb, e⟩
    try dsimp only
    refine wpAny_bind (listItems_at nk' rfl ?_)
    refine keyH_end (κ := dataKind s'.heap (ts.map fun t => encR t.pr)) (h₁ := g) (fun b o _ e => (gb b o e).2) gS nk' na' hka (SortsAt.data hk' hal hsk (fun d hd => ?_)) (by rw [hsz, List.length_map]) (by rw [List.length_map]; exact hZ) fun h3 tk3 c k3 n3 => ?_
    · obtain ⟨t, _, rfl⟩ := List.mem_map.mp hd
      rw [encR_depth]
      exact hu
    · refine h _ _ c (jj.moved (tk := tk3) fun b o hb e => ?_) n3 ⟨s'.heap, kA.toList, hal, rfl, hk'⟩
      have h1 : b ≠ a := fun z => hb (by simp [z])
      have h2 : b ≠ kS := fun z => hb (by simp [z])
      exact k3 b o h1 (by rw [g1 b (decide_eq_true h2)]; exact e)
end
end Cx2
end

section
set_option Elab.async false
set_option linter.all false
set_option maxRecDepth 100000
set_option maxHeartbeats 4000000
namespace Cx2
open PySem PySem.Spec PyProof.Rows L2 Ct PySem.W PySem.SeqAt
theorem sort_prs {β : Type} (ps : List β) (r : β → Tie) : (ps.mergeSort (dataLe false fun p => encR (r p).pr)).Perm ps ∧ (ps.mergeSort (dataLe false fun p => encR (r p).pr)).Pairwise fun p q => prLt (r q) (r p) = false := by
  have pm := List.mergeSort_perm ps (dataLe false fun p => encR (r p).pr)
  refine ⟨pm, ?_⟩
  have pw := List.pairwise_mergeSort (le := dataLe false fun p => encR (r p).pr) (fun a b c h1 h2 => ?_) (fun a b => ?_) ps
  · refine List.Pairwise.imp (fun {p q} h => ?_) pw
    rw [dataLe_eq] at h
    have h' : (!dataLt (encR (r q).pr) (encR (r p).pr)) = true := h
    rw [pr_enc] at h'
    cases e : prLt (r q) (r p) with
    | false => rfl
    | true => rw [e] at h'; cases h'
  · rw [dataLe_eq] at h1 h2 ⊢
    have g1 : (!dataLt (encR (r b).pr) (encR (r a).pr)) = true := h1
    have g2 : (!dataLt (encR (r c).pr) (encR (r b).pr)) = true := h2
    show (!dataLt (encR (r c).pr) (encR (r a).pr)) = true
    cases e : dataLt (encR (r c).pr) (encR (r a).pr) with
    | false => rfl
    | true =>
      rcases lex_negTrans _ (keyToks (encR (r b).pr)) _ e with z | z
      · have z' : dataLt (encR (r c).pr) (encR (r b).pr) = true := z
        rw [z'] at g2; cases g2
      · have z' : dataLt (encR (r b).pr) (encR (r a).pr) = true := z
        rw [z'] at g1; cases g1
  · rw [dataLe_eq]
    show (!dataLt (encR (r b).pr) (encR (r a).pr) || !dataLt (encR (r a).pr) (encR (r b).pr)) = true
    cases e1 : dataLt (encR (r b).pr) (encR (r a).pr) with
    | false => rfl
    | true =>
      cases e2 : dataLt (encR (r a).pr) (encR (r b).pr) with
      | false => rfl
      | true =>
        have := lex_trans _ _ _ e1 e2
        rw [lex_irrefl] at this; cases this
theorem pair_zip {α β : Type} {R : α → β → Prop} : ∀ {ps : List α} {ts : List β}, Paired R ps ts → ∀ x ∈ ps.zip ts, R x.1 x.2
  | _, _, .nil, x, h => by cases h
  | _, _, .cons a t, x, h => by
    rw [List.zip_cons_cons] at h
    rcases List.mem_cons.mp h with rfl | h
    · exact a
    · exact pair_zip t x h
theorem pair_of_mem {α β : Type} {R : α → β → Prop} : ∀ (l : List (α × β)), (∀ x ∈ l, R x.1 x.2) → Paired R (l.map Prod.fst) (l.map Prod.snd)
  | [], _ => .nil
  | x :: l, h => .cons (h x (by simp)) (pair_of_mem l fun y hy => h y (List.mem_cons_of_mem _ hy))
theorem zip_fst {α β : Type} : ∀ {ps : List α} {ts : List β}, ps.length = ts.length → (ps.zip ts).map Prod.fst = ps
  | [], [], _ => rfl
  | [], _ :: _, h => by cases h
  | _ :: _, [], h => by cases h
  | p :: ps, t :: ts, h => by rw [List.zip_cons_cons, List.map_cons, zip_fst (Nat.succ.inj h)]
theorem zip_snd {α β : Type} : ∀ {ps : List α} {ts : List β}, ps.length = ts.length → (ps.zip ts).map Prod.snd = ts
  | [], [], _ => rfl
  | [], _ :: _, h => by cases h
  | _ :: _, [], h => by cases h
  | p :: ps, t :: ts, h => by rw [List.zip_cons_cons, List.map_cons, zip_snd (Nat.succ.inj h)]
theorem each_fst {β : Type} : ∀ (l : List (Addr × β)), EachIs (fun v (x : Addr × β) => v = Value.ref x.1) ((l.map Prod.fst).map Value.ref) l
  | [] => .nil
  | x :: l => .cons rfl (each_fst l)
theorem fst_each {β : Type} : ∀ {out : List Value} {l : List (Addr × β)}, EachIs (fun v (x : Addr × β) => v = Value.ref x.1) out l → out = (l.map Prod.fst).map Value.ref
  | _, _, .nil => rfl
  | _, _, .cons h t => by rw [h, fst_each t]; rfl
theorem kv_vals {κ : Type} : ∀ {kvs : List (κ × V)} {vs : List (κ × Value)}, KV kvs vs → Vals (kvs.map (·.2)) (vs.map (·.2))
  | _, _, .nil => .nil
  | _, _, .cons a t => .cons a.2 (kv_vals t)
section
variable {X : Cx}
theorem cr_sortedVK {f : Addr} {fd : FuncData} {k : Nat} (hc : X.calm = true) (hr : Room (k + 3) X.A) (G : FnOk X.prog X.w X.K X.mg X.base CX0 k f fd ["tie"] spPrice) (hb : Binds X.K fd ["tie"] []) :
    CallRK X (.builtin "sorted") [Str.ofString "key"] (rSortedVK X.K f) := by
  intro pins s σ H vs zs us ws Q I rv rz h
  obtain ⟨v, d, kvs, ps, ts, rfl, rfl, hv, hd, hps, hp, hlen, q⟩ := h
  rw [Vals.ref1 rv]
  obtain ⟨w1, rfl, e1⟩ := vals1 rz
  obtain rfl : w1 = .ref f := e1
  have hview : s.heap.IsValuesView v d := (I.hok v _ hv).1
  obtain ⟨hz, hsys, kvs', kv, dd⟩ := dk_rd I.hok hd
  obtain ⟨ep, hat⟩ := dd.dictAt
  have hpl := pair_len hp
  have hkl : kvs.length = kvs'.length := Paired.length kv
  have hkp : kvs.length = ps.length := by
    have := congrArg List.length hps
    simpa using this
  have hvals : kvs'.map (·.2) = ps.map Value.ref := ref_vals (hps ▸ kv_vals kv)
  have hps1 : ps.length ≤ sizeLine := by rw [sizeLine_eq]; omega
  refine sortedV (kdl_values (knd := mixKind X.prog X.w) (r := v) (d := d) (kvs := kvs') (ep := ep)) (I.ok.hd hc) ⟨hview, hat⟩ (by rw [← hkl]; exact hz) (ksk_s1 _ _) (fun x => ksk_l1 _ _) fun h' tk acc E' hk ha => ?_
  have hacc : acc.toList = ps.map Value.ref := by
    rw [← hvals]
    refine List.ext_getElem? fun j => ?_
    rw [List.getElem?_map, Array.getElem?_toList]
    cases e : acc[j]? with
    | some u =>
      obtain ⟨kk, hkk⟩ := ha.2 j u e
      rw [hkk]; rfl
    | none =>
      have hj : acc.size ≤ j := Array.getElem?_eq_none_iff.mp e
      rw [ha.1] at hj
      rw [List.getElem?_eq_none hj]; rfl
  rw [hacc, show Builtin.«list.sort» ⟨[.ref h'.objs.size], [Str.ofString "key"].zip [Value.ref f]⟩ = ksk_tree h'.objs.size (.ref f) false from ksk_t1 f h'.objs.size]
  have I1 : Inv X pins σ H { s with heap := h', toks := tk } := I.kept hk
  have ho : (h'.push (seqObj "list" (ps.map Value.ref).toArray 0)).get? h'.objs.size = some (seqObj "list" (ps.map Value.ref).toArray 0) := Heap.get?_push_size _ rfl
  obtain ⟨e1, ho1⟩ : ∃ e1, ((h'.push (seqObj "list" (ps.map Value.ref).toArray 0)).update h'.objs.size (Obj.mapSeq fun _ => (#[] : Array Value))).get? h'.objs.size = some (seqObj "list" #[] e1) := ⟨_, get?_update_seq ho fun _ => #[]⟩
  have hkS : (((h'.push (seqObj "list" (ps.map Value.ref).toArray 0)).update h'.objs.size (Obj.mapSeq fun _ => (#[] : Array Value))).push (seqObj "tuple" (ps.map Value.ref).toArray 0)).objs.size = h'.objs.size + 2 := by rw [size_push', Heap.size_update, size_push']
  unfold ksk_tree
  refine wpAny_bind (listItems_at ho rfl ?_)
  refine wpAny_bind (listUpdate_at ho rfl ?_ (by rw [List.size_toArray, List.length_map]; exact hps1) (Nat.zero_le _))
  refine wpAny_bind (seqEpoch_at ho1 rfl ?_)
  refine wpAny_bind (wpAny_newTuple ?_ (by show (ps.map Value.ref).length ≤ _; rw [List.length_map]; exact hps1))
  refine wpAny_bind (wpAny_newList ?_ (Nat.zero_le _))
  refine wpAny_holding ?_
  have kp : ∀ b o, b ≠ h'.objs.size → (h'.push (seqObj "list" (ps.map Value.ref).toArray 0)).get? b = some o → (sortingHeap (h'.push (seqObj "list" (ps.map Value.ref).toArray 0)) h'.objs.size (ps.map Value.ref)).get? b = some o := fun b o hb q => sortingHeap_old hb q
  have fS : ∀ b, h'.objs.size ≤ b → FpOk X pins H b := fun b hb => I1.fpOk hb (I1.hok.fresh hb)
  refine keyJ_rest (k := k) (H := H) (pins := pins) (σ := σ) (ts := ts) (s := { s with heap := (((h'.push (seqObj "list" (ps.map Value.ref).toArray 0)).update h'.objs.size (Obj.mapSeq fun _ => (#[] : Array Value))).push (seqObj "tuple" (ps.map Value.ref).toArray 0)).push (seqObj "list" #[] 0), toks := tk })
    (kS := (((h'.push (seqObj "list" (ps.map Value.ref).toArray 0)).update h'.objs.size (Obj.mapSeq fun _ => (#[] : Array Value))).push (seqObj "tuple" (ps.map Value.ref).toArray 0)).objs.size)
    (hr.in1.in1.mono (Nat.le_succ _)) (fun H1 s I => I.env0.in1.in1) G hb hp (by rw [hkS]; exact Nat.ne_of_gt (Nat.lt_add_of_pos_right (by decide)))
    ⟨H, I.kept (t' := tk) fun b u e => kp b u (Nat.ne_of_lt (Heap.lt_size (hk b u e))) (Heap.get?_push_of_some _ (hk b u e)), Same.refl _, fun b o e => .inl e, fun b hb => ?_⟩
    (Heap.get?_push_size _ rfl) (Heap.get?_push_of_some _ (Heap.get?_push_of_some _ ho1)) hps1 (by have := hr.in1.in1.units; omega) fun s' out c j na ko => ⟨rfl, ?_⟩
  · rcases List.mem_cons.mp hb with rfl | hb
    · exact fS _ (Nat.le_refl _)
    · rw [List.mem_singleton.mp hb]; exact fS _ (by rw [hkS]; exact Nat.le_add_right _ _)
  · obtain ⟨H1, J, sm, cl, ff⟩ := j
    have fa := ff h'.objs.size (by simp)
    have ek : ts.map (fun t => encR t.pr) = (ps.zip ts).map fun x : Addr × Tie => encR x.2.pr := by
      conv => lhs; rw [← zip_snd hpl]
      rw [List.map_map]; rfl
    rw [ek] at ko
    have e0 : EachIs (fun v (x : Addr × Tie) => v = Value.ref x.1) (ps.map Value.ref) (ps.zip ts) := by
      have := each_fst (ps.zip ts)
      rw [zip_fst hpl] at this
      exact this
    have he := keyedOut_each (fun x : Addr × Tie => encR x.2.pr) ko e0
    obtain ⟨pm, pw⟩ := sort_prs (ps.zip ts) Prod.snd
    have ho2 := fst_each he
    have hl2 : ((ps.zip ts).mergeSort (dataLe false fun x : Addr × Tie => encR x.2.pr)).length = ps.length := by rw [pm.length_eq, List.length_zip]; omega
    refine ⟨.ref h'.objs.size, upd H1 h'.objs.size (.lst ((((ps.zip ts).mergeSort (dataLe false fun x : Addr × Tie => encR x.2.pr)).map Prod.fst).map V.ref)), track J fa ⟨by rw [List.length_map, List.length_map, hl2]; exact hps1, _, c, vals_ref _, ?_⟩, rfl,
      q _ (((ps.zip ts).mergeSort (dataLe false fun x : Addr × Tie => encR x.2.pr)).map Prod.snd) _ _ (fun b u e => ?_) (sm.free fa.1) (upd_same ..) ?_ ?_ ?_⟩
    · rw [← ho2]; exact na
    · have e' := sm b u e
      rw [upd_ne (ne_of_none e' fa.1)]; exact e'
    · have := pm.map Prod.snd
      rw [zip_snd hpl] at this
      exact this
    · rw [List.pairwise_map]
      exact pw
    · refine pair_of_mem _ fun x hx => ?_
      have h1 := pair_zip hp x (pm.mem_iff.mp hx)
      show upd H1 _ _ x.1 = _
      have e' := sm _ _ h1
      rw [upd_ne (ne_of_none e' fa.1)]; exact e'
end
end Cx2
end

section
set_option Elab.async false
set_option linter.all false
set_option maxRecDepth 100000
set_option maxHeartbeats 4000000
namespace Ct
open PySem PySem.Spec PyProof.Rows L2
section
variable {X : Cx}
theorem op_mulS : OpR X (binaryOp .Mult) (fun x y H Q => ∃ z i, x = .str z ∧ y = .int i ∧ 0 ≤ i ∧ i ≤ 1000 ∧ z.length ≤ 1000 ∧ Q (.str (mulS z i.toNat)) H) := Cx2.op_mulS
theorem call_min2S (hc : X.calm = true) : CallR X (.builtin "min") (fun xs H Q => ∃ i j, xs = [.str i, .str j] ∧ Q (.str (if ltS j i then j else i)) H) := Cx2.call_min2S hc
theorem call_max2S (hc : X.calm = true) : CallR X (.builtin "max") (fun xs H Q => ∃ i j, xs = [.str i, .str j] ∧ Q (.str (if ltS i j then j else i)) H) := Cx2.call_max2S hc
theorem call_strA : CallR X (.type "str") (fun xs H Q => (∃ z, xs = [.str z] ∧ Q (.str z) H) ∨ ∃ i, xs = [.int i] ∧ i.natAbs.log2 < 1920 ∧ Q (.str (toString i)) H) := Cx2.call_strA
theorem pe_kget {d : Addr} {es : Array DictEntry} {n : Nat} {x : Str} {p apos cpos : Pos} {e : Expr} {te : TE} (D : KDict X.K X.w d es n) (hm : X.mg x = some (.ref d)) (hg : Gl X x) (he : PE X e te) (m : M1 X (.Name x p) "get" apos e cpos)
    (hd : (x == ("__debug__" : Str)) = false := by decide) : PE X (.Call (.Attribute (.Name x p) "get" apos) [e] [] cpos) (tKGet X.K d te) := Cx2.pe_kget D hm hg he m hd
theorem pi_zipSL {elts : List Expr} {kk : Nat} {tpos p pos : Pos} {e e2 : Expr} {ta : TA} (hg : Gl X "zip") (hm : X.mg "zip" = none) (ha : PA X [e, e2] ta)
    (hs : starEach [e, e2] X.env = (false, eval e X.env) :: starEach [e2] X.env := by rfl) (hpl : (backTo pos (starEach [e2] X.env)).any (·.1) = false := by rfl) :
    PI X (.Tuple elts kk tpos) (.Call (.Name "zip" p) [e, e2] [] pos) (iZipSL X.K ta) := Cx2.pi_zipSL hg hm ha hs hpl
theorem op_gtD (hu : X.A.units + 64 < cLine) : OpR X (compareOp .Gt) (fun x y H Q => ∃ a b r t, x = .ref a ∧ y = .ref b ∧ SqT X.K H a (r.map Sc.v) ∧ SqT X.K H b (t.map Sc.v) ∧ r ≠ [] ∧ alikeR r t = true ∧ Q (.bl (ltRow t r)) H) := Cx2.op_gtD hu
theorem cr_sortedD (hc : X.calm = true) (hu : X.A.units + 64 < cLine) : CallR X (.builtin "sorted") (rSortedD X.K) := Cx2.cr_sortedD hc hu
theorem cr_maxT (hc : X.calm = true) (hu : X.A.units + 64 < cLine) : CallR X (.builtin "max") (rMaxT X.K) := Cx2.cr_maxT hc hu
theorem pe_values {e : Expr} {td : TE} {apos cpos : Pos} (he : PE X e td) (hbase : attributeBase e "values" X.env (eval e X.env) = eval e X.env := by rfl) (hline : (apos.endLine == cpos.line) = true := by rfl) :
    PE X (.Call (.Attribute e "values" apos) [] [] cpos) (tVals td) := Cx2.pe_values he hbase hline
theorem cr_sortedVK {f : Addr} {fd : FuncData} {k : Nat} (hc : X.calm = true) (hr : Room (k + 3) X.A) (G : FnOk X.prog X.w X.K X.mg X.base CX0 k f fd ["tie"] spPrice) (hb : Binds X.K fd ["tie"] []) :
    CallRK X (.builtin "sorted") [Str.ofString "key"] (rSortedVK X.K f) := Cx2.cr_sortedVK hc hr G hb
theorem cr_minK {f : Addr} {fd : FuncData} {k : Nat} (hc : X.calm = true) (hr : Room (k + 3) X.A) (G : FnOk X.prog X.w X.K X.mg X.base CX0 k f fd ["tie"] spPrice) (hb : Binds X.K fd ["tie"] []) :
    CallRK X (.builtin "min") [Str.ofString "key", Str.ofString "default"] (rMinK X.K f) := Cx2.cr_minK hc hr G hb
theorem cr_maxK {f : Addr} {fd : FuncData} {k : Nat} (hc : X.calm = true) (hr : Room (k + 3) X.A) (G : FnOk X.prog X.w X.K X.mg X.base CX0 k f fd ["tie"] spPrice) (hb : Binds X.K fd ["tie"] []) :
    CallRK X (.builtin "max") [Str.ofString "key"] (rMaxK X.K f) := Cx2.cr_maxK hc hr G hb
end
end Ct
end

section
set_option autoImplicit false
namespace Ct
/-! Graphs whose ties stand under a type of names; ends a, b. -/
section
variable {τ ν : Type} {a b : τ → ν}

inductive Conn (a b : τ → ν) (P : τ → Prop) (x : ν) : ν → Prop
  | refl : Conn a b P x x
  | fwd {t : τ} : Conn a b P x (a t) → P t → Conn a b P x (b t)
  | bwd {t : τ} : Conn a b P x (b t) → P t → Conn a b P x (a t)

theorem Conn.mono {P Q : τ → Prop} {x y : ν} (h : Conn a b P x y) (s : ∀ t, P t → Q t) : Conn a b Q x y := by
  induction h with
  | refl => exact .refl
  | fwd _ p ih => exact .fwd ih (s _ p)
  | bwd _ p ih => exact .bwd ih (s _ p)
theorem Conn.trans {P : τ → Prop} {x y z : ν} (h : Conn a b P x y) (g : Conn a b P y z) : Conn a b P x z := by
  induction g with
  | refl => exact h
  | fwd _ p ih => exact .fwd ih p
  | bwd _ p ih => exact .bwd ih p
theorem Conn.one {P : τ → Prop} {t : τ} (p : P t) : Conn a b P (a t) (b t) := .fwd .refl p
theorem Conn.eno {P : τ → Prop} {t : τ} (p : P t) : Conn a b P (b t) (a t) := .bwd .refl p
theorem Conn.symm {P : τ → Prop} {x y : ν} (h : Conn a b P x y) : Conn a b P y x := by
  induction h with
  | refl => exact .refl
  | fwd _ p ih => exact (Conn.eno p).trans ih
  | bwd _ p ih => exact (Conn.one p).trans ih
/-- one tie more -/
theorem Conn.cut {P Q : τ → Prop} {y : τ} {u v : ν} (h : Conn a b Q u v) (s : ∀ t, Q t → P t ∨ t = y) :
    Conn a b P u v ∨ (Conn a b P u (a y) ∧ Conn a b P (b y) v) ∨ (Conn a b P u (b y) ∧ Conn a b P (a y) v) := by
  induction h with
  | refl => exact .inl .refl
  | @fwd t _ p ih =>
    rcases s t p with p | rfl
    · rcases ih with h | ⟨h, g⟩ | ⟨h, g⟩
      · exact .inl (.fwd h p)
      · exact .inr (.inl ⟨h, .fwd g p⟩)
      · exact .inr (.inr ⟨h, .fwd g p⟩)
    · rcases ih with h | ⟨h, _⟩ | ⟨h, _⟩
      · exact .inr (.inl ⟨h, .refl⟩)
      · exact .inr (.inl ⟨h, .refl⟩)
      · exact .inl h
  | @bwd t _ p ih =>
    rcases s t p with p | rfl
    · rcases ih with h | ⟨h, g⟩ | ⟨h, g⟩
      · exact .inl (.bwd h p)
      · exact .inr (.inl ⟨h, .bwd g p⟩)
      · exact .inr (.inr ⟨h, .bwd g p⟩)
    · rcases ih with h | ⟨h, _⟩ | ⟨h, _⟩
      · exact .inr (.inr ⟨h, .refl⟩)
      · exact .inl h
      · exact .inr (.inr ⟨h, .refl⟩)

def Forest (a b : τ → ν) (T : τ → Prop) : Prop := ∀ f, T f → ¬ Conn a b (fun t => T t ∧ t ≠ f) (a f) (b f)

/-- one more tie whose ends aren't joined yet -/
theorem Forest.add [DecidableEq τ] {T T' : τ → Prop} {y : τ} (F : Forest a b T) (hy : ¬ Conn a b T (a y) (b y)) (s : ∀ t, T' t ↔ (T t ∨ t = y)) : Forest a b T' := by
  have ny : ¬ T y := fun h => hy (.one h)
  intro f hf hc
  by_cases e : f = y
  · subst e
    exact hy (hc.mono fun t ⟨h, n⟩ => ((s t).mp h).resolve_right n)
  · have hf' : T f := ((s f).mp hf).resolve_right e
    have hc' := hc.cut (P := fun t => T t ∧ t ≠ f) (y := y) (fun t ⟨h, n⟩ => by
      rcases (s t).mp h with h | h
      · exact .inl ⟨h, n⟩
      · exact .inr h)
    have m : ∀ {u v : ν}, Conn a b (fun t => T t ∧ t ≠ f) u v → Conn a b T u v := fun h => h.mono fun _ h => h.1
    rcases hc' with h | ⟨h, g⟩ | ⟨h, g⟩
    · exact F f hf' h
    · exact hy (((m h).symm.trans (.one hf')).trans (m g).symm)
    · exact hy (((m g).trans (.eno hf')).trans (m h))

/-- a way along unlike ties, grown at its end -/
inductive Path (a b : τ → ν) (P : τ → Prop) (x : ν) : ν → List τ → Prop
  | nil : Path a b P x x []
  | fwd {t : τ} {p : List τ} : Path a b P x (a t) p → P t → t ∉ p → Path a b P x (b t) (p ++ [t])
  | bwd {t : τ} {p : List τ} : Path a b P x (b t) p → P t → t ∉ p → Path a b P x (a t) (p ++ [t])
theorem Path.conn {P : τ → Prop} {x y : ν} {p : List τ} (h : Path a b P x y p) : Conn a b (fun t => t ∈ p) x y := by
  induction h with
  | nil => exact .refl
  | @fwd t p _ _ _ ih => exact .fwd (ih.mono fun t h => List.mem_append_left _ h) (by simp)
  | @bwd t p _ _ _ ih => exact .bwd (ih.mono fun t h => List.mem_append_left _ h) (by simp)
theorem Path.all {P : τ → Prop} {x y : ν} {p : List τ} (h : Path a b P x y p) : ∀ t ∈ p, P t := by
  induction h with
  | nil => intro t h; cases h
  | fwd _ q _ ih =>
    intro t h
    rcases List.mem_append.mp h with h | h
    · exact ih t h
    · rw [List.mem_singleton.mp h]; exact q
  | bwd _ q _ ih =>
    intro t h
    rcases List.mem_append.mp h with h | h
    · exact ih t h
    · rw [List.mem_singleton.mp h]; exact q
theorem Path.nd {P : τ → Prop} {x y : ν} {p : List τ} (h : Path a b P x y p) : p.Nodup := by
  induction h with
  | nil => exact List.nodup_nil
  | fwd _ _ hn ih => exact List.nodup_append.mpr ⟨ih, by simp, fun u hu v hv e => hn (by rw [List.mem_singleton.mp hv] at e; exact e ▸ hu)⟩
  | bwd _ _ hn ih => exact List.nodup_append.mpr ⟨ih, by simp, fun u hu v hv e => hn (by rw [List.mem_singleton.mp hv] at e; exact e ▸ hu)⟩
theorem Path.split [DecidableEq τ] {P : τ → Prop} {x y : ν} {p : List τ} (h : Path a b P x y p) : ∀ f ∈ p, ∃ u v, ((u = a f ∧ v = b f) ∨ (u = b f ∧ v = a f)) ∧
    Conn a b (fun t => t ∈ p ∧ t ≠ f) x u ∧ Conn a b (fun t => t ∈ p ∧ t ≠ f) v y := by
  induction h with
  | nil => intro f h; cases h
  | @fwd t p h q n ih =>
    intro f hf
    by_cases e : f = t
    · subst e
      exact ⟨_, _, .inl ⟨rfl, rfl⟩, h.conn.mono fun s hs => ⟨List.mem_append_left _ hs, fun z => n (z ▸ hs)⟩, .refl⟩
    · obtain ⟨u, v, hu, h1, h2⟩ := ih f ((List.mem_append.mp hf).resolve_right fun z => e (List.mem_singleton.mp z))
      exact ⟨u, v, hu, h1.mono fun s hs => ⟨List.mem_append_left _ hs.1, hs.2⟩, .fwd (h2.mono fun s hs => ⟨List.mem_append_left _ hs.1, hs.2⟩) ⟨by simp, Ne.symm e⟩⟩
  | @bwd t p h q n ih =>
    intro f hf
    by_cases e : f = t
    · subst e
      exact ⟨_, _, .inr ⟨rfl, rfl⟩, h.conn.mono fun s hs => ⟨List.mem_append_left _ hs, fun z => n (z ▸ hs)⟩, .refl⟩
    · obtain ⟨u, v, hu, h1, h2⟩ := ih f ((List.mem_append.mp hf).resolve_right fun z => e (List.mem_singleton.mp z))
      exact ⟨u, v, hu, h1.mono fun s hs => ⟨List.mem_append_left _ hs.1, hs.2⟩, .bwd (h2.mono fun s hs => ⟨List.mem_append_left _ hs.1, hs.2⟩) ⟨by simp, Ne.symm e⟩⟩
/-- a tie of the way is left out: its ends are joined by the others and the tie between the way's ends -/
theorem Path.around [DecidableEq τ] {P : τ → Prop} {x y : ν} {p : List τ} (h : Path a b P x y p) {f : τ} (hf : f ∈ p) {Q : τ → Prop} (s : ∀ t, t ∈ p → t ≠ f → Q t) (g : Conn a b Q x y) : Conn a b Q (a f) (b f) := by
  obtain ⟨u, v, hu, h1, h2⟩ := h.split f hf
  have k : Conn a b Q u v := ((h1.mono fun t ht => s t ht.1 ht.2).symm.trans g).trans (h2.mono fun t ht => s t ht.1 ht.2).symm
  rcases hu with ⟨rfl, rfl⟩ | ⟨rfl, rfl⟩
  · exact k
  · exact k.symm
theorem Forest.noWay [DecidableEq τ] {T : τ → Prop} {x y : ν} {p : List τ} (F : Forest a b T) (h : Path a b T x y p) {f : τ} (hf : f ∈ p) : ¬ Conn a b (fun t => T t ∧ t ≠ f) x y := fun g =>
  F f (h.all f hf) (h.around hf (fun t ht n => ⟨h.all t ht, n⟩) g)
/-- x of y's way leaves, y comes -/
theorem Forest.swap [DecidableEq τ] {T T' : τ → Prop} {x y : τ} {p : List τ} (F : Forest a b T) (h : Path a b T (a y) (b y) p) (hx : x ∈ p) (s : ∀ t, T' t ↔ ((T t ∧ t ≠ x) ∨ t = y)) : Forest a b T' := by
  have F1 : Forest a b (fun t => T t ∧ t ≠ x) := fun f hf hc => F f hf.1 (hc.mono fun t ht => ⟨ht.1.1, ht.2⟩)
  exact F1.add (F.noWay h hx) s

/-- T is the cheapest tree of E -/
structure IsMst (a b : τ → ν) (E : τ → Prop) (lt : τ → τ → Prop) (T : τ → Prop) : Prop where
  sub : ∀ t, T t → E t
  forest : Forest a b T
  cover : ∀ t, E t → ¬ T t → Conn a b (fun s => T s ∧ lt s t) (a t) (b t)
theorem IsMst.cheaper [DecidableEq τ] {E T : τ → Prop} {lt : τ → τ → Prop} (M : IsMst a b E lt T) {t : τ} (ht : E t) (nt : ¬ T t) {p : List τ} (h : Path a b T (a t) (b t) p) : ∀ f ∈ p, lt f t := by
  intro f hf
  refine Classical.byContradiction fun n => ?_
  exact M.forest.noWay h hf ((M.cover t ht nt).mono fun s hs => ⟨hs.1, fun e => n (e ▸ hs.2)⟩)
theorem IsMst.unique {L : List τ} {lt : τ → τ → Prop} [DecidableRel lt] (ir : ∀ t, ¬ lt t t) (tr : ∀ r s t, lt r s → lt s t → lt r t) {T S : τ → Prop}
    (M : IsMst a b (· ∈ L) lt T) (N : IsMst a b (· ∈ L) lt S) : ∀ t, T t ↔ S t := by
  have rk : ∀ s t, s ∈ L → lt s t → (L.filter fun r => lt r s).length < (L.filter fun r => lt r t).length := by
    intro s t hs hl
    have sub : ∀ K : List τ, (K.filter fun r => lt r s).length ≤ (K.filter fun r => lt r t).length ∧ (s ∈ K → (K.filter fun r => lt r s).length < (K.filter fun r => lt r t).length) := by
      intro K
      induction K with
      | nil => exact ⟨Nat.le_refl _, fun h => by cases h⟩
      | cons r K ih =>
        have e1 : lt r s → lt r t := fun h => tr _ _ _ h hl
        by_cases h1 : lt r s
        · have h2 := e1 h1
          simp only [List.filter_cons, h1, h2, decide_true, if_true, List.length_cons]
          refine ⟨Nat.succ_le_succ ih.1, fun h => ?_⟩
          rcases List.mem_cons.mp h with h | h
          · subst h; exact absurd h1 (ir _)
          · exact Nat.succ_lt_succ (ih.2 h)
        · by_cases h2 : lt r t
          · simp only [List.filter_cons, h1, h2, decide_true, decide_false, if_true, List.length_cons, Bool.false_eq_true, if_false]
            exact ⟨Nat.le_succ_of_le ih.1, fun _ => Nat.lt_succ_of_le ih.1⟩
          · simp only [List.filter_cons, h1, h2, decide_false, Bool.false_eq_true, if_false]
            refine ⟨ih.1, fun h => ?_⟩
            rcases List.mem_cons.mp h with h | h
            · subst h; exact absurd hl h2
            · exact ih.2 h
    exact (sub L).2 hs
  have main : ∀ n t, t ∈ L → (L.filter fun r => lt r t).length = n → (T t ↔ S t) := by
    intro n
    induction n using Nat.strongRecOn with
    | ind n ih =>
      intro t ht hn
      have low : ∀ s, s ∈ L → lt s t → (T s ↔ S s) := fun s hs hl => ih _ (hn ▸ rk s t hs hl) s hs rfl
      constructor
      · intro h
        refine Classical.byContradiction fun ns => ?_
        refine M.forest t h ((N.cover t ht ns).mono fun s hs => ⟨(low s (N.sub s hs.1) hs.2).mpr hs.1, fun e => ?_⟩)
        rw [e] at hs; exact ir _ hs.2
      · intro h
        refine Classical.byContradiction fun ns => ?_
        refine N.forest t h ((M.cover t ht ns).mono fun s hs => ⟨(low s (M.sub s hs.1) hs.2).mp hs.1, fun e => ?_⟩)
        rw [e] at hs; exact ir _ hs.2
  intro t
  constructor
  · intro h; exact (main _ t (M.sub t h) rfl).mp h
  · intro h; exact (main _ t (N.sub t h) rfl).mpr h

/-! ### margins: one tie's price alone changes (lt to lt') -/
variable [DecidableEq τ] {E T : τ → Prop} {lt lt' : τ → τ → Prop}
/-- a tie of the tree stays: wherever it is on a way, it is cheaper still -/
theorem IsMst.stays (M : IsMst a b E lt T) {e : τ} (same : ∀ s t, s ≠ e → t ≠ e → (lt' s t ↔ lt s t)) (he : T e) (W : τ → List τ) (hW : ∀ t, E t → ¬ T t → Path a b T (a t) (b t) (W t))
    (hc : ∀ t, E t → ¬ T t → e ∈ W t → lt' e t) : IsMst a b E lt' T := by
  refine ⟨M.sub, M.forest, fun t ht nt => (hW t ht nt).conn.mono fun s hs => ⟨(hW t ht nt).all s hs, ?_⟩⟩
  by_cases h : s = e
  · subst h; exact hc t ht nt hs
  · exact (same s t h fun z => nt (z ▸ he)).mpr (M.cheaper ht nt (hW t ht nt) s hs)
/-- it leaves: the cheapest of those on whose way it is comes -/
theorem IsMst.leaves (M : IsMst a b E lt T) (tr : ∀ r s t, lt r s → lt s t → lt r t) {e o : τ} (same : ∀ s t, s ≠ e → t ≠ e → (lt' s t ↔ lt s t)) (he : T e) (W : τ → List τ) (hW : ∀ t, E t → ¬ T t → Path a b T (a t) (b t) (W t))
    (ho : E o) (no : ¬ T o) (heo : e ∈ W o) (least : ∀ t, E t → ¬ T t → e ∈ W t → t ≠ o → lt o t) (dear : lt' o e) (tr' : ∀ r s t, lt' r s → lt' s t → lt' r t) {T' : τ → Prop} (hT : ∀ t, T' t ↔ ((T t ∧ t ≠ e) ∨ t = o)) : IsMst a b E lt' T' := by
  have oe : o ≠ e := fun z => no (z ▸ he)
  have detour : Conn a b (fun s => T' s ∧ (s = o ∨ (lt s o ∧ s ≠ e))) (a e) (b e) :=
    (hW o ho no).around heo (fun t ht n => ⟨(hT t).mpr (.inl ⟨(hW o ho no).all t ht, n⟩), .inr ⟨M.cheaper ho no (hW o ho no) t ht, n⟩⟩) (.one ⟨(hT o).mpr (.inr rfl), .inl rfl⟩)
  refine ⟨fun t ht => ?_, M.forest.swap (hW o ho no) heo hT, fun t ht nt => ?_⟩
  · rcases (hT t).mp ht with h | h
    · exact M.sub t h.1
    · rw [h]; exact ho
  · by_cases hte : t = e
    · subst hte
      refine detour.mono fun s hs => ⟨hs.1, ?_⟩
      rcases hs.2 with h | ⟨h, n⟩
      · rw [h]; exact dear
      · exact tr' _ _ _ ((same s o n oe).mpr h) dear
    · have nt' : ¬ T t := fun h => nt ((hT t).mpr (.inl ⟨h, hte⟩))
      have nto : t ≠ o := fun h => nt ((hT t).mpr (.inr h))
      have low : ∀ s, s ∈ W t → s ≠ e → T' s ∧ lt' s t := fun s hs n => ⟨(hT s).mpr (.inl ⟨(hW t ht nt').all s hs, n⟩), (same s t n hte).mpr (M.cheaper ht nt' (hW t ht nt') s hs)⟩
      by_cases het : e ∈ W t
      · have lo : lt o t := least t ht nt' het nto
        have d2 : Conn a b (fun s => T' s ∧ lt' s t) (a e) (b e) := detour.mono fun s hs => ⟨hs.1, by
          rcases hs.2 with h | ⟨h, n⟩
          · rw [h]; exact (same o t oe hte).mpr lo
          · exact (same s t n hte).mpr (tr _ _ _ h lo)⟩
        obtain ⟨u, v, hu, h1, h2⟩ := (hW t ht nt').split e het
        have k1 : Conn a b (fun s => T' s ∧ lt' s t) (a t) u := h1.mono fun s hs => low s hs.1 hs.2
        have k2 : Conn a b (fun s => T' s ∧ lt' s t) v (b t) := h2.mono fun s hs => low s hs.1 hs.2
        rcases hu with ⟨rfl, rfl⟩ | ⟨rfl, rfl⟩
        · exact (k1.trans d2).trans k2
        · exact (k1.trans d2.symm).trans k2
      · exact (hW t ht nt').conn.mono fun s hs => low s hs fun z => het (z ▸ hs)
/-- a tie without stays without: the dearest of its way is cheaper still -/
theorem IsMst.without (M : IsMst a b E lt T) {e : τ} (same : ∀ s t, s ≠ e → t ≠ e → (lt' s t ↔ lt s t)) (ne : ¬ T e) (W : τ → List τ) (hW : ∀ t, E t → ¬ T t → Path a b T (a t) (b t) (W t))
    (hc : ∀ s, s ∈ W e → lt' s e) : IsMst a b E lt' T := by
  refine ⟨M.sub, M.forest, fun t ht nt => (hW t ht nt).conn.mono fun s hs => ⟨(hW t ht nt).all s hs, ?_⟩⟩
  by_cases h : t = e
  · subst h; exact hc s hs
  · exact (same s t (fun z => ne (z ▸ (hW t ht nt).all s hs)) h).mpr (M.cheaper ht nt (hW t ht nt) s hs)
/-- it comes: the dearest of its way leaves -/
theorem IsMst.comes (M : IsMst a b E lt T) (tr : ∀ r s t, lt r s → lt s t → lt r t) {e o : τ} (same : ∀ s t, s ≠ e → t ≠ e → (lt' s t ↔ lt s t)) (ee : E e) (ne : ¬ T e) (W : τ → List τ) (hW : ∀ t, E t → ¬ T t → Path a b T (a t) (b t) (W t))
    (ho : o ∈ W e) (most : ∀ s, s ∈ W e → s ≠ o → lt s o) (cheap : lt' e o) (tr' : ∀ r s t, lt' r s → lt' s t → lt' r t) {T' : τ → Prop} (hT : ∀ t, T' t ↔ ((T t ∧ t ≠ o) ∨ t = e)) : IsMst a b E lt' T' := by
  have To : T o := (hW e ee ne).all o ho
  have oe : o ≠ e := fun z => ne (z ▸ To)
  have detour : Conn a b (fun s => T' s ∧ lt' s o) (a o) (b o) :=
    (hW e ee ne).around ho (fun t ht n => ⟨(hT t).mpr (.inl ⟨(hW e ee ne).all t ht, n⟩), (same t o (fun z => ne (z ▸ (hW e ee ne).all t ht)) oe).mpr (most t ht n)⟩) (.one ⟨(hT e).mpr (.inr rfl), cheap⟩)
  refine ⟨fun t ht => ?_, M.forest.swap (hW e ee ne) ho hT, fun t ht nt => ?_⟩
  · rcases (hT t).mp ht with h | h
    · exact M.sub t h.1
    · rw [h]; exact ee
  · by_cases hto : t = o
    · subst hto; exact detour
    · have nt' : ¬ T t := fun h => nt ((hT t).mpr (.inl ⟨h, hto⟩))
      have nte : t ≠ e := fun h => nt ((hT t).mpr (.inr h))
      have low : ∀ s, s ∈ W t → s ≠ o → T' s ∧ lt' s t := fun s hs n => ⟨(hT s).mpr (.inl ⟨(hW t ht nt').all s hs, n⟩), (same s t (fun z => ne (z ▸ (hW t ht nt').all s hs)) nte).mpr (M.cheaper ht nt' (hW t ht nt') s hs)⟩
      by_cases hot : o ∈ W t
      · have lo : lt' o t := (same o t oe nte).mpr (M.cheaper ht nt' (hW t ht nt') o hot)
        have d2 : Conn a b (fun s => T' s ∧ lt' s t) (a o) (b o) := detour.mono fun s hs => ⟨hs.1, tr' _ _ _ hs.2 lo⟩
        obtain ⟨u, v, hu, h1, h2⟩ := (hW t ht nt').split o hot
        have k1 : Conn a b (fun s => T' s ∧ lt' s t) (a t) u := h1.mono fun s hs => low s hs.1 hs.2
        have k2 : Conn a b (fun s => T' s ∧ lt' s t) v (b t) := h2.mono fun s hs => low s hs.1 hs.2
        rcases hu with ⟨rfl, rfl⟩ | ⟨rfl, rfl⟩
        · exact (k1.trans d2).trans k2
        · exact (k1.trans d2.symm).trans k2
      · exact (hW t ht nt').conn.mono fun s hs => low s hs fun z => hot (z ▸ hs)
end
end Ct
end

section
set_option autoImplicit false
set_option linter.all false
namespace Ct
/-! Kruskal's loop with labels; the ways breadth first -/
section
variable {τ ν : Type} [DecidableEq ν] {a b : τ → ν}

def look (lab : List (ν × ν)) (x : ν) : ν := match lab.find? (fun p => decide (p.1 = x)) with
  | some p => p.2
  | none => x
def relabel (lab : List (ν × ν)) (mine yours : ν) : List (ν × ν) := lab.map fun p => (p.1, if p.2 = yours then mine else p.2)
theorem relabel_keys (lab : List (ν × ν)) (m y : ν) : (relabel lab m y).map (·.1) = lab.map (·.1) := by
  unfold relabel
  rw [List.map_map]; rfl
theorem look_relabel (m y x : ν) : ∀ (lab : List (ν × ν)), x ∈ lab.map (·.1) → look (relabel lab m y) x = if look lab x = y then m else look lab x
  | [], h => by cases h
  | p :: r, h => by
    by_cases e : p.1 = x
    · simp [look, relabel, e]
    · have h' : x ∈ r.map (·.1) := by
        rcases List.mem_cons.mp h with h | h
        · exact absurd h.symm e
        · exact h
      have h2 := look_relabel m y x r h'
      have e1 : look (p :: r) x = look r x := by simp [look, e]
      have e2 : look (relabel (p :: r) m y) x = look (relabel r m y) x := by simp [look, relabel, e]
      rw [e1, e2, h2]
theorem look_self (x : ν) : ∀ (ps : List ν), look (ps.map fun p => (p, p)) x = x
  | [] => rfl
  | p :: r => by
    by_cases e : p = x
    · simp [look, e]
    · have := look_self x r
      simpa [look, e] using this

/-- labels tell what is joined -/
def Labels (a b : τ → ν) (S : ν → Prop) (l : ν → ν) (K : τ → Prop) : Prop := ∀ x y, S x → S y → (l x = l y ↔ Conn a b K x y)
theorem Labels.start {S : ν → Prop} {l : ν → ν} (h : ∀ x, l x = x) : Labels a b S l (fun _ => False) := fun x y _ _ => by
  rw [h, h]
  constructor
  · rintro rfl; exact .refl
  · intro c
    cases c with
    | refl => rfl
    | fwd _ p => exact p.elim
    | bwd _ p => exact p.elim
theorem Labels.join {S : ν → Prop} {l l' : ν → ν} {K K' : τ → Prop} (L : Labels a b S l K) {e : τ} (ha : S (a e)) (hb : S (b e)) (hl : ∀ x, S x → l' x = if l x = l (b e) then l (a e) else l x) (hK : ∀ t, K' t ↔ (K t ∨ t = e)) : Labels a b S l' K' := fun x y hx hy => by
  have up : ∀ {u v : ν}, Conn a b K u v → Conn a b K' u v := fun h => h.mono fun t ht => (hK t).mpr (.inl ht)
  have ke : K' e := (hK e).mpr (.inr rfl)
  rw [hl x hx, hl y hy]
  have dn : Conn a b K' x y → Conn a b K x y ∨ (Conn a b K x (a e) ∧ Conn a b K (b e) y) ∨ (Conn a b K x (b e) ∧ Conn a b K (a e) y) := fun h => h.cut fun t ht => (hK t).mp ht
  by_cases h1 : l x = l (b e) <;> by_cases h2 : l y = l (b e)
  · rw [if_pos h1, if_pos h2]
    exact ⟨fun _ => up (((L x _ hx hb).mp h1).trans ((L y _ hy hb).mp h2).symm), fun _ => rfl⟩
  · rw [if_pos h1, if_neg h2]
    constructor
    · intro h
      exact ((up ((L x _ hx hb).mp h1)).trans (.eno ke)).trans (up ((L _ y ha hy).mp h))
    · intro h
      rcases dn h with h | ⟨_, h⟩ | ⟨_, h⟩
      · exact absurd (((L x y hx hy).mpr h).symm.trans h1) h2
      · exact absurd ((L _ y hb hy).mpr h).symm h2
      · exact (L _ y ha hy).mpr h
  · rw [if_neg h1, if_pos h2]
    constructor
    · intro h
      exact ((up ((L x _ hx ha).mp h)).trans (.one ke)).trans (up ((L y _ hy hb).mp h2).symm)
    · intro h
      rcases dn h with h | ⟨h, _⟩ | ⟨h, _⟩
      · exact absurd (((L x y hx hy).mpr h).trans h2) h1
      · exact (L x _ hx ha).mpr h
      · exact absurd ((L x _ hx hb).mpr h) h1
  · rw [if_neg h1, if_neg h2]
    constructor
    · intro h; exact up ((L x y hx hy).mp h)
    · intro h
      rcases dn h with h | ⟨_, h⟩ | ⟨h, _⟩
      · exact (L x y hx hy).mpr h
      · exact absurd ((L _ y hb hy).mpr h).symm h2
      · exact absurd ((L x _ hx hb).mpr h) h1

def kstep (a b : τ → ν) (s : List (ν × ν) × List τ) (t : τ) : List (ν × ν) × List τ :=
  if look s.1 (a t) = look s.1 (b t) then s else (relabel s.1 (look s.1 (a t)) (look s.1 (b t)), s.2 ++ [t])
def krun (a b : τ → ν) (ps : List ν) (L : List τ) : List (ν × ν) × List τ := L.foldl (kstep a b) (ps.map fun p => (p, p), [])
structure Kin (a b : τ → ν) (ps : List ν) (lt : τ → τ → Prop) (pre : List τ) (s : List (ν × ν) × List τ) : Prop where
  keys : s.1.map (·.1) = ps
  lab : Labels a b (· ∈ ps) (look s.1) (· ∈ s.2)
  sub : ∀ t ∈ s.2, t ∈ pre
  nd : s.2.Nodup
  forest : Forest a b (· ∈ s.2)
  cover : ∀ t ∈ pre, t ∉ s.2 → Conn a b (fun r => r ∈ s.2 ∧ lt r t) (a t) (b t)
theorem Kin.start (a b : τ → ν) (ps : List ν) (lt : τ → τ → Prop) : Kin a b ps lt [] (ps.map fun p => (p, p), []) where
  keys := by
    rw [List.map_map]
    exact List.map_id'' (fun _ => rfl) ps
  lab := by
    have := Labels.start (a := a) (b := b) (S := (· ∈ ps)) (l := look (ps.map fun p => (p, p))) (fun x => look_self x ps)
    intro x y hx hy
    rw [this x y hx hy]
    exact ⟨fun h => h.mono fun _ z => z.elim, fun h => h.mono fun _ z => nomatch z⟩
  sub := fun _ h => nomatch h
  nd := List.nodup_nil
  forest := fun _ h => nomatch h
  cover := fun _ h => nomatch h
theorem Kin.turn [DecidableEq τ] {ps : List ν} {lt : τ → τ → Prop} {pre : List τ} {s : List (ν × ν) × List τ} (I : Kin a b ps lt pre s) {t : τ} (ha : a t ∈ ps) (hb : b t ∈ ps) (hlt : ∀ r ∈ pre, lt r t) (hn : t ∉ pre) : Kin a b ps lt (pre ++ [t]) (kstep a b s t) := by
  unfold kstep
  by_cases h : look s.1 (a t) = look s.1 (b t)
  · rw [if_pos h]
    refine ⟨I.keys, I.lab, fun r hr => List.mem_append_left _ (I.sub r hr), I.nd, I.forest, fun r hr nr => ?_⟩
    rcases List.mem_append.mp hr with hr | hr
    · exact I.cover r hr nr
    · rw [List.mem_singleton.mp hr]
      exact ((I.lab _ _ ha hb).mp h).mono fun q hq => ⟨hq, hlt q (I.sub q hq)⟩
  · rw [if_neg h]
    have hK : ∀ r, r ∈ s.2 ++ [t] ↔ (r ∈ s.2 ∨ r = t) := fun r => by simp
    have hc : ¬ Conn a b (· ∈ s.2) (a t) (b t) := fun c => h ((I.lab _ _ ha hb).mpr c)
    refine ⟨(relabel_keys _ _ _).trans I.keys, I.lab.join ha hb (fun x hx => look_relabel _ _ _ _ (I.keys ▸ hx)) hK, fun r hr => ?_, ?_, I.forest.add hc hK, fun r hr nr => ?_⟩
    · rcases (hK r).mp hr with hr | rfl
      · exact List.mem_append_left _ (I.sub r hr)
      · simp
    · refine List.nodup_append.mpr ⟨I.nd, by simp, fun x hx y hy e => ?_⟩
      rw [List.mem_singleton.mp hy] at e
      exact hn (e ▸ I.sub x hx)
    · rcases List.mem_append.mp hr with hr | hr
      · exact (I.cover r hr fun z => nr (List.mem_append_left _ z)).mono fun q hq => ⟨List.mem_append_left _ hq.1, hq.2⟩
      · exact absurd (by rw [List.mem_singleton.mp hr]; simp) nr
theorem Kin.run [DecidableEq τ] {ps : List ν} {lt : τ → τ → Prop} : ∀ (L pre : List τ) (s : List (ν × ν) × List τ), Kin a b ps lt pre s → (∀ t ∈ L, a t ∈ ps ∧ b t ∈ ps) → (pre ++ L).Pairwise lt → (∀ t, ¬ lt t t) → Kin a b ps lt (pre ++ L) (L.foldl (kstep a b) s)
  | [], pre, s, I, _, _, _ => by simpa using I
  | t :: L, pre, s, I, ho, hp, ir => by
    have e : pre ++ t :: L = (pre ++ [t]) ++ L := by simp
    rw [List.foldl_cons]
    have hp' := hp
    rw [e] at hp' ⊢
    have hlt : ∀ r ∈ pre, lt r t := fun r hr => (List.pairwise_append.mp (List.pairwise_append.mp hp').1).2.2 r hr t (by simp)
    exact Kin.run L (pre ++ [t]) _ (I.turn (ho t (by simp)).1 (ho t (by simp)).2 hlt fun z => ir _ (hlt _ z)) (fun r hr => ho r (List.mem_cons_of_mem _ hr)) hp' ir
theorem krun_mst [DecidableEq τ] {ps : List ν} {lt : τ → τ → Prop} {L : List τ} (ho : ∀ t ∈ L, a t ∈ ps ∧ b t ∈ ps) (hp : L.Pairwise lt) (ir : ∀ t, ¬ lt t t) : IsMst a b (· ∈ L) lt (· ∈ (krun a b ps L).2) ∧ (krun a b ps L).2.Nodup := by
  have I := Kin.run (a := a) (b := b) (ps := ps) (lt := lt) L [] _ (Kin.start a b ps lt) ho (by simpa using hp) ir
  rw [List.nil_append] at I
  exact ⟨⟨I.sub, I.forest, I.cover⟩, I.nd⟩

/-! ### ways, breadth first: the places met, in their order, each with the ties that lead to it -/
def met (A : List (ν × List τ)) : List ν := A.map (·.1)
def wayTo (A : List (ν × List τ)) (x : ν) : Option (List τ) := (A.find? fun (p : ν × List τ) => decide (p.1 = x)).map (·.2)
theorem wayTo_mem {A : List (ν × List τ)} {x : ν} {p : List τ} (h : wayTo A x = some p) : (x, p) ∈ A := by
  unfold wayTo at h
  cases e : A.find? (fun p => decide (p.1 = x)) with
  | none => rw [e] at h; cases h
  | some q =>
    rw [e] at h
    have h1 : q.2 = p := Option.some.inj h
    have h2 : q.1 = x := of_decide_eq_true (List.find?_some (p := fun (p : ν × List τ) => decide (p.1 = x)) e)
    have h3 := List.mem_of_find?_eq_some e
    rw [← h1, ← h2]; exact h3
theorem wayTo_none {A : List (ν × List τ)} {x : ν} : wayTo A x = none ↔ x ∉ met A := by
  unfold wayTo met
  rw [Option.map_eq_none_iff, List.find?_eq_none]
  simp only [decide_eq_true_eq, List.mem_map, not_exists, not_and]
def bstep (a b : τ → ν) (here : ν) (A : List (ν × List τ)) (t : τ) : List (ν × List τ) :=
  if here = a t ∨ here = b t then
    let there := if here = a t then b t else a t
    if there ∈ met A then A else A ++ [(there, (wayTo A here).getD [] ++ [t])]
  else A
structure Bin (a b : τ → ν) (ts : List τ) (x : ν) (A : List (ν × List τ)) : Prop where
  nd : (met A).Nodup
  start : x ∈ met A
  way : ∀ q ∈ A, Path a b (· ∈ ts) x q.1 q.2 ∧ ∀ t ∈ q.2, a t ∈ met A ∧ b t ∈ met A
  within : ∀ y ∈ met A, y = x ∨ ∃ t ∈ ts, y = a t ∨ y = b t
theorem Bin.first (a b : τ → ν) (ts : List τ) (x : ν) : Bin a b ts x [(x, [])] := ⟨by simp [met], by simp [met], by simpa using Path.nil, by simp [met]⟩
theorem bstep_old {here : ν} {A : List (ν × List τ)} {t : τ} : ∀ q ∈ A, q ∈ bstep a b here A t := by
  intro q hq
  unfold bstep
  dsimp only
  by_cases h : here = a t ∨ here = b t
  · rw [if_pos h]
    by_cases h2 : (if here = a t then b t else a t) ∈ met A
    · rw [if_pos h2]; exact hq
    · rw [if_neg h2]; exact List.mem_append_left _ hq
  · rw [if_neg h]; exact hq
theorem met_old {here : ν} {A : List (ν × List τ)} {t : τ} {y : ν} (h : y ∈ met A) : y ∈ met (bstep a b here A t) := by
  obtain ⟨q, hq, e⟩ := List.mem_map.mp h
  exact List.mem_map.mpr ⟨q, bstep_old q hq, e⟩
theorem Bin.turn [DecidableEq τ] {ts : List τ} {x here : ν} {A : List (ν × List τ)} (I : Bin a b ts x A) (hh : here ∈ met A) {t : τ} (ht : t ∈ ts) : Bin a b ts x (bstep a b here A t) ∧ (here = a t → b t ∈ met (bstep a b here A t)) ∧ (here = b t → a t ∈ met (bstep a b here A t)) := by
  unfold bstep
  by_cases h : here = a t ∨ here = b t
  · rw [if_pos h]
    dsimp only
    have hends : ∀ {th : ν}, th = (if here = a t then b t else a t) → (here = a t ∧ th = b t) ∨ (here = b t ∧ th = a t) := fun {th} e => by
      by_cases h1 : here = a t
      · rw [if_pos h1] at e; exact .inl ⟨h1, e⟩
      · rw [if_neg h1] at e; exact .inr ⟨h.resolve_left h1, e⟩
    generalize hth : (if here = a t then b t else a t) = th
    have he := hends hth.symm
    have both : here ∈ met A → ∀ B : List (ν × List τ), (∀ y ∈ met A, y ∈ met B) → th ∈ met B → (here = a t → b t ∈ met B) ∧ (here = b t → a t ∈ met B) := fun hm B hB hB2 => by
      rcases he with ⟨e1, e2⟩ | ⟨e1, e2⟩
      · refine ⟨fun _ => e2 ▸ hB2, fun e3 => ?_⟩
        rw [← e1]; exact hB _ hm
      · refine ⟨fun e3 => ?_, fun _ => e2 ▸ hB2⟩
        rw [← e1]; exact hB _ hm
    by_cases hm : th ∈ met A
    · rw [if_pos hm]
      exact ⟨I, both hh A (fun _ z => z) hm⟩
    · rw [if_neg hm]
      obtain ⟨p, hp⟩ : ∃ p, wayTo A here = some p := by
        cases e : wayTo A here with
        | none => exact absurd hh (wayTo_none.mp e)
        | some p => exact ⟨p, rfl⟩
      have hA := I.way _ (wayTo_mem hp)
      rw [hp, Option.getD_some]
      have mB : met (A ++ [(th, p ++ [t])]) = met A ++ [th] := by simp [met]
      have nt : t ∉ p := fun z => by
        have := hA.2 t z
        rcases he with ⟨_, e⟩ | ⟨_, e⟩
        · exact hm (e ▸ this.2)
        · exact hm (e ▸ this.1)
      have newWay : Path a b (· ∈ ts) x th (p ++ [t]) := by
        rcases he with ⟨e1, e2⟩ | ⟨e1, e2⟩
        · rw [e2]; exact .fwd (e1 ▸ hA.1) ht nt
        · rw [e2]; exact .bwd (e1 ▸ hA.1) ht nt
      refine ⟨⟨?_, ?_, fun q hq => ?_, fun y hy => ?_⟩, both hh _ (fun y hy => by rw [mB]; exact List.mem_append_left _ hy) (by rw [mB]; simp)⟩
      · rw [mB]
        refine List.nodup_append.mpr ⟨I.nd, by simp, fun u hu v hv e => ?_⟩
        rw [List.mem_singleton.mp hv] at e
        exact hm (e ▸ hu)
      · rw [mB]; exact List.mem_append_left _ I.start
      · rw [mB]
        rcases List.mem_append.mp hq with hq | hq
        · exact ⟨(I.way q hq).1, fun r hr => ⟨List.mem_append_left _ ((I.way q hq).2 r hr).1, List.mem_append_left _ ((I.way q hq).2 r hr).2⟩⟩
        · rw [List.mem_singleton.mp hq]
          refine ⟨newWay, fun r hr => ?_⟩
          rcases List.mem_append.mp hr with hr | hr
          · exact ⟨List.mem_append_left _ (hA.2 r hr).1, List.mem_append_left _ (hA.2 r hr).2⟩
          · rw [List.mem_singleton.mp hr]
            rcases he with ⟨e1, e2⟩ | ⟨e1, e2⟩
            · exact ⟨List.mem_append_left _ (e1 ▸ hh), by rw [e2]; simp⟩
            · exact ⟨by rw [e2]; simp, List.mem_append_left _ (e1 ▸ hh)⟩
      · rw [mB] at hy
        rcases List.mem_append.mp hy with hy | hy
        · exact I.within y hy
        · rw [List.mem_singleton.mp hy]
          rcases he with ⟨_, e⟩ | ⟨_, e⟩
          · exact .inr ⟨t, ht, .inr e⟩
          · exact .inr ⟨t, ht, .inl e⟩
  · rw [if_neg h]
    exact ⟨I, fun e => absurd (.inl e) h, fun e => absurd (.inr e) h⟩
def bround (a b : τ → ν) (ts : List τ) (here : ν) (A : List (ν × List τ)) : List (ν × List τ) := ts.foldl (bstep a b here) A
theorem met_fold {here : ν} {y : ν} : ∀ (L : List τ) (A : List (ν × List τ)), y ∈ met A → y ∈ met (L.foldl (bstep a b here) A)
  | [], _, h => h
  | _ :: L, _, h => met_fold L _ (met_old h)
theorem Bin.fold [DecidableEq τ] {ts : List τ} {x here : ν} : ∀ (L : List τ) (A : List (ν × List τ)), (∀ t ∈ L, t ∈ ts) → Bin a b ts x A → here ∈ met A → Bin a b ts x (L.foldl (bstep a b here) A) ∧ ∀ t ∈ L, (here = a t → b t ∈ met (L.foldl (bstep a b here) A)) ∧ (here = b t → a t ∈ met (L.foldl (bstep a b here) A))
  | [], A, _, I, _ => ⟨I, fun _ h => nomatch h⟩
  | t :: L, A, hs, I, hh => by
    obtain ⟨I1, h1, h2⟩ := I.turn hh (hs t (by simp))
    obtain ⟨I2, h3⟩ := Bin.fold L _ (fun r hr => hs r (List.mem_cons_of_mem _ hr)) I1 (met_old hh)
    refine ⟨I2, fun r hr => ?_⟩
    rcases List.mem_cons.mp hr with rfl | hr
    · exact ⟨fun e => met_fold L _ (h1 e), fun e => met_fold L _ (h2 e)⟩
    · exact h3 r hr
theorem bstep_pre {here : ν} {A : List (ν × List τ)} {t : τ} : ∃ R, bstep a b here A t = A ++ R := by
  unfold bstep
  dsimp only
  by_cases h : here = a t ∨ here = b t
  · rw [if_pos h]
    by_cases h2 : (if here = a t then b t else a t) ∈ met A
    · rw [if_pos h2]; exact ⟨[], (List.append_nil _).symm⟩
    · rw [if_neg h2]; exact ⟨_, rfl⟩
  · rw [if_neg h]; exact ⟨[], (List.append_nil _).symm⟩
theorem bfold_pre {here : ν} : ∀ (L : List τ) (A : List (ν × List τ)), ∃ R, L.foldl (bstep a b here) A = A ++ R
  | [], A => ⟨[], by simp⟩
  | t :: L, A => by
    obtain ⟨R1, e1⟩ := bstep_pre (a := a) (b := b) (here := here) (A := A) (t := t)
    obtain ⟨R2, e2⟩ := bfold_pre (here := here) L (bstep a b here A t)
    exact ⟨R1 ++ R2, by rw [List.foldl_cons, e2, e1, List.append_assoc]⟩
/-- the state ahead of a turn -/
structure Bst (a b : τ → ν) (ts : List τ) (x : ν) (k : Nat) (A : List (ν × List τ)) : Prop where
  bin : Bin a b ts x A
  le : k ≤ A.length
  done : ∀ i, i < k → ∀ y, (met A)[i]? = some y → ∀ t ∈ ts, (y = a t → b t ∈ met A) ∧ (y = b t → a t ∈ met A)
theorem Bst.first (a b : τ → ν) (ts : List τ) (x : ν) : Bst a b ts x 0 [(x, [])] := ⟨.first a b ts x, Nat.zero_le _, fun _ h => absurd h (Nat.not_lt_zero _)⟩
theorem Bst.turn [DecidableEq τ] {ts : List τ} {x here : ν} {k : Nat} {A : List (ν × List τ)} (I : Bst a b ts x k A) (hh : (met A)[k]? = some here) : Bst a b ts x (k + 1) (bround a b ts here A) := by
  have hm : here ∈ met A := List.mem_of_getElem? hh
  have hk : k < A.length := by
    have := (List.getElem?_eq_some_iff.mp hh).1
    rwa [met, List.length_map] at this
  obtain ⟨I2, h2⟩ := I.bin.fold (here := here) ts A (fun _ h => h) hm
  obtain ⟨R, eR⟩ := bfold_pre (a := a) (b := b) (here := here) ts A
  refine ⟨I2, ?_, fun i hi y hy t ht => ?_⟩
  · unfold bround
    rw [eR, List.length_append]
    omega
  · have hy' : (met A)[i]? = some y := by
      unfold bround at hy
      rw [eR, met, List.map_append, List.getElem?_append_left (by rw [List.length_map]; omega)] at hy
      exact hy
    rcases Nat.lt_succ_iff_lt_or_eq.mp hi with hi | rfl
    · exact ⟨fun e => met_fold ts A ((I.done i hi y hy' t ht).1 e), fun e => met_fold ts A ((I.done i hi y hy' t ht).2 e)⟩
    · rw [hh] at hy'
      cases hy'
      exact h2 t ht
theorem nd_len {α : Type} [DecidableEq α] : ∀ (l m : List α), l.Nodup → l ⊆ m → l.length ≤ m.length
  | [], _, _, _ => Nat.zero_le _
  | x :: l, m, h, s => by
    have hx : x ∈ m := s (by simp)
    have h1 := nd_len l (m.erase x) (List.nodup_cons.mp h).2 fun y hy => (List.mem_erase_of_ne fun (e : y = x) => (List.nodup_cons.mp h).1 (e ▸ hy)).mpr (s (List.mem_cons_of_mem _ hy))
    have h2 := List.length_erase_of_mem hx
    have h3 : 0 < m.length := List.length_pos_of_mem hx
    rw [List.length_cons]
    omega
theorem Bst.short {ts : List τ} {x : ν} {k : Nat} {A : List (ν × List τ)} (I : Bst a b ts x k A) : A.length ≤ 2 * ts.length + 1 := by
  have sub : met A ⊆ x :: (ts.map a ++ ts.map b) := fun y hy => by
    rcases I.bin.within y hy with rfl | ⟨t, ht, rfl | rfl⟩
    · simp
    · exact List.mem_cons_of_mem _ (List.mem_append_left _ (List.mem_map_of_mem ht))
    · exact List.mem_cons_of_mem _ (List.mem_append_right _ (List.mem_map_of_mem ht))
  have h := nd_len _ _ I.bin.nd sub
  simp only [met, List.length_cons, List.length_append, List.length_map] at h
  omega
theorem Bst.closed {ts : List τ} {x : ν} {k : Nat} {A : List (ν × List τ)} (I : Bst a b ts x k A) (hk : A.length ≤ k) {y : ν} (h : Conn a b (· ∈ ts) x y) : y ∈ met A := by
  have cl : ∀ y ∈ met A, ∀ t ∈ ts, (y = a t → b t ∈ met A) ∧ (y = b t → a t ∈ met A) := fun y hy t ht => by
    obtain ⟨i, hi, e⟩ := List.getElem_of_mem hy
    rw [met, List.length_map] at hi
    exact I.done i (by omega) y (by rw [List.getElem?_eq_getElem (by rw [met, List.length_map]; exact hi), e]) t ht
  induction h with
  | refl => exact I.bin.start
  | fwd _ p ih => exact (cl _ ih _ p).1 rfl
  | bwd _ p ih => exact (cl _ ih _ p).2 rfl
/-- what is told of a way -/
def WayIs (a b : τ → ν) (P : τ → Prop) (x y : ν) : Option (List τ) → Prop
  | some p => Path a b P x y p
  | none => ¬ Conn a b P x y
theorem Bst.told {ts : List τ} {x y : ν} {k : Nat} {A : List (ν × List τ)} (I : Bst a b ts x k A) (h : A.length ≤ k ∨ y ∈ met A) : WayIs a b (· ∈ ts) x y (wayTo A y) := by
  cases e : wayTo A y with
  | some p => exact (I.bin.way _ (wayTo_mem e)).1
  | none =>
    intro c
    have hn := wayTo_none.mp e
    rcases h with h | h
    · exact hn (I.closed h c)
    · exact hn h
/-- the while: `goal` where it ends as soon as it is met -/
def brun (a b : τ → ν) (ts : List τ) (goal : Option ν) : Nat → Nat → List (ν × List τ) → List (ν × List τ)
  | 0, _, A => A
  | f + 1, k, A => match (met A)[k]? with
    | none => A
    | some here => if (∃ y, goal = some y ∧ y ∈ met A) then A else brun a b ts goal f (k + 1) (bround a b ts here A)
theorem brun_told [DecidableEq τ] {ts : List τ} {x y : ν} {goal : Option ν} (hg : ∀ z, goal = some z → z = y) : ∀ (f k : Nat) (A : List (ν × List τ)), Bst a b ts x k A → 2 * ts.length + 1 ≤ f + k → WayIs a b (· ∈ ts) x y (wayTo (brun a b ts goal f k A) y)
  | 0, k, A, I, h => I.told (.inl (by have := I.short; omega))
  | f + 1, k, A, I, h => by
    unfold brun
    cases e : (met A)[k]? with
    | none =>
      dsimp only
      refine I.told (.inl ?_)
      have := List.getElem?_eq_none_iff.mp e
      rwa [met, List.length_map] at this
    | some here =>
      dsimp only
      by_cases q : ∃ z, goal = some z ∧ z ∈ met A
      · rw [if_pos q]
        obtain ⟨z, e1, e2⟩ := q
        exact I.told (.inr (hg z e1 ▸ e2))
      · rw [if_neg q]
        exact brun_told hg f (k + 1) _ (I.turn e) (by omega)
def wayOf (a b : τ → ν) (ts : List τ) (early : Bool) (x y : ν) : Option (List τ) := wayTo (brun a b ts (if early then some y else none) (2 * ts.length + 1) 0 [(x, [])]) y
theorem wayOf_told [DecidableEq τ] (ts : List τ) (early : Bool) (x y : ν) : WayIs a b (· ∈ ts) x y (wayOf a b ts early x y) := by
  refine brun_told (fun z hz => ?_) _ _ _ (Bst.first a b ts x) (by omega)
  cases early with
  | true => exact (Option.some.inj hz).symm
  | false => cases hz
end
end Ct
end

section
set_option Elab.async false
set_option linter.all false
set_option maxRecDepth 100000
set_option maxHeartbeats 4000000
namespace Ct
open PySem PySem.Spec PyProof.Rows L2
/-! ### plain data -/
structure Net where
  ps : List Str
  ts : List Tie
/-- a word: one to eight letters -/
def WordOk (z : Str) : Prop := 1 ≤ z.length ∧ z.length ≤ 8 ∧ ∀ c ∈ z.cps.toList, 97 ≤ c ∧ c ≤ 122
def openB (N : Net) (t : Tie) : Bool := decide (t.a ∈ N.ps) && decide (t.b ∈ N.ps)
def Net.op (N : Net) : List Tie := N.ts.filter (openB N)
/-! ### how a heap bears them: tuples that are tracked -/
def StrsT (H : Hp) (a : Addr) (ws : List Str) : Prop := H a = some (.tup (ws.map V.str))
def StrsL (H : Hp) (a : Addr) (ws : List Str) : Prop := H a = some (.lst (ws.map V.str))
def TiesT (H : Hp) (a : Addr) (ts : List Tie) : Prop := ∃ ps, H a = some (.tup (ps.map V.ref)) ∧ Paired (TieAt H) ps ts
def TiesL (H : Hp) (a : Addr) (ts : List Tie) : Prop := ∃ ps, H a = some (.lst (ps.map V.ref)) ∧ Paired (TieAt H) ps ts
def NetAt (H : Hp) (a : Addr) (N : Net) : Prop := ∃ p t, H a = some (.tup [.ref p, .ref t]) ∧ StrsT H p N.ps ∧ TiesT H t N.ts
/-- the tuples stay -/
def Tups (H H' : Hp) : Prop := ∀ a xs, H a = some (.tup xs) → H' a = some (.tup xs)
theorem Tups.of {H H' : Hp} (e : Same H H') : Tups H H' := fun a xs h => e a _ h
theorem Tups.refl (H : Hp) : Tups H H := fun _ _ h => h
theorem Tups.trans {H H1 H2 : Hp} (a : Tups H H1) (b : Tups H1 H2) : Tups H H2 := fun c xs h => b c xs (a c xs h)
theorem Tups.upd {H H' : Hp} {a : Addr} {o : HO} (e : Tups H H') (h : ∀ xs, H a ≠ some (.tup xs)) : Tups H (L2.upd H' a o) := fun c xs hc => by
  rw [upd_ne (fun (z : c = a) => h xs (z ▸ hc))]
  exact e c xs hc
theorem Same.new {H : Hp} {p : Addr} {o : HO} (h : H p = none) : Same H (L2.upd H p o) := fun b u e => by
  rw [upd_ne (ne_of_none e h)]; exact e
theorem Same.mut {H H' : Hp} {p : Addr} {o : HO} (e : Same H H') (h : H p = none) : Same H (L2.upd H' p o) := fun b u hb => by
  rw [upd_ne (ne_of_none hb h)]; exact e b u hb
theorem TieAt.mono {H H' : Hp} {p : Addr} {t : Tie} (e : Tups H H') (h : TieAt H p t) : TieAt H' p t := e _ _ h
theorem ties_mono {H H' : Hp} (e : Tups H H') : ∀ {ps : List Addr} {ts : List Tie}, Paired (TieAt H) ps ts → Paired (TieAt H') ps ts
  | _, _, .nil => .nil
  | _, _, .cons h r => .cons (h.mono e) (ties_mono e r)
theorem StrsT.mono {H H' : Hp} {a : Addr} {ws : List Str} (e : Tups H H') (h : StrsT H a ws) : StrsT H' a ws := e _ _ h
theorem TiesT.mono {H H' : Hp} {a : Addr} {ts : List Tie} (e : Tups H H') (h : TiesT H a ts) : TiesT H' a ts := by
  obtain ⟨ps, h1, h2⟩ := h
  exact ⟨ps, e _ _ h1, ties_mono e h2⟩
theorem NetAt.mono {H H' : Hp} {a : Addr} {N : Net} (e : Tups H H') (h : NetAt H a N) : NetAt H' a N := by
  obtain ⟨p, t, h1, h2, h3⟩ := h
  exact ⟨p, t, e _ _ h1, h2.mono e, h3.mono e⟩
theorem Paired.get {α β : Type} {R : α → β → Prop} : ∀ {xs : List α} {ys : List β} {i : Nat} {x : α}, Paired R xs ys → xs[i]? = some x → ∃ y, ys[i]? = some y ∧ R x y
  | _, _, _, _, .nil, h => by simp at h
  | _, _, 0, _, .cons r _, h => by
    simp at h; subst h; exact ⟨_, rfl, r⟩
  | _, _, i + 1, x, .cons _ t, h => by
    obtain ⟨y, h1, h2⟩ := Paired.get (i := i) (x := x) t (by simpa using h)
    exact ⟨y, by simpa using h1, h2⟩
theorem Paired.get2 {α β : Type} {R : α → β → Prop} : ∀ {xs : List α} {ys : List β} {i : Nat} {y : β}, Paired R xs ys → ys[i]? = some y → ∃ x, xs[i]? = some x ∧ R x y
  | _, _, _, _, .nil, h => by simp at h
  | _, _, 0, _, .cons r _, h => by
    simp at h; subst h; exact ⟨_, rfl, r⟩
  | _, _, i + 1, x, .cons _ t, h => by
    obtain ⟨y, h1, h2⟩ := Paired.get2 (i := i) (y := x) t (by simpa using h)
    exact ⟨y, by simpa using h1, h2⟩
theorem Paired.snoc {α β : Type} {R : α → β → Prop} {x : α} {y : β} (r : R x y) : ∀ {xs : List α} {ys : List β}, Paired R xs ys → Paired R (xs ++ [x]) (ys ++ [y])
  | _, _, .nil => .cons r .nil
  | _, _, .cons q t => .cons q (Paired.snoc r t)
theorem inV_str (x : Str) (ws : List Str) : inV (.str x) (ws.map V.str) = decide (x ∈ ws) := by
  unfold inV
  rw [List.any_map]
  induction ws with
  | nil => rfl
  | cons y r ih =>
    rw [List.any_cons, ih]
    by_cases e : y = x
    · subst e; simp [eqV]
    · have h1 : ((fun y => eqV y (V.str x)) ∘ V.str) y = false := by
        show (y == x) = false
        exact beq_eq_false_iff_ne.mpr e
      rw [h1, Bool.false_or]
      by_cases h2 : x ∈ r
      · rw [decide_eq_true h2, decide_eq_true (List.mem_cons_of_mem _ h2)]
      · rw [decide_eq_false h2, decide_eq_false (fun h => h2 ((List.mem_cons.mp h).resolve_left (Ne.symm e)))]
theorem flat_strs (ws : List Str) : (ws.map V.str).all flatV = true := by
  rw [List.all_map]; exact List.all_eq_true.mpr fun _ _ => rfl
theorem dec_str (x y : Str) : decide (V.str x = V.str y) = decide (x = y) := by
  by_cases h : x = y
  · subst h; simp
  · rw [decide_eq_false h, decide_eq_false (fun e => h (V.str.inj e))]
end Ct
end

section
set_option Elab.async false
set_option linter.all false
set_option maxRecDepth 100000
set_option maxHeartbeats 4000000
namespace Ct
open PySem PySem.Spec PyProof.Rows L2 Evl
/-! ### what evaluates to what, told by a relation -/
def EvR (te : TE) (σ : L2.St) (H : Hp) (P : V → Hp → Prop) : Prop := ∀ H1, Ex H H1 → ∀ Q : VK, (∀ v H2, Ex H1 H2 → P v H2 → Q v H2) → te σ H1 Q
def EvLR (te : TE) (σ : L2.St) (H : Hp) (P : List V → Hp → Prop) : Prop := ∀ H1, Ex H H1 → ∀ Q : VK, (∀ p ys H2, H1 p = none → Ex H1 H2 → H2 p = some (.lst ys) → P ys H2 → Q (.ref p) H2) → te σ H1 Q
def EvUR (te : TE) (σ : L2.St) (H : Hp) (P : List V → Hp → Prop) : Prop := ∀ H1, Ex H H1 → ∀ Q : VK, (∀ p ys H2, H1 p = none → Ex H1 H2 → H2 p = some (.tup ys) → P ys H2 → Q (.ref p) H2) → te σ H1 Q
def EvAR (ta : TA) (σ : L2.St) (H : Hp) (P : List V → Hp → Prop) : Prop := ∀ H1, Ex H H1 → ∀ Q : List V → Hp → Prop, (∀ vs H2, Ex H1 H2 → P vs H2 → Q vs H2) → ta σ H1 Q
def SpR (sp : Sp) (vs : List V) (H : Hp) (P : V → Hp → Prop) : Prop := ∀ Q : VK, (∀ v H2, Ex H H2 → P v H2 → Q v H2) → ∀ E : XK, sp vs H Q E
/-- a relation that stays -/
def Up {α : Sort u} (P : α → Hp → Prop) : Prop := ∀ x H H', Ex H H' → P x H → P x H'
section
variable {K : PySem.W.Frag} {σ : L2.St} {H H' : Hp} {te ta tb : TE} {v x y : V} {P P' : V → Hp → Prop} {PL : List V → Hp → Prop}
theorem Tups.ofEx (e : Ex H H') : Tups H H' := fun a xs h => e a _ h
theorem EvR.mono (e : Ex H H') (h : EvR te σ H P) : EvR te σ H' P := fun H1 a Q q => h H1 (e.trans a) Q q
theorem EvLR.mono (e : Ex H H') (h : EvLR te σ H PL) : EvLR te σ H' PL := fun H1 a Q q => h H1 (e.trans a) Q q
theorem EvR.of (h : Ev te σ H v) : EvR te σ H (fun x _ => x = v) := fun H1 e Q q => h H1 e Q fun H2 e2 => q v H2 e2 rfl
theorem EvR.imp (h : EvR te σ H P) (k : ∀ v H2, Ex H H2 → P v H2 → P' v H2) : EvR te σ H P' := fun H1 e Q q => h H1 e Q fun v H2 e2 p => q v H2 e2 (k v H2 (e.trans e2) p)
theorem EvR.ev (h : EvR te σ H (fun x _ => x = v)) : Ev te σ H v := fun H1 e Q q => h H1 e Q fun x H2 e2 p => by rw [p]; exact q H2 e2
theorem EvLR.of {xs : List V} (h : EvL te σ H xs) : EvLR te σ H (fun ys _ => ys = xs) := fun H1 e Q q => h H1 e Q fun p H2 hp e2 h2 => q p xs H2 hp e2 h2 rfl
theorem EvLR.imp {PL' : List V → Hp → Prop} (h : EvLR te σ H PL) (k : ∀ v H2, Ex H H2 → PL v H2 → PL' v H2) : EvLR te σ H PL' := fun H1 e Q q => h H1 e Q fun p ys H2 hp e2 h2 p2 => q p ys H2 hp e2 h2 (k ys H2 (e.trans e2) p2)
theorem EvLR.el {xs : List V} (h : EvLR te σ H (fun ys _ => ys = xs)) : EvL te σ H xs := fun H1 e Q q => h H1 e Q fun p ys H2 hp e2 h2 p2 => by subst p2; exact q p H2 hp e2 h2
theorem EvLR.er (h : EvLR te σ H PL) : EvR te σ H (fun v H2 => ∃ p ys, v = .ref p ∧ H2 p = some (.lst ys) ∧ PL ys H2) := fun H1 e Q q => h H1 e Q fun p ys H2 _ e2 h2 p2 => q _ H2 e2 ⟨p, ys, rfl, h2, p2⟩
theorem EvUR.er (h : EvUR te σ H PL) : EvR te σ H (fun v H2 => ∃ p ys, v = .ref p ∧ H2 p = some (.tup ys) ∧ PL ys H2) := fun H1 e Q q => h H1 e Q fun p ys H2 _ e2 h2 p2 => q _ H2 e2 ⟨p, ys, rfl, h2, p2⟩
theorem er_var {i : Nat} (h : σ[i]? = some (some v)) : EvR (tVar i) σ H (fun x _ => x = v) := EvR.of (ev_var h)
theorem EvR.of' (h : Ev te σ H v) (p : ∀ H2, Ex H H2 → P v H2) : EvR te σ H P := fun H1 e Q q => h H1 e Q fun H2 e2 => q v H2 e2 (p H2 (e.trans e2))
/-! arguments -/
theorem ar_nil : EvAR tNil σ H (fun vs _ => vs = []) := fun H1 _ Q q => q [] H1 (Ex.refl H1) rfl
theorem ar_cons {tr : TA} (up : Up P) (h : EvR te σ H P) (hr : EvAR tr σ H PL) : EvAR (tCons te tr) σ H (fun vs H2 => ∃ v r, vs = v :: r ∧ P v H2 ∧ PL r H2) := fun H1 e Q q =>
  h H1 e _ fun v H2 e2 p => hr H2 (e.trans e2) _ fun r H3 e3 p3 => q _ H3 (e2.trans e3) ⟨v, r, rfl, up v H2 H3 e3 p, p3⟩
theorem EvAR.of {vs : List V} {ta : TA} (h : EvA ta σ H vs) : EvAR ta σ H (fun x _ => x = vs) := fun H1 e Q q => h H1 e Q fun H2 e2 => q vs H2 e2 rfl
theorem er_call {sp : Sp} {dvs : List V} {E : XK} {ta : TA} (h : EvAR ta σ H PL) (hs : ∀ vs H2, Ex H H2 → PL vs H2 → SpR sp (vs ++ dvs) H2 P) : EvR (tCall sp dvs E ta) σ H P := fun H1 e Q q =>
  h H1 e _ fun vs H2 e2 p => hs vs H2 (e.trans e2) p Q (fun v H3 e3 p3 => q v H3 (e2.trans e3) p3) E
theorem er_call0 {sp : Sp} {dvs vs : List V} {E : XK} {ta : TA} (h : EvA ta σ H vs) (hs : ∀ H2, Ex H H2 → SpR sp (vs ++ dvs) H2 P) : EvR (tCall sp dvs E ta) σ H P := er_call (EvAR.of h) fun vs' H2 e p => by
  have p' : vs' = vs := p
  rw [p']; exact hs H2 e
/-! statements -/
variable {D : Ends} {tu tw tz : TS}
theorem r_ret (h : EvR te σ H P) (k : ∀ v H1, Ex H H1 → P v H1 → D.rt v H1) : tRet te D σ H := h H (Ex.refl H) _ k
theorem r_retU (h : EvUR te σ H PL) (k : ∀ p ys H1, H p = none → Ex H H1 → H1 p = some (.tup ys) → PL ys H1 → D.rt (.ref p) H1) : tRet te D σ H := h H (Ex.refl H) _ k
theorem r_retL (h : EvLR te σ H PL) (k : ∀ p ys H1, H p = none → Ex H H1 → H1 p = some (.lst ys) → PL ys H1 → D.rt (.ref p) H1) : tRet te D σ H := h H (Ex.refl H) _ k
theorem r_asg {i : Nat} (h : EvR te σ H P) (k : ∀ v H1, Ex H H1 → P v H1 → tz D (σ.set i (some v)) H1) : tSeq (tAsg te (gName i)) tz D σ H := h H (Ex.refl H) _ k
theorem r_asgL {i : Nat} (h : EvLR te σ H PL) (k : ∀ p ys H1, H p = none → Ex H H1 → H1 p = some (.lst ys) → PL ys H1 → tz D (σ.set i (some (.ref p))) H1) : tSeq (tAsg te (gName i)) tz D σ H := h H (Ex.refl H) _ k
theorem r_asgU {i : Nat} (h : EvUR te σ H PL) (k : ∀ p ys H1, H p = none → Ex H H1 → H1 p = some (.tup ys) → PL ys H1 → tz D (σ.set i (some (.ref p))) H1) : tSeq (tAsg te (gName i)) tz D σ H := h H (Ex.refl H) _ k
/-! ### built-ins -/
theorem ur_tuple (h : EvLR te σ H PL) : EvUR (tCB (rTupOf K) (tCons te tNil)) σ H (fun ys H2 => ∃ H1, Ex H H1 ∧ Ex H1 H2 ∧ PL ys H1) := fun H1 e Q q =>
  h H1 e _ fun p ys H2 hp e2 h2 p2 => ⟨p, ys, rfl, Or.inl ⟨SqL.of h2, fun l hl => q l ys _ (fresh_back e2 hl) (e2.trans (Ex.new hl)) upd_same ⟨H2, e.trans e2, Ex.new hl, p2⟩⟩⟩
theorem ur_up (up : Up PL) (h : EvUR te σ H (fun ys H2 => ∃ H1, Ex H H1 ∧ Ex H1 H2 ∧ PL ys H1)) : EvUR te σ H PL := fun H1 e Q q =>
  h H1 e Q fun p ys H2 hp e2 h2 ⟨H3, _, e4, p3⟩ => q p ys H2 hp e2 h2 (up ys H3 H2 e4 p3)
theorem ur_tup {ta : TA} (h : EvAR ta σ H PL) (up : Up PL) (hl : ∀ vs H2, PL vs H2 → vs.length ≤ 100000) : EvUR (tTup ta) σ H PL := fun H1 e Q q =>
  h H1 e _ fun vs H2 e2 p => ⟨sz_of (hl vs H2 p), fun l hl => q l vs _ (fresh_back e2 hl) (e2.trans (Ex.new hl)) upd_same (up vs H2 _ (Ex.new hl) p)⟩
/-- a new dict -/
def EvDR (te : TE) (σ : L2.St) (H : Hp) (P : List (Key × V) → Hp → Prop) : Prop := ∀ H1, Ex H H1 → ∀ Q : VK, (∀ p kvs H2, H1 p = none → Ex H1 H2 → H2 p = some (.dK kvs) → P kvs H2 → Q (.ref p) H2) → te σ H1 Q
theorem dr_dict {PK : List (Key × V) → Hp → Prop} (up : Up PK) (h : EvLR te σ H (fun ys H2 => ∃ ps kvs, ys = ps.map V.ref ∧ Paired (fun p (kv : Key × V) => SqT K H2 p [kV kv.1, kv.2]) ps kvs ∧ mergeK [] kvs = kvs ∧ PK kvs H2)) : EvDR (tCB (rDictP K) (tCons te tNil)) σ H PK := fun H1 e Q q =>
  h H1 e _ fun p ys H2 _ e2 h2 ⟨ps, kvs, e3, hp, hm, pk⟩ => ⟨p, ps, kvs, rfl, SqL.of (by rw [h2, e3]), hp, fun d hd => q d kvs _ (fresh_back e2 hd) (e2.trans (Ex.new hd)) (by rw [hm]; exact upd_same) (up kvs H2 _ (Ex.new hd) pk)⟩
theorem r_retD {PK : List (Key × V) → Hp → Prop} (h : EvDR te σ H PK) (k : ∀ p kvs H1, H p = none → Ex H H1 → H1 p = some (.dK kvs) → PK kvs H1 → D.rt (.ref p) H1) : tRet te D σ H := h H (Ex.refl H) _ k
theorem r_asgD {PK : List (Key × V) → Hp → Prop} {i : Nat} (h : EvDR te σ H PK) (k : ∀ p kvs H1, H p = none → Ex H H1 → H1 p = some (.dK kvs) → PK kvs H1 → tz D (σ.set i (some (.ref p))) H1) : tSeq (tAsg te (gName i)) tz D σ H := h H (Ex.refl H) _ k
theorem putK_fresh {kvs : List (Key × V)} {k : Key} {v : V} (h : k ∉ kvs.map (·.1)) : putK kvs k v = kvs ++ [(k, v)] := by
  refine putK_new v ?_
  unfold valV
  rw [Option.map_eq_none_iff, List.find?_eq_none]
  intro x hx hk
  exact h (by rw [← of_decide_eq_true hk]; exact List.mem_map_of_mem hx)
theorem merge_nd : ∀ (more kvs : List (Key × V)), ((kvs ++ more).map (·.1)).Nodup → mergeK kvs more = kvs ++ more
  | [], kvs, _ => by simp [mergeK]
  | (k, v) :: r, kvs, h => by
    have e : kvs ++ (k, v) :: r = (kvs ++ [(k, v)]) ++ r := by simp
    have hk : k ∉ kvs.map (·.1) := by
      rw [List.map_append, List.map_cons] at h
      have h2 := List.nodup_append.mp h
      intro hm
      exact h2.2.2 k hm k (by simp) rfl
    show mergeK (putK kvs k v) r = _
    rw [putK_fresh hk, merge_nd r _ (by rw [← e]; exact h), e]
theorem ev_all {bs : List Bool} (h : EvLR te σ H (fun ys _ => ys = bs.map V.bl)) : Ev (tCB (rAll K) (tCons te tNil)) σ H (.bl (bs.all id)) := fun H1 e Q q =>
  h H1 e _ fun p ys H2 _ e2 h2 p2 => ⟨p, bs, rfl, SqL.of (by rw [h2, p2]), q H2 e2⟩
theorem ev_sum {ns : List Int} (h : EvLR te σ H (fun ys _ => ys = ns.map V.int)) : Ev (tCB (rSum K) (tCons te tNil)) σ H (.int ns.sum) := fun H1 e Q q =>
  h H1 e _ fun p ys H2 _ e2 h2 p2 => ⟨p, ns, rfl, SqL.of (by rw [h2, p2]), q H2 e2⟩
end
/-! ### comprehensions over data: ds what stands in the source, f which, g what of it -/
section
variable {K : PySem.W.Frag} {α β : Type}
def LcInv (H : Hp) (Dl : Addr) (RB : Hp → V → β → Prop) (bs : List β) (H' : Hp) : Prop := H Dl = none ∧ Ex H H' ∧ ∃ ys, H' Dl = some (.lst ys) ∧ Paired (RB H') ys bs
theorem Paired.mono {RB : Hp → V → β → Prop} {H H' : Hp} (m : ∀ v b, RB H v b → RB H' v b) : ∀ {ys : List V} {bs : List β}, Paired (RB H) ys bs → Paired (RB H') ys bs
  | _, _, .nil => .nil
  | _, _, .cons r t => .cons (m _ _ r) (Paired.mono m t)
theorem lc_turn {σ2 : L2.St} {H H' : Hp} {Dl : Addr} {tt : TT} {te : TE} {RB : Hp → V → β → Prop} (up : ∀ v b H H', Ex H H' → RB H v b → RB H' v b) (upt : ∀ v b H l o, (∃ xs, H l = some (.lst xs)) → RB H v b → RB (upd H l o) v b)
    {pre : List α} {d : α} {f : α → Bool} {g : α → β} {n : Nat} (hn : pre.length < 50000) (p : LcInv H Dl RB ((pre.filter f).map g) H') (ht : EvT tt σ2 H (f d)) (he : f d = true → EvR te σ2 H (fun v H2 => RB H2 v (g d))) :
    tt σ2 H' fun b H3 => if b = true then te σ2 H3 fun y H4 => ∃ acc, H4 Dl = some (.lst acc) ∧ acc.length < sizeLine ∧ LcInv H Dl RB (((pre ++ [d]).filter f).map g) (upd H4 Dl (.lst (acc ++ [y]))) else LcInv H Dl RB (((pre ++ [d]).filter f).map g) H3 := by
  obtain ⟨p1, p2, ys, p3, p4⟩ := p
  refine ht H' p2 _ fun H3 e3 => ?_
  cases hf : f d with
  | true =>
    refine iteT ?_
    refine he hf H3 (p2.trans e3) _ fun v H4 e4 hv => ⟨ys, e4 _ _ (e3 _ _ p3), ?_, p1, Ex.mut ((p2.trans e3).trans e4) p1, ys ++ [v], upd_same, ?_⟩
    · have h1 := Paired.length p4
      rw [List.length_map] at h1
      have h2 := List.length_filter_le f pre
      exact sz_lt (by omega)
    · have e1 : ((pre ++ [d]).filter f).map g = (pre.filter f).map g ++ [g d] := by
        rw [List.filter_append, List.map_append]
        simp [hf]
      rw [e1]
      refine Paired.snoc (upt _ _ _ _ _ ⟨_, e4 _ _ (e3 _ _ p3)⟩ hv) ?_
      exact Paired.mono (fun v b r => upt _ _ _ _ _ ⟨_, e4 _ _ (e3 _ _ p3)⟩ (up _ _ _ _ (e3.trans e4) r)) p4
  | false =>
    refine iteF ?_
    have e1 : ((pre ++ [d]).filter f).map g = (pre.filter f).map g := by
      rw [List.filter_append, List.map_append]
      simp [hf]
    rw [e1]
    exact ⟨p1, p2.trans e3, ys, e3 _ _ p3, Paired.mono (fun v b r => up _ _ _ _ e3 r) p4⟩
/-- relations between a value and data that stay -/
structure Stay (RB : Hp → V → β → Prop) : Prop where
  up : ∀ v b H H', Ex H H' → RB H v b → RB H' v b
  lst : ∀ v b H l o, (∃ xs, H l = some (.lst xs)) → RB H v b → RB (upd H l o) v b
theorem Stay.val {g : β → V} : Stay (fun _ v b => v = g b) := ⟨fun _ _ _ _ _ h => h, fun _ _ _ _ _ _ h => h⟩
theorem Stay.tie : Stay (fun H v (t : Tie) => ∃ p, v = .ref p ∧ TieAt H p t) :=
  ⟨fun _ _ _ _ e ⟨p, h1, h2⟩ => ⟨p, h1, e _ _ h2⟩, fun _ _ H l o ⟨xs, hl⟩ ⟨p, h1, h2⟩ => ⟨p, h1, by
    unfold TieAt at h2 ⊢
    rw [upd_ne (fun z => by rw [z, hl] at h2; cases h2)]
    exact h2⟩⟩
theorem lc_list_data {σ : L2.St} {H H1 : Hp} {a : Addr} {xs : List V} {ds : List α} (hx : SqL K H a xs) (hl : xs.length = ds.length) (hz : ds.length < 50000) {tt : TT} {te : TE} {j : Nat} {vs : List Nat} (e1 : Ex H H1) {RB : Hp → V → β → Prop} (S : Stay RB) (f : α → Bool) (g : α → β)
    (hw : ∀ x, wipe ((wipe σ vs).set j (some x)) vs = wipe σ vs)
    (turn : ∀ (i : Nat) (x : V) (d : α), xs[i]? = some x → ds[i]? = some d → EvT tt ((wipe σ vs).set j (some x)) H (f d) ∧ (f d = true → EvR te ((wipe σ vs).set j (some x)) H (fun v H2 => RB H2 v (g d)))) {Q : VK}
    (q : ∀ p ys H2, H1 p = none → Ex H1 H2 → H2 p = some (.lst ys) → Paired (RB H2) ys ((ds.filter f).map g) → Q (.ref p) H2) (Dl : Addr) (hD : H1 Dl = none) :
    ∃ W : Nat → Nat → Hp → Prop, (∃ m, W 0 m (upd H1 Dl (.lst []))) ∧ ∀ i m H, W i m H → ((Itl K a).stop i H ∧ Q (.ref Dl) H) ∨ ((Itl K a).go i H ∧ ∃ Nx : Hp → Prop, (∀ H', Nx H' → ∃ m', m' < m ∧ W (i + 1) m' H') ∧
      ∀ x H', (Itl K a).yld i H x H' → gName j x (wipe σ vs) H' fun σ2 H2 => wipe σ2 vs = wipe σ vs ∧ tt σ2 H2 fun b H3 => if b = true then te σ2 H3 fun y H4 => ∃ acc, H4 Dl = some (.lst acc) ∧ acc.length < sizeLine ∧ Nx (upd H4 Dl (.lst (acc ++ [y]))) else Nx H3) :=
  lc_list (K := K) (a := a) (xs := xs) (fun i H' => LcInv H1 Dl RB (((ds.take i).filter f).map g) H')
    ⟨hD, Ex.new hD, [], upd_same, by simpa using Paired.nil⟩ (fun i H' _ p => ex_l (e1.trans p.2.1) hx) (fun i x H' hi p => ⟨hw x, by
      have hi' : i < ds.length := by
        rw [← hl]; exact (List.getElem?_eq_some_iff.mp hi).1
      have hd : ds[i]? = some ds[i] := List.getElem?_eq_getElem hi'
      obtain ⟨t1, t2⟩ := turn i x _ hi hd
      have ek : ds.take (i + 1) = ds.take i ++ [ds[i]] := by rw [List.take_add_one, hd]; rfl
      rw [ek]
      exact lc_turn (n := i) S.up S.lst (by rw [List.length_take]; omega) p (t1.mono e1) (fun hf => (t2 hf).mono e1)⟩)
    (fun H' p => by
      obtain ⟨p1, p2, ys, p3, p4⟩ := p
      have e0 : ds.take xs.length = ds := List.take_of_length_le (by omega)
      rw [e0] at p4
      exact q Dl ys H' hD p2 p3 p4)
theorem lr_list {σ : L2.St} {H : Hp} {a : Addr} {xs : List V} {ds : List α} {tl : TE} (h : Ev tl σ H (.ref a)) (hx : SqL K H a xs) (hl : xs.length = ds.length) (hz : ds.length < 50000) {tt : TT} {te : TE} {j : Nat} {vs : List Nat} {RB : Hp → V → β → Prop} (S : Stay RB) (f : α → Bool) (g : α → β)
    (turn : ∀ (i : Nat) (x : V) (d : α), xs[i]? = some x → ds[i]? = some d → EvT tt ((wipe σ vs).set j (some x)) H (f d) ∧ (f d = true → EvR te ((wipe σ vs).set j (some x)) H (fun v H2 => RB H2 v (g d))))
    (hw : ∀ x, wipe ((wipe σ vs).set j (some x)) vs = wipe σ vs := by intro _; rfl) :
    EvLR (tLc (iList K tl) (gName j) tt te vs) σ H (fun ys H2 => Paired (RB H2) ys ((ds.filter f).map g)) := fun H0 e Q q => h H0 e _ fun H1 e1 =>
  ⟨a, rfl, ⟨xs, ex_l (e.trans e1) hx⟩, fun Dl hD => lc_list_data hx hl hz (e.trans e1) S f g hw turn (fun p ys H2 hp e2 h2 p2 => q p ys H2 (fresh_back e1 hp) (e1.trans e2) h2 p2) Dl hD⟩
theorem lc_tup_data {σ : L2.St} {H H1 : Hp} {a : Addr} {xs : List V} {ds : List α} (hx : SqT K H a xs) (hl : xs.length = ds.length) (hz : ds.length < 50000) {tt : TT} {te : TE} {j : Nat} {vs : List Nat} (e1 : Ex H H1) {RB : Hp → V → β → Prop} (S : Stay RB) (f : α → Bool) (g : α → β)
    (hw : ∀ x, wipe ((wipe σ vs).set j (some x)) vs = wipe σ vs)
    (turn : ∀ (i : Nat) (x : V) (d : α), xs[i]? = some x → ds[i]? = some d → EvT tt ((wipe σ vs).set j (some x)) H (f d) ∧ (f d = true → EvR te ((wipe σ vs).set j (some x)) H (fun v H2 => RB H2 v (g d)))) {Q : VK}
    (q : ∀ p ys H2, H1 p = none → Ex H1 H2 → H2 p = some (.lst ys) → Paired (RB H2) ys ((ds.filter f).map g) → Q (.ref p) H2) (Dl : Addr) (hD : H1 Dl = none) :
    ∃ W : Nat → Nat → Hp → Prop, (∃ m, W 0 m (upd H1 Dl (.lst []))) ∧ ∀ i m H, W i m H → ((Itt K a).stop i H ∧ Q (.ref Dl) H) ∨ ((Itt K a).go i H ∧ ∃ Nx : Hp → Prop, (∀ H', Nx H' → ∃ m', m' < m ∧ W (i + 1) m' H') ∧
      ∀ x H', (Itt K a).yld i H x H' → gName j x (wipe σ vs) H' fun σ2 H2 => wipe σ2 vs = wipe σ vs ∧ tt σ2 H2 fun b H3 => if b = true then te σ2 H3 fun y H4 => ∃ acc, H4 Dl = some (.lst acc) ∧ acc.length < sizeLine ∧ Nx (upd H4 Dl (.lst (acc ++ [y]))) else Nx H3) :=
  lc_tup (K := K) (a := a) (xs := xs) (fun i H' => LcInv H1 Dl RB (((ds.take i).filter f).map g) H')
    ⟨hD, Ex.new hD, [], upd_same, by simpa using Paired.nil⟩ (fun i H' _ p => ex_t (e1.trans p.2.1) hx) (fun i x H' hi p => ⟨hw x, by
      have hi' : i < ds.length := by
        rw [← hl]; exact (List.getElem?_eq_some_iff.mp hi).1
      have hd : ds[i]? = some ds[i] := List.getElem?_eq_getElem hi'
      obtain ⟨t1, t2⟩ := turn i x _ hi hd
      have ek : ds.take (i + 1) = ds.take i ++ [ds[i]] := by rw [List.take_add_one, hd]; rfl
      rw [ek]
      exact lc_turn (n := i) S.up S.lst (by rw [List.length_take]; omega) p (t1.mono e1) (fun hf => (t2 hf).mono e1)⟩)
    (fun H' p => by
      obtain ⟨p1, p2, ys, p3, p4⟩ := p
      have e0 : ds.take xs.length = ds := List.take_of_length_le (by omega)
      rw [e0] at p4
      exact q Dl ys H' hD p2 p3 p4)
theorem lr_tup {σ : L2.St} {H : Hp} {a : Addr} {xs : List V} {ds : List α} {tl : TE} (h : Ev tl σ H (.ref a)) (hx : SqT K H a xs) (hl : xs.length = ds.length) (hz : ds.length < 50000) {tt : TT} {te : TE} {j : Nat} {vs : List Nat} {RB : Hp → V → β → Prop} (S : Stay RB) (f : α → Bool) (g : α → β)
    (turn : ∀ (i : Nat) (x : V) (d : α), xs[i]? = some x → ds[i]? = some d → EvT tt ((wipe σ vs).set j (some x)) H (f d) ∧ (f d = true → EvR te ((wipe σ vs).set j (some x)) H (fun v H2 => RB H2 v (g d))))
    (hw : ∀ x, wipe ((wipe σ vs).set j (some x)) vs = wipe σ vs := by intro _; rfl) :
    EvLR (tLc (iTup K tl) (gName j) tt te vs) σ H (fun ys H2 => Paired (RB H2) ys ((ds.filter f).map g)) := fun H0 e Q q => h H0 e _ fun H1 e1 =>
  ⟨a, rfl, ⟨xs, ex_t (e.trans e1) hx⟩, fun Dl hD => lc_tup_data hx hl hz (e.trans e1) S f g hw turn (fun p ys H2 hp e2 h2 p2 => q p ys H2 (fresh_back e1 hp) (e1.trans e2) h2 p2) Dl hD⟩
/-- over a text's signs -/
theorem lr_str {σ : L2.St} {H : Hp} {z : Str} {tl : TE} (h : Ev tl σ H (.str z)) (hz : z.length < 50000) {tt : TT} {te : TE} {j : Nat} {vs : List Nat} {RB : Hp → V → β → Prop} (S : Stay RB) (f : Nat → Bool) (g : Nat → β)
    (turn : ∀ (i c : Nat), z.cps.toList[i]? = some c → EvT tt ((wipe σ vs).set j (some (.str ⟨#[c]⟩))) H (f c) ∧ (f c = true → EvR te ((wipe σ vs).set j (some (.str ⟨#[c]⟩))) H (fun v H2 => RB H2 v (g c))))
    (hw : ∀ x, wipe ((wipe σ vs).set j (some x)) vs = wipe σ vs := by intro _; rfl) :
    EvLR (tLc (iStr tl) (gName j) tt te vs) σ H (fun ys H2 => Paired (RB H2) ys ((z.cps.toList.filter f).map g)) := fun H0 e Q q => h H0 e _ fun H1 e1 =>
  ⟨z, rfl, fun Dl hD => lc_it walk_str (fun i H' => LcInv H1 Dl RB (((z.cps.toList.take i).filter f).map g) H')
    ⟨hD, Ex.new hD, [], upd_same, by simpa using Paired.nil⟩ (fun _ _ _ _ => trivial) (fun i x H' H2 hi p y => by
      obtain ⟨rfl, c, hc, rfl⟩ := y
      have hd : z.cps.toList[i]? = some c := by rw [Array.getElem?_toList]; exact hc
      obtain ⟨t1, t2⟩ := turn i c hd
      have ek : z.cps.toList.take (i + 1) = z.cps.toList.take i ++ [c] := by rw [List.take_add_one, hd]; rfl
      refine ⟨hw _, ?_⟩
      rw [ek]
      exact lc_turn (n := i) S.up S.lst (by rw [List.length_take]; have : z.cps.toList.length = z.length := Array.length_toList; omega) p (t1.mono (e.trans e1)) (fun hf => (t2 hf).mono (e.trans e1)))
    (fun H' p => by
      obtain ⟨p1, p2, ys, p3, p4⟩ := p
      have e0 : z.cps.toList.take z.cps.size = z.cps.toList := List.take_of_length_le (by rw [Array.length_toList]; exact Nat.le_refl _)
      rw [e0] at p4
      exact q Dl ys H' (fresh_back e1 hD) (e1.trans p2) p3 p4)⟩
end
theorem et_yes {σ : L2.St} {H : Hp} : EvT tYes σ H true := fun H1 _ Q q => q H1 (Ex.refl H1)
theorem Paired.vals {β : Type} {g : β → V} : ∀ {ys : List V} {bs : List β}, Paired (fun v b => v = g b) ys bs → ys = bs.map g
  | _, _, .nil => rfl
  | _, _, .cons r t => by rw [List.map_cons, ← Paired.vals t, ← r]
theorem Paired.refs {H : Hp} : ∀ {ys : List V} {ts : List Tie}, Paired (fun v (t : Tie) => ∃ p, v = .ref p ∧ TieAt H p t) ys ts → ∃ ps, ys = ps.map V.ref ∧ Paired (TieAt H) ps ts
  | _, _, .nil => ⟨[], rfl, .nil⟩
  | _, _, .cons ⟨p, e, h⟩ t => by
    obtain ⟨ps, e2, h2⟩ := Paired.refs t
    exact ⟨p :: ps, by rw [e, e2]; rfl, .cons h h2⟩
end Ct
namespace Ct
open PySem PySem.Spec PyProof.Rows L2 Evl
section
variable {K : PySem.W.Frag} {σ : L2.St} {H H' : Hp} {te ta tb td ty tv : TE} {v x y : V} {D : Ends} {tz : TS}
/-! ### dicts with text keys -/
theorem ev_dget {d : Addr} {kvs : List (Key × V)} {z : Str} (ha : Ev td σ H (.ref d)) (hk : Ev ty σ H (.str z)) (hd : H d = some (.dK kvs)) (hv : valV kvs (.inr z) = some v) : Ev (tDGet td ty) σ H v := fun H1 e Q q =>
  ha H1 e _ fun H2 e2 => hk H2 (e.trans e2) _ fun H3 e3 => ⟨d, v, rfl, by rw [← hv]; exact DGet.k (k := Sum.inr z) (((e.trans e2).trans e3) _ _ hd), q H3 (e2.trans e3)⟩
theorem ev_din {d : Addr} {kvs : List (Key × V)} {z : Str} (hk : Ev ty σ H (.str z)) (ha : Ev td σ H (.ref d)) (hd : H d = some (.dK kvs)) : Ev (tDIn ty td) σ H (.bl (valV kvs (.inr z)).isSome) := fun H1 e Q q =>
  hk H1 e _ fun H2 e2 => ha H2 (e.trans e2) _ fun H3 e3 => ⟨d, _, rfl, DGet.k (k := Sum.inr z) (((e.trans e2).trans e3) _ _ hd), q H3 (e2.trans e3)⟩
theorem ev_dnotin {d : Addr} {kvs : List (Key × V)} {z : Str} (hk : Ev ty σ H (.str z)) (ha : Ev td σ H (.ref d)) (hd : H d = some (.dK kvs)) : Ev (tDNotIn ty td) σ H (.bl (!(valV kvs (.inr z)).isSome)) := fun H1 e Q q =>
  hk H1 e _ fun H2 e2 => ha H2 (e.trans e2) _ fun H3 e3 => ⟨d, _, rfl, DGet.k (k := Sum.inr z) (((e.trans e2).trans e3) _ _ hd), q H3 (e2.trans e3)⟩
theorem ev_dget1 {d : Addr} {kvs : List (Key × V)} {z : Str} (ha : Ev td σ H (.ref d)) (hk : Ev ty σ H (.str z)) (hd : H d = some (.dK kvs)) : Ev (tDGet1 td ty) σ H ((valV kvs (.inr z)).getD .non) := fun H1 e Q q =>
  ha H1 e _ fun H2 e2 => ⟨d, rfl, .inl ⟨kvs, .inl ((e.trans e2) _ _ hd)⟩, hk H2 (e.trans e2) _ fun H3 e3 => ⟨_, DGet.k (k := Sum.inr z) (((e.trans e2).trans e3) _ _ hd), q H3 (e2.trans e3)⟩⟩
/-- d[k] = e -/
theorem s_dput {d : Addr} {kvs : List (Key × V)} {z : Str} {P : V → Hp → Prop} (hd : H d = some (.dK kvs)) (he : EvR tv σ H P) (ha : Ev td σ H (.ref d)) (hk : Ev ty σ H (.str z)) (hl : kvs.length < 100000) (k : ∀ v H1 H2, Ex H H1 → P v H1 → Ex H1 H2 → D.nx σ (upd H2 d (.dK (putK kvs (.inr z) v)))) : sDPut td ty tv D σ H :=
  he H (Ex.refl H) _ fun v H1 e1 p => ha H1 e1 _ fun H2 e2 => hk H2 (e1.trans e2) _ fun H3 e3 => ⟨d, _, rfl, DPut.k (k := Sum.inr z) (((e1.trans e2).trans e3) _ _ hd) (sz_lt hl), k v H1 H3 e1 p (e2.trans e3)⟩
theorem ev_fld {a C dx : Addr} {fs : List (Str × V)} {f : Str} (ha : Ev ta σ H (.ref a)) (ho : H a = some (.ins C dx fs)) (hc : Cls K C) (hn : NoAttr K C f) (hv : fs.lookup f = some v) : Ev (tFld K ta f) σ H v := fun H1 e Q q =>
  ha H1 e _ fun H2 e2 => ⟨a, C, dx, fs, v, rfl, (e.trans e2) _ _ ho, hc, hn, hv, q H2 e2⟩
end
/-! texts by texts -/
def kvS (lab : List (Str × Str)) : List (Key × V) := lab.map fun p => (Sum.inr p.1, V.str p.2)
theorem kvS_keys (lab : List (Str × Str)) : (kvS lab).map (·.1) = (lab.map (·.1)).map Sum.inr := by unfold kvS; rw [List.map_map, List.map_map]; rfl
theorem valV_kvS (x : Str) : ∀ lab : List (Str × Str), valV (kvS lab) (.inr x) = (lab.find? fun p => decide (p.1 = x)).map fun p => V.str p.2
  | [] => rfl
  | p :: r => by
    by_cases e : p.1 = x
    · have h : valV (kvS (p :: r)) (.inr x) = some (V.str p.2) := valV_pos (p := ((Sum.inr p.1 : Key), V.str p.2)) (by rw [e])
      rw [h, List.find?_cons, decide_eq_true e]; rfl
    · have h : valV (kvS (p :: r)) (.inr x) = valV (kvS r) (.inr x) := valV_neg (p := ((Sum.inr p.1 : Key), V.str p.2)) (fun z => e (Sum.inr.inj z))
      rw [h, valV_kvS x r, List.find?_cons, decide_eq_false e]
theorem valV_look {lab : List (Str × Str)} {x : Str} (h : x ∈ lab.map (·.1)) : valV (kvS lab) (.inr x) = some (.str (look lab x)) := by
  rw [valV_kvS]
  unfold look
  cases e : lab.find? (fun p => decide (p.1 = x)) with
  | none =>
    obtain ⟨p, hp, e2⟩ := List.mem_map.mp h
    exact absurd (decide_eq_true e2) (by simpa using List.find?_eq_none.mp e p hp)
  | some p => rfl
theorem putK_mid {A B : List (Key × V)} {k : Key} {v0 v : V} (ha : k ∉ A.map (·.1)) (hb : k ∉ B.map (·.1)) : putK (A ++ (k, v0) :: B) k v = A ++ (k, v) :: B := by
  unfold putK
  rw [if_pos (by simp)]
  have h : ∀ L : List (Key × V), k ∉ L.map (·.1) → L.map (fun kv => if kv.1 = k then (kv.1, v) else kv) = L := fun L hL => by
    refine (List.map_congr_left fun kv hkv => ?_).trans (List.map_id L)
    rw [if_neg fun e => hL (by rw [← e]; exact List.mem_map_of_mem hkv)]; rfl
  rw [List.map_append, List.map_cons, h A ha, h B hb, if_pos rfl]
end Ct
namespace Ct
open PySem PySem.Spec PyProof.Rows L2 Evl
section
variable {K : PySem.W.Frag} {σ : L2.St} {H H' : Hp} {te ta tb td ty tv : TE} {v x y : V} {D : Ends} {tz : TS}
theorem el_listD {d : Addr} {kvs : List (Key × V)} (ha : Ev td σ H (.ref d)) (hd : H d = some (.dK kvs)) : EvL (tCB rListD (tCons td tNil)) σ H (kvs.map fun kv => kV kv.1) := fun H1 e Q q =>
  ha H1 e _ fun H2 e2 => ⟨d, kvs, rfl, (e.trans e2) _ _ hd, fun p hp => q p _ (fresh_back e2 hp) (e2.trans (Ex.new hp)) upd_same⟩
theorem q_par {i j : Nat} {ta : TA} {v w : V} (h : EvA ta σ H [v, w]) (k : ∀ H1, Ex H H1 → tz D ((σ.set i (some v)).set j (some w)) H1) : tSeq (tPar i j ta) tz D σ H := h H (Ex.refl H) _ fun H1 e => ⟨v, w, rfl, k H1 e⟩
end
theorem keys_kvS (lab : List (Str × Str)) : (kvS lab).map (fun kv => kV kv.1) = (lab.map (·.1)).map V.str := by unfold kvS; rw [List.map_map, List.map_map]; rfl
theorem kvS_app (a b : List (Str × Str)) : kvS (a ++ b) = kvS a ++ kvS b := by unfold kvS; exact List.map_append
theorem look_mid {A B : List (Str × Str)} {x l : Str} (h : x ∉ A.map (·.1)) : look (A ++ (x, l) :: B) x = l := by
  unfold look
  have e : A.find? (fun p => decide (p.1 = x)) = none := List.find?_eq_none.mpr fun p hp hk => h (by rw [← of_decide_eq_true hk]; exact List.mem_map_of_mem hp)
  rw [List.find?_append, e, List.find?_cons]
  simp
end Ct
namespace Ct
open PySem PySem.Spec PyProof.Rows L2 Evl
section
variable {K : PySem.W.Frag} {σ : L2.St} {H H' : Hp} {te ta tb td ty tv tk : TE} {v x y : V} {D : Ends} {tz : TS} {P : V → Hp → Prop}
theorem dr_disp1 {z : Str} (hk : Ev tk σ H (.str z)) (hv : EvR tv σ H P) (st : ∀ v H p o, (∃ kvs, H p = some (.dK kvs)) → P v H → P v (upd H p o)) : EvDR (tDisp [(tk, tv)]) σ H (fun kvs H2 => ∃ v, kvs = [(Sum.inr z, v)] ∧ P v H2) := fun H1 e Q q p hp =>
  hk (upd H1 p (.dK [])) (e.trans (Ex.new hp)) _ fun H2 e2 => hv H2 ((e.trans (Ex.new hp)).trans e2) _ fun v H3 e3 pv =>
    have h3 : H3 p = some (.dK []) := e3 _ _ (e2 _ _ upd_same)
    ⟨h3, [(Sum.inr z, v)], rfl, (by show 1 ≤ 15; decide), q p [(Sum.inr z, v)] _ hp (Ex.mut (((Ex.new hp).trans e2).trans e3) hp) upd_same ⟨v, rfl, st v H3 p _ ⟨_, h3⟩ pv⟩⟩
/-- t + (e, ..): a tuple behind another -/
theorem er_cat {xs ys : List V} (ha : EvR ta σ H (fun v H2 => ∃ a, v = .ref a ∧ H2 a = some (.tup xs))) (hb : EvR tb σ H (fun v H2 => ∃ b, v = .ref b ∧ H2 b = some (.tup ys))) (hl : xs.length + ys.length ≤ 100000) : EvR (tOp (rCatA K) ta tb) σ H (fun v H2 => ∃ p, v = .ref p ∧ H2 p = some (.tup (xs ++ ys))) := fun H1 e Q q =>
  ha H1 e _ fun v H2 e2 ⟨a, ev, h2⟩ => hb H2 (e.trans e2) _ fun w H3 e3 ⟨b, ew, h3⟩ =>
    ⟨a, b, xs, ys, ev, ew, SqT.of (e3 _ _ h2), SqT.of h3, sz_of hl, fun z => q _ H3 (e2.trans e3) ⟨b, rfl, by rw [z]; exact h3⟩, fun _ z => q _ H3 (e2.trans e3) ⟨a, rfl, by rw [z, List.append_nil]; exact e3 _ _ h2⟩,
      fun _ _ p hp => q _ _ ((e2.trans e3).trans (Ex.new hp)) ⟨p, rfl, upd_same⟩⟩
theorem er_tup {ta : TA} {vs : List V} (h : EvA ta σ H vs) (hl : vs.length ≤ 100000) : EvR (tTup ta) σ H (fun v H2 => ∃ b, v = .ref b ∧ H2 b = some (.tup vs)) := fun H1 e Q q => eu_tup h hl H1 e Q fun p H2 _ e2 h2 => q _ H2 e2 ⟨p, rfl, h2⟩
theorem ev_lenL {a : Addr} {xs : List V} (ha : Ev ta σ H (.ref a)) (h : SqL K H a xs) : Ev (tCB (rLenK K) (tCons ta tNil)) σ H (.int (xs.length : Int)) := fun H1 e Q q =>
  ha H1 e _ fun H2 e2 => ⟨a, xs, rfl, Or.inl (ex_l (e.trans e2) h), q H2 e2⟩
end
/-! ### what a dict of ways holds -/
def kvG {γ : Type} (A : List (Str × γ)) (rs : List Addr) : List (Key × V) := (A.zip rs).map fun q => (Sum.inr q.1.1, V.ref q.2)
theorem kvG_keys {γ : Type} {R : Addr → Str × γ → Prop} : ∀ {rs : List Addr} {A : List (Str × γ)}, Paired R rs A → (kvG A rs).map (·.1) = (A.map (·.1)).map Sum.inr
  | _, _, .nil => rfl
  | _, _, .cons (a := r) (b := q) _ t => by
    show (Sum.inr q.1 : Key) :: (kvG _ _).map (·.1) = _
    rw [kvG_keys t]; rfl
theorem kvG_app {γ : Type} {R : Addr → Str × γ → Prop} {q : Str × γ} {r : Addr} {rs : List Addr} {A : List (Str × γ)} (h : Paired R rs A) : kvG (A ++ [q]) (rs ++ [r]) = kvG A rs ++ [(Sum.inr q.1, V.ref r)] := by
  unfold kvG
  rw [List.zip_append (Paired.length h).symm, List.map_append]
  rfl
theorem kvG_get {R : Addr → Str × List Tie → Prop} {z : Str} : ∀ {rs : List Addr} {A : List (Str × List Tie)}, Paired R rs A →
    (wayTo A z = none ∧ valV (kvG A rs) (.inr z) = none) ∨ ∃ p r, wayTo A z = some p ∧ valV (kvG A rs) (.inr z) = some (.ref r) ∧ R r (z, p)
  | _, _, .nil => .inl ⟨rfl, rfl⟩
  | _, _, .cons (a := r) (b := q) (l₁ := rs) (l₂ := A) h t => by
    by_cases e : q.1 = z
    · refine .inr ⟨q.2, r, ?_, ?_, by rw [← e]; exact h⟩
      · unfold wayTo; rw [List.find?_cons, decide_eq_true e]; rfl
      · exact valV_pos (p := ((Sum.inr q.1 : Key), V.ref r)) (by rw [e])
    · have e1 : wayTo (q :: A) z = wayTo A z := by unfold wayTo; rw [List.find?_cons, decide_eq_false e]
      have e2 : valV (kvG (q :: A) (r :: rs)) (.inr z) = valV (kvG A rs) (.inr z) := valV_neg (p := ((Sum.inr q.1 : Key), V.ref r)) (fun w => e (Sum.inr.inj w))
      rw [e1, e2]
      exact kvG_get t
end Ct
namespace Ct
open PySem PySem.Spec PyProof.Rows L2 Evl
section
variable {K : PySem.W.Frag} {σ : L2.St} {H H' : Hp} {te ta tb td ty tv tk : TE} {v x y : V} {D : Ends} {tz : TS} {P : V → Hp → Prop}
theorem q_dput {d : Addr} {kvs : List (Key × V)} {z : Str} (hd : H d = some (.dK kvs)) (he : EvR tv σ H P) (ha : Ev td σ H (.ref d)) (hk : Ev ty σ H (.str z)) (hl : kvs.length < 100000) (k : ∀ v H1 H2, Ex H H1 → P v H1 → Ex H1 H2 → tz D σ (upd H2 d (.dK (putK kvs (.inr z) v)))) : tSeq (sDPut td ty tv) tz D σ H :=
  s_dput (D := { D with nx := tz D }) hd he ha hk hl k
theorem q_dropR (h : EvR te σ H P) (k : ∀ v H1, Ex H H1 → P v H1 → tz D σ H1) : tSeq (tDrop te) tz D σ H := h H (Ex.refl H) _ k
end
end Ct
end

section
set_option Elab.async false
set_option linter.all false
set_option maxRecDepth 100000
set_option maxHeartbeats 4000000
namespace Ct
open PySem PySem.Spec PyProof.Rows L2
theorem str_ext {x y : Str} (h : x.cps.toList = y.cps.toList) : x = y := by
  cases x; cases y
  congr
  exact Array.toList_inj.mp h
theorem ltS_irr (x : Str) : ltS x x = false := decide_eq_false (List.lt_irrefl _)
theorem ltS_trans {x y z : Str} (h : ltS x y = true) (g : ltS y z = true) : ltS x z = true := decide_eq_true (List.lt_trans (of_decide_eq_true h) (of_decide_eq_true g))
theorem ltS_tri (x y : Str) : ltS x y = true ∨ x = y ∨ ltS y x = true := by
  unfold ltS
  by_cases h : x.cps.toList < y.cps.toList
  · exact .inl (decide_eq_true h)
  · by_cases g : y.cps.toList < x.cps.toList
    · exact .inr (.inr (decide_eq_true g))
    · exact .inr (.inl (str_ext (List.le_antisymm (List.not_lt.mp g) (List.not_lt.mp h))))
theorem ltS_asy {x y : Str} (h : ltS x y = true) : ltS y x = false := by
  cases g : ltS y x with
  | false => rfl
  | true =>
    have := ltS_trans h g
    rw [ltS_irr] at this; cases this
/-- the price's order -/
theorem prLt_iff (s t : Tie) : prLt s t = true ↔ (s.c < t.c ∨ (s.c = t.c ∧ ltS s.n t.n = true)) := by
  unfold prLt Tie.pr ltRow
  by_cases h : s.c = t.c
  · rw [if_pos (by rw [h])]
    unfold ltRow
    by_cases g : s.n = t.n
    · rw [if_pos (by rw [g])]
      unfold ltRow
      constructor
      · intro z; cases z
      · rintro (z | ⟨_, z⟩)
        · omega
        · rw [g, ltS_irr] at z; cases z
    · rw [if_neg (fun z => g (Sc.s.inj z))]
      constructor
      · intro z; exact .inr ⟨h, z⟩
      · rintro (z | ⟨_, z⟩)
        · omega
        · exact z
  · rw [if_neg (fun z => h (Sc.i.inj z))]
    constructor
    · intro z; exact .inl (of_decide_eq_true z)
    · rintro (z | ⟨z, _⟩)
      · exact decide_eq_true z
      · exact absurd z h
theorem prLt_irr (t : Tie) : prLt t t = false := by
  cases h : prLt t t with
  | false => rfl
  | true =>
    rcases (prLt_iff t t).mp h with z | ⟨_, z⟩
    · omega
    · rw [ltS_irr] at z; cases z
theorem prLt_trans {r s t : Tie} (h : prLt r s = true) (g : prLt s t = true) : prLt r t = true := by
  rw [prLt_iff] at *
  rcases h with h | ⟨h1, h2⟩ <;> rcases g with g | ⟨g1, g2⟩
  · exact .inl (by omega)
  · exact .inl (by omega)
  · exact .inl (by omega)
  · exact .inr ⟨by omega, ltS_trans h2 g2⟩
theorem prLt_tri (s t : Tie) : prLt s t = true ∨ (s.c = t.c ∧ s.n = t.n) ∨ prLt t s = true := by
  rw [prLt_iff, prLt_iff]
  rcases Int.lt_trichotomy s.c t.c with h | h | h
  · exact .inl (.inl h)
  · rcases ltS_tri s.n t.n with g | g | g
    · exact .inl (.inr ⟨h, g⟩)
    · exact .inr (.inl ⟨h, g⟩)
    · exact .inr (.inr (.inr ⟨h.symm, g⟩))
  · exact .inr (.inr (.inl h))
/-- the sorted list is the only one -/
theorem perm_unique {α : Type} {lt : α → α → Bool} : ∀ {xs ys : List α}, xs.Perm ys → xs.Pairwise (fun a b => lt b a = false) → ys.Pairwise (fun a b => lt b a = false) → (∀ a ∈ xs, ∀ b ∈ xs, lt a b = false → lt b a = false → a = b) → xs = ys
  | [], ys, p, _, _, _ => (List.nil_perm.mp p).symm ▸ rfl
  | x :: xs, [], p, _, _, _ => by have := p.length_eq; simp at this
  | x :: xs, y :: ys, p, hx, hy, an => by
    have e : x = y := by
      have hxm : x ∈ y :: ys := p.mem_iff.mp (by simp)
      have hym : y ∈ x :: xs := p.mem_iff.mpr (by simp)
      rcases List.mem_cons.mp hxm with h | h
      · exact h
      · rcases List.mem_cons.mp hym with g | g
        · exact g.symm
        · exact an x (by simp) y (List.mem_cons_of_mem _ g) ((List.pairwise_cons.mp hy).1 x h) ((List.pairwise_cons.mp hx).1 y g)
    subst e
    rw [perm_unique (List.Perm.cons_inv p) (List.pairwise_cons.mp hx).2 (List.pairwise_cons.mp hy).2 fun a ha b hb => an a (List.mem_cons_of_mem _ ha) b (List.mem_cons_of_mem _ hb)]
def sortS (ws : List Str) : List Str := ws.mergeSort fun x y => !ltS y x
theorem sortS_perm (ws : List Str) : (sortS ws).Perm ws := List.mergeSort_perm _ _
theorem not_bool {b : Bool} (h : (!b) = true) : b = false := by cases b <;> simp_all
theorem sortS_pw (ws : List Str) : (sortS ws).Pairwise fun x y => ltS y x = false := by
  refine (List.pairwise_mergeSort (le := fun x y => !ltS y x) (fun a b c h g => ?_) (fun a b => ?_) ws).imp fun h => not_bool h
  · have h' := not_bool h
    have g' := not_bool g
    cases e : ltS c a with
    | false => rfl
    | true =>
      rcases ltS_tri a b with z | z | z
      · rw [ltS_trans e z] at g'; cases g'
      · subst z; rw [e] at g'; cases g'
      · rw [z] at h'; cases h'
  · cases e : ltS b a with
    | false => rfl
    | true => rw [ltS_asy e]; rfl
theorem sortS_eq {xs ws : List Str} (p : xs.Perm ws) (h : xs.Pairwise fun x y => ltS y x = false) : xs = sortS ws :=
  perm_unique (lt := ltS) (p.trans (sortS_perm ws).symm) h (sortS_pw ws) fun a _ b _ h g => by
    rcases ltS_tri a b with z | z | z
    · rw [z] at h; cases h
    · exact z
    · rw [z] at g; cases g
def sortP (ts : List Tie) : List Tie := ts.mergeSort fun s t => !prLt t s
theorem sortP_perm (ts : List Tie) : (sortP ts).Perm ts := List.mergeSort_perm _ _
theorem sortP_pw (ts : List Tie) : (sortP ts).Pairwise fun s t => prLt t s = false := by
  refine (List.pairwise_mergeSort (le := fun s t => !prLt t s) (fun a b c h g => ?_) (fun a b => ?_) ts).imp fun h => not_bool h
  · have h' := not_bool h
    have g' := not_bool g
    cases e : prLt c a with
    | false => rfl
    | true =>
      rcases prLt_tri a b with z | z | z
      · rw [prLt_trans e z] at g'; cases g'
      · have : prLt c b = true := by
          rw [prLt_iff] at e ⊢
          rw [← z.1, ← z.2]; exact e
        rw [this] at g'; cases g'
      · rw [z] at h'; cases h'
  · cases e : prLt b a with
    | false => rfl
    | true =>
      have : prLt a b = false := by
        cases e2 : prLt a b with
        | false => rfl
        | true =>
          have := prLt_trans e e2
          rw [prLt_irr] at this; cases this
      rw [this]; rfl
theorem nd_name {ts : List Tie} (h : (ts.map (·.n)).Nodup) {s t : Tie} (hs : s ∈ ts) (ht : t ∈ ts) (e : s.n = t.n) : s = t := by
  induction ts with
  | nil => cases hs
  | cons u r ih =>
    rw [List.map_cons] at h
    obtain ⟨h1, h2⟩ := List.nodup_cons.mp h
    rcases List.mem_cons.mp hs with e1 | k1
    · rcases List.mem_cons.mp ht with e2 | k2
      · rw [e1, e2]
      · refine absurd ?_ h1
        rw [← e1, e]; exact List.mem_map_of_mem k2
    · rcases List.mem_cons.mp ht with e2 | k2
      · refine absurd ?_ h1
        rw [← e2, ← e]; exact List.mem_map_of_mem k1
      · exact ih h2 k1 k2
theorem sortP_eq {xs ts : List Tie} (nd : (ts.map (·.n)).Nodup) (p : xs.Perm ts) (h : xs.Pairwise fun s t => prLt t s = false) : xs = sortP ts :=
  perm_unique (lt := prLt) (p.trans (sortP_perm ts).symm) h (sortP_pw ts) fun a ha b hb h g => by
    rcases prLt_tri a b with z | z | z
    · rw [z] at h; cases h
    · exact nd_name nd (p.mem_iff.mp ha) (p.mem_iff.mp hb) z.2
    · rw [z] at g; cases g
/-! the cheapest tree's names, rising -/
def cheap (N : Net) : List Str := sortS ((krun Tie.a Tie.b N.ps (sortP N.op)).2.map (·.n))
end Ct
namespace Ct
open PySem PySem.Spec PyProof.Rows L2
theorem ltCps_ltS (x y : Str) : ltCps x.cps.toList y.cps.toList = ltS x y := PyProof.Rows.ltCps_eq _ _
theorem le_trS {x y z : Str} (h : ltS y x = false) (g : ltS z y = false) : ltS z x = false := by
  cases e : ltS z x with
  | false => rfl
  | true =>
    rcases ltS_tri x y with w | w | w
    · rw [ltS_trans e w] at g; cases g
    · subst w; rw [e] at g; cases g
    · rw [w] at h; cases h
theorem risingS_pw : ∀ (l : List Str) (p : Str), risingS p l = true → (p :: l).Pairwise fun x y => ltS y x = false
  | [], _, _ => by simp
  | x :: r, p, h => by
    unfold risingS at h
    obtain ⟨h1, h2⟩ := Bool.and_eq_true_iff.mp h
    rw [ltCps_ltS] at h1
    have h1' := not_bool h1
    have ih := risingS_pw r x h2
    refine List.pairwise_cons.mpr ⟨fun y hy => ?_, ih⟩
    rcases List.mem_cons.mp hy with rfl | hy
    · exact h1'
    · exact le_trS h1' ((List.pairwise_cons.mp ih).1 y hy)
theorem sortedS_pw : ∀ (l : List Str), sortedS l = true → l.Pairwise fun x y => ltS y x = false
  | [], _ => .nil
  | x :: r, h => risingS_pw r x h
end Ct
end

section
set_option Elab.async false
set_option linter.all false
set_option maxRecDepth 100000
set_option maxHeartbeats 4000000
namespace Ct
open PySem PySem.Spec PyProof.Rows L2 Evl
section
variable {P : Program} {w : World} {K : PySem.W.Frag} {mg : Str → Option Value} {base : Heap} {C_Groups C_Keeper C_Desk : Addr}
def sp_is_whole : Sp := fun vs H Q _ => ∃ i, vs = [.int i] ∧ Q (.bl true) H
theorem sc_is_whole : FnScope ["thing"] ["thing"] (defScope s_is_whole) := ⟨rfl, rfl, rfl, by decide +kernel, rfl, by decide +kernel, by decide +kernel⟩
theorem ok_is_whole {f : Addr} {fd : FuncData} (F : FnP K "is_whole" "is_whole" s_is_whole f fd) (T : Txt w K mg C_Groups C_Keeper C_Desk)
   : FnOk P w K mg base CX0 1 f fd ["thing"] sp_is_whole := by
  have sc := sc_is_whole

  refine F.ok sc (fun vs H Q E h => ?_) (fun cdv A outer s H vs Q E hr h => ?_)
  · obtain ⟨i, rfl, _⟩ := h; rfl
  · have hu := hu_of hr
    obtain ⟨i, rfl, hQ⟩ := h
    refine ⟨_, PSs.nox (pss_one (ps_ret (pe_and (pe_callB call_isi (by rfl) T.b_isinstance (by decide +kernel) (pa_cons (pv 0) (pa_cons (pe_bltn (by rfl) T.b_int (by decide +kernel) (v := .ty "int") rfl) pa_nil))) (pe_one (pe_not (pe_callB call_isi (by rfl) T.b_isinstance (by decide +kernel) (pa_cons (pv 0) (pa_cons (pe_bltn (by rfl) T.b_bool (by decide +kernel) (v := .ty "bool") rfl) pa_nil)))))))), ?_⟩
    refine ⟨_, rfl, _, _, _, _, true, rfl, .ty "int", .base (.int i), kit_ty (by decide +kernel), _, rfl, ?_⟩
    refine iteT ?_
    exact ⟨_, rfl, _, _, _, _, false, rfl, .ty "bool", .base (.int i), kit_ty (by decide +kernel), _, rfl, hQ⟩
/-- a word's look -/
def sp_is_word : Sp := fun vs H Q _ => ∃ z, vs = [.str z] ∧ WordOk z ∧ ∀ H', Ex H H' → Q (.bl true) H'
theorem letter_in {c : Nat} (h : 97 ≤ c ∧ c ≤ 122) : c ∈ (Str.ofString "abcdefghijklmnopqrstuvwxyz").cps.toList := by
  have e : (Str.ofString "abcdefghijklmnopqrstuvwxyz").cps.toList = (List.range 26).map (· + 97) := by decide +kernel
  rw [e]
  exact List.mem_map.mpr ⟨c - 97, List.mem_range.mpr (by omega), by omega⟩
theorem sc_is_word : FnScope ["thing", "sign"] ["thing"] (defScope s_is_word) := ⟨rfl, rfl, rfl, by decide +kernel, rfl, by decide +kernel, by decide +kernel⟩
theorem ok_is_word {f : Addr} {fd : FuncData} (F : FnP K "is_word" "is_word" s_is_word f fd) (T : Txt w K mg C_Groups C_Keeper C_Desk)
   : FnOk P w K mg base CX0 1 f fd ["thing"] sp_is_word := by
  have sc := sc_is_word
  obtain ⟨tk_LETTERS, hLETTERS⟩ := T.v_LETTERS
  obtain ⟨tk_MOST_LETTERS, hMOST_LETTERS⟩ := T.v_MOST_LETTERS
  refine F.ok sc (fun vs H Q E h => ?_) (fun cdv A outer s H vs Q E hr h => ?_)
  · obtain ⟨i, rfl, _⟩ := h; rfl
  · have hu := hu_of hr
    obtain ⟨z, rfl, ⟨z1, z2, z3⟩, hQ⟩ := h
    refine ⟨_, PSs.nox (pss_one (ps_ret (pe_and (pe_callB call_isi (by rfl) T.b_isinstance (by decide +kernel) (pa_cons (pv 0) (pa_cons (pe_bltn (by rfl) T.b_str (by decide +kernel) (v := .ty "str") rfl) pa_nil))) (pe_and (pe_chain op_le op_le pe_int (pe_callB call_len_str (by rfl) T.b_len (by decide +kernel) (pa_cons (pv 0) pa_nil)) (pe_glob (v := .int 8) (by rfl) hMOST_LETTERS ⟨_, rfl⟩)) (pe_one (pe_callB (cr_allK (K := K) rfl (by rfl)) (by rfl) T.b_all (by decide +kernel) (pa_cons (pe_lc (own := [("sign", 1)]) (by rfl) sc.nd (pi_str (pv 0)) (blkOk_by (N := ["thing", "sign"]) (sc := defScope s_is_word) (own := [("sign", 1)]) (by decide +kernel)) (fun _ _ _ _ _ => (pg_name (i := 1) sc.nd rfl (Or.inl rfl))) (fun _ _ _ _ _ => pts_nil) (fun _ _ _ _ _ => (pe_cmpR op_in_sign (pv 1) (pe_glob (v := .str "abcdefghijklmnopqrstuvwxyz") (by rfl) hLETTERS ⟨_, rfl⟩) rfl))) pa_nil))))))), ?_⟩
    refine ⟨_, rfl, _, _, _, _, true, rfl, .ty "str", .base (.str z), kit_ty (by decide +kernel), _, rfl, ?_⟩
    refine iteT ?_
    refine ⟨_, rfl, z, rfl, Nat.le_trans z2 (by decide), _, _, rfl, rfl, _, rfl, ?_⟩
    rw [if_pos (decide_eq_true (show (1 : Int) ≤ (z.length : Int) by omega))]
    refine ⟨_, _, rfl, rfl, _, rfl, ?_⟩
    rw [if_pos (decide_eq_true (show (z.length : Int) ≤ 8 by omega))]
    refine ev_all (bs := (z.cps.toList.filter fun _ => true).map fun _ => true) ((lr_str (z := z) (RB := fun _ v (b : Bool) => v = .bl b) (ev_var rfl) (Nat.lt_of_le_of_lt z2 (by decide)) Stay.val (fun _ => true) (fun _ => true)
      (fun i c hc => ⟨et_yes, fun _ => EvR.of' (v := .bl true) ?_ fun _ _ => rfl⟩)).imp fun ys H2 _ hp => Paired.vals hp) H (Ex.refl H) _ fun H2 e2 => ?_
    · intro H1 _ Q q
      refine ⟨_, rfl, c, _, rfl, rfl, ?_⟩
      have e : decide (c ∈ (Str.ofString "abcdefghijklmnopqrstuvwxyz").cps.toList) = true := decide_eq_true (letter_in (z3 c (List.mem_of_getElem? hc)))
      rw [e]
      exact q H1 (Ex.refl H1)
    · have e : List.all ((z.cps.toList.filter fun _ => true).map fun _ => true) id = true := by
        rw [List.all_map]; exact List.all_eq_true.mpr fun _ _ => rfl
      rw [e]
      exact hQ _ e2
def sp_empty : Sp := fun vs H Q _ => vs = [] ∧ ∀ a H', Ex H H' → NetAt H' a ⟨[], []⟩ → Q (.ref a) H'
theorem sc_empty : FnScope [] [] (defScope s_empty) := ⟨rfl, rfl, rfl, by decide +kernel, rfl, by decide +kernel, by decide +kernel⟩
theorem ok_empty {f : Addr} {fd : FuncData} (F : FnP K "empty" "empty" s_empty f fd) (T : Txt w K mg C_Groups C_Keeper C_Desk)
   : FnOk P w K mg base CX0 1 f fd [] sp_empty := by
  have sc := sc_empty

  refine F.ok sc (fun vs H Q E h => ?_) (fun cdv A outer s H vs Q E hr h => ?_)
  · obtain ⟨rfl, _⟩ := h; rfl
  · have hu := hu_of hr
    obtain ⟨rfl, hQ⟩ := h
    refine ⟨_, PSs.nox (pss_one (ps_ret (pe_tup (pa_cons (pe_tup pa_nil) (pa_cons (pe_tup pa_nil) pa_nil))))), ?_⟩
    refine ⟨Nat.zero_le _, fun p hp => ⟨Nat.zero_le _, fun t ht => ⟨by show 2 ≤ sizeLine; decide, fun a ha => hQ a _ ((Ex.new hp).trans ((Ex.new ht).trans (Ex.new ha))) ⟨p, t, upd_same, ?_, [], ?_, .nil⟩⟩⟩⟩
    · exact (Ex.new ha) _ _ ((Ex.new ht) _ _ upd_same)
    · exact (Ex.new ha) _ _ upd_same
def sp_is_open : Sp := fun vs H Q _ => ∃ a t N T, vs = [.ref a, .ref t] ∧ NetAt H a N ∧ TieAt H t T ∧ Q (.bl (openB N T)) H
theorem sc_is_open : FnScope ["net", "tie"] ["net", "tie"] (defScope s_is_open) := ⟨rfl, rfl, rfl, by decide +kernel, rfl, by decide +kernel, by decide +kernel⟩
theorem ok_is_open {f : Addr} {fd : FuncData} (F : FnP K "is_open" "is_open" s_is_open f fd) (T : Txt w K mg C_Groups C_Keeper C_Desk)
   : FnOk P w K mg base CX0 1 f fd ["net", "tie"] sp_is_open := by
  have sc := sc_is_open

  refine F.ok sc (fun vs H Q E h => ?_) (fun cdv A outer s H vs Q E hr h => ?_)
  · obtain ⟨a, t, N, T, rfl, _⟩ := h; rfl
  · have hu := hu_of hr
    obtain ⟨a, t, N, T, rfl, ⟨p, q, hN, hp, hq⟩, hT, hQ⟩ := h
    refine ⟨_, PSs.nox (pss_one (ps_ret (pe_and (pe_cmpR (op_in_seqK (K := K) rfl) (pe_ix (ix_tupK (K := K) rfl) (pv 1) pe_int (fun _ _ => rfl)) (pe_ix (ix_tupK (K := K) rfl) (pv 0) pe_int (fun _ _ => rfl)) rfl) (pe_one (pe_cmpR (op_in_seqK (K := K) rfl) (pe_ix (ix_tupK (K := K) rfl) (pv 1) pe_int (fun _ _ => rfl)) (pe_ix (ix_tupK (K := K) rfl) (pv 0) pe_int (fun _ _ => rfl)) rfl))))), ?_⟩
    refine ⟨_, rfl, t, _, _, _, rfl, rfl, SqT.of hT, rfl, _, rfl, a, _, _, _, rfl, rfl, SqT.of hN, rfl, p, _, rfl, .inr (SqT.of hp), rfl, flat_strs _, _, rfl, ?_⟩
    have e1 : inV (Sc.s T.a).v (N.ps.map V.str) = decide (T.a ∈ N.ps) := inV_str _ _
    have e2 : inV (Sc.s T.b).v (N.ps.map V.str) = decide (T.b ∈ N.ps) := inV_str _ _
    rw [if_neg Bool.false_ne_true, e1]
    unfold openB at hQ
    cases h1 : decide (T.a ∈ N.ps) with
    | false =>
      refine iteF ?_
      rw [h1] at hQ
      exact hQ
    | true =>
      refine iteT ?_
      refine ⟨_, rfl, t, _, _, _, rfl, rfl, SqT.of hT, rfl, _, rfl, a, _, _, _, rfl, rfl, SqT.of hN, rfl, p, _, rfl, .inr (SqT.of hp), rfl, flat_strs _, ?_⟩
      rw [if_neg Bool.false_ne_true, e2]
      rw [h1] at hQ
      exact hQ
theorem sc_price : FnScope ["tie"] ["tie"] (defScope s_price) := ⟨rfl, rfl, rfl, by decide +kernel, rfl, by decide +kernel, by decide +kernel⟩
theorem ok_price {f : Addr} {fd : FuncData} (F : FnP K "price" "price" s_price f fd) (T : Txt w K mg C_Groups C_Keeper C_Desk)
   : FnOk P w K mg base CX0 1 f fd ["tie"] spPrice := by
  have sc := sc_price

  refine F.ok sc (fun vs H Q E h => ?_) (fun cdv A outer s H vs Q E hr h => ?_)
  · obtain ⟨a, T, rfl, _⟩ := h; rfl
  · have hu := hu_of hr
    obtain ⟨t, T, rfl, hT, hQ⟩ := h
    refine ⟨_, PSs.nox (pss_one (ps_ret (pe_tup (pa_cons (pe_ix (ix_tupK (K := K) rfl) (pv 0) pe_int (fun _ _ => rfl)) (pa_cons (pe_ix (ix_tupK (K := K) rfl) (pv 0) pe_int (fun _ _ => rfl)) pa_nil))))), ?_⟩
    exact ⟨_, rfl, t, _, _, _, rfl, rfl, SqT.of hT, rfl, _, rfl, t, _, _, _, rfl, rfl, SqT.of hT, rfl, by show 2 ≤ sizeLine; decide, fun p hp => hQ p hp⟩
end
end Ct
end

section
set_option Elab.async false
set_option linter.all false
set_option maxRecDepth 100000
set_option maxHeartbeats 4000000
namespace Ct
open PySem PySem.Spec PyProof.Rows L2 Evl
section
variable {P : Program} {w : World} {K : PySem.W.Frag} {mg : Str → Option Value} {base : Heap} {C_Groups C_Keeper C_Desk : Addr}
def kvT (ts : List Tie) (ps : List Addr) : List (Key × V) := (ts.zip ps).map fun q => (Sum.inr q.1.n, V.ref q.2)
def DictTs (H : Hp) (d : Addr) (ts : List Tie) : Prop := ∃ ps, H d = some (.dK (kvT ts ps)) ∧ Paired (TieAt H) ps ts
theorem kvT_cons (t : Tie) (ts : List Tie) (p : Addr) (ps : List Addr) : kvT (t :: ts) (p :: ps) = (Sum.inr t.n, V.ref p) :: kvT ts ps := rfl
theorem kvT_keys : ∀ {ps : List Addr} {ts : List Tie} {H : Hp}, Paired (TieAt H) ps ts → (kvT ts ps).map (·.1) = ts.map fun t => (Sum.inr t.n : Key)
  | _, _, _, .nil => rfl
  | _, _, _, .cons _ r => by rw [kvT_cons, List.map_cons, List.map_cons, kvT_keys r]
theorem nd_keys {ts : List Tie} (h : (ts.map (·.n)).Nodup) : (ts.map fun t => (Sum.inr t.n : Key)).Nodup := by
  have e : (ts.map fun t => (Sum.inr t.n : Key)) = (ts.map (·.n)).map Sum.inr := by rw [List.map_map]; rfl
  rw [e]
  exact List.Pairwise.map _ (fun a b hab e => hab (Sum.inr.inj e)) h
theorem ties_get {H : Hp} {ps : List Addr} {ts : List Tie} {i : Nat} {x : V} {d : Tie} (h : Paired (TieAt H) ps ts) (hx : (ps.map V.ref)[i]? = some x) (hd : ts[i]? = some d) : ∃ p, x = .ref p ∧ TieAt H p d := by
  rw [List.getElem?_map] at hx
  cases e : ps[i]? with
  | none => rw [e] at hx; cases hx
  | some p =>
    rw [e] at hx
    obtain ⟨y, h1, h2⟩ := Paired.get h e
    rw [hd] at h1
    cases h1
    exact ⟨p, (Option.some.inj hx).symm, h2⟩
theorem ties_len {H : Hp} {ps : List Addr} {ts : List Tie} (h : Paired (TieAt H) ps ts) : (ps.map V.ref).length = ts.length := by rw [List.length_map]; exact Paired.length h
/-- a field of a tie in a slot -/
theorem ev_tie {σ : L2.St} {H : Hp} {p : Addr} {t : Tie} {j : Nat} {i : Int} {v : V} (hs : σ[j]? = some (some (.ref p))) (h : TieAt H p t) (ha : atI (t.row.map Sc.v) i = some v) : Ev (tOp (rIxT K) (tVar j) (tC (.int i))) σ H v := ev_op (ev_var hs) ev_c (rv_ixT (SqT.of h) ha)
def RPair (H : Hp) (v : V) (t : Tie) : Prop := ∃ q p, v = .ref q ∧ H q = some (.tup [.str t.n, .ref p]) ∧ TieAt H p t
theorem Stay.pair : Stay RPair := ⟨fun _ _ _ _ e ⟨q, p, h1, h2, h3⟩ => ⟨q, p, h1, e _ _ h2, e _ _ h3⟩, fun _ _ H l o ⟨xs, hl⟩ ⟨q, p, h1, h2, h3⟩ => by
  have n1 : q ≠ l := fun z => by rw [z, hl] at h2; cases h2
  have n2 : p ≠ l := fun z => by
    have h3' : H p = some _ := h3
    rw [z, hl] at h3'; cases h3'
  refine ⟨q, p, h1, by rw [upd_ne n1]; exact h2, ?_⟩
  unfold TieAt at h3 ⊢
  rw [upd_ne n2]; exact h3⟩
theorem pairs_of {H : Hp} : ∀ {ys : List V} {ts : List Tie}, Paired (RPair H) ys ts → ∃ qs ps, ys = qs.map V.ref ∧ Paired (fun q (kv : Key × V) => SqT K H q [kV kv.1, kv.2]) qs (kvT ts ps) ∧ Paired (TieAt H) ps ts
  | _, _, .nil => ⟨[], [], rfl, .nil, .nil⟩
  | _, _, .cons ⟨q, p, h1, h2, h3⟩ r => by
    obtain ⟨qs, ps, e, g, k⟩ := pairs_of r
    exact ⟨q :: qs, p :: ps, by rw [e, h1]; rfl, .cons (SqT.of h2) g, .cons h3 k⟩
def sp_opened : Sp := fun vs H Q _ => ∃ a N, vs = [.ref a] ∧ NetAt H a N ∧ (N.ts.map (·.n)).Nodup ∧ N.ts.length ≤ 1000 ∧ ∀ d H2, H d = none → Ex H H2 → DictTs H2 d N.op → Q (.ref d) H2
theorem spv_open {H : Hp} {a p : Addr} {N : Net} {t : Tie} (hN : NetAt H a N) (ht : TieAt H p t) : SpV sp_is_open [.ref a, .ref p] H (.bl (openB N t)) := fun H1 e Q q E =>
  ⟨a, p, N, t, rfl, hN.mono (Tups.ofEx e), ht.mono (Tups.ofEx e), q H1 (Ex.refl H1)⟩
theorem sc_opened : FnScope ["net", "tie"] ["net"] (defScope s_opened) := ⟨rfl, rfl, rfl, by decide +kernel, rfl, by decide +kernel, by decide +kernel⟩
theorem ok_opened {f : Addr} {fd : FuncData} (F : FnP K "opened" "opened" s_opened f fd) (T : Txt w K mg C_Groups C_Keeper C_Desk)
  {f_is_open : Addr} {fd_is_open : FuncData} (G_is_open : Dk P w K mg base "is_open" 1 ["net", "tie"] sp_is_open f_is_open fd_is_open) : FnOk P w K mg base CX0 2 f fd ["net"] sp_opened := by
  have sc := sc_opened

  refine F.ok sc (fun vs H Q E h => ?_) (fun cdv A outer s H vs Q E hr h => ?_)
  · obtain ⟨a, N, rfl, _⟩ := h; rfl
  · have hu := hu_of hr
    obtain ⟨a, N, rfl, hN, nd, hl, hQ⟩ := h
    obtain ⟨p, q, h1, hp, ps, hq, hts⟩ := id hN
    refine ⟨_, PSs.nox (pss_one (ps_ret (pe_callTy (call_dictPK (K := K) rfl (by rfl)) (by rfl) T.b_dict (by decide +kernel) (pa_cons (pe_lc (own := [("tie", 1)]) (by rfl) sc.nd (pi_tupK (K := K) rfl (pe_ix (ix_tupK (K := K) rfl) (pv 0) pe_int (fun _ _ => rfl))) (blkOk_by (N := ["net", "tie"]) (sc := defScope s_opened) (own := [("tie", 1)]) (by decide +kernel)) (fun _ _ _ _ _ => (pg_name (i := 1) sc.nd rfl (Or.inl rfl))) (fun _ _ _ _ _ => (pts_one (pt_val (pe_call G_is_open.ok (hr.mono (by decide)) (by rfl) G_is_open.mgf G_is_open.kp G_is_open.b .nil pass0 (pa_cons (pv 0) (pa_cons (pv 1) pa_nil)))))) (fun _ _ _ _ _ => (pe_tup (pa_cons (pe_ix (ix_tupK (K := K) rfl) (pv 1) pe_int (fun _ _ => rfl)) (pa_cons (pv 1) pa_nil))))) pa_nil)))), ?_⟩
    refine r_retD (PK := fun kvs H2 => ∃ ps, kvs = kvT N.op ps ∧ Paired (TieAt H2) ps N.op) (dr_dict (fun kvs H H' e ⟨ps, e1, hp⟩ => ⟨ps, e1, ties_mono (Tups.ofEx e) hp⟩)
      ((lr_tup (RB := RPair) (ds := N.ts) (ev_op (ev_var rfl) ev_c (rv_ixT (SqT.of h1) rfl)) (SqT.of hq) (ties_len hts) (by omega) Stay.pair (openB N) id (fun i x d hx hd => ?_)).imp fun ys H2 _ hy => ?_)) (fun d kvs H2 hd e h2 ⟨ps, e1, hp⟩ => hQ d H2 hd e ⟨ps, by rw [h2, e1], hp⟩)
    · obtain ⟨pt, rfl, ht⟩ := ties_get hts hx hd
      refine ⟨et_B (ev_call (ea_cons (ev_var rfl) (ea_cons (ev_var rfl) ea_nil)) (spv_open hN ht)), fun _ H1 e Q q => ?_⟩
      refine eu_tup (ea_cons (ev_tie rfl ht rfl) (ea_cons (ev_var rfl) ea_nil)) (by show 2 ≤ 100000; decide) H1 e Q fun p' H2 _ e2 h2 => q _ H2 e2 ⟨p', pt, rfl, h2, (e.trans e2) _ _ ht⟩
    · rw [List.map_id] at hy
      obtain ⟨qs, ps, e, g, k⟩ := pairs_of (K := K) hy
      have nd2 : (N.op.map (·.n)).Nodup := List.Nodup.sublist (List.Sublist.map _ List.filter_sublist) nd
      have k' : Paired (TieAt H2) ps N.op := k
      exact ⟨qs, kvT N.op ps, e, g, merge_nd _ [] (by rw [List.nil_append, kvT_keys k']; exact nd_keys nd2), ps, rfl, k'⟩
def sp_waiting : Sp := fun vs H Q _ => ∃ a N, vs = [.ref a] ∧ NetAt H a N ∧ N.ts.length ≤ 1000 ∧ ∀ b H2, Ex H H2 → StrsT H2 b ((N.ts.filter fun t => !openB N t).map (·.n)) → Q (.ref b) H2
theorem sc_waiting : FnScope ["net", "tie"] ["net"] (defScope s_waiting) := ⟨rfl, rfl, rfl, by decide +kernel, rfl, by decide +kernel, by decide +kernel⟩
theorem ok_waiting {f : Addr} {fd : FuncData} (F : FnP K "waiting" "waiting" s_waiting f fd) (T : Txt w K mg C_Groups C_Keeper C_Desk)
  {f_is_open : Addr} {fd_is_open : FuncData} (G_is_open : Dk P w K mg base "is_open" 1 ["net", "tie"] sp_is_open f_is_open fd_is_open) : FnOk P w K mg base CX0 2 f fd ["net"] sp_waiting := by
  have sc := sc_waiting

  refine F.ok sc (fun vs H Q E h => ?_) (fun cdv A outer s H vs Q E hr h => ?_)
  · obtain ⟨a, N, rfl, _⟩ := h; rfl
  · have hu := hu_of hr
    obtain ⟨a, N, rfl, hN, hl, hQ⟩ := h
    obtain ⟨p, q, h1, hp, ps, hq, hts⟩ := id hN
    refine ⟨_, PSs.nox (pss_one (ps_ret (pe_callTy (call_tuple_ofK (K := K) rfl) (by rfl) T.b_tuple (by decide +kernel) (pa_cons (pe_lc (own := [("tie", 1)]) (by rfl) sc.nd (pi_tupK (K := K) rfl (pe_ix (ix_tupK (K := K) rfl) (pv 0) pe_int (fun _ _ => rfl))) (blkOk_by (N := ["net", "tie"]) (sc := defScope s_waiting) (own := [("tie", 1)]) (by decide +kernel)) (fun _ _ _ _ _ => (pg_name (i := 1) sc.nd rfl (Or.inl rfl))) (fun _ _ _ _ _ => (pts_one (pt_not (pt_val (pe_call G_is_open.ok (hr.mono (by decide)) (by rfl) G_is_open.mgf G_is_open.kp G_is_open.b .nil pass0 (pa_cons (pv 0) (pa_cons (pv 1) pa_nil))))))) (fun _ _ _ _ _ => (pe_ix (ix_tupK (K := K) rfl) (pv 1) pe_int (fun _ _ => rfl)))) pa_nil)))), ?_⟩
    refine r_retU (ur_tuple ((lr_tup (RB := fun _ v (z : Str) => v = .str z) (ds := N.ts) (ev_op (ev_var rfl) ev_c (rv_ixT (SqT.of h1) rfl)) (SqT.of hq) (ties_len hts) (by omega) Stay.val (fun t => !openB N t) (·.n) (fun i x d hx hd => ?_)).imp fun ys H2 _ hy => Paired.vals hy))
      (fun b ys H2 _ e h2 ⟨H3, _, _, e3⟩ => hQ b H2 e (by unfold StrsT; rw [h2, e3]))
    obtain ⟨pt, rfl, ht⟩ := ties_get hts hx hd
    exact ⟨et_not (et_B (ev_call (ea_cons (ev_var rfl) (ea_cons (ev_var rfl) ea_nil)) (spv_open hN ht))), fun _ => EvR.of (ev_tie rfl ht rfl)⟩
def getT (ts : List Tie) (z : Str) : Option Tie := ts.find? fun t => decide (t.n = z)
theorem getT_at {ts : List Tie} {i : Nat} {t : Tie} {z : Str} (hd : ts[i]? = some t) (hg : getT (ts.take i) z = none) (hz : t.n = z) : getT ts z = some t := by
  obtain ⟨hi, e⟩ := List.getElem?_eq_some_iff.mp hd
  have e1 : ts = ts.take i ++ t :: ts.drop (i + 1) := by
    rw [← e, ← List.drop_eq_getElem_cons hi, List.take_append_drop]
  unfold getT at hg ⊢
  rw [e1, List.find?_append, hg, List.find?_cons]
  simp [hz]
theorem getT_no {ts : List Tie} {i : Nat} {t : Tie} {z : Str} (hd : ts[i]? = some t) (hg : getT (ts.take i) z = none) (hz : ¬ t.n = z) : getT (ts.take (i + 1)) z = none := by
  unfold getT at hg ⊢
  rw [List.take_add_one, hd, List.find?_append, hg]
  simp [hz]
def TieO (H : Hp) (r : V) : Option Tie → Prop
  | some t => ∃ p, r = .ref p ∧ TieAt H p t
  | none => r = .non
def sp_tie_of : Sp := fun vs H Q _ => ∃ a N z, vs = [.ref a, .str z] ∧ NetAt H a N ∧ ∀ r, TieO H r (getT N.ts z) → Q r H
theorem sc_tie_of : FnScope ["net", "name", "tie"] ["net", "name"] (defScope s_tie_of) := ⟨rfl, rfl, rfl, by decide +kernel, rfl, by decide +kernel, by decide +kernel⟩
theorem ok_tie_of {f : Addr} {fd : FuncData} (F : FnP K "tie_of" "tie_of" s_tie_of f fd) (T : Txt w K mg C_Groups C_Keeper C_Desk)
   : FnOk P w K mg base CX0 1 f fd ["net", "name"] sp_tie_of := by
  have sc := sc_tie_of

  refine F.ok sc (fun vs H Q E h => ?_) (fun cdv A outer s H vs Q E hr h => ?_)
  · obtain ⟨a, N, z, rfl, _⟩ := h; rfl
  · have hu := hu_of hr
    obtain ⟨a, N, z, rfl, hN, hQ⟩ := h
    obtain ⟨p, q, h1, hp, ps, hq, hts⟩ := id hN
    refine ⟨_, PSs.nox (pss_cons (ps_for PassesOwn.never rfl (pi_tupK (K := K) rfl (pe_ix (ix_tupK (K := K) rfl) (pv 0) pe_int (fun _ _ => rfl))) (pg_name (i := 2) sc.nd rfl (Or.inl rfl)) (pss_one (ps_if (pt_cmpR op_eq (pe_ix (ix_tupK (K := K) rfl) (pv 2) pe_int (fun _ _ => rfl)) (pv 1) (nomark _)) (pss_one (ps_ret (pv 2))) pss_nil)))
    (pss_one (ps_ret pe_non))), ?_⟩
    refine ⟨_, rfl, a, _, _, _, rfl, rfl, SqT.of h1, rfl, q, rfl, ⟨_, SqT.of hq⟩, for_tup (K := K) (a := q) (xs := ps.map V.ref) (fun i σ H' => H' = H ∧ (∃ v, σ = [some (.ref a), some (.str z), v]) ∧ getT (N.ts.take i) z = none)
      ⟨rfl, ⟨none, rfl⟩, rfl⟩ (fun i σ H' _ ⟨e, _⟩ => by rw [e]; exact SqT.of hq) ?_ ?_⟩
    · rintro i x σ H' hi ⟨rfl, ⟨v, rfl⟩, hg⟩
      have hi' : i < N.ts.length := by
        rw [← ties_len hts]; exact (List.getElem?_eq_some_iff.mp hi).1
      have hd : N.ts[i]? = some N.ts[i] := List.getElem?_eq_getElem hi'
      obtain ⟨pt, rfl, ht⟩ := ties_get hts hi hd
      refine ⟨_, rfl, pt, _, _, _, rfl, rfl, SqT.of ht, rfl, _, rfl, rfl, _, rfl, ?_⟩
      have ek : N.ts.take (i + 1) = N.ts.take i ++ [N.ts[i]] := by rw [List.take_add_one, hd]; rfl
      have e1 : decide ((Sc.s N.ts[i].n).v = V.str z) = decide (N.ts[i].n = z) := dec_str _ _
      rw [e1]
      cases hz' : decide (N.ts[i].n = z) with
      | true =>
        have hz := of_decide_eq_true hz'
        refine iteT ?_
        refine ⟨_, rfl, hQ _ ?_⟩
        have e2 : getT N.ts z = some N.ts[i] := getT_at hd hg hz
        rw [e2]
        exact ⟨pt, rfl, ht⟩
      | false =>
        have hz := of_decide_eq_false hz'
        refine iteF ?_
        refine ⟨rfl, ⟨_, rfl⟩, ?_⟩
        exact getT_no hd hg hz
    · rintro σ H' ⟨rfl, ⟨v, rfl⟩, hg⟩
      refine hQ _ ?_
      have e0 : N.ts.take (ps.map V.ref).length = N.ts := List.take_of_length_le (by rw [ties_len hts]; exact Nat.le_refl _)
      rw [e0] at hg
      rw [hg]
      rfl
end
end Ct
end

section
set_option Elab.async false
set_option linter.all false
set_option maxRecDepth 100000
set_option maxHeartbeats 4000000
namespace Ct
open PySem PySem.Spec PyProof.Rows L2 Evl
section
variable {P : Program} {w : World} {K : PySem.W.Frag} {mg : Str → Option Value} {base : Heap} {C_Groups C_Keeper C_Desk : Addr}
def GroupsAt (C : Addr) (H : Hp) (g dl : Addr) (lab : List (Str × Str)) : Prop := ∃ dx, H g = some (.ins C dx [("label", .ref dl)]) ∧ H dl = some (.dK (kvS lab))
def sp_Groups_init (C : Addr) : Sp := fun vs H Q _ => ∃ g a dx ps, vs = [.ref g, .ref a] ∧ H g = some (.ins C dx []) ∧ StrsT H a ps ∧ ps.Nodup ∧ ps.length ≤ 1000 ∧
  ∀ dl H2, H dl = none → (∀ b o, b ≠ g → H b = some o → H2 b = some o) → GroupsAt C H2 g dl (ps.map fun p => (p, p)) → Q .non H2
theorem sc_Groups_init : FnScope ["self", "places", "place"] ["self", "places"] (defScope s_Groups_init) := ⟨rfl, rfl, rfl, by decide +kernel, rfl, by decide +kernel, by decide +kernel⟩
theorem ok_Groups_init {f : Addr} {fd : FuncData} (F : FnP K "__init__" "Groups.__init__" s_Groups_init f fd) (T : Txt w K mg C_Groups C_Keeper C_Desk)
   : FnOk P w K mg base CX0 1 f fd ["self", "places"] (sp_Groups_init C_Groups) := by
  have sc := sc_Groups_init

  refine F.ok sc (fun vs H Q E h => ?_) (fun cdv A outer s H vs Q E hr h => ?_)
  · obtain ⟨g, a, dx, ps, rfl, _⟩ := h; rfl
  · have hu := hu_of hr
    obtain ⟨g, a, dx, ps, rfl, hg, hp, nd, hl, hQ⟩ := h
    refine ⟨_, PSs.nox (pss_one (ps_fld (pv 0) (pe_callTy (call_dictPK (K := K) rfl (by rfl)) (by rfl) T.b_dict (by decide +kernel) (pa_cons (pe_lc (own := [("place", 2)]) (by rfl) sc.nd (pi_tupK (K := K) rfl (pv 1)) (blkOk_by (N := ["self", "places", "place"]) (sc := defScope s_Groups_init) (own := [("place", 2)]) (by decide +kernel)) (fun _ _ _ _ _ => (pg_name (i := 2) sc.nd rfl (Or.inl rfl))) (fun _ _ _ _ _ => pts_nil) (fun _ _ _ _ _ => (pe_tup (pa_cons (pv 2) (pa_cons (pv 2) pa_nil))))) pa_nil)) rfl)), ?_⟩
    refine dr_dict (PK := fun kvs _ => kvs = kvS (ps.map fun p => (p, p))) (fun _ _ _ _ h => h)
      ((lr_tup (RB := fun H v (z : Str) => ∃ q, v = .ref q ∧ H q = some (.tup [.str z, .str z])) (ds := ps) (ev_var rfl) (SqT.of hp) (by rw [List.length_map]) (by omega) ⟨fun _ _ _ _ e ⟨q, h1, h2⟩ => ⟨q, h1, e _ _ h2⟩, fun _ _ H l o ⟨xs, hl⟩ ⟨q, h1, h2⟩ => ⟨q, h1, by rw [upd_ne (fun z => by rw [z, hl] at h2; cases h2)]; exact h2⟩⟩
        (fun _ => true) id (fun i x d hx hd => ⟨et_yes, fun _ H1 e Q q => ?_⟩)).imp fun ys H2 _ hy => ?_) H (Ex.refl H) _ fun dl kvs H2 hdl e h2 hk => ?_
    · have e1 : x = .str d := by
        rw [List.getElem?_map, hd] at hx
        exact (Option.some.inj hx).symm
      subst e1
      exact eu_tup (ea_cons (ev_var rfl) (ea_cons (ev_var rfl) ea_nil)) (by show 2 ≤ 100000; decide) H1 (Ex.refl H1) Q fun p' H2 _ e2 h2 => q _ H2 e2 ⟨p', rfl, h2⟩
    · have e0 : ps.filter (fun _ => true) = ps := List.filter_eq_self.mpr fun _ _ => rfl
      rw [e0, List.map_id] at hy
      have go : ∀ {ys : List V} {ps : List Str}, Paired (fun v (z : Str) => ∃ q, v = .ref q ∧ H2 q = some (.tup [.str z, .str z])) ys ps → ∃ qs, ys = qs.map V.ref ∧ Paired (fun q (kv : Key × V) => SqT K H2 q [kV kv.1, kv.2]) qs (kvS (ps.map fun p => (p, p))) := by
        intro ys ps h
        induction h with
        | nil => exact ⟨[], rfl, .nil⟩
        | cons r _ ih =>
          obtain ⟨q, e1, h1⟩ := r
          obtain ⟨qs, e2, h2⟩ := ih
          exact ⟨q :: qs, by rw [e1, e2]; rfl, .cons (SqT.of h1) h2⟩
      obtain ⟨qs, e2, h2⟩ := go hy
      refine ⟨qs, _, e2, h2, merge_nd _ [] ?_, rfl⟩
      rw [List.nil_append, kvS_keys, List.map_map, List.map_map]
      exact List.Pairwise.map _ (fun a b hab e => hab (Sum.inr.inj e)) nd
    · refine ⟨_, rfl, g, C_Groups, dx, [], rfl, e _ _ hg, T.c_Groups, T.a_label, (by show 0 < 1000; decide), ?_⟩
      have ne : dl ≠ g := Ne.symm (ne_of_none hg hdl)
      refine hQ dl _ hdl (fun b o hb ho => by rw [upd_ne hb]; exact e _ _ ho) ⟨dx, upd_same, ?_⟩
      rw [upd_ne ne, h2, hk]
def sp_Groups_joins (C : Addr) : Sp := fun vs H Q _ => ∃ g x y dl lab, vs = [.ref g, .str x, .str y] ∧ GroupsAt C H g dl lab ∧ x ∈ lab.map (·.1) ∧ y ∈ lab.map (·.1) ∧ (lab.map (·.1)).Nodup ∧ lab.length ≤ 1000 ∧
  (look lab x = look lab y → ∀ H2, Ex H H2 → Q (.bl false) H2) ∧ (look lab x ≠ look lab y → ∀ H2, (∀ b o, b ≠ dl → H b = some o → H2 b = some o) → H2 dl = some (.dK (kvS (relabel lab (look lab x) (look lab y)))) → Q (.bl true) H2)
theorem sc_Groups_joins : FnScope ["self", "one", "other", "mine", "yours", "place"] ["self", "one", "other"] (defScope s_Groups_joins) := ⟨rfl, rfl, rfl, by decide +kernel, rfl, by decide +kernel, by decide +kernel⟩
theorem ok_Groups_joins {f : Addr} {fd : FuncData} (F : FnP K "joins" "Groups.joins" s_Groups_joins f fd) (T : Txt w K mg C_Groups C_Keeper C_Desk)
   : FnOk P w K mg base CX0 1 f fd ["self", "one", "other"] (sp_Groups_joins C_Groups) := by
  have sc := sc_Groups_joins

  refine F.ok sc (fun vs H Q E h => ?_) (fun cdv A outer s H vs Q E hr h => ?_)
  · obtain ⟨g, x, y, dl, lab, rfl, _⟩ := h; rfl
  · have hu := hu_of hr
    obtain ⟨g, x, y, dl, lab, rfl, ⟨dx, hg, hd⟩, hx, hy, nd, hl, hQ1, hQ2⟩ := h
    refine ⟨_, PSs.nox (pss_cons (ps_par (i := 3) (j := 4) rfl sc.nd rfl rfl (by decide) rfl rfl (pa_cons (pe_dget hu (pe_fld (pv 0) rfl) (pv 1) (fun _ _ => rfl)) (pa_cons (pe_dget hu (pe_fld (pv 0) rfl) (pv 2) (fun _ _ => rfl)) pa_nil)) rfl)
    (pss_cons (ps_if (pt_cmpR op_eq (pv 3) (pv 4) (nomark _)) (pss_one (ps_ret pe_bl)) pss_nil)
    (pss_cons (ps_for PassesOwn.never rfl (pi_listK (K := K) rfl (pe_callTy (call_list_dK (by rfl)) (by rfl) T.b_list (by decide +kernel) (pa_cons (pe_fld (pv 0) rfl) pa_nil))) (pg_name (i := 5) sc.nd rfl (Or.inl rfl)) (pss_one (ps_if (pt_cmpR op_eq (pe_dget hu (pe_fld (pv 0) rfl) (pv 5) (fun _ _ => rfl)) (pv 4) (nomark _)) (pss_one (ps_dput hu (pe_fld (pv 0) rfl) (pv 5) (pv 3) rfl)) pss_nil)))
    (pss_one (ps_ret pe_bl))))), ?_⟩
    have lk : ∀ {H'} {σ' : L2.St} {v : List (Str × Str)}, H' g = some (.ins C_Groups dx [("label", .ref dl)]) → σ'[0]? = some (some (.ref g)) → Ev (tFld K (tVar 0) "label") σ' H' (.ref dl) := fun h1 h2 => ev_fld (ev_var h2) h1 T.c_Groups T.a_label rfl
    refine q_par (ea_cons (ev_dget (lk hg rfl (v := lab)) (ev_var rfl) hd (valV_look hx)) (ea_cons (ev_dget (lk hg rfl (v := lab)) (ev_var rfl) hd (valV_look hy)) ea_nil)) fun H1 e1 => ?_
    refine q_when (et_test (ev_op (ev_var rfl) (ev_var rfl) (rv_eq rfl))) (fun hb H2 e2 => ?_) (fun hb H2 e2 => ?_)
    · rw [dec_str] at hb
      exact hQ1 (of_decide_eq_true hb) H2 (e1.trans e2)
    · rw [dec_str] at hb
      have hne := of_decide_eq_false hb
      have e12 := e1.trans e2
      have gl : g ≠ dl := ne_of hg hd (by intro z; cases z)
      refine q_forNL (el_listD (lk (e12 _ _ hg) rfl (v := lab)) (e12 _ _ hd)) (fun p i σ' H' => ∃ v, σ' = [some (.ref g), some (.str x), some (.str y), some (.str (look lab x)), some (.str (look lab y)), v] ∧ p ≠ dl ∧
          (∀ b o, b ≠ dl → H b = some o → H' b = some o) ∧ H' p = some (.lst ((kvS lab).map fun kv => kV kv.1)) ∧ H' dl = some (.dK (kvS (relabel (lab.take i) (look lab x) (look lab y) ++ lab.drop i)))) ?_ ?_ ?_ ?_
      · intro p H3 hp e3 h3
        exact ⟨none, rfl, Ne.symm (ne_of_none (e12 _ _ hd) hp), fun b o _ hb => (e12.trans e3) _ _ hb, h3, (e12.trans e3) _ _ hd⟩
      · rintro p i σ' H' _ ⟨v, _, _, _, h3, _⟩
        exact SqL.of h3
      · rintro p i z σ' H' hi ⟨v, rfl, npd, k1, h3, h4⟩
        rw [keys_kvS, List.getElem?_map, List.getElem?_map] at hi
        cases hd0 : lab[i]? with
        | none => rw [hd0] at hi; cases hi
        | some q =>
          rw [hd0] at hi
          have ez : z = .str q.1 := (Option.some.inj hi).symm
          subst ez
          obtain ⟨hil, hiq⟩ := List.getElem?_eq_some_iff.mp hd0
          have hdrop : lab.drop i = q :: lab.drop (i + 1) := by rw [List.drop_eq_getElem_cons hil, hiq]
          have hsplit : lab = lab.take i ++ q :: lab.drop (i + 1) := by rw [← hdrop, List.take_append_drop]
          have nd' := nd
          rw [hsplit, List.map_append, List.map_cons] at nd'
          obtain ⟨n1, n2, n3⟩ := List.nodup_append.mp nd'
          have nA : q.1 ∉ (lab.take i).map (·.1) := fun hm => n3 _ hm _ (by simp) rfl
          have nB : q.1 ∉ (lab.drop (i + 1)).map (·.1) := (List.nodup_cons.mp n2).1
          have nA' : q.1 ∉ (relabel (lab.take i) (look lab x) (look lab y)).map (·.1) := by rw [relabel_keys]; exact nA
          rw [hdrop] at h4
          have hg' : H' g = some (.ins C_Groups dx [("label", .ref dl)]) := k1 _ _ gl hg
          have hv : valV (kvS (relabel (lab.take i) (look lab x) (look lab y) ++ q :: lab.drop (i + 1))) (.inr q.1) = some (.str q.2) := by
            rw [valV_look (by simp), look_mid nA']
          have ek : relabel (lab.take (i + 1)) (look lab x) (look lab y) = relabel (lab.take i) (look lab x) (look lab y) ++ [(q.1, if q.2 = look lab y then look lab x else q.2)] := by
            unfold relabel
            rw [List.take_add_one, hd0, List.map_append]; rfl
          refine s_when (et_test (ev_op (ev_dget (lk hg' rfl (v := lab)) (ev_var rfl) h4 hv) (ev_var rfl) (rv_eq rfl))) (fun hb2 H5 e5 => ?_) (fun hb2 H5 e5 => ?_)
          · rw [dec_str] at hb2
            have hq := of_decide_eq_true hb2
            refine s_dput (e5 _ _ h4) (EvR.of (ev_var rfl)) (lk (e5 _ _ hg') rfl (v := lab)) (ev_var rfl) (by unfold kvS relabel; simp only [List.length_map, List.length_append, List.length_take, List.length_cons, List.length_drop]; omega) fun v6 H6 H7 e6 p6 e7 => ?_
            refine ⟨_, rfl, npd, fun b o hb ho => by rw [upd_ne hb]; exact ((e5.trans e6).trans e7) _ _ (k1 b o hb ho), by rw [upd_ne npd]; exact ((e5.trans e6).trans e7) _ _ h3, ?_⟩
            rw [upd_same, p6, ek, if_pos hq]
            have e8 : kvS (relabel (lab.take i) (look lab x) (look lab y) ++ q :: lab.drop (i + 1)) = kvS (relabel (lab.take i) (look lab x) (look lab y)) ++ (Sum.inr q.1, V.str q.2) :: kvS (lab.drop (i + 1)) := kvS_app _ _
            have m1 : ∀ L : List (Str × Str), q.1 ∉ L.map (·.1) → (Sum.inr q.1 : Key) ∉ (kvS L).map (·.1) := fun L hL hm => by
              rw [kvS_keys] at hm
              obtain ⟨w, hw, ew⟩ := List.mem_map.mp hm
              exact hL (Sum.inr.inj ew ▸ hw)
            rw [e8, putK_mid (m1 _ nA') (m1 _ nB), List.append_assoc, kvS_app]
            rfl
          · rw [dec_str] at hb2
            have hq := of_decide_eq_false hb2
            refine ⟨_, rfl, npd, fun b o hb ho => e5 _ _ (k1 b o hb ho), e5 _ _ h3, ?_⟩
            rw [ek, if_neg hq, e5 _ _ h4, List.append_assoc]
            rfl
      · rintro p σ' H' ⟨v, rfl, npd, k1, h3, h4⟩
        have e0 : ((kvS lab).map fun kv => kV kv.1).length = lab.length := by unfold kvS; simp
        rw [e0, List.take_length, List.drop_length, List.append_nil] at h4
        exact hQ2 hne H' k1 h4
end
end Ct
end

section
set_option Elab.async false
set_option linter.all false
set_option maxRecDepth 100000
set_option maxHeartbeats 4000000
namespace Ct
open PySem PySem.Spec PyProof.Rows L2 Evl
section
variable {P : Program} {w : World} {K : PySem.W.Frag} {mg : Str → Option Value} {base : Heap} {C_Groups C_Keeper C_Desk : Addr}
def cOf (ts : List Tie) (z : Str) : Int := match getT ts z with
  | some t => t.c
  | none => 0
def sp_cost_of : Sp := fun vs H Q _ => ∃ a f N ws, vs = [.ref a, .ref f] ∧ NetAt H a N ∧ (N.ts.map (·.n)).Nodup ∧ N.ts.length ≤ 1000 ∧ StrsT H f ws ∧ ws.length ≤ 1000 ∧ (∀ w ∈ ws, (getT N.ts w).isSome = true) ∧ ∀ H2, Ex H H2 → Q (.int ((ws.map (cOf N.ts)).sum)) H2
def kvC (ts : List Tie) : List (Key × V) := ts.map fun t => (Sum.inr t.n, V.int t.c)
theorem valV_kvC (z : Str) : ∀ ts : List Tie, valV (kvC ts) (.inr z) = (getT ts z).map fun t => V.int t.c
  | [] => rfl
  | t :: r => by
    by_cases e : t.n = z
    · have h : valV (kvC (t :: r)) (.inr z) = some (V.int t.c) := valV_pos (p := ((Sum.inr t.n : Key), V.int t.c)) (by rw [e])
      rw [h]; unfold getT; rw [List.find?_cons, decide_eq_true e]; rfl
    · have h : valV (kvC (t :: r)) (.inr z) = valV (kvC r) (.inr z) := valV_neg (p := ((Sum.inr t.n : Key), V.int t.c)) (fun w => e (Sum.inr.inj w))
      rw [h, valV_kvC z r]; unfold getT; rw [List.find?_cons, decide_eq_false e]
def RPairC (H : Hp) (v : V) (t : Tie) : Prop := ∃ q, v = .ref q ∧ H q = some (.tup [.str t.n, .int t.c])
theorem Stay.pairC : Stay RPairC := ⟨fun _ _ _ _ e ⟨q, h1, h2⟩ => ⟨q, h1, e _ _ h2⟩, fun _ _ H l o ⟨xs, hl⟩ ⟨q, h1, h2⟩ => ⟨q, h1, by
  rw [upd_ne (fun z => by rw [z, hl] at h2; cases h2)]; exact h2⟩⟩
theorem pairsC_of {H : Hp} : ∀ {ys : List V} {ts : List Tie}, Paired (RPairC H) ys ts → ∃ qs, ys = qs.map V.ref ∧ Paired (fun q (kv : Key × V) => SqT K H q [kV kv.1, kv.2]) qs (kvC ts)
  | _, _, .nil => ⟨[], rfl, .nil⟩
  | _, _, .cons ⟨q, h1, h2⟩ r => by
    obtain ⟨qs, e, g⟩ := pairsC_of r
    exact ⟨q :: qs, by rw [e, h1]; rfl, .cons (SqT.of h2) g⟩
theorem sc_cost_of : FnScope ["net", "names", "costs", "tie", "name"] ["net", "names"] (defScope s_cost_of) := ⟨rfl, rfl, rfl, by decide +kernel, rfl, by decide +kernel, by decide +kernel⟩
theorem ok_cost_of {f : Addr} {fd : FuncData} (F : FnP K "cost_of" "cost_of" s_cost_of f fd) (T : Txt w K mg C_Groups C_Keeper C_Desk)
   : FnOk P w K mg base CX0 1 f fd ["net", "names"] sp_cost_of := by
  have sc := sc_cost_of

  refine F.ok sc (fun vs H Q E h => ?_) (fun cdv A outer s H vs Q E hr h => ?_)
  · obtain ⟨a, f, N, ws, rfl, _⟩ := h; rfl
  · have hu := hu_of hr
    obtain ⟨a, f, N, ws, rfl, hN, nd, hl, hf, hwl, hin, hQ⟩ := h
    obtain ⟨p, q, h1, hp, ps, hq, hts⟩ := id hN
    refine ⟨_, PSs.nox (pss_cons (ps_set (i := 2) sc.nd rfl (Or.inr rfl) (pe_callTy (call_dictPK (K := K) rfl (by rfl)) (by rfl) T.b_dict (by decide +kernel) (pa_cons (pe_lc (own := [("tie", 3)]) (by rfl) sc.nd (pi_tupK (K := K) rfl (pe_ix (ix_tupK (K := K) rfl) (pv 0) pe_int (fun _ _ => rfl))) (blkOk_by (N := ["net", "names", "costs", "tie", "name"]) (sc := defScope s_cost_of) (own := [("tie", 3)]) (by decide +kernel)) (fun _ _ _ _ _ => (pg_name (i := 3) sc.nd rfl (Or.inl rfl))) (fun _ _ _ _ _ => pts_nil) (fun _ _ _ _ _ => (pe_tup (pa_cons (pe_ix (ix_tupK (K := K) rfl) (pv 3) pe_int (fun _ _ => rfl)) (pa_cons (pe_ix (ix_tupK (K := K) rfl) (pv 3) pe_int (fun _ _ => rfl)) pa_nil))))) pa_nil)))
    (pss_one (ps_ret (pe_callB (cr_sumK (K := K) rfl (by rfl)) (by rfl) T.b_sum (by decide +kernel) (pa_cons (pe_lc (own := [("name", 4)]) (by rfl) sc.nd (pi_tupK (K := K) rfl (pv 1)) (blkOk_by (N := ["net", "names", "costs", "tie", "name"]) (sc := defScope s_cost_of) (own := [("name", 4)]) (by decide +kernel)) (fun _ _ _ _ _ => (pg_name (i := 4) sc.nd rfl (Or.inl rfl))) (fun _ _ _ _ _ => pts_nil) (fun _ _ _ _ _ => (pe_dget hu (pv 2) (pv 4) (fun _ _ => rfl)))) pa_nil))))), ?_⟩
    refine r_asgD (PK := fun kvs _ => kvs = kvC N.ts) (dr_dict (fun _ _ _ _ h => h)
      ((lr_tup (RB := RPairC) (ds := N.ts) (ev_op (ev_var rfl) ev_c (rv_ixT (SqT.of h1) rfl)) (SqT.of hq) (ties_len hts) (by omega) Stay.pairC (fun _ => true) id (fun i x d hx hd => ?_)).imp fun ys H2 _ hy => ?_)) (fun d kvs H2 hd e h2 hk => ?_)
    · obtain ⟨pt, rfl, ht⟩ := ties_get hts hx hd
      refine ⟨et_yes, fun _ H1 e Q q => ?_⟩
      exact eu_tup (ea_cons (ev_tie rfl ht rfl) (ea_cons (ev_tie rfl ht rfl) ea_nil)) (by show 2 ≤ 100000; decide) H1 e Q fun p' H2 _ e2 h2 => q _ H2 e2 ⟨p', rfl, h2⟩
    · have e0 : N.ts.filter (fun _ => true) = N.ts := List.filter_eq_self.mpr fun _ _ => rfl
      rw [e0, List.map_id] at hy
      obtain ⟨qs, e, g⟩ := pairsC_of (K := K) hy
      refine ⟨qs, _, e, g, merge_nd _ [] ?_, rfl⟩
      have e1 : (kvC N.ts).map (·.1) = N.ts.map fun t => (Sum.inr t.n : Key) := by unfold kvC; rw [List.map_map]; rfl
      rw [List.nil_append, e1]; exact nd_keys nd
    · subst hk
      refine s_ret (ev_sum (ns := ws.map (cOf N.ts)) ((lr_tup (RB := fun _ v (n : Int) => v = .int n) (ds := ws) (ev_var rfl) (SqT.of (e _ _ hf)) (by rw [List.length_map]) (by omega) Stay.val (fun _ => true) (cOf N.ts) (fun i x z hx hz => ⟨et_yes, fun _ => EvR.of' ?_ fun _ _ => rfl⟩)).imp fun ys H2 _ hy => ?_)) fun H3 e3 => hQ H3 (e.trans e3)
      · have ez : x = .str z := by
          rw [List.getElem?_map, hz] at hx
          exact (Option.some.inj hx).symm
        subst ez
        refine ev_dget (ev_var rfl) (ev_var rfl) h2 ?_
        rw [valV_kvC]
        have hs := hin z (List.mem_of_getElem? hz)
        unfold cOf
        cases hg : getT N.ts z with
        | none => rw [hg] at hs; cases hs
        | some t => rfl
      · have e0 : ws.filter (fun _ => true) = ws := List.filter_eq_self.mpr fun _ _ => rfl
        rw [e0] at hy
        exact Paired.vals hy
def WayV (H : Hp) (r : V) : Option (List Tie) → Prop
  | some p => ∃ q, r = .ref q ∧ StrsT H q (p.map (·.n))
  | none => r = .non
def within (F : List Str) (ts : List Tie) : List Tie := ts.filter fun t => decide (t.n ∈ F)
def wayN (N : Net) (F : List Str) (x y : Str) : Option (List Tie) := wayOf Tie.a Tie.b (within F N.ts) true x y
def sp_way : Sp := fun vs H Q _ => ∃ a f N F x y, vs = [.ref a, .ref f, .str x, .str y] ∧ NetAt H a N ∧ StrsT H f F ∧ N.ts.length ≤ 1000 ∧ ∀ r H2, Ex H H2 → WayV H2 r (wayN N F x y) → Q r H2
def RW (H : Hp) (r : Addr) (q : Str × List Tie) : Prop := StrsT H r (q.2.map (·.n))
theorem RW.mono {H H' : Hp} (e : Tups H H') : ∀ {rs : List Addr} {A : List (Str × List Tie)}, Paired (RW H) rs A → Paired (RW H') rs A
  | _, _, .nil => .nil
  | _, _, .cons h t => .cons (StrsT.mono e h) (RW.mono e t)
theorem inV_two (z x y : Str) : inV (.str z) [.str x, .str y] = decide (z = x ∨ z = y) := by
  have e := inV_str z [x, y]
  rw [show [x, y].map V.str = [V.str x, V.str y] from rfl] at e
  rw [e]
  simp
theorem sc_way : FnScope ["net", "forest", "one", "other", "ties", "tie", "ahead", "found", "at", "here", "name", "first", "second", "cost", "there"] ["net", "forest", "one", "other"] (defScope s_way) := ⟨rfl, rfl, rfl, by decide +kernel, rfl, by decide +kernel, by decide +kernel⟩
theorem ok_way {f : Addr} {fd : FuncData} (F : FnP K "way" "way" s_way f fd) (T : Txt w K mg C_Groups C_Keeper C_Desk)
   : FnOk P w K mg base CX0 1 f fd ["net", "forest", "one", "other"] sp_way := by
  have sc := sc_way

  refine F.ok sc (fun vs H Q E h => ?_) (fun cdv A outer s H vs Q E hr h => ?_)
  · obtain ⟨a, f, N, F, x, y, rfl, _⟩ := h; rfl
  · have hu := hu_of hr
    obtain ⟨a, f, N, F, x, y, rfl, hN, hf, hl, hQ⟩ := h
    obtain ⟨p, q, h1, hp, ps, hq, hts⟩ := id hN
    refine ⟨_, PSs.nox (pss_cons (ps_setLc (i := 4) (own := [("tie", 5)]) rfl sc.nd rfl rfl (sw_true rfl rfl rfl (by decide +kernel)) (pi_tupK (K := K) rfl (pe_ix (ix_tupK (K := K) rfl) (pv 0) pe_int (fun _ _ => rfl))) (blkOk_by (N := ["net", "forest", "one", "other", "ties", "tie", "ahead", "found", "at", "here", "name", "first", "second", "cost", "there"]) (sc := defScope s_way) (own := [("tie", 5)]) (by decide +kernel)) (fun _ _ _ _ _ => (pg_name (i := 5) sc.nd rfl (Or.inl rfl))) (fun _ _ _ _ _ => (pts_one (pt_cmpR (op_in_seqK (K := K) rfl) (pe_ix (ix_tupK (K := K) rfl) (pv 5) pe_int (fun _ _ => rfl)) (pv 1) rfl))) (fun _ _ _ _ _ => (pv 5)))
    (pss_cons (ps_set (i := 6) sc.nd rfl (Or.inl rfl) (pe_disp (pps_cons (pv 2) (pe_tup pa_nil) pps_nil) (by rfl) (by rfl) (fun z => by cases z) (by decide)))
    (pss_cons (ps_set (i := 7) sc.nd rfl (Or.inl rfl) (pe_lst (pa_cons (pv 2) pa_nil)))
    (pss_cons (ps_set (i := 8) sc.nd rfl (Or.inl rfl) pe_int)
    (pss_cons (ps_while PassesOwn.never (PW.pt (pw_and (pt_cmpR op_lt (pv 8) (pe_callB (call_len_seqK (K := K) rfl) (by rfl) T.b_len (by decide +kernel) (pa_cons (pv 7) pa_nil)) (nomark _)) (pw_and1 (pt_cmp (pc_dnotin hu (pv 3) (pv 6)))))) (pss_cons (ps_set (i := 9) sc.nd rfl (Or.inl rfl) (pe_ix (ix_listK (K := K) rfl) (pv 7) (pv 8) (fun _ _ => rfl)))
    (pss_cons (ps_for PassesOwn.never rfl (pi_listK (K := K) rfl (pv 4)) (pg_tupK (K := K) (n := 4) rfl rfl (pgs_cons (pg_name (i := 10) sc.nd rfl (Or.inl rfl)) (pgs_cons (pg_name (i := 11) sc.nd rfl (Or.inl rfl)) (pgs_cons (pg_name (i := 12) sc.nd rfl (Or.inl rfl)) (pgs_cons (pg_name (i := 13) sc.nd rfl (Or.inl rfl)) pgs_nil))))) (pss_one (ps_if (pt_cmpR (op_in_seqK (K := K) rfl) (pv 9) (pe_tup (pa_cons (pv 11) (pa_cons (pv 12) pa_nil))) rfl) (pss_cons (ps_set (i := 14) sc.nd rfl (Or.inl rfl) (pe_ifExp (pt_cmpR op_eq (pv 9) (pv 11) (nomark _)) (pv 12) (pv 11)))
    (pss_one (ps_if (pt_cmp (pc_dnotin hu (pv 14) (pv 6))) (pss_cons (ps_dput hu (pv 6) (pv 14) (pe_op (op_catAK (K := K) rfl) (pe_dget hu (pv 6) (pv 9) (fun _ _ => rfl)) (pe_tup (pa_cons (pv 10) pa_nil))) rfl)
    (pss_one (ps_expr (pe_bm PySem.F.plainAttrs_list PySem.F.slot_list_append PySem.F.type_list_append mt_append (pv 7) (pa_cons (pv 14) pa_nil))))) pss_nil))) pss_nil)))
    (pss_one (ps_aug (i := 8) sc.nd rfl (Or.inl rfl) pe_int ip_add)))))
    (pss_one (ps_ret (pe_dget1 hu (pv 6) (pv 3) ⟨rfl, rfl, rfl, rfl⟩)))))))), ?_⟩
    refine r_asgL ((lr_tup (RB := fun H v (t : Tie) => ∃ p, v = .ref p ∧ TieAt H p t) (ds := N.ts) (ev_op (ev_var rfl) ev_c (rv_ixT (SqT.of h1) rfl)) (SqT.of hq) (ties_len hts) (by omega) Stay.tie (fun t => decide (t.n ∈ F)) id (fun i z d hx hd => ?_))) (fun tl ys H2 htl e h2 hy => ?_)
    · obtain ⟨pt, rfl, ht⟩ := ties_get hts hx hd
      refine ⟨et_test (ev_is (ev_op (ev_tie rfl ht rfl) (ev_var rfl) (rv_isT (SqT.of hf) rfl (flat_strs _))) ?_), fun _ => EvR.of' (ev_var rfl) fun H2 e => ⟨pt, rfl, e _ _ ht⟩⟩
      exact congrArg V.bl (inV_str _ _)
    · rw [List.map_id] at hy
      obtain ⟨rs0, rfl, htl2⟩ := Paired.refs hy
      refine r_asgD (dr_disp1 (P := fun v H2 => ∃ r, v = .ref r ∧ StrsT H2 r []) (ev_var rfl) (fun H1 e Q q => eu_tup ea_nil (by decide) H1 e Q fun p' H2 _ e2 h2 => q _ H2 e2 ⟨p', rfl, h2⟩)
        (fun v H p o ⟨kvs, hk⟩ ⟨r, e1, h2⟩ => ⟨r, e1, by unfold StrsT at h2 ⊢; rw [upd_ne (fun z => by rw [z, hk] at h2; cases h2)]; exact h2⟩)) fun dl kvs H3 hdl e3 h3 ⟨v, ekv, r0, ev, hr0⟩ => ?_
      subst ekv ev
      refine q_asgL (el_lst (ea_cons (ev_var rfl) ea_nil) (by show 1 ≤ 100000; decide)) fun fl H4 hfl e4 h4 => ?_
      refine q_asg ev_c fun H5 e5 => ?_
      let ts := within F N.ts
      have tsl : ts.length ≤ 1000 := Nat.le_trans (List.length_filter_le _ _) hl
      have nfd : dl ≠ fl := fun z => by rw [z, hfl] at h3; cases h3
      have hfl2 : H2 fl = none := fresh_back e3 hfl
      have tld : tl ≠ dl := fun z => by rw [z, hdl] at h2; cases h2
      have tlf : tl ≠ fl := fun z => by rw [z, hfl2] at h2; cases h2
      have e25 : Ex H2 H5 := (e3.trans e4).trans e5
      refine q_while (fun m σ' H' => ∃ (k : Nat) (A : List (Str × List Tie)) (rs : List Addr) (v5 v9 v10 v11 v12 v13 v14 : Option V), σ' = [some (.ref a), some (.ref f), some (.str x), some (.str y), some (.ref tl), v5, some (.ref dl), some (.ref fl), some (.int k), v9, v10, v11, v12, v13, v14] ∧
          Ex H2 H' ∧ H' dl = some (.dK (kvG A rs)) ∧ Paired (RW H') rs A ∧ H' fl = some (.lst ((met A).map V.str)) ∧ Bst Tie.a Tie.b ts x k A ∧ 2 * ts.length + 1 ≤ m + k ∧ brun Tie.a Tie.b ts (some y) m k A = brun Tie.a Tie.b ts (some y) (2 * ts.length + 1) 0 [(x, [])])
        (2 * ts.length + 1) ⟨0, [(x, [])], [r0], _, none, none, none, none, none, none, rfl, e25, (e4.trans e5) _ _ h3, .cons ((e4.trans e5) _ _ hr0) .nil, e5 _ _ h4, Bst.first _ _ _ _, by omega, rfl⟩ ?_
      rintro m σ' H' ⟨k, A, rs, v5, v9, v10, v11, v12, v13, v14, rfl, eb, hd, hrs, hf', B, hm, hR⟩
      have hml : (met A).length = A.length := by unfold met; rw [List.length_map]
      refine ⟨decide (k < A.length) && decide (y ∉ met A), et_and (et_is (et_test (ev_op (ev_var rfl) (ev_lenL (ev_var rfl) (SqL.of hf')) rv_I0)) ?_) (fun _ => et_is (et_B (ev_dnotin (ev_var rfl) (ev_var rfl) hd)) ?_), ?_, ?_⟩
      · rw [List.length_map, hml]
        by_cases hk : k < A.length
        · rw [decide_eq_true hk]; exact decide_eq_true (by omega)
        · rw [decide_eq_false hk]; exact decide_eq_false (by omega)
      · rcases kvG_get (R := fun r q => RW H' r q) hrs (z := y) with ⟨w1, w2⟩ | ⟨p, r, w1, w2, _⟩
        · rw [w2, decide_eq_true (wayTo_none.mp w1)]; rfl
        · have hy2 : ¬ y ∉ met A := fun hn => by rw [wayTo_none.mpr hn] at w1; cases w1
          rw [w2, decide_eq_false hy2]; rfl
      · intro hb H6 e6
        obtain ⟨hb1, hb2⟩ := Bool.and_eq_true_iff.mp hb
        have hk := of_decide_eq_true hb1
        have hy2 : y ∉ met A := of_decide_eq_true hb2
        obtain ⟨here, hh⟩ : ∃ here, (met A)[k]? = some here := ⟨_, List.getElem?_eq_getElem (by omega)⟩
        have hm0 : m ≠ 0 := fun z => by have := B.short; omega
        obtain ⟨m', rfl⟩ := Nat.exists_eq_succ_of_ne_zero hm0
        have hR2 : brun Tie.a Tie.b ts (some y) m' (k + 1) (bround Tie.a Tie.b ts here A) = brun Tie.a Tie.b ts (some y) (2 * ts.length + 1) 0 [(x, [])] := by
          rw [← hR]
          conv => rhs; unfold brun
          rw [hh]
          dsimp only
          rw [if_neg]
          rintro ⟨z, e1, e2⟩
          cases e1
          exact hy2 e2
        have hhm : here ∈ met A := List.mem_of_getElem? hh
        refine ⟨fun σ2 H2' => ∃ (A' : List (Str × List Tie)) (rs : List Addr) (v5 v9 v10 v11 v12 v13 v14 : Option V), σ2 = [some (.ref a), some (.ref f), some (.str x), some (.str y), some (.ref tl), v5, some (.ref dl), some (.ref fl), some (.int ((k + 1 : Nat) : Int)), v9, v10, v11, v12, v13, v14] ∧ A' = bround Tie.a Tie.b ts here A ∧
          Ex H2 H2' ∧ H2' dl = some (.dK (kvG A' rs)) ∧ Paired (RW H2') rs A' ∧ H2' fl = some (.lst ((met A').map V.str)), ?_, ?_⟩
        · rintro σ2 H2' ⟨A', rs', w5, w9, w10, w11, w12, w13, w14, rfl, rfl, g1, g2, g3, g4⟩
          exact ⟨m', Nat.lt_succ_self _, k + 1, _, rs', w5, w9, w10, w11, w12, w13, w14, rfl, g1, g2, g3, g4, B.turn hh, by omega, hR2⟩
        · refine q_asg (ev_op (ev_var rfl) (ev_var rfl) (rv_ixL (SqL.of (e6 _ _ hf')) (atI_nat (by rw [List.getElem?_map, hh]; rfl)))) fun H7 e7 => ?_
          have e67 := e6.trans e7
          refine q_forL (ev_var rfl) (SqL.of (e67 _ _ (eb _ _ h2))) (fun i σ2 H' => ∃ (rs : List Addr) (v10 v11 v12 v13 v14 : Option V), σ2 = [some (.ref a), some (.ref f), some (.str x), some (.str y), some (.ref tl), v5, some (.ref dl), some (.ref fl), some (.int k), some (.str here), v10, v11, v12, v13, v14] ∧
            Ex H2 H' ∧ H' dl = some (.dK (kvG ((ts.take i).foldl (bstep Tie.a Tie.b here) A) rs)) ∧ Paired (RW H') rs ((ts.take i).foldl (bstep Tie.a Tie.b here) A) ∧ H' fl = some (.lst ((met ((ts.take i).foldl (bstep Tie.a Tie.b here) A)).map V.str)) ∧ Bin Tie.a Tie.b ts x ((ts.take i).foldl (bstep Tie.a Tie.b here) A) ∧ here ∈ met ((ts.take i).foldl (bstep Tie.a Tie.b here) A)) ?_ ?_ ?_ ?_
          · intro H8 e8
            have e68 := e67.trans e8
            exact ⟨rs, v10, v11, v12, v13, v14, rfl, eb.trans e68, e68 _ _ hd, RW.mono (Tups.ofEx e68) hrs, e68 _ _ hf', B.bin, hhm⟩
          · rintro i σ2 H8 _ ⟨_, _, _, _, _, _, _, e8, _⟩
            exact SqL.of (e8 _ _ h2)
          · rintro i z σ2 H8 hi ⟨rs8, u10, u11, u12, u13, u14, rfl, e8, hd8, hrs8, hf8, B8, hh8⟩
            have hi' : i < ts.length := by
              have := (List.getElem?_eq_some_iff.mp hi).1
              rwa [ties_len htl2] at this
            obtain ⟨t, htt⟩ : ∃ t, ts[i]? = some t := ⟨_, List.getElem?_eq_getElem hi'⟩
            obtain ⟨pt, rfl, ht0⟩ := ties_get htl2 hi htt
            have ht : TieAt H8 pt t := e8 _ _ ht0
            have ek : (ts.take (i + 1)).foldl (bstep Tie.a Tie.b here) A = bstep Tie.a Tie.b here ((ts.take i).foldl (bstep Tie.a Tie.b here) A) t := by
              rw [List.take_add_one, htt, List.foldl_append]; rfl
            rw [ek]
            generalize (ts.take i).foldl (bstep Tie.a Tie.b here) A = A8 at *
            obtain ⟨B9, _, _⟩ := B8.turn hh8 (List.mem_of_getElem? htt)
            have hh9 := met_old (a := Tie.a) (b := Tie.b) (here := here) (t := t) hh8
            have hlen : A8.length ≤ 2001 := by
              have := (Bst.short (k := 0) ⟨B8, Nat.zero_le _, fun _ h => absurd h (Nat.not_lt_zero _)⟩)
              omega
            refine ⟨pt, _, rfl, SqT.of ht, rfl, _, _, rfl, _, _, rfl, _, _, rfl, _, _, rfl, rfl, ?_⟩
            refine s_when (et_test (ev_is (ev_inU (ev_var rfl) (eu_tup (ea_cons (ev_var rfl) (ea_cons (ev_var rfl) ea_nil)) (by show 2 ≤ 100000; decide)) rfl rfl) (congrArg V.bl (inV_two here t.a t.b)))) (fun hb H9 e9 => ?_) (fun hb H9 e9 => ?_)
            · have hab := of_decide_eq_true hb
              have ht9 : TieAt H9 pt t := e9 _ _ ht
              refine q_asg (v := .str (if here = t.a then t.b else t.a)) (ev_if (et_is (et_test (ev_op (ev_var rfl) (ev_var rfl) (rv_eq rfl))) (dec_str here t.a)) (fun hc => ev_is (ev_var rfl) (by rw [if_pos (of_decide_eq_true hc)]; rfl)) (fun hc => ev_is (ev_var rfl) (by rw [if_neg (of_decide_eq_false hc)]; rfl))) fun H10 e10 => ?_
              have e810 := e9.trans e10
              generalize hth : (if here = t.a then t.b else t.a) = th
              have hst : bstep Tie.a Tie.b here A8 t = if th ∈ met A8 then A8 else A8 ++ [(th, (wayTo A8 here).getD [] ++ [t])] := by
                unfold bstep
                rw [if_pos hab]
                dsimp only
                rw [hth]
              refine s_when (et_is (b := decide (th ∉ met A8)) (et_B (ev_dnotin (ev_var rfl) (ev_var rfl) (e810 _ _ hd8))) ?_) (fun hb2 H11 e11 => ?_) (fun hb2 H11 e11 => ?_)
              · rcases kvG_get (R := fun r q => RW H8 r q) hrs8 (z := th) with ⟨w1, w2⟩ | ⟨p, r, w1, w2, _⟩
                · rw [w2, decide_eq_true (wayTo_none.mp w1)]; rfl
                · have hn2 : ¬ th ∉ met A8 := fun hn => by rw [wayTo_none.mpr hn] at w1; cases w1
                  rw [w2, decide_eq_false hn2]; rfl
              · have hnm : th ∉ met A8 := of_decide_eq_true hb2
                rw [if_neg hnm] at hst
                have e811 := e810.trans e11
                rcases kvG_get (R := fun r q => RW H8 r q) hrs8 (z := here) with ⟨w1, _⟩ | ⟨p, r, w1, w2, w3⟩
                · exact absurd hh8 (wayTo_none.mp w1)
                · have w3' : H11 r = some (.tup ((p.map (·.n)).map V.str)) := e811 _ _ w3
                  refine q_dput (P := fun v H2 => ∃ q, v = .ref q ∧ H2 q = some (.tup ((p.map (·.n)).map V.str ++ [V.str t.n]))) (e811 _ _ hd8) (er_cat (EvR.of' (ev_dget (ev_var rfl) (ev_var rfl) (e811 _ _ hd8) w2) fun H2 e => ⟨r, rfl, e _ _ w3'⟩) (er_tup (ea_cons (ev_var rfl) ea_nil) (by show 1 ≤ 100000; decide)) ?_) (ev_var rfl) (ev_var rfl) ?_ fun v H12 H13 e12 hv e13 => ?_
                  · have hp1 : p.length ≤ 1000 := by
                      have hpw := (B8.way _ (wayTo_mem w1)).1
                      exact Nat.le_trans (nd_len p ts hpw.nd fun z hz => hpw.all z hz) tsl
                    simp only [List.length_map, List.length_cons, List.length_nil]
                    omega
                  · unfold kvG
                    rw [List.length_map, List.length_zip, Paired.length hrs8]
                    omega
                  · obtain ⟨qn, rfl, hqn⟩ := hv
                    have e813 := (e811.trans e12).trans e13
                    have hput : putK (kvG A8 rs8) (.inr th) (.ref qn) = kvG (A8 ++ [(th, (wayTo A8 here).getD [] ++ [t])]) (rs8 ++ [qn]) := by
                      rw [putK_fresh, kvG_app hrs8]
                      rw [kvG_keys hrs8]
                      intro hm2
                      obtain ⟨w, hw, ew⟩ := List.mem_map.mp hm2
                      exact hnm (by cases ew; exact hw)
                    have hqd : qn ≠ dl := fun z => by
                      have := e813 _ _ hd8
                      have h7 := e13 _ _ hqn
                      rw [z, this] at h7; cases h7
                    have hqf : qn ≠ fl := fun z => by
                      have := e813 _ _ hf8
                      have h7 := e13 _ _ hqn
                      rw [z, this] at h7; cases h7
                    rw [hput]
                    refine s_app (xs := (met A8).map V.str) (by rw [upd_ne (Ne.symm nfd)]; exact e813 _ _ hf8) (ev_var rfl) (ev_var rfl) (by rw [List.length_map]; unfold met; rw [List.length_map]; omega) fun H14 e14 => ?_
                    rw [hst]
                    refine ⟨rs8 ++ [qn], _, _, _, _, _, rfl, Ex.mut ((Ex.mut (e8.trans e813) hdl).trans e14) hfl2, ?_, ?_, ?_, hst ▸ B9, hst ▸ hh9⟩
                    · rw [upd_ne nfd]; exact e14 _ _ upd_same
                    · have T1 : Tups H8 (upd H14 fl (.lst ((met A8).map V.str ++ [V.str th]))) := fun c xs hc => by
                        have c1 : c ≠ dl := fun z => by rw [z, hd8] at hc; cases hc
                        have c2 : c ≠ fl := fun z => by rw [z, hf8] at hc; cases hc
                        rw [upd_ne c2]
                        exact e14 _ _ (by rw [upd_ne c1]; exact e813 _ _ hc)
                      refine Paired.snoc ?_ (RW.mono T1 hrs8)
                      show StrsT _ qn (((wayTo A8 here).getD [] ++ [t]).map (·.n))
                      unfold StrsT
                      rw [upd_ne hqf, e14 _ _ (by rw [upd_ne hqd]; exact e13 _ _ hqn), w1, Option.getD_some, List.map_append, List.map_append]
                      rfl
                    · rw [upd_same]
                      unfold met
                      rw [List.map_append, List.map_append]
                      rfl
              · have hnm : ¬ th ∉ met A8 := of_decide_eq_false hb2
                rw [if_pos (Classical.not_not.mp hnm)] at hst
                have e811 := e810.trans e11
                rw [hst]
                exact ⟨rs8, _, _, _, _, _, rfl, e8.trans e811, e811 _ _ hd8, RW.mono (Tups.ofEx e811) hrs8, e811 _ _ hf8, B8, hh8⟩
            · have hab := of_decide_eq_false hb
              have hst : bstep Tie.a Tie.b here A8 t = A8 := by unfold bstep; rw [if_neg hab]
              rw [hst]
              exact ⟨rs8, _, _, _, _, _, rfl, e8.trans e9, e9 _ _ hd8, RW.mono (Tups.ofEx e9) hrs8, e9 _ _ hf8, B8, hh8⟩
          · rintro σ2 H8 ⟨rs8, u10, u11, u12, u13, u14, rfl, e8, hd8, hrs8, hf8, B8, hh8⟩
            have e0 : ts.take (rs0.map V.ref).length = ts := List.take_of_length_le (by rw [ties_len htl2]; exact Nat.le_refl _)
            rw [e0] at hd8 hrs8 hf8
            refine s_aug rfl ev_c fun H9 e9 => ?_
            exact ⟨_, rs8, _, _, _, _, _, _, _, rfl, rfl, e8.trans e9, e9 _ _ hd8, RW.mono (Tups.ofEx e9) hrs8, e9 _ _ hf8⟩
      · intro hb H6 e6
        refine s_ret (ev_dget1 (ev_var rfl) (ev_var rfl) (e6 _ _ hd)) fun H7 e7 => ?_
        refine hQ _ H7 (e.trans ((eb.trans e6).trans e7)) ?_
        have hend : brun Tie.a Tie.b ts (some y) m k A = A := by
          cases m with
          | zero => rfl
          | succ m =>
            unfold brun
            cases hh : (met A)[k]? with
            | none => rfl
            | some here =>
              dsimp only
              rw [if_pos]
              have hkl : k < A.length := by
                have := (List.getElem?_eq_some_iff.mp hh).1
                omega
              rw [decide_eq_true hkl, Bool.true_and] at hb
              exact ⟨y, rfl, Classical.not_not.mp (of_decide_eq_false hb)⟩
        have hw : wayN N F x y = wayTo A y := by
          unfold wayN wayOf
          rw [if_pos rfl]
          show wayTo (brun Tie.a Tie.b ts (some y) (2 * ts.length + 1) 0 [(x, [])]) y = _
          rw [← hR, hend]
        rw [hw]
        rcases kvG_get (R := fun r q => RW H' r q) hrs (z := y) with ⟨w1, w2⟩ | ⟨p, r, w1, w2, w3⟩
        · rw [w1, w2]; rfl
        · rw [w1, w2]
          exact ⟨r, rfl, (e6.trans e7) _ _ w3⟩
end
end Ct
end

section
set_option Elab.async false
set_option linter.all false
set_option maxRecDepth 100000
set_option maxHeartbeats 4000000
namespace Ct
open PySem PySem.Spec PyProof.Rows L2 Evl
section
variable {P : Program} {w : World} {K : PySem.W.Frag} {mg : Str → Option Value} {base : Heap} {C_Groups C_Keeper C_Desk : Addr}
theorem el_sortedS {σ : L2.St} {H : Hp} {te : TE} {ws : List Str} (h : EvL te σ H (ws.map V.str)) (hl : ws.length < 64) : EvL (tCB (rSortedS K) (tCons te tNil)) σ H ((sortS ws).map V.str) := fun H1 e Q q =>
  h H1 e _ fun p H2 hp e2 h2 => ⟨p, ws, rfl, SqL.of h2, hl, fun ys p' pm hs hp' => by
    rw [sortS_eq pm (sortedS_pw ys hs)]
    exact q p' _ (fresh_back e2 hp') (e2.trans (Ex.new hp')) upd_same⟩
theorem eu_tuple {σ : L2.St} {H : Hp} {te : TE} {xs : List V} (h : EvL te σ H xs) : EvUR (tCB (rTupOf K) (tCons te tNil)) σ H (fun ys _ => ys = xs) := fun H1 e Q q =>
  ur_tuple (EvLR.of h) H1 e Q fun p ys H2 hp e2 h2 ⟨_, _, _, e3⟩ => q p ys H2 hp e2 h2 e3
theorem q_make {σ : L2.St} {H : Hp} {D : Ends} {tz : TS} {i : Nat} {C : Addr} {sp : Sp} {dvs vs : List V} {E : XK} {ta : TA} (h : EvA ta σ H vs) (k : ∀ H1, Ex H H1 → ∀ x dx, H1 x = none → H1 dx = none → dx ≠ x →
    sp (.ref x :: (vs ++ dvs)) (upd (upd H1 dx (.own x)) x (.ins C dx [])) (fun v H2 => v = .non ∧ tz D (σ.set i (some (.ref x))) H2) E) : tSeq (tAsg (tMake C sp dvs E ta) (gName i)) tz D σ H := h H (Ex.refl H) _ k
def sp_cheapest : Sp := fun vs H Q _ => ∃ a N, vs = [.ref a] ∧ NetAt H a N ∧ N.ps.Nodup ∧ (N.ts.map (·.n)).Nodup ∧ N.ps.length ≤ 60 ∧ N.ts.length ≤ 60 ∧ ∀ b H2, Ex H H2 → StrsT H2 b (cheap N) → Q (.ref b) H2
theorem kstep_len {τ ν : Type} [DecidableEq ν] {a b : τ → ν} : ∀ (L : List τ) (s : List (ν × ν) × List τ), (L.foldl (kstep a b) s).2.length ≤ s.2.length + L.length
  | [], s => by simp
  | t :: L, s => by
    rw [List.foldl_cons]
    refine Nat.le_trans (kstep_len L _) ?_
    have : (kstep a b s t).2.length ≤ s.2.length + 1 := by
      unfold kstep
      split
      · omega
      · simp
    rw [List.length_cons]; omega
theorem kstep_keys {τ ν : Type} [DecidableEq ν] {a b : τ → ν} : ∀ (L : List τ) (s : List (ν × ν) × List τ), (L.foldl (kstep a b) s).1.map (·.1) = s.1.map (·.1)
  | [], s => rfl
  | t :: L, s => by
    rw [List.foldl_cons, kstep_keys L]
    unfold kstep
    split
    · rfl
    · exact relabel_keys _ _ _
theorem sc_cheapest : FnScope ["net", "groups", "kept", "tie"] ["net"] (defScope s_cheapest) := ⟨rfl, rfl, rfl, by decide +kernel, rfl, by decide +kernel, by decide +kernel⟩
theorem ok_cheapest {f : Addr} {fd : FuncData} (F : FnP K "cheapest" "cheapest" s_cheapest f fd) (T : Txt w K mg C_Groups C_Keeper C_Desk)
  {f_price : Addr} {fd_price : FuncData} (G_price : Dk P w K mg base "price" 1 ["tie"] spPrice f_price fd_price)
  {f_opened : Addr} {fd_opened : FuncData} (G_opened : Dk P w K mg base "opened" 2 ["net"] sp_opened f_opened fd_opened)
  {f_Groups_joins : Addr} {fd_Groups_joins : FuncData} (G_Groups_joins : Dm P w K mg base C_Groups "joins" 1 ["self", "one", "other"] (sp_Groups_joins C_Groups) f_Groups_joins fd_Groups_joins)
  {f_Groups_init : Addr} {fd_Groups_init : FuncData} (M_Groups : Dc P w K mg base "Groups" C_Groups 1 ["self", "places"] (sp_Groups_init C_Groups) f_Groups_init fd_Groups_init) : FnOk P w K mg base CX0 5 f fd ["net"] sp_cheapest := by
  have sc := sc_cheapest

  refine F.ok sc (fun vs H Q E h => ?_) (fun cdv A outer s H vs Q E hr h => ?_)
  · obtain ⟨a, N, rfl, _⟩ := h; rfl
  · have hu := hu_of hr
    obtain ⟨a, N, rfl, hN, ndp, ndt, hpl, htl, hQ⟩ := h
    obtain ⟨p, q, h1, hp, ps, hq, hts⟩ := id hN
    refine ⟨_, PSs.nox (pss_cons (ps_set (i := 1) sc.nd rfl (Or.inl rfl) (pe_make M_Groups.mkc M_Groups.ok (hr.mono (by decide)) (by rfl) M_Groups.mgC M_Groups.b .nil pass0 (pa_cons (pe_ix (ix_tupK (K := K) rfl) (pv 0) pe_int (fun _ _ => rfl)) pa_nil)))
    (pss_cons (ps_set (i := 2) sc.nd rfl (Or.inl rfl) (pe_lst pa_nil))
    (pss_cons (ps_for PassesOwn.never rfl (pi_listK (K := K) rfl (pe_callBK (cr_sortedVK (by rfl) (k := 1) (hr.mono (by decide)) G_price.ok G_price.b) (by rfl) T.b_sorted (by decide +kernel) (pa_cons (pe_values (pe_call G_opened.ok (hr.mono (by decide)) (by rfl) G_opened.mgf G_opened.kp G_opened.b .nil pass0 (pa_cons (pv 0) pa_nil))) pa_nil) (pk_cons (pe_glob (v := .ref f_price) (by rfl) G_price.mgf rfl) pk_nil))) (pg_name (i := 3) sc.nd rfl (Or.inl rfl)) (pss_one (ps_if (pt_val (pe_meth (pv 1) T.c_Groups G_Groups_joins.m G_Groups_joins.ok (hr.mono (by decide)) G_Groups_joins.b .nil pass0 (pa_cons (pe_ix (ix_tupK (K := K) rfl) (pv 3) pe_int (fun _ _ => rfl)) (pa_cons (pe_ix (ix_tupK (K := K) rfl) (pv 3) pe_int (fun _ _ => rfl)) pa_nil)))) (pss_one (ps_expr (pe_bm PySem.F.plainAttrs_list PySem.F.slot_list_append PySem.F.type_list_append mt_append (pv 2) (pa_cons (pe_ix (ix_tupK (K := K) rfl) (pv 3) pe_int (fun _ _ => rfl)) pa_nil)))) pss_nil)))
    (pss_one (ps_ret (pe_callTy (call_tuple_ofK (K := K) rfl) (by rfl) T.b_tuple (by decide +kernel) (pa_cons (pe_callB (cr_sortedSK (K := K) rfl) (by rfl) T.b_sorted (by decide +kernel) (pa_cons (pv 2) pa_nil)) pa_nil))))))), ?_⟩
    refine q_make (ea_cons (ev_op (ev_var rfl) ev_c (rv_ixT (SqT.of h1) rfl)) ea_nil) fun H1 e1 g dx hg hdx ne => ?_
    have eU : Ex H1 (upd (upd H1 dx (.own g)) g (.ins C_Groups dx [])) := Ex.mut (Ex.new hdx) hg
    refine ⟨g, p, dx, N.ps, rfl, upd_same, eU _ _ (e1 _ _ hp), ndp, by omega, fun dl H2 hdl k2 hG => ⟨rfl, ?_⟩⟩
    have e2 : Ex H1 H2 := fun b o hb => k2 b o (ne_of_none hb hg) (eU b o hb)
    have hdl1 : H1 dl = none := fresh_back eU hdl
    have e12 := e1.trans e2
    refine q_asgL (el_lst ea_nil (by decide)) fun kl H3 hkl e3 h3 => ?_
    have hkl1 : H1 kl = none := fresh_back e2 hkl
    have hG3 : GroupsAt C_Groups H3 g dl (N.ps.map fun p => (p, p)) := by
      obtain ⟨dx', g1, g2⟩ := hG
      exact ⟨dx', e3 _ _ g1, e3 _ _ g2⟩
    have gkl : g ≠ kl := by
      obtain ⟨dx', g1, g2⟩ := hG
      exact fun z => by rw [z, hkl] at g1; cases g1
    have dlkl : dl ≠ kl := by
      obtain ⟨dx', g1, g2⟩ := hG
      exact fun z => by rw [z, hkl] at g2; cases g2
    have e13 : Ex H H3 := e12.trans e3
    let L := sortP N.op
    let S0 : List (Str × Str) × List Tie := (N.ps.map fun p => (p, p), [])
    have hsort : ∀ Hx, Ex H3 Hx → ∀ Q : VK, (∀ (ps' : List Addr) (l : Addr) (H2 : Hp), Hx l = none → Ex Hx H2 → H2 l = some (.lst (ps'.map V.ref)) → Paired (TieAt H2) ps' L → Q (.ref l) H2) →
        tCKw (rSortedVK K f_price) (tCons (tVals (tCall sp_opened [] E0 (tCons (tVar 0) tNil))) tNil) (tCons (tC (.ref f_price)) tNil) [some (.ref a), some (.ref g), some (.ref kl), none] Hx Q := by
      intro Hx ex Q' q'
      refine ⟨_, rfl, a, N, rfl, hN.mono (Tups.ofEx (e13.trans ex)), ndt, by omega, fun d H5 hd e5 ⟨ps5, hd5, hp5⟩ => ?_⟩
      refine ⟨d, _, rfl, .inl hd5, fun v hv => ?_⟩
      have e6 : Ex H5 (upd H5 v (.ext (viewOf v d))) := Ex.new hv
      have hmap : (kvT N.op ps5).map (·.2) = ps5.map V.ref := by
        have go : ∀ {ps : List Addr} {ts : List Tie}, Paired (TieAt H5) ps ts → (kvT ts ps).map (·.2) = ps.map V.ref := by
          intro ps ts hpt
          induction hpt with
          | nil => rfl
          | cons _ _ ih => rw [kvT_cons, List.map_cons, List.map_cons, ih]
        exact go hp5
      refine ⟨v, d, _, ps5, N.op, rfl, rfl, upd_same, .inl (e6 _ _ hd5), hmap, ties_mono (Tups.ofEx e6) hp5, ?_, fun ps' ts' l H7 e7 hl h7 pm pw hp7 => ?_⟩
      · exact Nat.le_trans (List.length_filter_le _ _) (by omega)
      · have nd2 : (N.op.map (·.n)).Nodup := List.Nodup.sublist (List.Sublist.map _ List.filter_sublist) ndt
        have el : ts' = L := sortP_eq nd2 pm pw
        rw [el] at hp7
        exact q' ps' l H7 (fresh_back (e5.trans e6) hl) ((e5.trans e6).trans e7) h7 hp7
    refine hsort H3 (Ex.refl H3) _ fun ps' l H4 hl e4 h4 hp4 => ?_
    have hlkl : l ≠ kl := fun z => by rw [z, h3] at hl; cases hl
    have hldl : l ≠ dl := by
      obtain ⟨dx', g1, g2⟩ := hG3
      exact fun z => by rw [z, g2] at hl; cases hl
    refine ⟨l, rfl, ⟨_, SqL.of h4⟩, for_list (K := K) (a := l) (xs := ps'.map V.ref) (fun i σ' H' => ∃ v, σ' = [some (.ref a), some (.ref g), some (.ref kl), v] ∧ Ex H H' ∧ H' l = some (.lst (ps'.map V.ref)) ∧ Paired (TieAt H') ps' L ∧
        GroupsAt C_Groups H' g dl ((L.take i).foldl (kstep Tie.a Tie.b) S0).1 ∧ H' kl = some (.lst (((L.take i).foldl (kstep Tie.a Tie.b) S0).2.map fun t => V.str t.n))) ?_ ?_ ?_ ?_⟩
    · obtain ⟨dx', g1, g2⟩ := hG3
      exact ⟨none, rfl, e13.trans e4, h4, hp4, ⟨dx', e4 _ _ g1, e4 _ _ g2⟩, e4 _ _ h3⟩
    · rintro i σ' H' _ ⟨v, _, _, hl', _⟩
      exact SqL.of hl'
    · rintro i z σ' H' hi ⟨v, rfl, ex, hl', hps', hG', hk'⟩
      have hi' : i < L.length := by
        have := (List.getElem?_eq_some_iff.mp hi).1
        rwa [ties_len hps'] at this
      obtain ⟨t, htt⟩ : ∃ t, L[i]? = some t := ⟨_, List.getElem?_eq_getElem hi'⟩
      obtain ⟨pt, rfl, ht⟩ := ties_get hps' hi htt
      have htop : t ∈ N.op := (sortP_perm N.op).mem_iff.mp (List.mem_of_getElem? htt)
      have hopen : openB N t = true := (List.mem_filter.mp htop).2
      obtain ⟨ha, hb⟩ := Bool.and_eq_true_iff.mp hopen
      have ek : (L.take (i + 1)).foldl (kstep Tie.a Tie.b) S0 = kstep Tie.a Tie.b ((L.take i).foldl (kstep Tie.a Tie.b) S0) t := by
        rw [List.take_add_one, htt, List.foldl_append]; rfl
      rw [ek]
      have hkeys : ((L.take i).foldl (kstep Tie.a Tie.b) S0).1.map (·.1) = N.ps := by
        rw [kstep_keys]
        show (N.ps.map fun p => (p, p)).map (·.1) = N.ps
        rw [List.map_map]; exact List.map_id'' (fun _ => rfl) _
      have hklen : ((L.take i).foldl (kstep Tie.a Tie.b) S0).2.length ≤ 60 := by
        have h1 := kstep_len (a := Tie.a) (b := Tie.b) (L.take i) S0
        have h2 : (L.take i).length ≤ L.length := List.length_take_le' _ _
        have h3 : L.length = N.op.length := (sortP_perm N.op).length_eq
        have h4 : N.op.length ≤ N.ts.length := List.length_filter_le _ _
        have h5 : S0.2.length = 0 := rfl
        omega
      generalize (L.take i).foldl (kstep Tie.a Tie.b) S0 = S at *
      obtain ⟨dx', g1, g2⟩ := id hG'
      have hll : S.1.length ≤ 1000 := by
        have : (S.1.map (·.1)).length = N.ps.length := by rw [hkeys]
        rw [List.length_map] at this; omega
      have nlook : ([("label", V.ref dl)] : List (Str × V)).lookup (Str.ofString "joins") = none := by
        rw [List.lookup_cons, show ((Str.ofString "joins") == (Str.ofString "label")) = false by decide +kernel]; rfl
      refine ⟨_, rfl, g, dx', _, rfl, g1, nlook, _, rfl, pt, _, _, _, rfl, rfl, SqT.of ht, rfl, _, rfl, pt, _, _, _, rfl, rfl, SqT.of ht, rfl, ?_⟩
      refine ⟨g, t.a, t.b, dl, S.1, rfl, hG', by rw [hkeys]; exact of_decide_eq_true ha, by rw [hkeys]; exact of_decide_eq_true hb, by rw [hkeys]; exact ndp, hll, fun heq H5 e5 => ⟨_, rfl, iteF ?_⟩, fun hne H5 k5 hd5 => ⟨_, rfl, iteT ?_⟩⟩
      · have hst : kstep Tie.a Tie.b S t = S := by unfold kstep; rw [if_pos heq]
        rw [hst]
        exact ⟨_, rfl, ex.trans e5, e5 _ _ hl', ties_mono (Tups.ofEx e5) hps', ⟨dx', e5 _ _ g1, e5 _ _ g2⟩, e5 _ _ hk'⟩
      · have hst : kstep Tie.a Tie.b S t = (relabel S.1 (look S.1 t.a) (look S.1 t.b), S.2 ++ [t]) := by unfold kstep; rw [if_neg hne]
        rw [hst]
        have tu : Tups H' H5 := fun c xs hc => k5 c _ (fun z => by rw [z, g2] at hc; cases hc) hc
        have gdl : g ≠ dl := fun z => by rw [z, g2] at g1; cases g1
        have ex5 : Ex H H5 := fun c o hc => k5 c o (ne_of_none hc (fresh_back e1 hdl1)) (ex c o hc)
        refine s_app (xs := S.2.map fun t => V.str t.n) (k5 kl _ (Ne.symm dlkl) hk') (ev_var rfl) (ev_tie rfl (ht.mono tu) rfl) (by rw [List.length_map]; omega) fun H6 e6 => ?_
        have hkl0 : H kl = none := fresh_back e1 hkl1
        have tu6 : Tups H' (upd H6 kl (.lst (S.2.map (fun t => V.str t.n) ++ [Sc.v (.s t.n)]))) := fun c xs hc => by
          rw [upd_ne (fun z => by rw [z, hk'] at hc; cases hc)]
          exact e6 _ _ (tu c xs hc)
        refine ⟨_, rfl, Ex.mut (ex5.trans e6) hkl0, ?_, ties_mono tu6 hps', ⟨dx', ?_, ?_⟩, ?_⟩
        · rw [upd_ne hlkl]; exact e6 _ _ (k5 l _ hldl hl')
        · rw [upd_ne gkl]; exact e6 _ _ (k5 g _ gdl g1)
        · rw [upd_ne dlkl]; exact e6 _ _ hd5
        · rw [upd_same, List.map_append]; rfl
    · rintro σ' H' ⟨v, rfl, ex, hl', hps', hG', hk'⟩
      have e0 : L.take (ps'.map V.ref).length = L := List.take_of_length_le (by rw [ties_len hps']; exact Nat.le_refl _)
      rw [e0] at hk'
      have hlen : (L.foldl (kstep Tie.a Tie.b) S0).2.length < 64 := by
        have h1 := kstep_len (a := Tie.a) (b := Tie.b) L S0
        have h3 : L.length = N.op.length := (sortP_perm N.op).length_eq
        have h4 : N.op.length ≤ N.ts.length := List.length_filter_le _ _
        have h5 : S0.2.length = 0 := rfl
        omega
      have hmm : ((L.foldl (kstep Tie.a Tie.b) S0).2.map fun t => V.str t.n) = ((L.foldl (kstep Tie.a Tie.b) S0).2.map (·.n)).map V.str := by rw [List.map_map]; rfl
      rw [hmm] at hk'
      have esort : EvL (tCB (rSortedS K) (tCons (tVar 2) tNil)) [some (.ref a), some (.ref g), some (.ref kl), v] H' ((sortS ((L.foldl (kstep Tie.a Tie.b) S0).2.map (·.n))).map V.str) := fun H1 e Q q =>
        ⟨_, rfl, kl, _, rfl, SqL.of (e _ _ hk'), by rw [List.length_map]; exact hlen, fun ys p' pm hs hp' => by
          rw [sortS_eq pm (sortedS_pw ys hs)]
          exact q p' _ hp' (Ex.new hp') upd_same⟩
      refine r_retU (eu_tuple esort) fun b ys H5 _ e5 h5 hy => hQ b H5 (ex.trans e5) ?_
      unfold StrsT
      rw [h5, hy]
      rfl
end
end Ct
end

section
set_option Elab.async false
set_option linter.all false
set_option maxRecDepth 100000
set_option maxHeartbeats 4000000
namespace Ct
open PySem PySem.Spec PyProof.Rows L2 Evl
section
variable {P : Program} {w : World} {K : PySem.W.Frag} {mg : Str → Option Value} {base : Heap} {C_Groups C_Keeper C_Desk : Addr}
theorem ev_opR {r : R2} {σ : L2.St} {H : Hp} {ta tb : TE} {x z : V} {P : V → Hp → Prop} (ha : Ev ta σ H x) (hb : EvR tb σ H P) (hr : ∀ v H1, Ex H H1 → P v H1 → RV r x v H1 z) : Ev (tOp r ta tb) σ H z := fun H1 e Q q =>
  ha H1 e _ fun H2 e2 => hb H2 (e.trans e2) _ fun v H3 e3 p => hr v H3 ((e.trans e2).trans e3) p H3 (Ex.refl H3) Q fun H4 e4 => q H4 ((e2.trans e3).trans e4)
def costW (z : Str) (t : Tie) : Int := if ltS z t.n then t.c else t.c - 1
def sp_cost_within : Sp := fun vs H Q _ => ∃ p t z, vs = [.str z, .ref p] ∧ TieAt H p t ∧ ∀ H2, Ex H H2 → Q (.int (costW z t)) H2
theorem sc_cost_within : FnScope ["name", "other"] ["name", "other"] (defScope s_cost_within) := ⟨rfl, rfl, rfl, by decide +kernel, rfl, by decide +kernel, by decide +kernel⟩
theorem ok_cost_within {f : Addr} {fd : FuncData} (F : FnP K "cost_within" "cost_within" s_cost_within f fd) (T : Txt w K mg C_Groups C_Keeper C_Desk)
   : FnOk P w K mg base CX0 1 f fd ["name", "other"] sp_cost_within := by
  have sc := sc_cost_within

  refine F.ok sc (fun vs H Q E h => ?_) (fun cdv A outer s H vs Q E hr h => ?_)
  · obtain ⟨p, t, z, rfl, _⟩ := h; rfl
  · have hu := hu_of hr
    obtain ⟨p, t, z, rfl, ht, hQ⟩ := h
    refine ⟨_, PSs.nox (pss_cons (ps_if (pt_cmpR op_lt_str (pv 0) (pe_ix (ix_tupK (K := K) rfl) (pv 1) pe_int (fun _ _ => rfl)) (nomark _)) (pss_one (ps_ret (pe_ix (ix_tupK (K := K) rfl) (pv 1) pe_int (fun _ _ => rfl)))) pss_nil)
    (pss_one (ps_ret (pe_op op_sub (pe_ix (ix_tupK (K := K) rfl) (pv 1) pe_int (fun _ _ => rfl)) pe_int)))), ?_⟩
    refine q_when (b := ltS z t.n) (et_test (ev_op (ev_var rfl) (ev_tie rfl ht rfl) (rv_val fun H1 e Q q => ⟨_, _, rfl, rfl, q⟩))) (fun hb H1 e1 => ?_) (fun hb H1 e1 => ?_)
    · refine s_ret (v := .int t.c) (ev_tie rfl (ht.mono (Tups.ofEx e1)) rfl) fun H2 e2 => ?_
      have := hQ H2 (e1.trans e2)
      unfold costW at this
      rwa [if_pos hb] at this
    · refine s_ret (v := .int (t.c - 1)) (ev_op (ev_tie rfl (ht.mono (Tups.ofEx e1)) rfl) ev_c rv_I0) fun H2 e2 => ?_
      have := hQ H2 (e1.trans e2)
      unfold costW at this
      rwa [hb, if_neg (by decide)] at this
theorem spv_cost_within {H : Hp} {p : Addr} {t : Tie} {z : Str} (ht : TieAt H p t) : SpV sp_cost_within [.str z, .ref p] H (.int (costW z t)) := fun H1 e Q q E => ⟨p, t, z, rfl, ht.mono (Tups.ofEx e), q⟩
theorem spr_way {H : Hp} {a f : Addr} {N : Net} {F : List Str} {x y : Str} (hN : NetAt H a N) (hf : StrsT H f F) (hl : N.ts.length ≤ 1000) : SpR sp_way [.ref a, .ref f, .str x, .str y] H (fun v H2 => WayV H2 v (wayN N F x y)) := fun Q q E =>
  ⟨a, f, N, F, x, y, rfl, hN, hf, hl, q⟩
/-- the open ties out of F whose way goes over z -/
def comB (N : Net) (F : List Str) (z : Str) (t : Tie) : Bool := decide (t.n ∉ F) && decide (z ∈ ((wayN N F t.a t.b).getD []).map (·.n))
def com (N : Net) (F : List Str) (z : Str) : List Tie := N.op.filter (comB N F z)
def sp_coming_in : Sp := fun vs H Q _ => ∃ a f z N F, vs = [.ref a, .ref f, .str z] ∧ NetAt H a N ∧ (N.ts.map (·.n)).Nodup ∧ N.ts.length ≤ 1000 ∧ StrsT H f F ∧ (∀ t ∈ N.op, t.n ∉ F → (wayN N F t.a t.b).isSome = true) ∧
  ∀ H2, Ex H H2 → (com N F z = [] → Q .non H2) ∧ ∀ p t, TieAt H2 p t → t ∈ com N F z → (∀ u ∈ com N F z, prLt u t = false) → Q (.ref p) H2
theorem kvT_get {ts : List Tie} {ps : List Addr} {i : Nat} {k : Key} {x : V} {t : Tie} (h : (kvT ts ps)[i]? = some (k, x)) (ht : ts[i]? = some t) : ∃ p, ps[i]? = some p ∧ x = .ref p := by
  unfold kvT at h
  rw [List.getElem?_map] at h
  cases e : (ts.zip ps)[i]? with
  | none => rw [e] at h; cases h
  | some q =>
    rw [e] at h
    obtain ⟨_, h2⟩ := List.getElem?_zip_eq_some.mp e
    exact ⟨q.2, h2, (Prod.ext_iff.mp (Option.some.inj h)).2.symm⟩
theorem kvT_len {H : Hp} {ts : List Tie} {ps : List Addr} (h : Paired (TieAt H) ps ts) : (kvT ts ps).length = ts.length := by
  unfold kvT
  rw [List.length_map, List.length_zip, Paired.length h, Nat.min_self]
theorem sc_coming_in : FnScope ["net", "tree", "name", "found", "tie"] ["net", "tree", "name"] (defScope s_coming_in) := ⟨rfl, rfl, rfl, by decide +kernel, rfl, by decide +kernel, by decide +kernel⟩
theorem ok_coming_in {f : Addr} {fd : FuncData} (F : FnP K "coming_in" "coming_in" s_coming_in f fd) (T : Txt w K mg C_Groups C_Keeper C_Desk)
  {f_opened : Addr} {fd_opened : FuncData} (G_opened : Dk P w K mg base "opened" 2 ["net"] sp_opened f_opened fd_opened)
  {f_way : Addr} {fd_way : FuncData} (G_way : Dk P w K mg base "way" 1 ["net", "forest", "one", "other"] sp_way f_way fd_way)
  {f_price : Addr} {fd_price : FuncData} (G_price : Dk P w K mg base "price" 1 ["tie"] spPrice f_price fd_price) : FnOk P w K mg base CX0 5 f fd ["net", "tree", "name"] sp_coming_in := by
  have sc := sc_coming_in

  refine F.ok sc (fun vs H Q E h => ?_) (fun cdv A outer s H vs Q E hr h => ?_)
  · obtain ⟨a, f, z, N, F, rfl, _⟩ := h; rfl
  · have hu := hu_of hr
    obtain ⟨a, f, z, N, F, rfl, hN, ndt, hl, hf, hW, hQ⟩ := h
    obtain ⟨p, q, h1, hp, ps, hq, hts⟩ := id hN
    refine ⟨_, PSs.nox (pss_cons (ps_set (i := 3) sc.nd rfl (Or.inl rfl) (pe_lst pa_nil))
    (pss_cons (ps_for PassesOwn.never rfl (pi_values (pe_freeze (pe_call G_opened.ok (hr.mono (by decide)) (by rfl) G_opened.mgf G_opened.kp G_opened.b .nil pass0 (pa_cons (pv 0) pa_nil)))) (pg_name (i := 4) sc.nd rfl (Or.inl rfl)) (pss_one (ps_if (PW.pt (pw_and (pt_cmpR (op_notIn_seqK (K := K) rfl) (pe_ix (ix_tupK (K := K) rfl) (pv 4) pe_int (fun _ _ => rfl)) (pv 1) rfl) (pw_and1 (pt_cmpR (op_in_seqK (K := K) rfl) (pv 2) (pe_call G_way.ok (hr.mono (by decide)) (by rfl) G_way.mgf G_way.kp G_way.b .nil pass0 (pa_cons (pv 0) (pa_cons (pv 1) (pa_cons (pe_ix (ix_tupK (K := K) rfl) (pv 4) pe_int (fun _ _ => rfl)) (pa_cons (pe_ix (ix_tupK (K := K) rfl) (pv 4) pe_int (fun _ _ => rfl)) pa_nil))))) rfl)))) (pss_one (ps_expr (pe_bm PySem.F.plainAttrs_list PySem.F.slot_list_append PySem.F.type_list_append mt_append (pv 3) (pa_cons (pv 4) pa_nil)))) pss_nil)))
    (pss_one (ps_ret (pe_callBK (cr_minK (by rfl) (k := 1) (hr.mono (by decide)) G_price.ok G_price.b) (by rfl) T.b_min (by decide +kernel) (pa_cons (pv 3) pa_nil) (pk_cons (pe_glob (v := .ref f_price) (by rfl) G_price.mgf rfl) (pk_cons pe_non pk_nil))))))), ?_⟩
    refine q_asgL (el_lst ea_nil (by decide)) fun fl H1 hfl e1 hf1 => ?_
    refine ⟨_, rfl, a, N, rfl, hN.mono (Tups.ofEx e1), ndt, hl, fun d H2 hd e2 ⟨ps2, hd2, hp2⟩ => ?_⟩
    refine ⟨d, _, rfl, hd2, fun o => ⟨d, o, _, rfl, upd_same, ?_⟩⟩
    have opl : N.op.length ≤ 1000 := Nat.le_trans (List.length_filter_le _ _) hl
    have e02 : Ex H (upd H2 d (.frz o (.dK (kvT N.op ps2)))) := Ex.mut (e1.trans e2) (fresh_back e1 hd)
    have fld : fl ≠ d := fun z => by rw [← z, hf1] at hd; cases hd
    refine for_it walk_values (fun i σ' H' => ∃ (v : Option V) (qs : List Addr), σ' = [some (.ref a), some (.ref f), some (.str z), some (.ref fl), v] ∧ Ex H H' ∧ H' d = some (.frz o (.dK (kvT N.op ps2))) ∧ Paired (TieAt H') ps2 N.op ∧
      H' fl = some (.lst (qs.map V.ref)) ∧ Paired (TieAt H') qs ((N.op.take i).filter (comB N F z))) ?_ ?_ ?_ ?_
    · refine ⟨none, [], rfl, e02, upd_same, ?_, ?_, .nil⟩
      · refine ties_mono (fun c xs hc => ?_) hp2
        rw [upd_ne (fun z => by rw [z, hd2] at hc; cases hc)]; exact hc
      · rw [upd_ne fld]; exact e2 _ _ hf1
    · rintro i σ' H' _ ⟨v, qs, _, _, hd', _⟩
      exact hd'
    · rintro i x σ' H' H1' hi ⟨v, qs, rfl, ex, hd', hp', hf', hqs⟩ ⟨rfl, k, hk⟩
      have hi' : i < N.op.length := by rwa [kvT_len hp2] at hi
      obtain ⟨t, htt⟩ : ∃ t, N.op[i]? = some t := ⟨_, List.getElem?_eq_getElem hi'⟩
      obtain ⟨pt, hpt, rfl⟩ := kvT_get hk htt
      obtain ⟨t', ht1, ht⟩ := Paired.get hp' hpt
      rw [htt] at ht1; cases ht1
      have hto : t ∈ N.op := List.mem_of_getElem? htt
      have ek : (N.op.take (i + 1)).filter (comB N F z) = (N.op.take i).filter (comB N F z) ++ (if comB N F z t then [t] else []) := by
        rw [List.take_add_one, htt, List.filter_append]
        show _ ++ [t].filter _ = _
        cases hb : comB N F z t with
        | true => rw [List.filter_cons, if_pos hb, if_pos rfl]; rfl
        | false => rw [List.filter_cons, if_neg (by rw [hb]; decide), if_neg (by decide)]; rfl
      rw [ek]
      refine s_when (b := comB N F z t) (et_and (et_is (et_test (ev_op (ev_tie rfl ht rfl) (ev_var rfl) (rv_niT (SqT.of (ex _ _ hf)) rfl (flat_strs _)))) ?_) (fun hb => et_test (ev_opR (ev_var rfl) (er_call0 (ea_cons (ev_var rfl) (ea_cons (ev_var rfl) (ea_cons (ev_tie rfl ht rfl) (ea_cons (ev_tie rfl ht rfl) ea_nil)))) (fun H2 e2 => spr_way (x := t.a) (y := t.b) (hN.mono (Tups.ofEx (ex.trans e2))) (StrsT.mono (Tups.ofEx (ex.trans e2)) hf) hl)) fun v H2 e2 hv => ?_))) (fun hb H2 e2 => ?_) (fun hb H2 e2 => ?_)
      · show (!inV (.str t.n) (F.map V.str)) = decide (t.n ∉ F)
        rw [inV_str]
        by_cases h : t.n ∈ F <;> simp [h]
      · have hb' : t.n ∉ F := of_decide_eq_true hb
        have hs := hW t hto hb'
        cases hw : wayN N F t.a t.b with
        | none => rw [hw] at hs; cases hs
        | some pw =>
          rw [hw] at hv
          obtain ⟨qw, rfl, hqw⟩ := hv
          have := rv_isT (K := K) (x := .str z) (SqT.of hqw) rfl (flat_strs _)
          rw [inV_str] at this
          exact this
      · rw [if_pos hb]
        have ql : qs.length ≤ 1000 := by
          rw [Paired.length hqs]
          exact Nat.le_trans (List.length_filter_le _ _) (Nat.le_trans (List.length_take_le' _ _) opl)
        refine s_app (e2 _ _ hf') (ev_var rfl) (ev_var rfl) (by rw [List.length_map]; omega) fun H3 e3 => ?_
        have tu : Tups H1' (upd H3 fl (.lst (qs.map V.ref ++ [.ref pt]))) := fun c xs hc => by
          rw [upd_ne (fun z => by rw [z, hf'] at hc; cases hc)]
          exact (e2.trans e3) _ _ hc
        refine ⟨_, qs ++ [pt], rfl, Ex.mut (ex.trans (e2.trans e3)) hfl, ?_, ties_mono tu hp', ?_, Paired.snoc (ht.mono tu) (ties_mono tu hqs)⟩
        · rw [upd_ne (Ne.symm fld)]; exact (e2.trans e3) _ _ hd'
        · rw [upd_same, List.map_append]; rfl
      · rw [if_neg (by rw [hb]; decide), List.append_nil]
        exact ⟨_, qs, rfl, ex.trans e2, e2 _ _ hd', ties_mono (Tups.ofEx e2) hp', e2 _ _ hf', ties_mono (Tups.ofEx e2) hqs⟩
    · rintro σ' H' ⟨v, qs, rfl, ex, hd', hp', hf', hqs⟩
      have e0 : N.op.take (kvT N.op ps2).length = N.op := List.take_of_length_le (by rw [kvT_len hp2]; exact Nat.le_refl _)
      rw [e0] at hqs
      refine ⟨_, rfl, fl, qs, com N F z, rfl, rfl, SqL.of hf', hqs, Nat.le_trans (List.length_filter_le _ _) opl, fun H2 e2 => ⟨(hQ H2 (ex.trans e2)).1, fun i p t hp ht hu => ?_⟩⟩
      obtain ⟨t', h1, h2⟩ := Paired.get (ties_mono (Tups.ofEx e2) hqs) hp
      have h1' : (com N F z)[i]? = some t' := h1
      rw [ht] at h1'; cases h1'
      exact (hQ H2 (ex.trans e2)).2 p t h2 (List.mem_of_getElem? ht) hu
theorem r_kwL {r : List V → List V → Hp → VK → Prop} {σ : L2.St} {H : Hp} {te : TE} {tk : TA} {D : Ends} {PL : List V → Hp → Prop} (h : EvLR te σ H PL) (k : ∀ p ys H2, H p = none → Ex H H2 → H2 p = some (.lst ys) → PL ys H2 → tk σ H2 fun zs H3 => r [.ref p] zs H3 D.rt) :
    tRet (tCKw r (tCons te tNil) tk) D σ H := h H (Ex.refl H) _ k
def sp_dearest_of : Sp := fun vs H Q _ => ∃ a q N pw, vs = [.ref a, .ref q] ∧ NetAt H a N ∧ StrsT H q (pw.map (·.n)) ∧ pw ≠ [] ∧ pw.length ≤ 1000 ∧ (∀ t ∈ pw, getT N.ts t.n = some t) ∧
  ∀ H2, Ex H H2 → ∀ p t, TieAt H2 p t → t ∈ pw → (∀ u ∈ pw, prLt t u = false) → Q (.ref p) H2
theorem spr_tie_of {H : Hp} {a : Addr} {N : Net} {z : Str} (hN : NetAt H a N) : SpR sp_tie_of [.ref a, .str z] H (fun v H2 => TieO H2 v (getT N.ts z)) := fun Q q E =>
  ⟨a, N, z, rfl, hN, fun r hr => q r H (Ex.refl H) hr⟩
theorem sc_dearest_of : FnScope ["net", "names", "name"] ["net", "names"] (defScope s_dearest_of) := ⟨rfl, rfl, rfl, by decide +kernel, rfl, by decide +kernel, by decide +kernel⟩
theorem ok_dearest_of {f : Addr} {fd : FuncData} (F : FnP K "dearest_of" "dearest_of" s_dearest_of f fd) (T : Txt w K mg C_Groups C_Keeper C_Desk)
  {f_price : Addr} {fd_price : FuncData} (G_price : Dk P w K mg base "price" 1 ["tie"] spPrice f_price fd_price)
  {f_tie_of : Addr} {fd_tie_of : FuncData} (G_tie_of : Dk P w K mg base "tie_of" 1 ["net", "name"] sp_tie_of f_tie_of fd_tie_of) : FnOk P w K mg base CX0 5 f fd ["net", "names"] sp_dearest_of := by
  have sc := sc_dearest_of

  refine F.ok sc (fun vs H Q E h => ?_) (fun cdv A outer s H vs Q E hr h => ?_)
  · obtain ⟨a, q, N, pw, rfl, _⟩ := h; rfl
  · have hu := hu_of hr
    obtain ⟨a, q, N, pw, rfl, hN, hq, hne, hl, hg, hQ⟩ := h
    refine ⟨_, PSs.nox (pss_one (ps_ret (pe_callBK (cr_maxK (by rfl) (k := 1) (hr.mono (by decide)) G_price.ok G_price.b) (by rfl) T.b_max (by decide +kernel) (pa_cons (pe_lc (own := [("name", 2)]) (by rfl) sc.nd (pi_tupK (K := K) rfl (pv 1)) (blkOk_by (N := ["net", "names", "name"]) (sc := defScope s_dearest_of) (own := [("name", 2)]) (by decide +kernel)) (fun _ _ _ _ _ => (pg_name (i := 2) sc.nd rfl (Or.inl rfl))) (fun _ _ _ _ _ => pts_nil) (fun _ _ _ _ _ => (pe_call G_tie_of.ok (hr.mono (by decide)) (by rfl) G_tie_of.mgf G_tie_of.kp G_tie_of.b .nil pass0 (pa_cons (pv 0) (pa_cons (pv 2) pa_nil))))) pa_nil) (pk_cons (pe_glob (v := .ref f_price) (by rfl) G_price.mgf rfl) pk_nil)))), ?_⟩
    refine r_kwL (lr_tup (RB := fun H v (t : Tie) => ∃ p, v = .ref p ∧ TieAt H p t) (ds := pw) (ev_var rfl) (SqT.of hq) (by rw [List.length_map, List.length_map]) (by omega) Stay.tie (fun _ => true) id (fun i x t hx hd => ⟨et_yes, fun _ => ?_⟩)) fun l ys H2 hl2 e2 h2 hy => ?_
    · have ez : x = .str t.n := by
        rw [List.map_map, List.getElem?_map, hd] at hx
        exact (Option.some.inj hx).symm
      subst ez
      refine EvR.imp (er_call0 (ea_cons (ev_var rfl) (ea_cons (ev_var rfl) ea_nil)) fun H2 e2 => spr_tie_of (z := t.n) (hN.mono (Tups.ofEx e2))) fun v H2 e2 hv => ?_
      rw [hg t (List.mem_of_getElem? hd)] at hv
      exact hv
    · have e0 : pw.filter (fun _ => true) = pw := List.filter_eq_self.mpr fun _ _ => rfl
      rw [e0, List.map_id] at hy
      obtain ⟨ps, rfl, hp⟩ := Paired.refs hy
      refine ⟨l, ps, pw, rfl, rfl, SqL.of h2, hp, List.length_pos_iff.mpr hne, hl, fun H3 e3 i p t h3 ht hu => ?_⟩
      obtain ⟨t', h4, h5⟩ := Paired.get (ties_mono (Tups.ofEx e3) hp) h3
      rw [ht] at h4; cases h4
      exact hQ H3 (e2.trans e3) p t h5 (List.mem_of_getElem? ht) hu
end
end Ct
end

section
set_option Elab.async false
set_option linter.all false
set_option maxRecDepth 100000
set_option maxHeartbeats 4000000
namespace Ct
open PySem PySem.Spec PyProof.Rows L2 Evl
section
variable {P : Program} {w : World} {K : PySem.W.Frag} {mg : Str → Option Value} {base : Heap} {C_Groups C_Keeper C_Desk : Addr}
theorem ev_isN {σ : L2.St} {H : Hp} {te : TE} {v : V} (h : Ev te σ H v) : Ev (tIsN te) σ H (.bl (decide (v = .non))) := fun H1 e Q q => h H1 e _ fun H2 e2 => q H2 e2
inductive Mar | waits | comes (o : Tie) | staysN | stays (o : Tie)
def Mar.row (z : Str) : Mar → List V
  | .waits => [.str "waits"]
  | .comes o => [.str "comes", .int (costW z o), .str o.n]
  | .staysN => [.str "stays", .non, .non]
  | .stays o => [.str "stays", .int (costW z o), .str o.n]
def MarOk (N : Net) (t : Tie) : Mar → Prop
  | .waits => openB N t = false
  | .comes o => openB N t = true ∧ t.n ∉ cheap N ∧ ∃ pw, wayN N (cheap N) t.a t.b = some pw ∧ o ∈ pw ∧ ∀ u ∈ pw, prLt o u = false
  | .staysN => openB N t = true ∧ t.n ∈ cheap N ∧ com N (cheap N) t.n = []
  | .stays o => openB N t = true ∧ t.n ∈ cheap N ∧ o ∈ com N (cheap N) t.n ∧ ∀ u ∈ com N (cheap N) t.n, prLt u o = false
/-- the net is one that can be kept -/
structure NetOk (N : Net) : Prop where
  ndp : N.ps.Nodup
  ndt : (N.ts.map (·.n)).Nodup
  pl : N.ps.length ≤ 60
  tl : N.ts.length ≤ 60
def WaysOk (N : Net) : Prop := ∀ t ∈ N.op, t.n ∉ cheap N → ∃ pw, pw ≠ [] ∧ pw.length ≤ 1000 ∧ (∀ u ∈ pw, getT N.ts u.n = some u) ∧ wayN N (cheap N) t.a t.b = some pw
def sp_margin : Sp := fun vs H Q _ => ∃ a N t, vs = [.ref a, .str t.n] ∧ NetAt H a N ∧ NetOk N ∧ getT N.ts t.n = some t ∧ WaysOk N ∧
  ∀ m b H2, Ex H H2 → MarOk N t m → H2 b = some (.tup (m.row t.n)) → Q (.ref b) H2
theorem spr_cheapest {H : Hp} {a : Addr} {N : Net} (hN : NetAt H a N) (ok : NetOk N) : SpR sp_cheapest [.ref a] H (fun v H2 => ∃ b, v = .ref b ∧ StrsT H2 b (cheap N)) := fun Q q E =>
  ⟨a, N, rfl, hN, ok.ndp, ok.ndt, ok.pl, ok.tl, fun b H2 e h => q _ H2 e ⟨b, rfl, h⟩⟩
theorem sc_margin : FnScope ["net", "name", "tie", "tree", "other"] ["net", "name"] (defScope s_margin) := ⟨rfl, rfl, rfl, by decide +kernel, rfl, by decide +kernel, by decide +kernel⟩
theorem ok_margin {f : Addr} {fd : FuncData} (F : FnP K "margin" "margin" s_margin f fd) (T : Txt w K mg C_Groups C_Keeper C_Desk)
  {f_tie_of : Addr} {fd_tie_of : FuncData} (G_tie_of : Dk P w K mg base "tie_of" 1 ["net", "name"] sp_tie_of f_tie_of fd_tie_of)
  {f_is_open : Addr} {fd_is_open : FuncData} (G_is_open : Dk P w K mg base "is_open" 1 ["net", "tie"] sp_is_open f_is_open fd_is_open)
  {f_cheapest : Addr} {fd_cheapest : FuncData} (G_cheapest : Dk P w K mg base "cheapest" 5 ["net"] sp_cheapest f_cheapest fd_cheapest)
  {f_dearest_of : Addr} {fd_dearest_of : FuncData} (G_dearest_of : Dk P w K mg base "dearest_of" 5 ["net", "names"] sp_dearest_of f_dearest_of fd_dearest_of)
  {f_way : Addr} {fd_way : FuncData} (G_way : Dk P w K mg base "way" 1 ["net", "forest", "one", "other"] sp_way f_way fd_way)
  {f_cost_within : Addr} {fd_cost_within : FuncData} (G_cost_within : Dk P w K mg base "cost_within" 1 ["name", "other"] sp_cost_within f_cost_within fd_cost_within)
  {f_coming_in : Addr} {fd_coming_in : FuncData} (G_coming_in : Dk P w K mg base "coming_in" 5 ["net", "tree", "name"] sp_coming_in f_coming_in fd_coming_in) : FnOk P w K mg base CX0 6 f fd ["net", "name"] sp_margin := by
  have sc := sc_margin

  refine F.ok sc (fun vs H Q E h => ?_) (fun cdv A outer s H vs Q E hr h => ?_)
  · obtain ⟨a, N, t, rfl, _⟩ := h; rfl
  · have hu := hu_of hr
    obtain ⟨a, N, t, rfl, hN, ok, hg, hW, hQ⟩ := h
    refine ⟨_, PSs.nox (pss_cons (ps_set (i := 2) sc.nd rfl (Or.inl rfl) (pe_call G_tie_of.ok (hr.mono (by decide)) (by rfl) G_tie_of.mgf G_tie_of.kp G_tie_of.b .nil pass0 (pa_cons (pv 0) (pa_cons (pv 1) pa_nil))))
    (pss_cons (ps_if (pt_cmp (pc_isN (pv 2))) (pss_one ps_never) pss_nil)
    (pss_cons (ps_if (pt_not (pt_val (pe_call G_is_open.ok (hr.mono (by decide)) (by rfl) G_is_open.mgf G_is_open.kp G_is_open.b .nil pass0 (pa_cons (pv 0) (pa_cons (pv 2) pa_nil))))) (pss_one (ps_ret (pe_tup (pa_cons pe_str pa_nil)))) pss_nil)
    (pss_cons (ps_set (i := 3) sc.nd rfl (Or.inl rfl) (pe_call G_cheapest.ok (hr.mono (by decide)) (by rfl) G_cheapest.mgf G_cheapest.kp G_cheapest.b .nil pass0 (pa_cons (pv 0) pa_nil)))
    (pss_cons (ps_if (pt_cmpR (op_notIn_seqK (K := K) rfl) (pv 1) (pv 3) rfl) (pss_cons (ps_set (i := 4) sc.nd rfl (Or.inl rfl) (pe_call G_dearest_of.ok (hr.mono (by decide)) (by rfl) G_dearest_of.mgf G_dearest_of.kp G_dearest_of.b .nil pass0 (pa_cons (pv 0) (pa_cons (pe_call G_way.ok (hr.mono (by decide)) (by rfl) G_way.mgf G_way.kp G_way.b .nil pass0 (pa_cons (pv 0) (pa_cons (pv 3) (pa_cons (pe_ix (ix_tupK (K := K) rfl) (pv 2) pe_int (fun _ _ => rfl)) (pa_cons (pe_ix (ix_tupK (K := K) rfl) (pv 2) pe_int (fun _ _ => rfl)) pa_nil))))) pa_nil))))
    (pss_one (ps_ret (pe_tup (pa_cons pe_str (pa_cons (pe_call G_cost_within.ok (hr.mono (by decide)) (by rfl) G_cost_within.mgf G_cost_within.kp G_cost_within.b .nil pass0 (pa_cons (pv 1) (pa_cons (pv 4) pa_nil))) (pa_cons (pe_ix (ix_tupK (K := K) rfl) (pv 4) pe_int (fun _ _ => rfl)) pa_nil))))))) pss_nil)
    (pss_cons (ps_set (i := 4) sc.nd rfl (Or.inl rfl) (pe_call G_coming_in.ok (hr.mono (by decide)) (by rfl) G_coming_in.mgf G_coming_in.kp G_coming_in.b .nil pass0 (pa_cons (pv 0) (pa_cons (pv 3) (pa_cons (pv 1) pa_nil)))))
    (pss_cons (ps_if (pt_cmp (pc_isN (pv 4))) (pss_one (ps_ret (pe_tup (pa_cons pe_str (pa_cons pe_non (pa_cons pe_non pa_nil)))))) pss_nil)
    (pss_one (ps_ret (pe_tup (pa_cons pe_str (pa_cons (pe_call G_cost_within.ok (hr.mono (by decide)) (by rfl) G_cost_within.mgf G_cost_within.kp G_cost_within.b .nil pass0 (pa_cons (pv 1) (pa_cons (pv 4) pa_nil))) (pa_cons (pe_ix (ix_tupK (K := K) rfl) (pv 4) pe_int (fun _ _ => rfl)) pa_nil))))))))))))), ?_⟩
    refine r_asg (er_call0 (ea_cons (ev_var rfl) (ea_cons (ev_var rfl) ea_nil)) fun H2 e2 => spr_tie_of (z := t.n) (hN.mono (Tups.ofEx e2))) fun v H1 e1 hv => ?_
    rw [hg] at hv
    obtain ⟨pt, rfl, ht⟩ := hv
    refine q_when (b := false) (et_is (et_test (ev_isN (ev_var rfl))) rfl) (fun hb => by cases hb) (fun _ H2 e2 => ?_)
    have e02 := e1.trans e2
    have ht2 : TieAt H2 pt t := ht.mono (Tups.ofEx e2)
    refine q_when (b := !openB N t) (et_not (et_B (ev_call (ea_cons (ev_var rfl) (ea_cons (ev_var rfl) ea_nil)) (spv_open (hN.mono (Tups.ofEx e02)) ht2)))) (fun hb H3 e3 => ?_) (fun hb H3 e3 => ?_)
    · refine s_retU (eu_tup (ea_cons ev_c ea_nil) (by show 1 ≤ 100000; decide)) fun b H4 _ e4 h4 => hQ .waits b H4 (e02.trans (e3.trans e4)) (by simpa [MarOk] using hb) h4
    have ho : openB N t = true := by simpa using hb
    have e03 := e02.trans e3
    have ht3 := ht2.mono (Tups.ofEx e3)
    refine r_asg (er_call0 (ea_cons (ev_var rfl) ea_nil) fun H4 e4 => spr_cheapest (hN.mono (Tups.ofEx (e03.trans e4))) ok) fun v H4 e4 ⟨f, ev, hf⟩ => ?_
    subst ev
    have e04 := e03.trans e4
    have ht4 := ht3.mono (Tups.ofEx e4)
    have hop : t ∈ N.op := List.mem_filter.mpr ⟨List.mem_of_find?_eq_some hg, ho⟩
    refine q_when (b := decide (t.n ∉ cheap N)) (et_is (et_test (ev_op (ev_var rfl) (ev_var rfl) (rv_niT (SqT.of hf) rfl (flat_strs _)))) ?_) (fun hb H5 e5 => ?_) (fun hb H5 e5 => ?_)
    · show (!inV (.str t.n) ((cheap N).map V.str)) = decide (t.n ∉ cheap N)
      rw [inV_str]
      by_cases h : t.n ∈ cheap N <;> simp [h]
    · have hn : t.n ∉ cheap N := of_decide_eq_true hb
      obtain ⟨pw, hne, hl, hgs, hw⟩ := hW t hop hn
      have ht5 := ht4.mono (Tups.ofEx e5)
      have e05 := e04.trans e5
      have hf5 : StrsT H5 f (cheap N) := e5 _ _ hf
      have tl1 : N.ts.length ≤ 1000 := by have := ok.tl; omega
      refine r_asg (P := fun v H2 => ∃ p o, v = .ref p ∧ TieAt H2 p o ∧ o ∈ pw ∧ ∀ u ∈ pw, prLt o u = false) (er_call (ar_cons (P := fun v _ => v = .ref a) (fun _ _ _ _ h => h) (er_var rfl) (ar_cons (P := fun v H2 => WayV H2 v (wayN N (cheap N) t.a t.b)) ?_ (er_call0 (ea_cons (ev_var rfl) (ea_cons (ev_var rfl) (ea_cons (ev_tie rfl ht5 rfl) (ea_cons (ev_tie rfl ht5 rfl) ea_nil)))) fun H6 e6 => spr_way (x := t.a) (y := t.b) (hN.mono (Tups.ofEx (e05.trans e6))) (StrsT.mono (Tups.ofEx e6) hf5) tl1) ar_nil)) ?_) fun v H6 e6 hv => ?_
      · intro v H H' e h
        rw [hw] at h ⊢
        obtain ⟨q, e1, h1⟩ := h
        exact ⟨q, e1, e _ _ h1⟩
      · rintro vs H6 e6 ⟨_, r, rfl, rfl, v, r2, rfl, hv, rfl⟩
        rw [hw] at hv
        obtain ⟨q, rfl, hq⟩ := hv
        intro Q' q' E'
        exact ⟨a, q, N, pw, rfl, hN.mono (Tups.ofEx (e05.trans e6)), hq, hne, hl, hgs, fun H7 e7 p o h1 h2 h3 => q' _ H7 e7 ⟨p, o, rfl, h1, h2, h3⟩⟩
      · obtain ⟨p, o, rfl, hp, ho1, ho2⟩ := hv
        refine s_retU (eu_tup (ea_cons ev_c (ea_cons (ev_call (ea_cons (ev_var rfl) (ea_cons (ev_var rfl) ea_nil)) (spv_cost_within hp)) (ea_cons (ev_tie rfl hp rfl) ea_nil))) (by show 3 ≤ 100000; decide)) fun b H7 _ e7 h7 => hQ (.comes o) b H7 (e05.trans (e6.trans e7)) ⟨ho, hn, pw, hw, ho1, ho2⟩ h7
    · have hn : t.n ∈ cheap N := Classical.not_not.mp (of_decide_eq_false hb)
      have e05 := e04.trans e5
      have hf5 : StrsT H5 f (cheap N) := e5 _ _ hf
      have tl1 : N.ts.length ≤ 1000 := by have := ok.tl; omega
      refine r_asg (P := fun v H2 => (v = .non ∧ com N (cheap N) t.n = []) ∨ ∃ p o, v = .ref p ∧ TieAt H2 p o ∧ o ∈ com N (cheap N) t.n ∧ ∀ u ∈ com N (cheap N) t.n, prLt u o = false) (er_call0 (ea_cons (ev_var rfl) (ea_cons (ev_var rfl) (ea_cons (ev_var rfl) ea_nil))) fun H6 e6 Q' q' E' => ?_) fun v H6 e6 hv => ?_
      · refine ⟨a, f, t.n, N, cheap N, rfl, hN.mono (Tups.ofEx (e05.trans e6)), ok.ndt, tl1, StrsT.mono (Tups.ofEx e6) hf5, fun u hu hun => ?_, fun H7 e7 => ⟨fun h => q' _ H7 e7 (.inl ⟨rfl, h⟩), fun p o h1 h2 h3 => q' _ H7 e7 (.inr ⟨p, o, rfl, h1, h2, h3⟩)⟩⟩
        obtain ⟨pw, _, _, _, hw⟩ := hW u hu hun
        rw [hw]; rfl
      · rcases hv with ⟨rfl, hc⟩ | ⟨p, o, rfl, hp, ho1, ho2⟩
        · refine q_when (b := true) (et_is (et_test (ev_isN (ev_var rfl))) rfl) (fun _ H7 e7 => ?_) (fun hb => by cases hb)
          refine s_retU (eu_tup (ea_cons ev_c (ea_cons ev_c (ea_cons ev_c ea_nil))) (by show 3 ≤ 100000; decide)) fun b H8 _ e8 h8 => hQ .staysN b H8 (e05.trans (e6.trans (e7.trans e8))) ⟨ho, hn, hc⟩ h8
        · refine q_when (b := false) (et_is (et_test (ev_isN (ev_var rfl))) rfl) (fun hb => by cases hb) (fun _ H7 e7 => ?_)
          have hp7 := hp.mono (Tups.ofEx e7)
          refine s_retU (eu_tup (ea_cons ev_c (ea_cons (ev_call (ea_cons (ev_var rfl) (ea_cons (ev_var rfl) ea_nil)) (spv_cost_within hp7)) (ea_cons (ev_tie rfl hp7 rfl) ea_nil))) (by show 3 ≤ 100000; decide)) fun b H8 _ e8 h8 => hQ (.stays o) b H8 (e05.trans (e6.trans (e7.trans e8))) ⟨ho, hn, ho1, ho2⟩ h8
end
end Ct
end

section
set_option Elab.async false
set_option linter.all false
set_option maxRecDepth 100000
set_option maxHeartbeats 4000000
namespace Ct
open PySem PySem.Spec PyProof.Rows L2 Evl
section
variable {P : Program} {w : World} {K : PySem.W.Frag} {mg : Str → Option Value} {base : Heap} {C_Groups C_Keeper C_Desk : Addr}
/-! ### rows of ties by name -/
def sortT (ts : List Tie) : List Tie := ts.mergeSort fun s t => !ltS t.n s.n
theorem sortT_perm (ts : List Tie) : (sortT ts).Perm ts := List.mergeSort_perm _ _
theorem sortT_pw (ts : List Tie) : (sortT ts).Pairwise fun s t => ltS t.n s.n = false := by
  refine (List.pairwise_mergeSort (le := fun s t : Tie => !ltS t.n s.n) (fun a b c h g => ?_) (fun a b => ?_) ts).imp fun h => not_bool h
  · have h' := not_bool h
    have g' := not_bool g
    cases e : ltS c.n a.n with
    | false => rfl
    | true =>
      rcases ltS_tri a.n b.n with z | z | z
      · rw [ltS_trans e z] at g'; cases g'
      · rw [z] at e; rw [e] at g'; cases g'
      · rw [z] at h'; cases h'
  · cases e : ltS b.n a.n with
    | false => rfl
    | true => rw [ltS_asy e]; rfl
theorem sortT_eq {xs ts : List Tie} (nd : (ts.map (·.n)).Nodup) (p : xs.Perm ts) (h : xs.Pairwise fun s t => ltS t.n s.n = false) : xs = sortT ts :=
  perm_unique (lt := fun s t : Tie => ltS s.n t.n) (p.trans (sortT_perm ts).symm) h (sortT_pw ts) fun a ha b hb h g => by
    rcases ltS_tri a.n b.n with z | z | z
    · rw [z] at h; cases h
    · exact nd_name nd (p.mem_iff.mp ha) (p.mem_iff.mp hb) z
    · rw [z] at g; cases g
theorem ltRow_row {s t : Tie} (h : s.n ≠ t.n) : ltRow s.row t.row = ltS s.n t.n := by
  unfold Tie.row ltRow
  rw [if_neg (fun z => h (Sc.s.inj z))]
  rfl
/-! ### deeds -/
inductive Deed | place (z : Str) | tie (n a b : Str) (c : Int) | cost (n : Str) (c : Int)
def Deed.wd : Deed → Str
  | .place _ => "place" | .tie _ _ _ _ => "tie" | .cost _ _ => "cost"
def Deed.n : Deed → Str
  | .place z => z | .tie n _ _ _ => n | .cost n _ => n
def Deed.more : Deed → List V
  | .place _ => [] | .tie _ a b c => [.str a, .str b, .int c] | .cost _ c => [.int c]
def Deed.v (d : Deed) : List V := .str d.wd :: .str d.n :: d.more
def Deed.Ok : Deed → Prop
  | .place z => WordOk z | .tie n a b _ => WordOk n ∧ WordOk a ∧ WordOk b ∧ a ≠ b | .cost n _ => WordOk n
theorem Deed.okn {d : Deed} (h : d.Ok) : WordOk d.n := by
  cases d with
  | place z => exact h
  | tie n a b c => exact h.1
  | cost n c => exact h
def Deed.Fits (N : Net) : Deed → Prop
  | .place z => z ∉ N.ps | .tie n _ _ _ => getT N.ts n = none | .cost n _ => ∃ t, getT N.ts n = some t
theorem ev_isi {σ : L2.St} {H : Hp} {te : TE} {x : V} {a b : String} {r : Bool} (h : Ev te σ H x) (ht : ∀ H1, Ex H H1 → TyX K H1 x (.type a)) (hk : kitB a b = some r) : Ev (tCB (rIsi K) (tCons te (tCons (tC (.ty b)) tNil))) σ H (.bl r) := fun H1 e Q q =>
  h H1 e _ fun H2 e2 => ⟨_, _, _, _, r, rfl, .ty b, ht H2 (e.trans e2), kit_ty hk, q H2 e2⟩
theorem ev_kget {σ : L2.St} {H : Hp} {d : Addr} {te : TE} {z : Str} {u : Value} {v : V} (h : Ev te σ H (.str z)) (hn : PySem.W.nsIn K d z = some (some u)) (hv : RelV v u) : Ev (tKGet K d te) σ H v := fun H1 e Q q =>
  h H1 e _ fun H2 e2 => ⟨z, _, rfl, hn, v, hv, q H2 e2⟩
theorem ev_lenT {σ : L2.St} {H : Hp} {ta : TE} {a : Addr} {xs : List V} (ha : Ev ta σ H (.ref a)) (h : SqT K H a xs) : Ev (tCB (rLenK K) (tCons ta tNil)) σ H (.int (xs.length : Int)) := fun H1 e Q q =>
  ha H1 e _ fun H2 e2 => ⟨a, xs, rfl, Or.inr (ex_t (e.trans e2) h), q H2 e2⟩
theorem ev_ixT {σ : L2.St} {H : Hp} {p : Addr} {xs : List V} {i : Int} {v : V} {te : TE} (h : Ev te σ H (.ref p)) (hp : H p = some (.tup xs)) (ha : atI xs i = some v) : Ev (tOp (rIxT K) te (tC (.int i))) σ H v := ev_op h ev_c (rv_ixT (SqT.of hp) ha)
theorem spv_word {H : Hp} {z : Str} (h : WordOk z) : SpV sp_is_word [.str z] H (.bl true) := fun H1 e Q q E => ⟨z, rfl, h, fun H2 e2 => q H2 e2⟩
theorem spv_whole {H : Hp} {i : Int} : SpV sp_is_whole [.int i] H (.bl true) := fun H1 e Q q E => ⟨i, rfl, q H1 (Ex.refl H1)⟩
def Deed.sz : Deed → Int
  | .place _ => 2 | .tie _ _ _ _ => 5 | .cost _ _ => 3
theorem Deed.sz_mem (d : Deed) : (d.wd, He.Dv.int d.sz) ∈ kv_SIZES := by
  cases d with
  | place z => exact List.mem_of_getElem? (i := 0) rfl
  | tie n a b c => exact List.mem_of_getElem? (i := 2) rfl
  | cost n c => exact List.mem_of_getElem? (i := 4) rfl
theorem Deed.sz_len (d : Deed) : (d.v.length : Int) = d.sz := by cases d <;> rfl
def sp_is_deed : Sp := fun vs H Q _ => ∃ a d, vs = [.ref a] ∧ H a = some (.tup (Deed.v d)) ∧ d.Ok ∧ ∀ H2, Ex H H2 → Q (.bl true) H2
theorem sc_is_deed : FnScope ["thing"] ["thing"] (defScope s_is_deed) := ⟨rfl, rfl, rfl, by decide +kernel, rfl, by decide +kernel, by decide +kernel⟩
theorem ok_is_deed {f : Addr} {fd : FuncData} (F : FnP K "is_deed" "is_deed" s_is_deed f fd) (T : Txt w K mg C_Groups C_Keeper C_Desk)
  {f_is_word : Addr} {fd_is_word : FuncData} (G_is_word : Dk P w K mg base "is_word" 1 ["thing"] sp_is_word f_is_word fd_is_word)
  {f_is_whole : Addr} {fd_is_whole : FuncData} (G_is_whole : Dk P w K mg base "is_whole" 1 ["thing"] sp_is_whole f_is_whole fd_is_whole) : FnOk P w K mg base CX0 2 f fd ["thing"] sp_is_deed := by
  have sc := sc_is_deed
  obtain ⟨dSIZES, esSIZES, nSIZES, hSIZES, kSIZES, vSIZES⟩ := T.k_SIZES
  refine F.ok sc (fun vs H Q E h => ?_) (fun cdv A outer s H vs Q E hr h => ?_)
  · obtain ⟨a, d, rfl, _⟩ := h; rfl
  · have hu := hu_of hr
    obtain ⟨a, d, rfl, ha, ok, hQ⟩ := h
    obtain ⟨u, hu1, hu2⟩ := He.valsB_ok vSIZES d.sz_mem
    refine ⟨_, PSs.nox (pss_cons (ps_if (PW.pt (pw_or (pt_not (pt_val (pe_callB call_isi (by rfl) T.b_isinstance (by decide +kernel) (pa_cons (pv 0) (pa_cons (pe_bltn (by rfl) T.b_tuple (by decide +kernel) (v := .ty "tuple") rfl) pa_nil))))) (pw_or (pt_cmpR op_eq (pe_callB (call_len_seqK (K := K) rfl) (by rfl) T.b_len (by decide +kernel) (pa_cons (pv 0) pa_nil)) pe_int (nomark _)) (pw_or1 (pt_not (pt_val (pe_callB call_isi (by rfl) T.b_isinstance (by decide +kernel) (pa_cons (pe_ix (ix_tupK (K := K) rfl) (pv 0) pe_int (fun _ _ => rfl)) (pa_cons (pe_bltn (by rfl) T.b_str (by decide +kernel) (v := .ty "str") rfl) pa_nil))))))))) (pss_one (ps_ret pe_bl)) pss_nil)
    (pss_cons (ps_if (PW.pt (pw_or (pt_cmpR op_ne (pe_kget kSIZES hSIZES (by rfl) (pe_ix (ix_tupK (K := K) rfl) (pv 0) pe_int (fun _ _ => rfl)) ⟨rfl, rfl, rfl, rfl⟩) (pe_callB (call_len_seqK (K := K) rfl) (by rfl) T.b_len (by decide +kernel) (pa_cons (pv 0) pa_nil)) (nomark _)) (pw_or1 (pt_not (pt_val (pe_call G_is_word.ok (hr.mono (by decide)) (by rfl) G_is_word.mgf G_is_word.kp G_is_word.b .nil pass0 (pa_cons (pe_ix (ix_tupK (K := K) rfl) (pv 0) pe_int (fun _ _ => rfl)) pa_nil))))))) (pss_one (ps_ret pe_bl)) pss_nil)
    (pss_cons (ps_if (pt_cmpR op_eq (pe_ix (ix_tupK (K := K) rfl) (pv 0) pe_int (fun _ _ => rfl)) pe_str (nomark _)) (pss_one (ps_ret (pe_and (pe_call G_is_word.ok (hr.mono (by decide)) (by rfl) G_is_word.mgf G_is_word.kp G_is_word.b .nil pass0 (pa_cons (pe_ix (ix_tupK (K := K) rfl) (pv 0) pe_int (fun _ _ => rfl)) pa_nil)) (pe_and (pe_call G_is_word.ok (hr.mono (by decide)) (by rfl) G_is_word.mgf G_is_word.kp G_is_word.b .nil pass0 (pa_cons (pe_ix (ix_tupK (K := K) rfl) (pv 0) pe_int (fun _ _ => rfl)) pa_nil)) (pe_and (pe_cmpR op_ne (pe_ix (ix_tupK (K := K) rfl) (pv 0) pe_int (fun _ _ => rfl)) (pe_ix (ix_tupK (K := K) rfl) (pv 0) pe_int (fun _ _ => rfl)) (nomark _)) (pe_one (pe_call G_is_whole.ok (hr.mono (by decide)) (by rfl) G_is_whole.mgf G_is_whole.kp G_is_whole.b .nil pass0 (pa_cons (pe_ix (ix_tupK (K := K) rfl) (pv 0) pe_int (fun _ _ => rfl)) pa_nil)))))))) pss_nil)
    (pss_one (ps_ret (pe_or (pe_cmpR op_ne (pe_ix (ix_tupK (K := K) rfl) (pv 0) pe_int (fun _ _ => rfl)) pe_str (nomark _)) (pe_one (pe_call G_is_whole.ok (hr.mono (by decide)) (by rfl) G_is_whole.mgf G_is_whole.kp G_is_whole.b .nil pass0 (pa_cons (pe_ix (ix_tupK (K := K) rfl) (pv 0) pe_int (fun _ _ => rfl)) pa_nil))))))))), ?_⟩
    have ty1 : ∀ H1, Ex H H1 → TyX K H1 (.ref a) (.type "tuple") := fun H1 e => .base (.tup (e _ _ ha))
    have w0 : ∀ {σ : L2.St} {H1 : Hp}, Ex H H1 → σ[0]? = some (some (.ref a)) → Ev (tOp (rIxT K) (tVar 0) (tC (.int 0))) σ H1 (.str d.wd) := fun e h => ev_ixT (ev_var h) (e _ _ ha) (atI_nat (j := 0) rfl)
    have w1 : ∀ {σ : L2.St} {H1 : Hp}, Ex H H1 → σ[0]? = some (some (.ref a)) → Ev (tOp (rIxT K) (tVar 0) (tC (.int 1))) σ H1 (.str d.n) := fun e h => ev_ixT (ev_var h) (e _ _ ha) (atI_nat (j := 1) rfl)
    refine q_when (b := false) (et_is (et_or (et_not (et_B (ev_isi (ev_var rfl) ty1 (r := true) (by decide +kernel)))) (fun _ => et_or (et_test (ev_op (ev_lenT (ev_var rfl) (SqT.of ha)) ev_c (rv_eq rfl))) (fun _ => et_not (et_B (ev_isi (w0 (Ex.refl H) rfl) (fun H1 e => .base (.str _)) (r := true) (by decide +kernel)))))) ?_) (fun hb => by cases hb) (fun _ H1 e1 => ?_)
    · rw [d.sz_len]; cases d <;> rfl
    refine q_when (b := false) (et_is (et_or (et_test (ev_op (ev_kget (w0 e1 rfl) hu1 hu2) (ev_lenT (ev_var rfl) (SqT.of (e1 _ _ ha))) (rv_ne rfl))) (fun _ => et_not (et_B (ev_call (ea_cons (w1 e1 rfl) ea_nil) (spv_word (Deed.okn ok)))))) ?_) (fun hb => by cases hb) (fun _ H2 e2 => ?_)
    · rw [d.sz_len]; cases d <;> simp [He.Dv.v]
    have e12 := e1.trans e2
    have ix : ∀ {σ : L2.St} {H1 : Hp} {j : Nat} {v : V}, Ex H H1 → σ[0]? = some (some (.ref a)) → d.v[j]? = some v → Ev (tOp (rIxT K) (tVar 0) (tC (.int (j : Int)))) σ H1 v := fun e h hj => ev_ixT (ev_var h) (e _ _ ha) (atI_nat hj)
    cases d with
    | place z =>
      refine q_when (b := false) (et_is (et_test (ev_op (w0 e12 rfl) ev_c (rv_eq rfl))) rfl) (fun hb => by cases hb) (fun _ H3 e3 => ?_)
      exact s_ret (v := .bl true) (ev_is (ev_orV (a := true) (b := true) (ev_is (ev_op (w0 (e12.trans e3) rfl) ev_c (rv_ne rfl)) rfl) (fun hb => by cases hb)) rfl) fun H4 e4 => hQ H4 ((e12.trans e3).trans e4)
    | tie n x y c =>
      refine q_when (b := true) (et_is (et_test (ev_op (w0 e12 rfl) ev_c (rv_eq rfl))) rfl) (fun _ H3 e3 => ?_) (fun hb => by cases hb)
      have e13 := e12.trans e3
      have i2 : Ev (tOp (rIxT K) (tVar 0) (tC (.int 2))) _ H3 (.str x) := ix (σ := L2.start [Str.ofString "thing"] [V.ref a]) (j := 2) e13 rfl rfl
      have i3 : Ev (tOp (rIxT K) (tVar 0) (tC (.int 3))) _ H3 (.str y) := ix (σ := L2.start [Str.ofString "thing"] [V.ref a]) (j := 3) e13 rfl rfl
      have i4 : Ev (tOp (rIxT K) (tVar 0) (tC (.int 4))) _ H3 (.int c) := ix (σ := L2.start [Str.ofString "thing"] [V.ref a]) (j := 4) e13 rfl rfl
      refine s_ret (v := .bl true) (ev_is (ev_andV (b := true) (ev_call (ea_cons i2 ea_nil) (spv_word ok.2.1)) fun _ => ev_andV (b := true) (ev_call (ea_cons i3 ea_nil) (spv_word ok.2.2.1)) fun _ => ev_andV (a := true) (b := true) (ev_is (ev_op i2 i3 (rv_ne rfl)) ?_) fun _ => ev_call (ea_cons i4 ea_nil) spv_whole) rfl) fun H4 e4 => hQ H4 (e13.trans e4)
      have hxy : ¬ (V.str x = V.str y) := fun z => ok.2.2.2 (by cases z; rfl)
      rw [decide_eq_false hxy]; rfl
    | cost n c =>
      refine q_when (b := false) (et_is (et_test (ev_op (w0 e12 rfl) ev_c (rv_eq rfl))) rfl) (fun hb => by cases hb) (fun _ H3 e3 => ?_)
      have e13 := e12.trans e3
      have i2 : Ev (tOp (rIxT K) (tVar 0) (tC (.int 2))) _ H3 (.int c) := ix (σ := L2.start [Str.ofString "thing"] [V.ref a]) (j := 2) e13 rfl rfl
      exact s_ret (v := .bl true) (ev_is (ev_orV (a := false) (b := true) (ev_is (ev_op (w0 e13 rfl) ev_c (rv_ne rfl)) rfl) (fun _ => ev_call (ea_cons i2 ea_nil) spv_whole)) rfl) fun H4 e4 => hQ H4 (e13.trans e4)
theorem spv_deed {H : Hp} {a : Addr} {d : Deed} (h : H a = some (.tup d.v)) (ok : d.Ok) : SpV sp_is_deed [.ref a] H (.bl true) := fun H1 e Q q E => ⟨a, d, rfl, e _ _ h, ok, q⟩
theorem sIx_at (n d k : Nat) : HT.sIx n d (some (k : Int)) = min k n := by
  show (if (k : Int) < 0 then ((k : Int) + (n : Int)).toNat else min (k : Int).toNat n) = min k n
  rw [if_neg (by omega), Int.toNat_natCast]
theorem er_slA {σ : L2.St} {H : Hp} {te : TE} {a : Addr} {xs : List V} {k : Nat} (h : Ev te σ H (.ref a)) (ha : H a = some (.tup xs)) : EvR (tSl (rSlA K) te tNoPart (tPart (tC (.int (k : Int))))) σ H (fun v H2 => ∃ p, v = .ref p ∧ H2 p = some (.tup (xs.take k))) := fun H1 e Q q =>
  h H1 e _ fun H2 e2 => ⟨(k : Int), rfl, a, xs, rfl, SqT.of ((e.trans e2) _ _ ha), fun ⟨_, z⟩ => q _ H2 e2 ⟨a, rfl, by
    rw [sIx_at] at z
    rw [List.take_of_length_le (by omega)]; exact (e.trans e2) _ _ ha⟩, fun _ p hp => q _ _ (e2.trans (Ex.new hp)) ⟨p, rfl, by
      rw [upd_same]
      unfold cutV
      rw [sIx_at]
      have e0 : HT.sIx xs.length 0 none = 0 := rfl
      rw [e0, List.drop_zero, Nat.sub_zero]
      congr 2
      by_cases g : k ≤ xs.length
      · rw [Nat.min_eq_left g]
      · rw [Nat.min_eq_right (by omega), List.take_of_length_le (Nat.le_refl _), List.take_of_length_le (by omega)]⟩⟩
theorem r_asg2 {σ : L2.St} {H : Hp} {te : TE} {D : Ends} {tz : TS} {i j : Nat} {x y : V} (h : EvR te σ H (fun v H2 => ∃ p, v = .ref p ∧ H2 p = some (.tup [x, y]))) (k : ∀ H1, Ex H H1 → tz D ((σ.set i (some x)).set j (some y)) H1) :
    tSeq (tAsg te (gTup K 2 (gCons (gName i) (gCons (gName j) gNil)))) tz D σ H := h H (Ex.refl H) _ fun v H1 e ⟨p, ev, hp⟩ => ⟨p, _, ev, SqT.of hp, rfl, _, _, rfl, _, _, rfl, rfl, k H1 e⟩
theorem ev_isNT {σ : L2.St} {H : Hp} {ta tb : TE} {a : Addr} {N : Net} {z : Str} (ha : Ev ta σ H (.ref a)) (hz : Ev tb σ H (.str z)) (hN : NetAt H a N) : Ev (tIsN (tCall sp_tie_of [] E0 (tCons ta (tCons tb tNil)))) σ H (.bl (getT N.ts z).isNone) := fun H1 e Q q =>
  er_call0 (ea_cons ha (ea_cons hz ea_nil)) (fun H2 e2 => spr_tie_of (hN.mono (Tups.ofEx e2))) H1 e _ fun v H2 e2 hv => by
    cases hg : getT N.ts z with
    | none => rw [hg] at hv; obtain rfl : v = .non := hv; rw [hg] at q; exact q H2 e2
    | some t => rw [hg] at hv; obtain ⟨p, rfl, _⟩ := hv; rw [hg] at q; exact q H2 e2
theorem ev_notNT {σ : L2.St} {H : Hp} {ta tb : TE} {a : Addr} {N : Net} {z : Str} (ha : Ev ta σ H (.ref a)) (hz : Ev tb σ H (.str z)) (hN : NetAt H a N) : Ev (tNotN (tCall sp_tie_of [] E0 (tCons ta (tCons tb tNil)))) σ H (.bl (getT N.ts z).isSome) := fun H1 e Q q =>
  er_call0 (ea_cons ha (ea_cons hz ea_nil)) (fun H2 e2 => spr_tie_of (hN.mono (Tups.ofEx e2))) H1 e _ fun v H2 e2 hv => by
    cases hg : getT N.ts z with
    | none => rw [hg] at hv; obtain rfl : v = .non := hv; rw [hg] at q; exact q H2 e2
    | some t => rw [hg] at hv; obtain ⟨p, rfl, _⟩ := hv; rw [hg] at q; exact q H2 e2
def sp_look_deed : Sp := fun vs H Q _ => ∃ a b N d, vs = [.ref a, .ref b] ∧ NetAt H a N ∧ H b = some (.tup (Deed.v d)) ∧ d.Ok ∧ d.Fits N ∧ ∀ H2, Ex H H2 → Q .non H2
theorem sc_look_deed : FnScope ["net", "deed", "word", "name"] ["net", "deed"] (defScope s_look_deed) := ⟨rfl, rfl, rfl, by decide +kernel, rfl, by decide +kernel, by decide +kernel⟩
theorem ok_look_deed {f : Addr} {fd : FuncData} (F : FnP K "look_deed" "look_deed" s_look_deed f fd) (T : Txt w K mg C_Groups C_Keeper C_Desk)
  {f_is_deed : Addr} {fd_is_deed : FuncData} (G_is_deed : Dk P w K mg base "is_deed" 2 ["thing"] sp_is_deed f_is_deed fd_is_deed)
  {f_tie_of : Addr} {fd_tie_of : FuncData} (G_tie_of : Dk P w K mg base "tie_of" 1 ["net", "name"] sp_tie_of f_tie_of fd_tie_of) : FnOk P w K mg base CX0 3 f fd ["net", "deed"] sp_look_deed := by
  have sc := sc_look_deed

  refine F.ok sc (fun vs H Q E h => ?_) (fun cdv A outer s H vs Q E hr h => ?_)
  · obtain ⟨a, b, N, d, rfl, _⟩ := h; rfl
  · have hu := hu_of hr
    obtain ⟨a, b, N, d, rfl, hN, hb, ok, fits, hQ⟩ := h
    obtain ⟨p, q, h1, hp, ps, hq, hts⟩ := id hN
    refine ⟨_, PSs.nox (pss_cons (ps_if (pt_not (pt_val (pe_call G_is_deed.ok (hr.mono (by decide)) (by rfl) G_is_deed.mgf G_is_deed.kp G_is_deed.b .nil pass0 (pa_cons (pv 1) pa_nil)))) (pss_one ps_never) pss_nil)
    (pss_cons (ps_asg (pe_slice (sl_tupAK (K := K) rfl) (pv 1) po_none (po_some pe_int)) (pg_tupK (K := K) (n := 2) rfl rfl (pgs_cons (pg_name (i := 2) sc.nd rfl (Or.inl rfl)) (pgs_cons (pg_name (i := 3) sc.nd rfl (Or.inl rfl)) pgs_nil))))
    (pss_cons (ps_if (PW.pt (pw_or (PW.pt (pw_and (pt_cmpR op_eq (pv 2) pe_str (nomark _)) (pw_and1 (pt_cmpR (op_in_seqK (K := K) rfl) (pv 3) (pe_ix (ix_tupK (K := K) rfl) (pv 0) pe_int (fun _ _ => rfl)) rfl)))) (pw_or1 (PW.pt (pw_and (pt_cmpR op_eq (pv 2) pe_str (nomark _)) (pw_and1 (pt_cmp (pc_notN (pe_call G_tie_of.ok (hr.mono (by decide)) (by rfl) G_tie_of.mgf G_tie_of.kp G_tie_of.b .nil pass0 (pa_cons (pv 0) (pa_cons (pv 3) pa_nil))))))))))) (pss_one ps_never) pss_nil)
    (pss_cons (ps_if (PW.pt (pw_and (pt_cmpR op_eq (pv 2) pe_str (nomark _)) (pw_and1 (pt_cmpR (op_notIn_seqK (K := K) rfl) (pv 3) (pe_ix (ix_tupK (K := K) rfl) (pv 0) pe_int (fun _ _ => rfl)) rfl)))) (pss_one ps_never) pss_nil)
    (pss_one (ps_if (PW.pt (pw_and (pt_cmpR (op_in_seqK (K := K) rfl) (pv 2) (pe_tup (pa_cons pe_str (pa_cons pe_str pa_nil))) rfl) (pw_and1 (pt_cmp (pc_isN (pe_call G_tie_of.ok (hr.mono (by decide)) (by rfl) G_tie_of.mgf G_tie_of.kp G_tie_of.b .nil pass0 (pa_cons (pv 0) (pa_cons (pv 3) pa_nil)))))))) (pss_one ps_never) pss_nil)))))), ?_⟩
    refine q_when (b := false) (et_is (et_not (et_B (ev_call (ea_cons (ev_var rfl) ea_nil) (spv_deed hb ok)))) rfl) (fun hb => by cases hb) (fun _ H1 e1 => ?_)
    refine r_asg2 (x := .str d.wd) (y := .str d.n) (er_slA (k := 2) (ev_var rfl) (e1 _ _ hb)) fun H2 e2 => ?_
    have e12 := e1.trans e2
    have hin : ∀ {σ : L2.St} {H1 : Hp}, Ex H H1 → σ[0]? = some (some (.ref a)) → Ev (tOp (rIxT K) (tVar 0) (tC (.int 0))) σ H1 (.ref p) := fun e h => ev_ixT (ev_var h) (e _ _ h1) rfl
    refine q_when (b := false) (et_is (et_or (et_and (et_test (ev_op (ev_var rfl) ev_c (rv_eq rfl))) (fun _ => et_test (ev_op (ev_var rfl) (hin e12 rfl) (rv_isT (SqT.of (e12 _ _ hp)) rfl (flat_strs _)))))
      (fun _ => et_and (et_test (ev_op (ev_var rfl) ev_c (rv_eq rfl))) (fun _ => et_B (ev_notNT (ev_var rfl) (ev_var rfl) (hN.mono (Tups.ofEx e12)))))) ?_) (fun hb => by cases hb) (fun _ H3 e3 => ?_)
    · rw [inV_str]
      cases d with
      | place z => simp [Deed.wd, Deed.n, (show z ∉ N.ps from fits)]; exact fun h => absurd h (by decide +kernel)
      | tie n x y c => simp [Deed.wd, Deed.n, (show getT N.ts n = none from fits)]; exact fun h => absurd h (by decide +kernel)
      | cost n c => simp [Deed.wd, Deed.n]; exact ⟨fun h => absurd h (by decide +kernel), fun h => absurd h (by decide +kernel)⟩
    have e13 := e12.trans e3
    refine q_when (b := false) (et_is (et_and (et_test (ev_op (ev_var rfl) ev_c (rv_eq rfl))) (fun _ => et_test (ev_op (ev_var rfl) (hin e13 rfl) (rv_niT (SqT.of (e13 _ _ hp)) rfl (flat_strs _))))) ?_) (fun hb => by cases hb) (fun _ H4 e4 => ?_)
    · have : decide (V.str d.wd = V.str (Str.ofString "leave")) = false := by cases d <;> rfl
      rw [this]; rfl
    have e14 := e13.trans e4
    refine s_when (b := false) (et_is (et_and (et_test (ev_inU (ev_var rfl) (eu_tup (ea_cons ev_c (ea_cons ev_c ea_nil)) (by show 2 ≤ 100000; decide)) rfl rfl)) (fun _ => et_B (ev_isNT (ev_var rfl) (ev_var rfl) (hN.mono (Tups.ofEx e14))))) ?_) (fun hb => by cases hb) (fun _ H5 e5 => hQ H5 (e14.trans e5))
    have hw : inV (V.str d.wd) [V.str "untie", V.str "cost"] = decide (d.wd = "untie" ∨ d.wd = "cost") := inV_two _ _ _
    rw [hw]
    cases d with
    | place z => simp only [Deed.wd]; rfl
    | tie n x y c => simp only [Deed.wd]; rfl
    | cost n c =>
      obtain ⟨t, ht⟩ := fits
      simp [Deed.n, ht]
theorem el_listT {σ : L2.St} {H : Hp} {te : TE} {a : Addr} {xs : List V} (h : Ev te σ H (.ref a)) (ha : H a = some (.tup xs)) : EvL (tCB (rListK K) (tCons te tNil)) σ H xs := fun H1 e Q q =>
  h H1 e _ fun H2 e2 => ⟨a, xs, rfl, .inr (SqT.of ((e.trans e2) _ _ ha)), fun l hl => q l _ (fresh_back e2 hl) (e2.trans (Ex.new hl)) upd_same⟩
theorem el_cat {σ : L2.St} {H : Hp} {ta tb : TE} {xs ys : List V} (ha : EvL ta σ H xs) (hb : EvL tb σ H ys) (hl : xs.length + ys.length ≤ 100000) : EvL (tOp rCat ta tb) σ H (xs ++ ys) := fun H1 e Q q =>
  ha H1 e _ fun p H2 hp e2 h2 => hb H2 (e.trans e2) _ fun p' H3 hp' e3 h3 => ⟨p, p', xs, ys, rfl, rfl, e3 _ _ h2, h3, sz_of hl, fun r hr => q r _ (fresh_back (e2.trans e3) hr) ((e2.trans e3).trans (Ex.new hr)) upd_same⟩
def sp_with_tie : Sp := fun vs H Q _ => ∃ a p ts t, vs = [.ref a, .ref p] ∧ TiesT H a ts ∧ TieAt H p t ∧ ((ts ++ [t]).map (·.n)).Nodup ∧ ts.length ≤ 100 ∧ ∀ b H2, Ex H H2 → TiesT H2 b (sortT (ts ++ [t])) → Q (.ref b) H2
theorem TieAt.uniq {H : Hp} {p : Addr} {t u : Tie} (h : TieAt H p t) (g : TieAt H p u) : t = u := by
  have e : t.row.map Sc.v = u.row.map Sc.v := by
    have e0 : some (HO.tup (t.row.map Sc.v)) = some (HO.tup (u.row.map Sc.v)) := h.symm.trans g
    injection e0 with e0; injection e0
  obtain ⟨tn, ta, tb, tc⟩ := t
  obtain ⟨un, ua, ub, uc⟩ := u
  simp only [Tie.row, List.map_cons, List.map_nil, Sc.v, List.cons.injEq, V.str.injEq, V.int.injEq, and_true] at e
  obtain ⟨rfl, rfl, rfl, rfl⟩ := e
  rfl
theorem ties_fn {H : Hp} {ps : List Addr} {ts : List Tie} (h : Paired (TieAt H) ps ts) : ∃ τ : Addr → Tie, ts = ps.map τ ∧ ∀ p ∈ ps, TieAt H p (τ p) := by
  classical
  let τ : Addr → Tie := fun p => if g : ∃ t, TieAt H p t then Classical.choose g else ⟨"", "", "", 0⟩
  have hτ : ∀ {p t}, TieAt H p t → τ p = t := fun {p t} g => by
    have g' : ∃ t, TieAt H p t := ⟨t, g⟩
    show (if g : ∃ t, TieAt H p t then Classical.choose g else _) = t
    rw [dif_pos g']
    exact (Classical.choose_spec g').uniq g
  refine ⟨τ, ?_, ?_⟩
  · induction h with
    | nil => rfl
    | cons a _ ih => rw [List.map_cons, hτ a, ← ih]
  · intro p hp
    obtain ⟨i, hi⟩ := List.mem_iff_getElem?.mp hp
    obtain ⟨t, _, ht⟩ := Paired.get h hi
    rw [hτ ht]; exact ht
theorem ties_map {H : Hp} {τ : Addr → Tie} : ∀ {ps : List Addr}, (∀ p ∈ ps, TieAt H p (τ p)) → Paired (TieAt H) ps (ps.map τ)
  | [], _ => .nil
  | _ :: _, h => .cons (h _ (by simp)) (ties_map fun q hq => h q (List.mem_cons_of_mem _ hq))
theorem sc_with_tie : FnScope ["ties", "tie"] ["ties", "tie"] (defScope s_with_tie) := ⟨rfl, rfl, rfl, by decide +kernel, rfl, by decide +kernel, by decide +kernel⟩
theorem ok_with_tie {f : Addr} {fd : FuncData} (F : FnP K "with_tie" "with_tie" s_with_tie f fd) (T : Txt w K mg C_Groups C_Keeper C_Desk)
   : FnOk P w K mg base CX0 1 f fd ["ties", "tie"] sp_with_tie := by
  have sc := sc_with_tie

  refine F.ok sc (fun vs H Q E h => ?_) (fun cdv A outer s H vs Q E hr h => ?_)
  · obtain ⟨a, p, ts, t, rfl, _⟩ := h; rfl
  · have hu := hu_of hr
    obtain ⟨a, p, ts, t, rfl, ⟨ps, ha, hps⟩, ht, nd, hl, hQ⟩ := h
    refine ⟨_, PSs.nox (pss_one (ps_ret (pe_callTy (call_tuple_ofK (K := K) rfl) (by rfl) T.b_tuple (by decide +kernel) (pa_cons (pe_callB (cr_sortedD (by rfl) hr.units) (by rfl) T.b_sorted (by decide +kernel) (pa_cons (pe_op op_cat (pe_callTy (call_list_ofK (K := K) rfl) (by rfl) T.b_list (by decide +kernel) (pa_cons (pv 0) pa_nil)) (pe_lst (pa_cons (pv 1) pa_nil))) pa_nil)) pa_nil)))), ?_⟩
    have pl : (ps.map V.ref).length = ts.length := ties_len hps
    refine r_retU (PL := fun ys H2 => ∃ ps', ys = ps'.map V.ref ∧ Paired (TieAt H2) ps' (sortT (ts ++ [t]))) (ur_up ?_ (ur_tuple (fun H1 e Q q => ?_))) fun b ys H2 _ e h2 ⟨ps', e1, h3⟩ => hQ b H2 e ⟨ps', by rw [h2, e1], h3⟩
    · intro ys H H' e ⟨ps', e1, h3⟩
      exact ⟨ps', e1, ties_mono (Tups.ofEx e) h3⟩
    · refine el_cat (el_listT (ev_var rfl) ha) (el_lst (ea_cons (ev_var rfl) ea_nil) (by show 1 ≤ 100000; decide)) (by rw [pl]; show _ + 1 ≤ _; omega) H1 e _ fun l H2 hl e2 h2 => ?_
      have e12 := e.trans e2
      have hp2 : Paired (TieAt H2) (ps ++ [p]) (ts ++ [t]) := Paired.snoc (ht.mono (Tups.ofEx e12)) (ties_mono (Tups.ofEx e12) hps)
      obtain ⟨τ, eτ, hτ⟩ := ties_fn hp2
      refine ⟨l, ps ++ [p], fun p => (τ p).row, rfl, ?_, fun p hp => SqT.of (hτ p hp), ?_, fun _ _ => List.cons_ne_nil _ _, fun _ _ _ _ => rfl, fun ps' l2 pm pw hl2 => ?_⟩
      · rw [List.map_append]; exact SqL.of h2
      · rw [List.length_map] at pl
        rw [List.length_append, pl]; show _ + 1 ≤ _; omega
      · have pm' : (ps'.map τ).Perm (ts ++ [t]) := by rw [eτ]; exact pm.map τ
        have pw' : (ps'.map τ).Pairwise fun s u => ltS u.n s.n = false := by
          have nd' : ((ps'.map τ).map (·.n)).Nodup := (pm'.map _).nodup_iff.mpr nd
          rw [List.map_map] at nd'
          have nd2 : ps'.Pairwise fun p q => (τ p).n ≠ (τ q).n := List.pairwise_map.mp nd'
          rw [List.pairwise_map]
          refine (List.Pairwise.and pw nd2).imp fun ⟨x1, x2⟩ => ?_
          rwa [ltRow_row (Ne.symm x2)] at x1
        have el := sortT_eq nd pm' pw'
        refine q l2 _ _ (fresh_back e2 hl2) (e2.trans (Ex.new hl2)) upd_same ⟨ps', rfl, ?_⟩
        rw [← el]
        exact ties_map fun p hp => (hτ p (pm.mem_iff.mp hp)).mono (Tups.ofEx (Ex.new hl2))
def sp_without_tie : Sp := fun vs H Q _ => ∃ a ts z, vs = [.ref a, .str z] ∧ TiesT H a ts ∧ ts.length ≤ 100 ∧ ∀ b H2, Ex H H2 → TiesT H2 b (ts.filter fun t => decide (t.n ≠ z)) → Q (.ref b) H2
theorem up_ties {ts : List Tie} : Up (fun (ys : List V) H2 => Paired (fun (v : V) (t : Tie) => ∃ p, v = .ref p ∧ TieAt H2 p t) ys ts) := fun ys H H' e h => Paired.mono (RB := fun H v (t : Tie) => ∃ p, v = .ref p ∧ TieAt H p t) (fun v b ⟨p, e1, h1⟩ => ⟨p, e1, e _ _ h1⟩) h
theorem sc_without_tie : FnScope ["ties", "name", "tie"] ["ties", "name"] (defScope s_without_tie) := ⟨rfl, rfl, rfl, by decide +kernel, rfl, by decide +kernel, by decide +kernel⟩
theorem ok_without_tie {f : Addr} {fd : FuncData} (F : FnP K "without_tie" "without_tie" s_without_tie f fd) (T : Txt w K mg C_Groups C_Keeper C_Desk)
   : FnOk P w K mg base CX0 1 f fd ["ties", "name"] sp_without_tie := by
  have sc := sc_without_tie

  refine F.ok sc (fun vs H Q E h => ?_) (fun cdv A outer s H vs Q E hr h => ?_)
  · obtain ⟨a, ts, z, rfl, _⟩ := h; rfl
  · have hu := hu_of hr
    obtain ⟨a, ts, z, rfl, ⟨ps, ha, hps⟩, hl, hQ⟩ := h
    refine ⟨_, PSs.nox (pss_one (ps_ret (pe_callTy (call_tuple_ofK (K := K) rfl) (by rfl) T.b_tuple (by decide +kernel) (pa_cons (pe_lc (own := [("tie", 2)]) (by rfl) sc.nd (pi_tupK (K := K) rfl (pv 0)) (blkOk_by (N := ["ties", "name", "tie"]) (sc := defScope s_without_tie) (own := [("tie", 2)]) (by decide +kernel)) (fun _ _ _ _ _ => (pg_name (i := 2) sc.nd rfl (Or.inl rfl))) (fun _ _ _ _ _ => (pts_one (pt_cmpR op_ne (pe_ix (ix_tupK (K := K) rfl) (pv 2) pe_int (fun _ _ => rfl)) (pv 1) (nomark _)))) (fun _ _ _ _ _ => (pv 2))) pa_nil)))), ?_⟩
    refine r_retU (ur_up up_ties (ur_tuple (lr_tup (RB := fun H v (t : Tie) => ∃ p, v = .ref p ∧ TieAt H p t) (ds := ts) (ev_var rfl) (SqT.of ha) (ties_len hps) (by omega) Stay.tie (fun t => decide (t.n ≠ z)) id (fun i x d hx hd => ?_)))) fun b ys H2 _ e h2 hy => ?_
    · obtain ⟨pt, rfl, ht⟩ := ties_get hps hx hd
      refine ⟨et_is (et_test (ev_op (ev_tie rfl ht rfl) (ev_var rfl) (rv_ne rfl))) ?_, fun _ => EvR.of' (ev_var rfl) fun H2 e => ⟨pt, rfl, e _ _ ht⟩⟩
      have e1 : decide ((Sc.s d.n).v = V.str z) = decide (d.n = z) := dec_str _ _
      rw [e1]
      by_cases h : d.n = z <;> simp [h]
    · rw [List.map_id] at hy
      obtain ⟨ps', rfl, hp⟩ := Paired.refs hy
      exact hQ b H2 e ⟨ps', h2, hp⟩
def sp_without : Sp := fun vs H Q _ => ∃ a b ws zs, vs = [.ref a, .ref b] ∧ StrsT H a ws ∧ StrsT H b zs ∧ ws.length ≤ 100 ∧ ∀ r H2, Ex H H2 → StrsT H2 r (ws.filter fun z => decide (z ∉ zs)) → Q (.ref r) H2
theorem sc_without : FnScope ["names", "others", "name"] ["names", "others"] (defScope s_without) := ⟨rfl, rfl, rfl, by decide +kernel, rfl, by decide +kernel, by decide +kernel⟩
theorem ok_without {f : Addr} {fd : FuncData} (F : FnP K "without" "without" s_without f fd) (T : Txt w K mg C_Groups C_Keeper C_Desk)
   : FnOk P w K mg base CX0 1 f fd ["names", "others"] sp_without := by
  have sc := sc_without

  refine F.ok sc (fun vs H Q E h => ?_) (fun cdv A outer s H vs Q E hr h => ?_)
  · obtain ⟨a, b, ws, zs, rfl, _⟩ := h; rfl
  · have hu := hu_of hr
    obtain ⟨a, b, ws, zs, rfl, ha, hb, hl, hQ⟩ := h
    refine ⟨_, PSs.nox (pss_one (ps_ret (pe_callTy (call_tuple_ofK (K := K) rfl) (by rfl) T.b_tuple (by decide +kernel) (pa_cons (pe_lc (own := [("name", 2)]) (by rfl) sc.nd (pi_tupK (K := K) rfl (pv 0)) (blkOk_by (N := ["names", "others", "name"]) (sc := defScope s_without) (own := [("name", 2)]) (by decide +kernel)) (fun _ _ _ _ _ => (pg_name (i := 2) sc.nd rfl (Or.inl rfl))) (fun _ _ _ _ _ => (pts_one (pt_cmpR (op_notIn_seqK (K := K) rfl) (pv 2) (pv 1) rfl))) (fun _ _ _ _ _ => (pv 2))) pa_nil)))), ?_⟩
    refine r_retU (ur_tuple ((lr_tup (RB := fun _ v (z : Str) => v = .str z) (ds := ws) (ev_var rfl) (SqT.of ha) (by rw [List.length_map]) (by omega) Stay.val (fun z => decide (z ∉ zs)) id (fun i x d hx hd => ?_)).imp fun ys H2 _ hy => Paired.vals hy))
      (fun r ys H2 _ e h2 ⟨H3, _, _, e3⟩ => hQ r H2 e (by unfold StrsT; rw [h2, e3, List.map_id]))
    have ex : x = .str d := by
      rw [List.getElem?_map, hd] at hx
      exact (Option.some.inj hx).symm
    subst ex
    refine ⟨et_is (et_test (ev_op (ev_var rfl) (ev_var rfl) (rv_niT (SqT.of hb) rfl (flat_strs _)))) ?_, fun _ => EvR.of (ev_var rfl)⟩
    rw [inV_str]
    by_cases h : d ∈ zs <;> simp [h]
/-- (tree less gone) with come, sorted -/
def exch (tree gone come : List Str) : List Str := sortS ((tree.filter fun z => decide (z ∉ gone)) ++ come)
def sp_exchanged : Sp := fun vs H Q _ => ∃ a b c ws zs ys, vs = [.ref a, .ref b, .ref c] ∧ StrsT H a ws ∧ StrsT H b zs ∧ StrsT H c ys ∧ ws.length + ys.length ≤ 60 ∧ ∀ r H2, Ex H H2 → StrsT H2 r (exch ws zs ys) → Q (.ref r) H2
theorem sc_exchanged : FnScope ["tree", "gone", "come", "name"] ["tree", "gone", "come"] (defScope s_exchanged) := ⟨rfl, rfl, rfl, by decide +kernel, rfl, by decide +kernel, by decide +kernel⟩
theorem ok_exchanged {f : Addr} {fd : FuncData} (F : FnP K "exchanged" "exchanged" s_exchanged f fd) (T : Txt w K mg C_Groups C_Keeper C_Desk)
   : FnOk P w K mg base CX0 1 f fd ["tree", "gone", "come"] sp_exchanged := by
  have sc := sc_exchanged

  refine F.ok sc (fun vs H Q E h => ?_) (fun cdv A outer s H vs Q E hr h => ?_)
  · obtain ⟨a, b, c, ws, zs, ys, rfl, _⟩ := h; rfl
  · have hu := hu_of hr
    obtain ⟨a, b, c, ws, zs, ys, rfl, ha, hb, hc, hl, hQ⟩ := h
    refine ⟨_, PSs.nox (pss_one (ps_ret (pe_callTy (call_tuple_ofK (K := K) rfl) (by rfl) T.b_tuple (by decide +kernel) (pa_cons (pe_callB (cr_sortedSK (K := K) rfl) (by rfl) T.b_sorted (by decide +kernel) (pa_cons (pe_op op_cat (pe_lc (own := [("name", 3)]) (by rfl) sc.nd (pi_tupK (K := K) rfl (pv 0)) (blkOk_by (N := ["tree", "gone", "come", "name"]) (sc := defScope s_exchanged) (own := [("name", 3)]) (by decide +kernel)) (fun _ _ _ _ _ => (pg_name (i := 3) sc.nd rfl (Or.inl rfl))) (fun _ _ _ _ _ => (pts_one (pt_cmpR (op_notIn_seqK (K := K) rfl) (pv 3) (pv 1) rfl))) (fun _ _ _ _ _ => (pv 3))) (pe_callTy (call_list_ofK (K := K) rfl) (by rfl) T.b_list (by decide +kernel) (pa_cons (pv 2) pa_nil))) pa_nil)) pa_nil)))), ?_⟩
    have fl : (ws.filter fun z => decide (z ∉ zs)).length ≤ ws.length := List.length_filter_le _ _
    refine r_retU (eu_tuple (el_sortedS (ws := (ws.filter fun z => decide (z ∉ zs)) ++ ys) ?_ ?_)) fun r rs H2 _ e h2 hy => hQ r H2 e (by unfold StrsT; rw [h2, hy]; rfl)
    · rw [List.map_append]
      refine el_cat (EvLR.el ((lr_tup (RB := fun _ v (z : Str) => v = .str z) (ds := ws) (ev_var rfl) (SqT.of ha) (by rw [List.length_map]) (by omega) Stay.val (fun z => decide (z ∉ zs)) id (fun i x d hx hd => ?_)).imp fun ys H2 _ hy => ?_)) (el_listT (ev_var rfl) hc) ?_
      · have ex : x = .str d := by
          rw [List.getElem?_map, hd] at hx
          exact (Option.some.inj hx).symm
        subst ex
        refine ⟨et_is (et_test (ev_op (ev_var rfl) (ev_var rfl) (rv_niT (SqT.of hb) rfl (flat_strs _)))) ?_, fun _ => EvR.of (ev_var rfl)⟩
        rw [inV_str]
        by_cases h : d ∈ zs <;> simp [h]
      · rw [List.map_id] at hy; exact Paired.vals hy
      · rw [List.length_map, List.length_map]; omega
    · rw [List.length_append]; omega
end
end Ct
end

section
set_option Elab.async false
set_option linter.all false
set_option maxRecDepth 100000
set_option maxHeartbeats 4000000
namespace Ct
open PySem PySem.Spec PyProof.Rows L2 Evl
section
variable {P : Program} {w : World} {K : PySem.W.Frag} {mg : Str → Option Value} {base : Heap} {C_Groups C_Keeper C_Desk : Addr}
def loS (x y : Str) : Str := if ltS y x then y else x
def hiS (x y : Str) : Str := if ltS x y then y else x
/-- the net that a deed makes -/
def Net.put (N : Net) : Deed → Net
  | .place z => ⟨sortS (N.ps ++ [z]), N.ts⟩
  | .tie n x y c => ⟨N.ps, sortT (N.ts ++ [⟨n, loS x y, hiS x y, c⟩])⟩
  | .cost n c => match getT N.ts n with
    | some t => ⟨N.ps, sortT ((N.ts.filter fun t => decide (t.n ≠ n)) ++ [⟨t.n, t.a, t.b, c⟩])⟩
    | none => N
theorem getT_name {ts : List Tie} {z : Str} {t : Tie} (h : getT ts z = some t) : t.n = z := of_decide_eq_true (List.find?_some (p := fun t : Tie => decide (t.n = z)) h)
theorem getT_mem {ts : List Tie} {z : Str} {t : Tie} (h : getT ts z = some t) : t ∈ ts := List.mem_of_find?_eq_some h
theorem getT_none {ts : List Tie} {z : Str} : getT ts z = none ↔ z ∉ ts.map (·.n) := by
  unfold getT
  rw [List.find?_eq_none]
  constructor
  · intro h hm
    obtain ⟨t, ht, e⟩ := List.mem_map.mp hm
    exact h t ht (decide_eq_true e)
  · intro h t ht e
    exact h (List.mem_map.mpr ⟨t, ht, of_decide_eq_true e⟩)
theorem put_cost {N : Net} {n : Str} {c : Int} {t : Tie} (h : getT N.ts n = some t) : N.put (.cost n c) = ⟨N.ps, sortT ((N.ts.filter fun t => decide (t.n ≠ n)) ++ [⟨t.n, t.a, t.b, c⟩])⟩ := by
  simp only [Net.put, h]
theorem nd_snoc {ws : List Str} {z : Str} (h : ws.Nodup) (hz : z ∉ ws) : (ws ++ [z]).Nodup := by
  rw [List.nodup_append]
  refine ⟨h, List.nodup_cons.mpr ⟨List.not_mem_nil, List.nodup_nil⟩, fun a ha b hb => ?_⟩
  rw [List.mem_singleton.mp hb]
  exact fun e => hz (e ▸ ha)
theorem spr_with_tie {H : Hp} {a p : Addr} {ts : List Tie} {t : Tie} (ha : TiesT H a ts) (ht : TieAt H p t) (nd : ((ts ++ [t]).map (·.n)).Nodup) (hl : ts.length ≤ 100) : SpR sp_with_tie [.ref a, .ref p] H (fun v H2 => ∃ b, v = .ref b ∧ TiesT H2 b (sortT (ts ++ [t]))) := fun Q q E =>
  ⟨a, p, ts, t, rfl, ha, ht, nd, hl, fun b H2 e h => q _ H2 e ⟨b, rfl, h⟩⟩
theorem spr_without_tie {H : Hp} {a : Addr} {ts : List Tie} {z : Str} (ha : TiesT H a ts) (hl : ts.length ≤ 100) : SpR sp_without_tie [.ref a, .str z] H (fun v H2 => ∃ b, v = .ref b ∧ TiesT H2 b (ts.filter fun t => decide (t.n ≠ z))) := fun Q q E =>
  ⟨a, ts, z, rfl, ha, hl, fun b H2 e h => q _ H2 e ⟨b, rfl, h⟩⟩
theorem upTies {ts : List Tie} : Up (fun (v : V) H => ∃ b, v = .ref b ∧ TiesT H b ts) := fun v H H' e ⟨b, h, g⟩ => ⟨b, h, g.mono (Tups.ofEx e)⟩
theorem upTie {t : Tie} : Up (fun (v : V) H => ∃ b, v = .ref b ∧ TieAt H b t) := fun v H H' e ⟨b, h, g⟩ => ⟨b, h, e _ _ g⟩
def sp_changed : Sp := fun vs H Q _ => ∃ a b N d, vs = [.ref a, .ref b] ∧ NetAt H a N ∧ H b = some (.tup (Deed.v d)) ∧ d.Ok ∧ d.Fits N ∧ NetOk N ∧ ∀ r H2, Ex H H2 → NetAt H2 r (N.put d) → Q (.ref r) H2
theorem sc_changed : FnScope ["net", "deed", "word", "name", "places", "ties", "place", "former", "one", "other"] ["net", "deed"] (defScope s_changed) := ⟨rfl, rfl, rfl, by decide +kernel, rfl, by decide +kernel, by decide +kernel⟩
theorem ok_changed {f : Addr} {fd : FuncData} (F : FnP K "changed" "changed" s_changed f fd) (T : Txt w K mg C_Groups C_Keeper C_Desk)
  {f_look_deed : Addr} {fd_look_deed : FuncData} (G_look_deed : Dk P w K mg base "look_deed" 3 ["net", "deed"] sp_look_deed f_look_deed fd_look_deed)
  {f_tie_of : Addr} {fd_tie_of : FuncData} (G_tie_of : Dk P w K mg base "tie_of" 1 ["net", "name"] sp_tie_of f_tie_of fd_tie_of)
  {f_with_tie : Addr} {fd_with_tie : FuncData} (G_with_tie : Dk P w K mg base "with_tie" 1 ["ties", "tie"] sp_with_tie f_with_tie fd_with_tie)
  {f_without_tie : Addr} {fd_without_tie : FuncData} (G_without_tie : Dk P w K mg base "without_tie" 1 ["ties", "name"] sp_without_tie f_without_tie fd_without_tie) : FnOk P w K mg base CX0 4 f fd ["net", "deed"] sp_changed := by
  have sc := sc_changed

  refine F.ok sc (fun vs H Q E h => ?_) (fun cdv A outer s H vs Q E hr h => ?_)
  · obtain ⟨a, b, N, d, rfl, _⟩ := h; rfl
  · have hu := hu_of hr
    obtain ⟨a, b, N, d, rfl, hN, hb, ok, fits, nok, hQ⟩ := h
    obtain ⟨p, q, h1, hp, hts⟩ := id hN
    refine ⟨_, PSs.nox (pss_cons (ps_expr (pe_call G_look_deed.ok (hr.mono (by decide)) (by rfl) G_look_deed.mgf G_look_deed.kp G_look_deed.b .nil pass0 (pa_cons (pv 0) (pa_cons (pv 1) pa_nil))))
    (pss_cons (ps_asg (pe_slice (sl_tupAK (K := K) rfl) (pv 1) po_none (po_some pe_int)) (pg_tupK (K := K) (n := 2) rfl rfl (pgs_cons (pg_name (i := 2) sc.nd rfl (Or.inl rfl)) (pgs_cons (pg_name (i := 3) sc.nd rfl (Or.inr rfl)) pgs_nil))))
    (pss_cons (ps_asg (pv 0) (pg_tupK (K := K) (n := 2) rfl rfl (pgs_cons (pg_name (i := 4) sc.nd rfl (Or.inl rfl)) (pgs_cons (pg_name (i := 5) sc.nd rfl (Or.inl rfl)) pgs_nil))))
    (pss_cons (ps_if (pt_cmpR op_eq (pv 2) pe_str (nomark _)) (pss_one (ps_ret (pe_tup (pa_cons (pe_callTy (call_tuple_ofK (K := K) rfl) (by rfl) T.b_tuple (by decide +kernel) (pa_cons (pe_callB (cr_sortedSK (K := K) rfl) (by rfl) T.b_sorted (by decide +kernel) (pa_cons (pe_op op_cat (pe_callTy (call_list_ofK (K := K) rfl) (by rfl) T.b_list (by decide +kernel) (pa_cons (pv 4) pa_nil)) (pe_lst (pa_cons (pv 3) pa_nil))) pa_nil)) pa_nil)) (pa_cons (pv 5) pa_nil))))) pss_nil)
    (pss_cons (ps_if (pt_cmpR op_eq (pv 2) pe_str (nomark _)) (pss_one ps_never) pss_nil)
    (pss_cons (ps_if (pt_cmpR op_eq (pv 2) pe_str (nomark _)) (pss_one ps_never) pss_nil)
    (pss_cons (ps_if (pt_cmpR op_eq (pv 2) pe_str (nomark _)) (pss_cons (ps_set (i := 7) sc.nd rfl (Or.inl rfl) (pe_call G_tie_of.ok (hr.mono (by decide)) (by rfl) G_tie_of.mgf G_tie_of.kp G_tie_of.b .nil pass0 (pa_cons (pv 0) (pa_cons (pv 3) pa_nil))))
    (pss_one (ps_ret (pe_tup (pa_cons (pv 4) (pa_cons (pe_call G_with_tie.ok (hr.mono (by decide)) (by rfl) G_with_tie.mgf G_with_tie.kp G_with_tie.b .nil pass0 (pa_cons (pe_call G_without_tie.ok (hr.mono (by decide)) (by rfl) G_without_tie.mgf G_without_tie.kp G_without_tie.b .nil pass0 (pa_cons (pv 5) (pa_cons (pv 3) pa_nil))) (pa_cons (pe_op (op_catAK (K := K) rfl) (pe_slice (sl_tupAK (K := K) rfl) (pv 7) po_none (po_some pe_int)) (pe_tup (pa_cons (pe_ix (ix_tupK (K := K) rfl) (pv 1) pe_int (fun _ _ => rfl)) pa_nil))) pa_nil))) pa_nil)))))) pss_nil)
    (pss_cons (ps_par (i := 8) (j := 9) rfl sc.nd rfl rfl (by decide) rfl rfl (pa_cons (pe_callB (call_min2S (by rfl)) (by rfl) T.b_min (by decide +kernel) (pa_cons (pe_ix (ix_tupK (K := K) rfl) (pv 1) pe_int (fun _ _ => rfl)) (pa_cons (pe_ix (ix_tupK (K := K) rfl) (pv 1) pe_int (fun _ _ => rfl)) pa_nil))) (pa_cons (pe_callB (call_max2S (by rfl)) (by rfl) T.b_max (by decide +kernel) (pa_cons (pe_ix (ix_tupK (K := K) rfl) (pv 1) pe_int (fun _ _ => rfl)) (pa_cons (pe_ix (ix_tupK (K := K) rfl) (pv 1) pe_int (fun _ _ => rfl)) pa_nil))) pa_nil)) rfl)
    (pss_one (ps_ret (pe_tup (pa_cons (pv 4) (pa_cons (pe_call G_with_tie.ok (hr.mono (by decide)) (by rfl) G_with_tie.mgf G_with_tie.kp G_with_tie.b .nil pass0 (pa_cons (pv 5) (pa_cons (pe_tup (pa_cons (pv 3) (pa_cons (pv 8) (pa_cons (pv 9) (pa_cons (pe_ix (ix_tupK (K := K) rfl) (pv 1) pe_int (fun _ _ => rfl)) pa_nil))))) pa_nil))) pa_nil))))))))))))), ?_⟩
    refine q_drop (ev_call (ea_cons (ev_var rfl) (ea_cons (ev_var rfl) ea_nil)) (z := .non) ?_) fun H1 e1 => ?_
    · exact fun H1 e Q q E => ⟨a, b, N, d, rfl, hN.mono (Tups.ofEx e), e _ _ hb, ok, fits, q⟩
    refine r_asg2 (x := .str d.wd) (y := .str d.n) (er_slA (k := 2) (ev_var rfl) (e1 _ _ hb)) fun H2 e2 => ?_
    have e12 := e1.trans e2
    refine r_asg2 (x := .ref p) (y := .ref q) (EvR.of' (ev_var rfl) fun H2 e => ⟨a, rfl, (e12.trans e) _ _ h1⟩) fun H3 e3 => ?_
    have e13 := e12.trans e3
    have up1 : Up (fun (v : V) H => v = .ref p ∧ StrsT H p N.ps) := fun v H H' e ⟨h, g⟩ => ⟨h, e _ _ g⟩
    have up2 : Up (fun (v : V) H => v = .ref q ∧ TiesT H q N.ts) := fun v H H' e ⟨h, g⟩ => ⟨h, g.mono (Tups.ofEx e)⟩
    have tl := nok.tl
    have pl := nok.pl
    cases d with
    | place z =>
      refine q_when (b := true) (et_is (et_test (ev_op (ev_var rfl) ev_c (rv_eq rfl))) rfl) (fun _ H4 e4 => ?_) (fun hb => by cases hb)
      have e14 := e13.trans e4
      refine r_retU (ur_tup (ar_cons (P := fun v H => ∃ r, v = .ref r ∧ StrsT H r (sortS (N.ps ++ [z]))) (fun v H H' e ⟨r, h, g⟩ => ⟨r, h, e _ _ g⟩) (EvR.imp (EvUR.er (eu_tuple (el_sortedS (ws := N.ps ++ [z]) ?_ ?_))) ?_) (ar_cons up2 (EvR.of' (ev_var rfl) fun H2 e => ⟨rfl, hts.mono (Tups.ofEx (e14.trans e))⟩) ar_nil)) ?_ ?_) fun r ys H5 _ e5 h5 hy => ?_
      · rw [List.map_append]
        exact el_cat (el_listT (ev_var rfl) (e14 _ _ hp)) (el_lst (ea_cons (ev_var rfl) ea_nil) (by show 1 ≤ 100000; decide)) (by rw [List.length_map]; show _ + 1 ≤ _; omega)
      · rw [List.length_append]; show _ + 1 < _; omega
      · rintro v H2 _ ⟨r, ys, rfl, h, rfl⟩; exact ⟨r, rfl, h⟩
      · rintro vs H H' e ⟨v, r, rfl, ⟨r1, rfl, g1⟩, v2, r2, rfl, ⟨rfl, g2⟩, rfl⟩
        exact ⟨_, _, rfl, ⟨r1, rfl, e _ _ g1⟩, _, _, rfl, ⟨rfl, g2.mono (Tups.ofEx e)⟩, rfl⟩
      · rintro vs H ⟨v, r, rfl, ⟨r1, rfl, g1⟩, v2, r2, rfl, ⟨rfl, g2⟩, rfl⟩
        show 2 ≤ 100000; decide
      · obtain ⟨v, r', rfl, ⟨r1, rfl, g1⟩, v2, r2, rfl, ⟨rfl, g2⟩, rfl⟩ := hy
        exact hQ r H5 (e14.trans e5) ⟨r1, _, h5, g1, g2⟩
    | tie n x y c =>
      refine q_when (b := false) (et_is (et_test (ev_op (ev_var rfl) ev_c (rv_eq rfl))) rfl) (fun hb => by cases hb) (fun _ H4 e4 => ?_)
      refine q_when (b := false) (et_is (et_test (ev_op (ev_var rfl) ev_c (rv_eq rfl))) rfl) (fun hb => by cases hb) (fun _ H5 e5 => ?_)
      refine q_when (b := false) (et_is (et_test (ev_op (ev_var rfl) ev_c (rv_eq rfl))) rfl) (fun hb => by cases hb) (fun _ H6 e6 => ?_)
      refine q_when (b := false) (et_is (et_test (ev_op (ev_var rfl) ev_c (rv_eq rfl))) rfl) (fun hb => by cases hb) (fun _ H7 e7 => ?_)
      have e17 := e13.trans (e4.trans (e5.trans (e6.trans e7)))
      have hb7 := e17 _ _ hb
      refine q_par (v := .str (loS x y)) (w := .str (hiS x y)) (ea_cons (ev_cb (ea_cons (ev_ixT (ev_var rfl) hb7 rfl) (ea_cons (ev_ixT (ev_var rfl) hb7 rfl) ea_nil)) fun H1 e Q q => ⟨x, y, rfl, q H1 (Ex.refl H1)⟩) (ea_cons (ev_cb (ea_cons (ev_ixT (ev_var rfl) hb7 rfl) (ea_cons (ev_ixT (ev_var rfl) hb7 rfl) ea_nil)) fun H1 e Q q => ⟨x, y, rfl, q H1 (Ex.refl H1)⟩) ea_nil)) fun H8 e8 => ?_
      have e18 := e17.trans e8
      have hb8 := e18 _ _ hb
      let t : Tie := ⟨n, loS x y, hiS x y, c⟩
      have nd : ((N.ts ++ [t]).map (·.n)).Nodup := by
        rw [List.map_append]
        exact nd_snoc nok.ndt (getT_none.mp fits)
      refine r_retU (ur_tup (ar_cons up1 (EvR.of' (ev_var rfl) fun H2 e => ⟨rfl, (e18.trans e) _ _ hp⟩) (ar_cons (P := fun v H => ∃ b, v = .ref b ∧ TiesT H b (sortT (N.ts ++ [t]))) upTies (er_call (ar_cons up2 (EvR.of' (ev_var rfl) fun H2 e => ⟨rfl, hts.mono (Tups.ofEx (e18.trans e))⟩) (ar_cons (P := fun v H => ∃ b, v = .ref b ∧ TieAt H b t) upTie (er_tup (ea_cons (ev_var rfl) (ea_cons (ev_var rfl) (ea_cons (ev_var rfl) (ea_cons (ev_ixT (ev_var rfl) hb8 rfl) ea_nil)))) (by show 4 ≤ 100000; decide)) ar_nil)) ?_) ar_nil)) ?_ ?_) fun r ys H9 _ e9 h9 hy => ?_
      · rintro vs H2 e2 ⟨v, r, rfl, ⟨rfl, g1⟩, v2, r2, rfl, ⟨pt, rfl, g2⟩, rfl⟩
        exact spr_with_tie g1 g2 nd (by omega)
      · rintro vs H H' e ⟨v, r, rfl, ⟨rfl, g1⟩, v2, r2, rfl, ⟨b2, rfl, g2⟩, rfl⟩
        exact ⟨_, _, rfl, ⟨rfl, e _ _ g1⟩, _, _, rfl, ⟨b2, rfl, g2.mono (Tups.ofEx e)⟩, rfl⟩
      · rintro vs H ⟨v, r, rfl, ⟨rfl, g1⟩, v2, r2, rfl, ⟨b2, rfl, g2⟩, rfl⟩
        show 2 ≤ 100000; decide
      · obtain ⟨v, r', rfl, ⟨rfl, g1⟩, v2, r2, rfl, ⟨b2, rfl, g2⟩, rfl⟩ := hy
        exact hQ r H9 (e18.trans e9) ⟨p, b2, h9, g1, g2⟩
    | cost n c =>
      refine q_when (b := false) (et_is (et_test (ev_op (ev_var rfl) ev_c (rv_eq rfl))) rfl) (fun hb => by cases hb) (fun _ H4 e4 => ?_)
      refine q_when (b := false) (et_is (et_test (ev_op (ev_var rfl) ev_c (rv_eq rfl))) rfl) (fun hb => by cases hb) (fun _ H5 e5 => ?_)
      refine q_when (b := false) (et_is (et_test (ev_op (ev_var rfl) ev_c (rv_eq rfl))) rfl) (fun hb => by cases hb) (fun _ H6 e6 => ?_)
      refine q_when (b := true) (et_is (et_test (ev_op (ev_var rfl) ev_c (rv_eq rfl))) rfl) (fun _ H7 e7 => ?_) (fun hb => by cases hb)
      have e17 := e13.trans (e4.trans (e5.trans (e6.trans e7)))
      obtain ⟨t0, ht0⟩ := fits
      refine r_asg (er_call0 (ea_cons (ev_var rfl) (ea_cons (ev_var rfl) ea_nil)) fun H2 e2 => spr_tie_of (z := n) (hN.mono (Tups.ofEx (e17.trans e2)))) fun v H8 e8 hv => ?_
      rw [ht0] at hv
      obtain ⟨pt, rfl, hpt⟩ := hv
      have e18 := e17.trans e8
      have hb8 := e18 _ _ hb
      have e0 : t0.n = n := getT_name ht0
      let t : Tie := ⟨t0.n, t0.a, t0.b, c⟩
      let ts1 := N.ts.filter fun t => decide (t.n ≠ n)
      have nd : ((ts1 ++ [t]).map (·.n)).Nodup := by
        rw [List.map_append]
        refine nd_snoc (List.Nodup.sublist (List.Sublist.map _ List.filter_sublist) nok.ndt) fun hm => ?_
        obtain ⟨u, hu1, hu2⟩ := List.mem_map.mp hm
        exact of_decide_eq_true (List.mem_filter.mp hu1).2 (hu2.trans e0)
      have tl1 : ts1.length ≤ N.ts.length := List.length_filter_le _ _
      refine r_retU (ur_tup (ar_cons up1 (EvR.of' (ev_var rfl) fun H2 e => ⟨rfl, (e18.trans e) _ _ hp⟩) (ar_cons (P := fun v H => ∃ b, v = .ref b ∧ TiesT H b (sortT (ts1 ++ [t]))) upTies (er_call (ar_cons (P := fun v H => ∃ b, v = .ref b ∧ TiesT H b ts1) upTies (er_call0 (ea_cons (ev_var rfl) (ea_cons (ev_var rfl) ea_nil)) fun H2 e2 => spr_without_tie (z := n) (hts.mono (Tups.ofEx (e18.trans e2))) (by omega)) (ar_cons (P := fun v H => ∃ b, v = .ref b ∧ TieAt H b t) upTie
        (er_cat (er_slA (k := 3) (ev_var rfl) hpt) (er_tup (ea_cons (ev_ixT (ev_var rfl) hb8 rfl) ea_nil) (by show 1 ≤ 100000; decide)) (by show 3 + 1 ≤ 100000; decide)) ar_nil)) ?_) ar_nil)) ?_ ?_) fun r ys H9 _ e9 h9 hy => ?_
      · rintro vs H2 e2 ⟨v, r, rfl, ⟨b1, rfl, g1⟩, v2, r2, rfl, ⟨pt, rfl, g2⟩, rfl⟩
        exact spr_with_tie g1 g2 nd (by omega)
      · rintro vs H H' e ⟨v, r, rfl, ⟨rfl, g1⟩, v2, r2, rfl, ⟨b2, rfl, g2⟩, rfl⟩
        exact ⟨_, _, rfl, ⟨rfl, e _ _ g1⟩, _, _, rfl, ⟨b2, rfl, g2.mono (Tups.ofEx e)⟩, rfl⟩
      · rintro vs H ⟨v, r, rfl, ⟨rfl, g1⟩, v2, r2, rfl, ⟨b2, rfl, g2⟩, rfl⟩
        show 2 ≤ 100000; decide
      · obtain ⟨v, r', rfl, ⟨rfl, g1⟩, v2, r2, rfl, ⟨b2, rfl, g2⟩, rfl⟩ := hy
        refine hQ r H9 (e18.trans e9) ?_
        rw [put_cost ht0]
        exact ⟨p, b2, h9, g1, g2⟩
def goneOf (N : Net) (d : Deed) : List Str := (cheap N).filter fun z => decide (z ∉ cheap (N.put d))
def comeOf (N : Net) (d : Deed) : List Str := (cheap (N.put d)).filter fun z => decide (z ∉ cheap N)
def PairAt (H : Hp) (r : Addr) (g c : List Str) : Prop := ∃ x y, H r = some (.tup [.ref x, .ref y]) ∧ StrsT H x g ∧ StrsT H y c
theorem PairAt.up {r : Addr} {g c : List Str} {H H' : Hp} (e : Ex H H') (h : PairAt H r g c) : PairAt H' r g c := by
  obtain ⟨x, y, h1, h2, h3⟩ := h
  exact ⟨x, y, e _ _ h1, e _ _ h2, e _ _ h3⟩
theorem spr_changed {H : Hp} {a b : Addr} {N : Net} {d : Deed} (hN : NetAt H a N) (hb : H b = some (.tup d.v)) (ok : d.Ok) (fits : d.Fits N) (nok : NetOk N) : SpR sp_changed [.ref a, .ref b] H (fun v H2 => ∃ r, v = .ref r ∧ NetAt H2 r (N.put d)) := fun Q q E =>
  ⟨a, b, N, d, rfl, hN, hb, ok, fits, nok, fun r H2 e h => q _ H2 e ⟨r, rfl, h⟩⟩
theorem spr_without {H : Hp} {a b : Addr} {ws zs : List Str} (ha : StrsT H a ws) (hb : StrsT H b zs) (hl : ws.length ≤ 100) : SpR sp_without [.ref a, .ref b] H (fun v H2 => ∃ r, v = .ref r ∧ StrsT H2 r (ws.filter fun z => decide (z ∉ zs))) := fun Q q E =>
  ⟨a, b, ws, zs, rfl, ha, hb, hl, fun r H2 e h => q _ H2 e ⟨r, rfl, h⟩⟩
theorem upStrs {ws : List Str} : Up (fun (v : V) H => ∃ r, v = .ref r ∧ StrsT H r ws) := fun v H H' e ⟨r, h, g⟩ => ⟨r, h, e _ _ g⟩
theorem cheap_len (N : Net) : (cheap N).length ≤ N.ts.length := by
  unfold cheap
  rw [(sortS_perm _).length_eq, List.length_map]
  have h1 := kstep_len (a := Tie.a) (b := Tie.b) (sortP N.op) (N.ps.map fun p => (p, p), [])
  have h2 : (sortP N.op).length = N.op.length := (sortP_perm N.op).length_eq
  have h3 : N.op.length ≤ N.ts.length := List.length_filter_le _ _
  have h4 : (krun Tie.a Tie.b N.ps (sortP N.op)).2.length ≤ (sortP N.op).length := by
    refine Nat.le_trans h1 ?_
    show 0 + _ ≤ _
    omega
  omega
def sp_exchange : Sp := fun vs H Q _ => ∃ a b N d, vs = [.ref a, .ref b] ∧ NetAt H a N ∧ H b = some (.tup (Deed.v d)) ∧ d.Ok ∧ d.Fits N ∧ NetOk N ∧ NetOk (N.put d) ∧ ∀ r H2, Ex H H2 → PairAt H2 r (goneOf N d) (comeOf N d) → Q (.ref r) H2
theorem sc_exchange : FnScope ["net", "deed", "later", "former"] ["net", "deed"] (defScope s_exchange) := ⟨rfl, rfl, rfl, by decide +kernel, rfl, by decide +kernel, by decide +kernel⟩
theorem ok_exchange {f : Addr} {fd : FuncData} (F : FnP K "exchange" "exchange" s_exchange f fd) (T : Txt w K mg C_Groups C_Keeper C_Desk)
  {f_cheapest : Addr} {fd_cheapest : FuncData} (G_cheapest : Dk P w K mg base "cheapest" 5 ["net"] sp_cheapest f_cheapest fd_cheapest)
  {f_changed : Addr} {fd_changed : FuncData} (G_changed : Dk P w K mg base "changed" 4 ["net", "deed"] sp_changed f_changed fd_changed)
  {f_without : Addr} {fd_without : FuncData} (G_without : Dk P w K mg base "without" 1 ["names", "others"] sp_without f_without fd_without) : FnOk P w K mg base CX0 6 f fd ["net", "deed"] sp_exchange := by
  have sc := sc_exchange

  refine F.ok sc (fun vs H Q E h => ?_) (fun cdv A outer s H vs Q E hr h => ?_)
  · obtain ⟨a, b, N, d, rfl, _⟩ := h; rfl
  · have hu := hu_of hr
    obtain ⟨a, b, N, d, rfl, hN, hb, ok, fits, nok, nok2, hQ⟩ := h
    refine ⟨_, PSs.nox (pss_cons (ps_set (i := 2) sc.nd rfl (Or.inl rfl) (pe_call G_cheapest.ok (hr.mono (by decide)) (by rfl) G_cheapest.mgf G_cheapest.kp G_cheapest.b .nil pass0 (pa_cons (pe_call G_changed.ok (hr.mono (by decide)) (by rfl) G_changed.mgf G_changed.kp G_changed.b .nil pass0 (pa_cons (pv 0) (pa_cons (pv 1) pa_nil))) pa_nil)))
    (pss_cons (ps_set (i := 3) sc.nd rfl (Or.inl rfl) (pe_call G_cheapest.ok (hr.mono (by decide)) (by rfl) G_cheapest.mgf G_cheapest.kp G_cheapest.b .nil pass0 (pa_cons (pv 0) pa_nil)))
    (pss_one (ps_ret (pe_tup (pa_cons (pe_call G_without.ok (hr.mono (by decide)) (by rfl) G_without.mgf G_without.kp G_without.b .nil pass0 (pa_cons (pv 3) (pa_cons (pv 2) pa_nil))) (pa_cons (pe_call G_without.ok (hr.mono (by decide)) (by rfl) G_without.mgf G_without.kp G_without.b .nil pass0 (pa_cons (pv 2) (pa_cons (pv 3) pa_nil))) pa_nil))))))), ?_⟩
    refine r_asg (P := fun v H2 => ∃ r, v = .ref r ∧ StrsT H2 r (cheap (N.put d))) (er_call (ar_cons (P := fun v H2 => ∃ r, v = .ref r ∧ NetAt H2 r (N.put d)) (fun v H H' e ⟨r, h, g⟩ => ⟨r, h, g.mono (Tups.ofEx e)⟩) (er_call0 (ea_cons (ev_var rfl) (ea_cons (ev_var rfl) ea_nil)) fun H2 e2 => spr_changed (hN.mono (Tups.ofEx e2)) (e2 _ _ hb) ok fits nok) ar_nil) ?_) fun v H1 e1 ⟨r1, ev, hr1⟩ => ?_
    · rintro vs H2 e2 ⟨v, r, rfl, ⟨r1, rfl, g1⟩, rfl⟩
      exact spr_cheapest g1 nok2
    subst ev
    refine r_asg (er_call0 (ea_cons (ev_var rfl) ea_nil) fun H2 e2 => spr_cheapest (hN.mono (Tups.ofEx (e1.trans e2))) nok) fun v H2 e2 ⟨r2, ev, hr2⟩ => ?_
    subst ev
    have l1 := cheap_len N
    have l2 := cheap_len (N.put d)
    have t1 := nok.tl
    have t2 := nok2.tl
    refine r_retU (ur_tup (ar_cons (P := fun v H => ∃ r, v = .ref r ∧ StrsT H r (goneOf N d)) upStrs (er_call0 (ea_cons (ev_var rfl) (ea_cons (ev_var rfl) ea_nil)) fun H3 e3 => spr_without (e3 _ _ hr2) ((e2.trans e3) _ _ hr1) (by omega)) (ar_cons (P := fun v H => ∃ r, v = .ref r ∧ StrsT H r (comeOf N d)) upStrs (er_call0 (ea_cons (ev_var rfl) (ea_cons (ev_var rfl) ea_nil)) fun H3 e3 => spr_without ((e2.trans e3) _ _ hr1) (e3 _ _ hr2) (by omega)) ar_nil)) ?_ ?_) fun r ys H3 _ e3 h3 hy => ?_
    · rintro vs H H' e ⟨v, r, rfl, ⟨x, rfl, g1⟩, v2, r2, rfl, ⟨y, rfl, g2⟩, rfl⟩
      exact ⟨_, _, rfl, ⟨x, rfl, e _ _ g1⟩, _, _, rfl, ⟨y, rfl, e _ _ g2⟩, rfl⟩
    · rintro vs H ⟨v, r, rfl, ⟨x, rfl, g1⟩, v2, r2, rfl, ⟨y, rfl, g2⟩, rfl⟩
      show 2 ≤ 100000; decide
    · obtain ⟨v, r', rfl, ⟨x, rfl, g1⟩, v2, r2, rfl, ⟨y, rfl, g2⟩, rfl⟩ := hy
      exact hQ r H3 (e1.trans (e2.trans e3)) ⟨x, y, h3, g1, g2⟩
end
end Ct
end

section
set_option Elab.async false
set_option linter.all false
set_option maxRecDepth 100000
set_option maxHeartbeats 4000000
namespace Ct
open PySem PySem.Spec PyProof.Rows L2 Evl
section
variable {P : Program} {w : World} {K : PySem.W.Frag} {mg : Str → Option Value} {base : Heap} {C_Groups C_Keeper C_Desk : Addr}
/-! ### what a deed does to the tree's names -/
theorem kstep_sub {τ ν : Type} [DecidableEq ν] {a b : τ → ν} : ∀ (L : List τ) (s : List (ν × ν) × List τ), ∃ M, (L.foldl (kstep a b) s).2 = s.2 ++ M ∧ M.Sublist L
  | [], s => ⟨[], by simp, List.Sublist.refl _⟩
  | t :: L, s => by
    obtain ⟨M, h1, h2⟩ := kstep_sub L (kstep a b s t)
    rw [List.foldl_cons, h1]
    unfold kstep
    split
    · exact ⟨M, rfl, h2.cons t⟩
    · exact ⟨t :: M, by simp, h2.cons_cons t⟩
theorem cheap_sub (N : Net) : ∃ M : List Tie, (cheap N).Perm (M.map (·.n)) ∧ M.Sublist (sortP N.op) := by
  obtain ⟨M, h1, h2⟩ := kstep_sub (a := Tie.a) (b := Tie.b) (sortP N.op) (N.ps.map fun p => (p, p), [])
  refine ⟨M, ?_, h2⟩
  unfold cheap
  refine (sortS_perm _).trans ?_
  unfold krun
  rw [h1, List.nil_append]
theorem op_nd {N : Net} (h : (N.ts.map (·.n)).Nodup) : (N.op.map (·.n)).Nodup := List.Nodup.sublist (List.Sublist.map _ List.filter_sublist) h
theorem cheap_nd {N : Net} (h : (N.ts.map (·.n)).Nodup) : (cheap N).Nodup := by
  obtain ⟨M, h1, h2⟩ := cheap_sub N
  refine h1.nodup_iff.mpr (List.Nodup.sublist (List.Sublist.map _ h2) ?_)
  exact ((sortP_perm N.op).map _).nodup_iff.mpr (op_nd h)
theorem cheap_mem {N : Net} {z : Str} (h : z ∈ cheap N) : ∃ t ∈ N.op, t.n = z := by
  obtain ⟨M, h1, h2⟩ := cheap_sub N
  obtain ⟨t, ht, e⟩ := List.mem_map.mp (h1.mem_iff.mp h)
  exact ⟨t, (sortP_perm N.op).mem_iff.mp (h2.subset ht), e⟩
theorem cheap_pw (N : Net) : (cheap N).Pairwise fun x y => ltS y x = false := sortS_pw _
theorem exch_eq {A B : List Str} (ha : A.Nodup) (hb : B.Nodup) (pw : B.Pairwise fun x y => ltS y x = false) : exch A (A.filter fun z => decide (z ∉ B)) (B.filter fun z => decide (z ∉ A)) = B := by
  unfold exch
  refine (sortS_eq ?_ pw).symm
  refine (List.perm_ext_iff_of_nodup hb ?_).mpr fun z => ?_
  · rw [List.nodup_append]
    refine ⟨ha.sublist List.filter_sublist, hb.sublist List.filter_sublist, fun x hx y hy e => ?_⟩
    subst e
    exact of_decide_eq_true (List.mem_filter.mp hy).2 (List.mem_filter.mp hx).1
  · by_cases h1 : z ∈ A <;> by_cases h2 : z ∈ B <;> simp [h1, h2]
theorem exch_do {N : Net} {d : Deed} (h : NetOk N) (h2 : NetOk (N.put d)) : exch (cheap N) (goneOf N d) (comeOf N d) = cheap (N.put d) := exch_eq (cheap_nd h.ndt) (cheap_nd h2.ndt) (cheap_pw _)
theorem exch_back {N : Net} {d : Deed} (h : NetOk N) (h2 : NetOk (N.put d)) : exch (cheap (N.put d)) (comeOf N d) (goneOf N d) = cheap N := exch_eq (cheap_nd h2.ndt) (cheap_nd h.ndt) (cheap_pw _)
/-! ### the keeper -/
def RowAt (H : Hp) (r : Addr) (e : Net × Deed) : Prop := ∃ b n x y, H r = some (.tup [.ref b, .ref n, .ref x, .ref y]) ∧ NetAt H n e.1 ∧ StrsT H x (goneOf e.1 e.2) ∧ StrsT H y (comeOf e.1 e.2)
theorem RowAt.mono {H H' : Hp} {r : Addr} {e : Net × Deed} (t : Tups H H') (h : RowAt H r e) : RowAt H' r e := by
  obtain ⟨b, n, x, y, h1, h2, h3, h4⟩ := h
  exact ⟨b, n, x, y, t _ _ h1, h2.mono t, h3.mono t, h4.mono t⟩
theorem rows_mono {H H' : Hp} (t : Tups H H') : ∀ {rs : List Addr} {es : List (Net × Deed)}, Paired (RowAt H) rs es → Paired (RowAt H') rs es
  | _, _, .nil => .nil
  | _, _, .cons h r => .cons (h.mono t) (rows_mono t r)
def kFs (n t l : Addr) : List (Str × V) := [("now", .ref n), ("kept", .ref t), ("past", .ref l)]
def KeeperAt (C : Addr) (H : Hp) (k l : Addr) (N : Net) (hist : List (Net × Deed)) : Prop := ∃ dx n t rows, H k = some (.ins C dx (kFs n t l)) ∧ NetAt H n N ∧ StrsT H t (cheap N) ∧ H l = some (.lst (rows.map V.ref)) ∧ Paired (RowAt H) rows hist
/-- all but the keeper and its past stays -/
def Fr (k l : Addr) (H H' : Hp) : Prop := ∀ b o, H b = some o → b ≠ k → b ≠ l → H' b = some o
theorem Fr.of {k l : Addr} {H H' : Hp} (e : Ex H H') : Fr k l H H' := fun b o h _ _ => e b o h
theorem Fr.trans {k l : Addr} {H H1 H2 : Hp} (a : Fr k l H H1) (b : Fr k l H1 H2) : Fr k l H H2 := fun c o h n1 n2 => b c o (a c o h n1 n2) n1 n2
theorem Fr.k {k l : Addr} {H H' : Hp} {o : HO} (a : Fr k l H H') : Fr k l H (upd H' k o) := fun c o h n1 n2 => by rw [upd_ne n1]; exact a c o h n1 n2
theorem Fr.l {k l : Addr} {H H' : Hp} {o : HO} (a : Fr k l H H') : Fr k l H (upd H' l o) := fun c o h n1 n2 => by rw [upd_ne n2]; exact a c o h n1 n2
theorem KeeperAt.up {C : Addr} {H H' : Hp} {k l : Addr} {N : Net} {hist : List (Net × Deed)} (e : Ex H H') (h : KeeperAt C H k l N hist) : KeeperAt C H' k l N hist := by
  obtain ⟨dx, n, t, rows, h1, h2, h3, h4, h5⟩ := h
  exact ⟨dx, n, t, rows, e _ _ h1, h2.mono (Tups.ofEx e), h3.mono (Tups.ofEx e), e _ _ h4, rows_mono (Tups.ofEx e) h5⟩
theorem k_now (n t l x : Addr) : putF "now" (.ref x) (kFs n t l) = kFs x t l := by
  unfold kFs putF
  rw [if_pos rfl]
theorem k_kept (n t l x : Addr) : putF "kept" (.ref x) (kFs n t l) = kFs n x l := by
  unfold kFs putF
  rw [if_neg (by decide +kernel)]
  unfold putF
  rw [if_pos rfl]
theorem k_lnow (n t l : Addr) : (kFs n t l).lookup (Str.ofString "now") = some (.ref n) := rfl
theorem k_lkept (n t l : Addr) : (kFs n t l).lookup (Str.ofString "kept") = some (.ref t) := by
  unfold kFs
  rw [List.lookup_cons, show (Str.ofString "kept" == Str.ofString "now") = false by decide +kernel]; rfl
theorem k_lpast (n t l : Addr) : (kFs n t l).lookup (Str.ofString "past") = some (.ref l) := by
  unfold kFs
  rw [List.lookup_cons, show (Str.ofString "past" == Str.ofString "now") = false by decide +kernel]
  dsimp only
  rw [List.lookup_cons, show (Str.ofString "past" == Str.ofString "kept") = false by decide +kernel]; rfl
theorem q_fld {σ : L2.St} {H : Hp} {D : Ends} {tz : TS} {ta tv : TE} {P : V → Hp → Prop} {a C dx : Addr} {fs : List (Str × V)} {f : Str} (hv : EvR tv σ H P) (ha : Ev ta σ H (.ref a)) (hk : H a = some (.ins C dx fs)) (hc : Cls K C) (hn : NoAttr K C f) (hl : fs.length < 1000)
    (k : ∀ v H1 H2, Ex H H1 → P v H1 → Ex H1 H2 → tz D σ (upd H2 a (.ins C dx (putF f v fs)))) : tSeq (sFld K ta tv f) tz D σ H := hv H (Ex.refl H) _ fun v H1 e p => ha H1 e _ fun H2 e2 => ⟨a, C, dx, fs, rfl, (e.trans e2) _ _ hk, hc, hn, hl, k v H1 H2 e p e2⟩
theorem s_fld {σ : L2.St} {H : Hp} {D : Ends} {ta tv : TE} {P : V → Hp → Prop} {a C dx : Addr} {fs : List (Str × V)} {f : Str} (hv : EvR tv σ H P) (ha : Ev ta σ H (.ref a)) (hk : H a = some (.ins C dx fs)) (hc : Cls K C) (hn : NoAttr K C f) (hl : fs.length < 1000)
    (k : ∀ v H1 H2, Ex H H1 → P v H1 → Ex H1 H2 → D.nx σ (upd H2 a (.ins C dx (putF f v fs)))) : sFld K ta tv f D σ H := hv H (Ex.refl H) _ fun v H1 e p => ha H1 e _ fun H2 e2 => ⟨a, C, dx, fs, rfl, (e.trans e2) _ _ hk, hc, hn, hl, k v H1 H2 e p e2⟩
theorem k_new (n t l : Addr) : putF "past" (.ref l) (putF "kept" (.ref t) (putF "now" (.ref n) [])) = kFs n t l := by
  have h1 : putF "now" (.ref n) [] = [(Str.ofString "now", V.ref n)] := rfl
  have h2 : putF "kept" (.ref t) [(Str.ofString "now", V.ref n)] = [(Str.ofString "now", V.ref n), (Str.ofString "kept", V.ref t)] := by
    unfold putF
    rw [if_neg (by decide +kernel)]
    rfl
  rw [h1, h2]
  unfold putF
  rw [if_neg (by decide +kernel)]
  unfold putF
  rw [if_neg (by decide +kernel)]
  rfl
theorem Tups.ins {H : Hp} {a C dx : Addr} {fs : List (Str × V)} (h : H a = some (.ins C dx fs)) : ∀ xs, H a ≠ some (.tup xs) := fun xs z => by rw [h] at z; cases z
theorem cheap_empty : cheap ⟨[], []⟩ = [] := List.length_eq_zero_iff.mp (Nat.le_zero.mp (cheap_len ⟨[], []⟩))
def sp_Keeper_init (C : Addr) : Sp := fun vs H Q _ => ∃ k dx, vs = [.ref k] ∧ H k = some (.ins C dx []) ∧ ∀ l H2, H l = none → (∀ b o, b ≠ k → H b = some o → H2 b = some o) → KeeperAt C H2 k l ⟨[], []⟩ [] → Q .non H2
theorem sc_Keeper_init : FnScope ["self"] ["self"] (defScope s_Keeper_init) := ⟨rfl, rfl, rfl, by decide +kernel, rfl, by decide +kernel, by decide +kernel⟩
theorem ok_Keeper_init {f : Addr} {fd : FuncData} (F : FnP K "__init__" "Keeper.__init__" s_Keeper_init f fd) (T : Txt w K mg C_Groups C_Keeper C_Desk)
  {f_empty : Addr} {fd_empty : FuncData} (G_empty : Dk P w K mg base "empty" 1 [] sp_empty f_empty fd_empty) : FnOk P w K mg base CX0 2 f fd ["self"] (sp_Keeper_init C_Keeper) := by
  have sc := sc_Keeper_init

  refine F.ok sc (fun vs H Q E h => ?_) (fun cdv A outer s H vs Q E hr h => ?_)
  · obtain ⟨k, dx, rfl, _⟩ := h; rfl
  · have hu := hu_of hr
    obtain ⟨k, dx, rfl, hk, hQ⟩ := h
    refine ⟨_, PSs.nox (pss_cons (ps_fld (pv 0) (pe_call0 G_empty.ok (hr.mono (by decide)) (by rfl) G_empty.mgf G_empty.kp G_empty.b .nil pass0) rfl)
    (pss_cons (ps_fld (pv 0) (pe_tup pa_nil) rfl)
    (pss_one (ps_fld (pv 0) (pe_lst pa_nil) rfl)))), ?_⟩
    refine q_fld (K := K) (P := fun v H2 => ∃ n, v = .ref n ∧ NetAt H2 n ⟨[], []⟩) (er_call0 ea_nil fun H2 e2 Q q E => ⟨rfl, fun a H' e h => q _ H' e ⟨a, rfl, h⟩⟩) (ev_var rfl) hk T.c_Keeper T.a_now (by show 0 < 1000; decide) fun v H1 H2 e1 ⟨n, ev, hn⟩ e2 => ?_
    subst ev
    refine q_fld (K := K) (P := fun v H2 => ∃ t, v = .ref t ∧ StrsT H2 t []) (EvUR.er (PL := fun ys _ => ys = []) (fun H1 e Q q => eu_tup ea_nil (by decide) H1 e Q fun p H2 hp e2 h2 => q p [] H2 hp e2 h2 rfl) |>.imp fun v H2 _ ⟨p, ys, e1, h1, e2⟩ => ⟨p, e1, by rw [e2] at h1; exact h1⟩) (ev_var rfl) upd_same T.c_Keeper T.a_kept (by show 1 < 1000; decide) fun v H3 H4 e3 ⟨t, ev, ht⟩ e4 => ?_
    subst ev
    refine s_fld (K := K) (P := fun v H2 => ∃ l, v = .ref l ∧ H4 l = none ∧ H2 l = some (.lst [])) (fun H1 e Q q => el_lst ea_nil (by decide) H1 e Q fun p H2 hp e2 h2 => q _ H2 e2 ⟨p, rfl, ?_, h2⟩) (ev_var rfl) upd_same T.c_Keeper T.a_past (by show 2 < 1000; decide) fun v H5 H6 e5 ⟨l, ev, hl0, hl⟩ e6 => ?_
    · have := fresh_back e hp
      rw [upd_ne (fun z => by rw [z, upd_same] at this; cases this)] at this
      exact this
    subst ev
    have k1 : H1 k = some (.ins C_Keeper dx []) := e1 _ _ hk
    have t12 : Tups H1 H4 := (((Tups.ofEx e2).upd (Tups.ins k1)).trans (Tups.ofEx e3)).trans (Tups.ofEx e4)
    have k4 : H4 k = some (.ins C_Keeper dx (putF "now" (.ref n) [])) := e4 _ _ (e3 _ _ upd_same)
    have k3 : H3 k = some (.ins C_Keeper dx (putF "now" (.ref n) [])) := e3 _ _ upd_same
    have t36 : Tups H3 (upd H6 k (.ins C_Keeper dx (putF "past" (.ref l) (putF "kept" (.ref t) (putF "now" (.ref n) []))))) :=
      ((((Tups.ofEx e4).upd (Tups.ins k3)).trans (Tups.ofEx e5)).trans (Tups.ofEx e6)).upd (Tups.ins k3)
    have t16 : Tups H1 (upd H6 k (.ins C_Keeper dx (putF "past" (.ref l) (putF "kept" (.ref t) (putF "now" (.ref n) []))))) := (((Tups.ofEx e2).upd (Tups.ins k1)).trans (Tups.ofEx e3)).trans t36
    have nk : ∀ b o, b ≠ k → H b = some o → upd H6 k (.ins C_Keeper dx (putF "past" (.ref l) (putF "kept" (.ref t) (putF "now" (.ref n) [])))) b = some o := fun b o hb ho => by
      rw [upd_ne hb]
      refine e6 _ _ (e5 _ _ ?_)
      rw [upd_ne hb]
      refine e4 _ _ (e3 _ _ ?_)
      rw [upd_ne hb]
      exact e2 _ _ (e1 _ _ ho)
    have hlk : l ≠ k := fun z => by rw [z, k4] at hl0; cases hl0
    refine hQ l _ ?_ nk ⟨dx, n, t, [], ?_, hn.mono t16, by rw [cheap_empty]; exact StrsT.mono t36 ht, ?_, .nil⟩
    · cases h : H l with
      | none => rfl
      | some o =>
        have h1 := e2 _ _ (e1 _ _ h)
        have h2 : upd H2 k (.ins C_Keeper dx (putF "now" (.ref n) [])) l = some o := by rw [upd_ne hlk]; exact h1
        rw [e4 _ _ (e3 _ _ h2)] at hl0; cases hl0
    · rw [upd_same, k_new]
    · rw [upd_ne hlk]; exact e6 _ _ hl
theorem r_asg2R {σ : L2.St} {H : Hp} {te : TE} {D : Ends} {tz : TS} {i j : Nat} {R : V → V → Hp → Prop} (h : EvR te σ H (fun v H2 => ∃ p x y, v = .ref p ∧ H2 p = some (.tup [x, y]) ∧ R x y H2)) (k : ∀ x y H1, Ex H H1 → R x y H1 → tz D ((σ.set i (some x)).set j (some y)) H1) :
    tSeq (tAsg te (gTup K 2 (gCons (gName i) (gCons (gName j) gNil)))) tz D σ H := h H (Ex.refl H) _ fun v H1 e ⟨p, x, y, ev, hp, hr⟩ => ⟨p, _, ev, SqT.of hp, rfl, _, _, rfl, _, _, rfl, rfl, k x y H1 e hr⟩
def sp_Keeper_net (C : Addr) : Sp := fun vs H Q _ => ∃ k l N hist, vs = [.ref k] ∧ KeeperAt C H k l N hist ∧ ∀ n H2, Ex H H2 → NetAt H2 n N → Q (.ref n) H2
theorem sc_Keeper_net : FnScope ["self"] ["self"] (defScope s_Keeper_net) := ⟨rfl, rfl, rfl, by decide +kernel, rfl, by decide +kernel, by decide +kernel⟩
theorem ok_Keeper_net {f : Addr} {fd : FuncData} (F : FnP K "net" "Keeper.net" s_Keeper_net f fd) (T : Txt w K mg C_Groups C_Keeper C_Desk)
   : FnOk P w K mg base CX0 1 f fd ["self"] (sp_Keeper_net C_Keeper) := by
  have sc := sc_Keeper_net

  refine F.ok sc (fun vs H Q E h => ?_) (fun cdv A outer s H vs Q E hr h => ?_)
  · obtain ⟨k, l, N, hist, rfl, _⟩ := h; rfl
  · have hu := hu_of hr
    obtain ⟨k, l, N, hist, rfl, ⟨dx, n, t, rows, h1, h2, h3, h4, h5⟩, hQ⟩ := h
    refine ⟨_, PSs.nox (pss_one (ps_ret (pe_fld (pv 0) rfl))), ?_⟩
    exact s_ret (ev_fld (ev_var rfl) h1 T.c_Keeper T.a_now (k_lnow _ _ _)) fun H2 e2 => hQ n H2 e2 (h2.mono (Tups.ofEx e2))
def sp_Keeper_tree (C : Addr) : Sp := fun vs H Q _ => ∃ k l N hist, vs = [.ref k] ∧ KeeperAt C H k l N hist ∧ ∀ t H2, Ex H H2 → StrsT H2 t (cheap N) → Q (.ref t) H2
theorem sc_Keeper_tree : FnScope ["self"] ["self"] (defScope s_Keeper_tree) := ⟨rfl, rfl, rfl, by decide +kernel, rfl, by decide +kernel, by decide +kernel⟩
theorem ok_Keeper_tree {f : Addr} {fd : FuncData} (F : FnP K "tree" "Keeper.tree" s_Keeper_tree f fd) (T : Txt w K mg C_Groups C_Keeper C_Desk)
   : FnOk P w K mg base CX0 1 f fd ["self"] (sp_Keeper_tree C_Keeper) := by
  have sc := sc_Keeper_tree

  refine F.ok sc (fun vs H Q E h => ?_) (fun cdv A outer s H vs Q E hr h => ?_)
  · obtain ⟨k, l, N, hist, rfl, _⟩ := h; rfl
  · have hu := hu_of hr
    obtain ⟨k, l, N, hist, rfl, ⟨dx, n, t, rows, h1, h2, h3, h4, h5⟩, hQ⟩ := h
    refine ⟨_, PSs.nox (pss_one (ps_ret (pe_fld (pv 0) rfl))), ?_⟩
    exact s_ret (ev_fld (ev_var rfl) h1 T.c_Keeper T.a_kept (k_lkept _ _ _)) fun H2 e2 => hQ t H2 e2 (StrsT.mono (Tups.ofEx e2) h3)
/-- the cost of the tree -/
def costOf (N : Net) : Int := ((cheap N).map (cOf N.ts)).sum
theorem cheap_get {N : Net} (nok : NetOk N) {z : Str} (h : z ∈ cheap N) : ∃ t ∈ N.op, t.n = z ∧ getT N.ts z = some t := by
  obtain ⟨t, ht, e⟩ := cheap_mem h
  refine ⟨t, ht, e, ?_⟩
  cases hg : getT N.ts z with
  | none => exact absurd (List.mem_map.mpr ⟨t, (List.mem_filter.mp ht).1, e⟩) (getT_none.mp hg)
  | some u => rw [nd_name nok.ndt (getT_mem hg) (List.mem_filter.mp ht).1 ((getT_name hg).trans e.symm)]
def sp_Keeper_cost (C : Addr) : Sp := fun vs H Q _ => ∃ k l N hist, vs = [.ref k] ∧ KeeperAt C H k l N hist ∧ NetOk N ∧ ∀ H2, Ex H H2 → Q (.int (costOf N)) H2
theorem sc_Keeper_cost : FnScope ["self"] ["self"] (defScope s_Keeper_cost) := ⟨rfl, rfl, rfl, by decide +kernel, rfl, by decide +kernel, by decide +kernel⟩
theorem ok_Keeper_cost {f : Addr} {fd : FuncData} (F : FnP K "cost" "Keeper.cost" s_Keeper_cost f fd) (T : Txt w K mg C_Groups C_Keeper C_Desk)
  {f_cost_of : Addr} {fd_cost_of : FuncData} (G_cost_of : Dk P w K mg base "cost_of" 1 ["net", "names"] sp_cost_of f_cost_of fd_cost_of) : FnOk P w K mg base CX0 2 f fd ["self"] (sp_Keeper_cost C_Keeper) := by
  have sc := sc_Keeper_cost

  refine F.ok sc (fun vs H Q E h => ?_) (fun cdv A outer s H vs Q E hr h => ?_)
  · obtain ⟨k, l, N, hist, rfl, _⟩ := h; rfl
  · have hu := hu_of hr
    obtain ⟨k, l, N, hist, rfl, ⟨dx, n, t, rows, h1, h2, h3, h4, h5⟩, nok, hQ⟩ := h
    refine ⟨_, PSs.nox (pss_one (ps_ret (pe_call G_cost_of.ok (hr.mono (by decide)) (by rfl) G_cost_of.mgf G_cost_of.kp G_cost_of.b .nil pass0 (pa_cons (pe_fld (pv 0) rfl) (pa_cons (pe_fld (pv 0) rfl) pa_nil))))), ?_⟩
    have l1 := cheap_len N
    have l2 := nok.tl
    refine s_ret (v := .int (costOf N)) (ev_call (ea_cons (ev_fld (ev_var rfl) h1 T.c_Keeper T.a_now (k_lnow _ _ _)) (ea_cons (ev_fld (ev_var rfl) h1 T.c_Keeper T.a_kept (k_lkept _ _ _)) ea_nil)) ?_) fun H2 e2 => hQ H2 e2
    intro H1 e Q q E
    refine ⟨n, t, N, cheap N, rfl, h2.mono (Tups.ofEx e), nok.ndt, by omega, StrsT.mono (Tups.ofEx e) h3, by omega, fun w hw => ?_, q⟩
    obtain ⟨u, _, _, hg⟩ := cheap_get nok hw
    rw [hg]; rfl
theorem spr_exchanged {H : Hp} {a b c : Addr} {ws zs ys : List Str} (ha : StrsT H a ws) (hb : StrsT H b zs) (hc : StrsT H c ys) (hl : ws.length + ys.length ≤ 60) : SpR sp_exchanged [.ref a, .ref b, .ref c] H (fun v H2 => ∃ r, v = .ref r ∧ StrsT H2 r (exch ws zs ys)) := fun Q q E =>
  ⟨a, b, c, ws, zs, ys, rfl, ha, hb, hc, hl, fun r H2 e h => q _ H2 e ⟨r, rfl, h⟩⟩
/-- small enough -/
def Small (N : Net) (d : Deed) : Prop := N.ts.length + (N.put d).ts.length ≤ 60
def sp_Keeper_do (C : Addr) : Sp := fun vs H Q _ => ∃ k l b N hist d, vs = [.ref k, .ref b] ∧ KeeperAt C H k l N hist ∧ H b = some (.tup (Deed.v d)) ∧ d.Ok ∧ d.Fits N ∧ NetOk N ∧ NetOk (N.put d) ∧ Small N d ∧ hist.length ≤ 1000 ∧
  ∀ r H2, Fr k l H H2 → KeeperAt C H2 k l (N.put d) (hist ++ [(N, d)]) → PairAt H2 r (goneOf N d) (comeOf N d) → Q (.ref r) H2
theorem sc_Keeper_do : FnScope ["self", "deed", "gone", "come", "later"] ["self", "deed"] (defScope s_Keeper_do) := ⟨rfl, rfl, rfl, by decide +kernel, rfl, by decide +kernel, by decide +kernel⟩
theorem ok_Keeper_do {f : Addr} {fd : FuncData} (F : FnP K "do" "Keeper.do" s_Keeper_do f fd) (T : Txt w K mg C_Groups C_Keeper C_Desk)
  {f_exchange : Addr} {fd_exchange : FuncData} (G_exchange : Dk P w K mg base "exchange" 6 ["net", "deed"] sp_exchange f_exchange fd_exchange)
  {f_changed : Addr} {fd_changed : FuncData} (G_changed : Dk P w K mg base "changed" 4 ["net", "deed"] sp_changed f_changed fd_changed)
  {f_exchanged : Addr} {fd_exchanged : FuncData} (G_exchanged : Dk P w K mg base "exchanged" 1 ["tree", "gone", "come"] sp_exchanged f_exchanged fd_exchanged) : FnOk P w K mg base CX0 7 f fd ["self", "deed"] (sp_Keeper_do C_Keeper) := by
  have sc := sc_Keeper_do

  refine F.ok sc (fun vs H Q E h => ?_) (fun cdv A outer s H vs Q E hr h => ?_)
  · obtain ⟨k, l, b, N, hist, d, rfl, _⟩ := h; rfl
  · have hu := hu_of hr
    obtain ⟨k, l, b, N, hist, d, rfl, ⟨dx, n, t, rows, h1, h2, h3, h4, h5⟩, hb, ok, fits, nok, nok2, sm, hhl, hQ⟩ := h
    refine ⟨_, PSs.nox (pss_cons (ps_asg (pe_call G_exchange.ok (hr.mono (by decide)) (by rfl) G_exchange.mgf G_exchange.kp G_exchange.b .nil pass0 (pa_cons (pe_fld (pv 0) rfl) (pa_cons (pv 1) pa_nil))) (pg_tupK (K := K) (n := 2) rfl rfl (pgs_cons (pg_name (i := 2) sc.nd rfl (Or.inl rfl)) (pgs_cons (pg_name (i := 3) sc.nd rfl (Or.inl rfl)) pgs_nil))))
    (pss_cons (ps_set (i := 4) sc.nd rfl (Or.inl rfl) (pe_call G_changed.ok (hr.mono (by decide)) (by rfl) G_changed.mgf G_changed.kp G_changed.b .nil pass0 (pa_cons (pe_fld (pv 0) rfl) (pa_cons (pv 1) pa_nil))))
    (pss_cons (ps_expr (pe_bm PySem.F.plainAttrs_list PySem.F.slot_list_append PySem.F.type_list_append mt_append (pe_fld (pv 0) rfl) (pa_cons (pe_tup (pa_cons (pv 1) (pa_cons (pe_fld (pv 0) rfl) (pa_cons (pv 2) (pa_cons (pv 3) pa_nil))))) pa_nil)))
    (pss_cons (ps_fld (pv 0) (pv 4) rfl)
    (pss_cons (ps_fld (pv 0) (pe_call G_exchanged.ok (hr.mono (by decide)) (by rfl) G_exchanged.mgf G_exchanged.kp G_exchanged.b .nil pass0 (pa_cons (pe_fld (pv 0) rfl) (pa_cons (pv 2) (pa_cons (pv 3) pa_nil)))) rfl)
    (pss_one (ps_ret (pe_tup (pa_cons (pv 2) (pa_cons (pv 3) pa_nil)))))))))), ?_⟩
    have now : ∀ {σ : L2.St} {H' : Hp} {n t}, H' k = some (.ins C_Keeper dx (kFs n t l)) → σ[0]? = some (some (.ref k)) → Ev (tFld K (tVar 0) "now") σ H' (.ref n) := fun g h => ev_fld (ev_var h) g T.c_Keeper T.a_now (k_lnow _ _ _)
    have kept : ∀ {σ : L2.St} {H' : Hp} {n t}, H' k = some (.ins C_Keeper dx (kFs n t l)) → σ[0]? = some (some (.ref k)) → Ev (tFld K (tVar 0) "kept") σ H' (.ref t) := fun g h => ev_fld (ev_var h) g T.c_Keeper T.a_kept (k_lkept _ _ _)
    have past : ∀ {σ : L2.St} {H' : Hp} {n t}, H' k = some (.ins C_Keeper dx (kFs n t l)) → σ[0]? = some (some (.ref k)) → Ev (tFld K (tVar 0) "past") σ H' (.ref l) := fun g h => ev_fld (ev_var h) g T.c_Keeper T.a_past (k_lpast _ _ _)
    refine r_asg2R (R := fun x y H2 => ∃ g c, x = .ref g ∧ y = .ref c ∧ StrsT H2 g (goneOf N d) ∧ StrsT H2 c (comeOf N d)) (er_call0 (ea_cons (now h1 rfl) (ea_cons (ev_var rfl) ea_nil)) fun H2 e2 Q q E => ⟨n, b, N, d, rfl, h2.mono (Tups.ofEx e2), e2 _ _ hb, ok, fits, nok, nok2, fun r H3 e3 ⟨x, y, g1, g2, g3⟩ => q _ H3 e3 ⟨r, _, _, rfl, g1, x, y, rfl, rfl, g2, g3⟩⟩) fun x y H1 e1 hxy => ?_
    obtain ⟨g, c, rfl, rfl, hg, hc⟩ := hxy
    refine r_asg (er_call0 (ea_cons (now (e1 _ _ h1) rfl) (ea_cons (ev_var rfl) ea_nil)) fun H2 e2 => spr_changed (h2.mono (Tups.ofEx (e1.trans e2))) ((e1.trans e2) _ _ hb) ok fits nok) fun v H2 e2 ⟨n2, ev, hn2⟩ => ?_
    subst ev
    have e02 := e1.trans e2
    have nkl : k ≠ l := fun z => by rw [z, h4] at h1; cases h1
    refine q_appU (xs := rows.map V.ref) (e02 _ _ h4) (past (e02 _ _ h1) rfl) (eu_tup (ea_cons (ev_var rfl) (ea_cons (now (e02 _ _ h1) rfl) (ea_cons (ev_var rfl) (ea_cons (ev_var rfl) ea_nil)))) (by show 4 ≤ 100000; decide)) (by rw [List.length_map, Paired.length h5]; omega) fun p H3 hp e3 hp3 => ?_
    have e03 := e02.trans e3
    have nl3 : H3 l = some (.lst (rows.map V.ref)) := e03 _ _ h4
    generalize hH4 : upd H3 l (.lst (rows.map V.ref ++ [.ref p])) = H4
    have k4 : H4 k = some (.ins C_Keeper dx (kFs n t l)) := by rw [← hH4, upd_ne nkl]; exact e03 _ _ h1
    have t34 : Tups H3 H4 := hH4 ▸ (Tups.refl H3).upd (fun xs z => by rw [nl3] at z; cases z)
    refine q_fld (K := K) (P := fun v _ => v = .ref n2) (er_var rfl) (ev_var rfl) k4 T.c_Keeper T.a_now (by show 3 < 1000; decide) fun v H5 H6 e5 ev e6 => ?_
    subst ev
    rw [k_now]
    have k6 : H6 k = some (.ins C_Keeper dx (kFs n t l)) := e6 _ _ (e5 _ _ k4)
    generalize hH7 : upd H6 k (.ins C_Keeper dx (kFs n2 t l)) = H7
    have k7 : H7 k = some (.ins C_Keeper dx (kFs n2 t l)) := by rw [← hH7, upd_same]
    have t47 : Tups H4 H7 := hH7 ▸ ((Tups.ofEx e5).trans (Tups.ofEx e6)).upd (Tups.ins k4)
    have t37 := t34.trans t47
    have l1 := cheap_len N
    have l2 : (comeOf N d).length ≤ (cheap (N.put d)).length := List.length_filter_le _ _
    have l3 := cheap_len (N.put d)
    have l4 : N.ts.length + (N.put d).ts.length ≤ 60 := sm
    have g7 : StrsT H7 g (goneOf N d) := StrsT.mono t37 ((e2.trans e3) _ _ hg)
    have c7 : StrsT H7 c (comeOf N d) := StrsT.mono t37 ((e2.trans e3) _ _ hc)
    refine q_fld (K := K) (er_call0 (ea_cons (kept k7 rfl) (ea_cons (ev_var rfl) (ea_cons (ev_var rfl) ea_nil))) fun H8 e8 => spr_exchanged (ws := cheap N) (zs := goneOf N d) (ys := comeOf N d) (StrsT.mono (t37.trans (Tups.ofEx e8)) (e03 _ _ h3)) (e8 _ _ g7) (e8 _ _ c7) (by omega)) (ev_var rfl) k7 T.c_Keeper T.a_kept (by show 3 < 1000; decide) fun v H8 H9 e8 ⟨t2, ev, ht2⟩ e9 => ?_
    subst ev
    rw [k_kept]
    have k9 : H9 k = some (.ins C_Keeper dx (kFs n2 t l)) := e9 _ _ (e8 _ _ k7)
    generalize hHa : upd H9 k (.ins C_Keeper dx (kFs n2 t2 l)) = Ha
    have k10 : Ha k = some (.ins C_Keeper dx (kFs n2 t2 l)) := by rw [← hHa, upd_same]
    have t7a : Tups H7 Ha := hHa ▸ ((Tups.ofEx e8).trans (Tups.ofEx e9)).upd (Tups.ins k7)
    have t8a : Tups H8 Ha := hHa ▸ (Tups.ofEx e9).upd (Tups.ins (e8 _ _ k7))
    have t3a := t37.trans t7a
    have fr : Fr k l H Ha := fun x o hx n1 n2 => by
      rw [← hHa, upd_ne n1]
      refine e9 _ _ (e8 _ _ ?_)
      rw [← hH7, upd_ne n1]
      refine e6 _ _ (e5 _ _ ?_)
      rw [← hH4, upd_ne n2]
      exact e03 _ _ hx
    have hla : Ha l = some (.lst (rows.map V.ref ++ [.ref p])) := by
      rw [← hHa, upd_ne (Ne.symm nkl)]
      refine e9 _ _ (e8 _ _ ?_)
      rw [← hH7, upd_ne (Ne.symm nkl)]
      refine e6 _ _ (e5 _ _ ?_)
      rw [← hH4, upd_same]
    rw [exch_do nok nok2] at ht2
    refine s_retU (eu_tup (ea_cons (ev_var rfl) (ea_cons (ev_var rfl) ea_nil)) (by show 2 ≤ 100000; decide)) fun r Hb hr eb hrb => ?_
    have t3b := t3a.trans (Tups.ofEx eb)
    refine hQ r Hb (fr.trans (Fr.of eb)) ⟨dx, n2, t2, rows ++ [p], eb _ _ k10, hn2.mono ((Tups.ofEx e3).trans t3b), StrsT.mono (t8a.trans (Tups.ofEx eb)) ht2, ?_, ?_⟩ ⟨g, c, hrb, StrsT.mono (t7a.trans (Tups.ofEx eb)) g7, StrsT.mono (t7a.trans (Tups.ofEx eb)) c7⟩
    · rw [List.map_append]; exact eb _ _ hla
    · refine Paired.snoc ⟨b, n, g, c, t3b _ _ hp3, h2.mono ((Tups.ofEx e03).trans t3b), StrsT.mono (t7a.trans (Tups.ofEx eb)) g7, StrsT.mono (t7a.trans (Tups.ofEx eb)) c7⟩ (rows_mono ((Tups.ofEx e03).trans t3b) h5)
theorem q_pop4 {σ : L2.St} {H : Hp} {D : Ends} {tz : TS} {te : TE} {l : Addr} {xs : List V} {p : Addr} {a b c d : V} {i1 i2 i3 i4 : Nat} (h : Ev te σ H (.ref l)) (hl : H l = some (.lst (xs ++ [.ref p]))) (hp : H p = some (.tup [a, b, c, d]))
    (k : ∀ H1, Ex H H1 → tz D ((((σ.set i1 (some a)).set i2 (some b)).set i3 (some c)).set i4 (some d)) (upd H1 l (.lst xs))) :
    tSeq (tAsg (tBM0 K "list" rPop te) (gTup K 4 (gCons (gName i1) (gCons (gName i2) (gCons (gName i3) (gCons (gName i4) gNil)))))) tz D σ H := h H (Ex.refl H) _ fun H1 e => ⟨.inl ⟨rfl, _, SqL.of (e _ _ hl)⟩, l, _, .ref p, rfl, rfl, e _ _ hl, by simp, p, _, rfl, SqT.of (by rw [upd_ne (fun z => by rw [z, hl] at hp; cases hp)]; exact e _ _ hp), rfl, _, _, rfl, _, _, rfl, _, _, rfl, _, _, rfl, rfl, by
      rw [List.dropLast_concat]; exact k H1 e⟩
def sp_Keeper_back (C : Addr) : Sp := fun vs H Q _ => ∃ k l N hist d, vs = [.ref k] ∧ KeeperAt C H k l (N.put d) (hist ++ [(N, d)]) ∧ NetOk N ∧ NetOk (N.put d) ∧ Small N d ∧ hist.length ≤ 1000 ∧
  ∀ r H2, Fr k l H H2 → KeeperAt C H2 k l N hist → PairAt H2 r (comeOf N d) (goneOf N d) → Q (.ref r) H2
theorem paired_snoc {α β : Type} {R : α → β → Prop} {y : β} : ∀ {xs : List α} {ys : List β}, Paired R xs (ys ++ [y]) → ∃ zs x, xs = zs ++ [x] ∧ Paired R zs ys ∧ R x y
  | [], ys, h => by
    have := Paired.length h
    simp at this
  | [x], [], .cons r .nil => ⟨[], x, rfl, .nil, r⟩
  | x :: xs, z :: ys, .cons r t => by
    obtain ⟨zs, w, e, h1, h2⟩ := paired_snoc t
    exact ⟨x :: zs, w, by rw [e]; rfl, .cons r h1, h2⟩
theorem sc_Keeper_back : FnScope ["self", "deed", "former", "gone", "come"] ["self"] (defScope s_Keeper_back) := ⟨rfl, rfl, rfl, by decide +kernel, rfl, by decide +kernel, by decide +kernel⟩
theorem ok_Keeper_back {f : Addr} {fd : FuncData} (F : FnP K "back" "Keeper.back" s_Keeper_back f fd) (T : Txt w K mg C_Groups C_Keeper C_Desk)
  {f_exchanged : Addr} {fd_exchanged : FuncData} (G_exchanged : Dk P w K mg base "exchanged" 1 ["tree", "gone", "come"] sp_exchanged f_exchanged fd_exchanged) : FnOk P w K mg base CX0 2 f fd ["self"] (sp_Keeper_back C_Keeper) := by
  have sc := sc_Keeper_back

  refine F.ok sc (fun vs H Q E h => ?_) (fun cdv A outer s H vs Q E hr h => ?_)
  · obtain ⟨k, l, N, hist, d, rfl, _⟩ := h; rfl
  · have hu := hu_of hr
    obtain ⟨k, l, N, hist, d, rfl, ⟨dx, n, t, rows0, h1, h2, h3, h4, h5⟩, nok, nok2, sm, hhl, hQ⟩ := h
    obtain ⟨rows, p, rfl, h5, b, n0, g, c, hp, hn0, hg, hc⟩ := paired_snoc h5
    rw [List.map_append] at h4
    refine ⟨_, PSs.nox (pss_cons (ps_if (pt_cmpR op_eq (pe_callB (call_len_seqK (K := K) rfl) (by rfl) T.b_len (by decide +kernel) (pa_cons (pe_fld (pv 0) rfl) pa_nil)) pe_int (nomark _)) (pss_one ps_never) pss_nil)
    (pss_cons (ps_asg (pe_bm0 PySem.F.plainAttrs_list PySem.F.slot_list_pop PySem.F.type_list_pop mt_pop (pe_fld (pv 0) rfl)) (pg_tupK (K := K) (n := 4) rfl rfl (pgs_cons (pg_name (i := 1) sc.nd rfl (Or.inl rfl)) (pgs_cons (pg_name (i := 2) sc.nd rfl (Or.inl rfl)) (pgs_cons (pg_name (i := 3) sc.nd rfl (Or.inl rfl)) (pgs_cons (pg_name (i := 4) sc.nd rfl (Or.inl rfl)) pgs_nil))))))
    (pss_cons (ps_fld (pv 0) (pv 2) rfl)
    (pss_cons (ps_fld (pv 0) (pe_call G_exchanged.ok (hr.mono (by decide)) (by rfl) G_exchanged.mgf G_exchanged.kp G_exchanged.b .nil pass0 (pa_cons (pe_fld (pv 0) rfl) (pa_cons (pv 4) (pa_cons (pv 3) pa_nil)))) rfl)
    (pss_one (ps_ret (pe_tup (pa_cons (pv 4) (pa_cons (pv 3) pa_nil))))))))), ?_⟩
    have kept : ∀ {σ : L2.St} {H' : Hp} {n t}, H' k = some (.ins C_Keeper dx (kFs n t l)) → σ[0]? = some (some (.ref k)) → Ev (tFld K (tVar 0) "kept") σ H' (.ref t) := fun g h => ev_fld (ev_var h) g T.c_Keeper T.a_kept (k_lkept _ _ _)
    have past : ∀ {σ : L2.St} {H' : Hp} {n t}, H' k = some (.ins C_Keeper dx (kFs n t l)) → σ[0]? = some (some (.ref k)) → Ev (tFld K (tVar 0) "past") σ H' (.ref l) := fun g h => ev_fld (ev_var h) g T.c_Keeper T.a_past (k_lpast _ _ _)
    have nkl : k ≠ l := fun z => by rw [z, h4] at h1; cases h1
    refine q_when (b := false) (et_is (et_test (ev_op (ev_lenL (past h1 rfl) (SqL.of h4)) ev_c (rv_eq rfl))) ?_) (fun hb => by cases hb) (fun _ H1 e1 => ?_)
    · rw [List.length_append]
      refine decide_eq_false fun z => ?_
      have z' : (((rows.map V.ref).length + [V.ref p].length : Nat) : Int) = 0 := by injection z
      have : ([V.ref p] : List V).length = 1 := rfl
      omega
    refine q_pop4 (past (e1 _ _ h1) rfl) (xs := rows.map V.ref) (e1 _ _ h4) (e1 _ _ hp) fun H2 e2 => ?_
    have e02 := e1.trans e2
    generalize hH4 : upd H2 l (.lst (rows.map V.ref)) = H4
    have k4 : H4 k = some (.ins C_Keeper dx (kFs n t l)) := by rw [← hH4, upd_ne nkl]; exact e02 _ _ h1
    have t04 : Tups H H4 := hH4 ▸ (Tups.ofEx e02).upd (fun xs z => by rw [h4] at z; cases z)
    refine q_fld (K := K) (P := fun v _ => v = .ref n0) (er_var rfl) (ev_var rfl) k4 T.c_Keeper T.a_now (by show 3 < 1000; decide) fun v H5 H6 e5 ev e6 => ?_
    subst ev
    rw [k_now]
    have k6 : H6 k = some (.ins C_Keeper dx (kFs n t l)) := e6 _ _ (e5 _ _ k4)
    generalize hH7 : upd H6 k (.ins C_Keeper dx (kFs n0 t l)) = H7
    have k7 : H7 k = some (.ins C_Keeper dx (kFs n0 t l)) := by rw [← hH7, upd_same]
    have t47 : Tups H4 H7 := hH7 ▸ ((Tups.ofEx e5).trans (Tups.ofEx e6)).upd (Tups.ins k4)
    have t07 := t04.trans t47
    have l1 := cheap_len N
    have l2 : (goneOf N d).length ≤ (cheap N).length := List.length_filter_le _ _
    have l3 := cheap_len (N.put d)
    have l4 : N.ts.length + (N.put d).ts.length ≤ 60 := sm
    have g7 : StrsT H7 g (goneOf N d) := StrsT.mono t07 hg
    have c7 : StrsT H7 c (comeOf N d) := StrsT.mono t07 hc
    refine q_fld (K := K) (er_call0 (ea_cons (kept k7 rfl) (ea_cons (ev_var rfl) (ea_cons (ev_var rfl) ea_nil))) fun H8 e8 => spr_exchanged (ws := cheap (N.put d)) (zs := comeOf N d) (ys := goneOf N d) (StrsT.mono (t07.trans (Tups.ofEx e8)) h3) (e8 _ _ c7) (e8 _ _ g7) (by omega)) (ev_var rfl) k7 T.c_Keeper T.a_kept (by show 3 < 1000; decide) fun v H8 H9 e8 ⟨t2, ev, ht2⟩ e9 => ?_
    subst ev
    rw [k_kept]
    have k9 : H9 k = some (.ins C_Keeper dx (kFs n0 t l)) := e9 _ _ (e8 _ _ k7)
    generalize hHa : upd H9 k (.ins C_Keeper dx (kFs n0 t2 l)) = Ha
    have k10 : Ha k = some (.ins C_Keeper dx (kFs n0 t2 l)) := by rw [← hHa, upd_same]
    have t7a : Tups H7 Ha := hHa ▸ ((Tups.ofEx e8).trans (Tups.ofEx e9)).upd (Tups.ins k7)
    have t8a : Tups H8 Ha := hHa ▸ (Tups.ofEx e9).upd (Tups.ins (e8 _ _ k7))
    have t0a := t07.trans t7a
    have fr : Fr k l H Ha := fun x o hx n1 n2 => by
      rw [← hHa, upd_ne n1]
      refine e9 _ _ (e8 _ _ ?_)
      rw [← hH7, upd_ne n1]
      refine e6 _ _ (e5 _ _ ?_)
      rw [← hH4, upd_ne n2]
      exact e02 _ _ hx
    have hla : Ha l = some (.lst (rows.map V.ref)) := by
      rw [← hHa, upd_ne (Ne.symm nkl)]
      refine e9 _ _ (e8 _ _ ?_)
      rw [← hH7, upd_ne (Ne.symm nkl)]
      refine e6 _ _ (e5 _ _ ?_)
      rw [← hH4, upd_same]
    rw [exch_back nok nok2] at ht2
    refine s_retU (eu_tup (ea_cons (ev_var rfl) (ea_cons (ev_var rfl) ea_nil)) (by show 2 ≤ 100000; decide)) fun r Hb hr eb hrb => ?_
    have t0b := t0a.trans (Tups.ofEx eb)
    exact hQ r Hb (fr.trans (Fr.of eb)) ⟨dx, n0, t2, rows, eb _ _ k10, hn0.mono t0b, StrsT.mono (t8a.trans (Tups.ofEx eb)) ht2, eb _ _ hla, rows_mono t0b h5⟩ ⟨c, g, hrb, StrsT.mono (t7a.trans (Tups.ofEx eb)) c7, StrsT.mono (t7a.trans (Tups.ofEx eb)) g7⟩
end
end Ct
end

section
set_option Elab.async false
set_option linter.all false
set_option maxRecDepth 100000
set_option maxHeartbeats 4000000
set_option exponentiation.threshold 4000
namespace Ct
open PySem PySem.Spec PyProof.Rows L2 PySem.NumText
/-! ### a whole number's text -/
def digs (n : Nat) : List Nat := (Nat.toDigits 10 n).map Char.toNat
theorem digs_all (n : Nat) : AllDigits (digs n) := by
  intro c hc
  obtain ⟨ch, hch, e⟩ := List.mem_map.mp hc
  rw [← e]
  exact digit_range (Nat.isDigit_of_mem_toDigits (by decide) (by decide) hch)
theorem digs_ne (n : Nat) : digs n ≠ [] := fun e => by
  have h := tDigits_len_ge 10 n
  rw [List.map_eq_nil_iff.mp e] at h
  exact absurd h (by decide)
theorem digs_len {n k : Nat} (hk : 1 ≤ k) (h : n < 10 ^ k) : (digs n).length ≤ k := by
  unfold digs
  rw [List.length_map]
  exact digits10_le hk h
theorem digs_head (n : Nat) : ∃ c r, digs n = c :: r ∧ (c = 48 → n = 0 ∧ r = []) := by
  induction n using Nat.strongRecOn with
  | _ n ih =>
    unfold digs
    by_cases h : n < 10
    · rw [Nat.toDigits_of_lt_base h]
      refine ⟨_, [], rfl, fun e => ⟨?_, rfl⟩⟩
      have e1 : ∀ d : Nat, d < 10 → (Nat.digitChar d).toNat = 48 → d = 0 := by decide
      exact e1 n h e
    · have hm : n % 10 < 10 := Nat.mod_lt n (by decide)
      have t : Nat.toDigits 10 (n / 10) ++ Nat.toDigits 10 (n % 10) = Nat.toDigits 10 (10 * (n / 10) + n % 10) := Nat.toDigits_append_toDigits (by decide) (by omega) hm
      rw [Nat.div_add_mod] at t
      obtain ⟨c, r, e1, e2⟩ := ih (n / 10) (by omega)
      rw [← t, List.map_append]
      have e1' : (Nat.toDigits 10 (n / 10)).map Char.toNat = c :: r := e1
      rw [e1']
      refine ⟨c, _, rfl, fun e => ?_⟩
      have := (e2 e).1
      omega
def intS (i : Int) : Str := (toString i : String)
theorem intS_nat (m : Nat) : (intS (m : Int)).cps.toList = digs m := PySem.W.KIN.signs_num m
theorem intS_neg (m : Nat) : (intS (-((m + 1 : Nat) : Int))).cps.toList = 45 :: digs (m + 1) := by
  have e : intS (-((m + 1 : Nat) : Int)) = Str.ofString (toString (Int.negSucc m)) := rfl
  rw [e, signs_ofString]
  show ("-" ++ Nat.repr (m + 1)).toList.map Char.toNat = _
  rw [String.toList_append, List.map_append, Nat.toList_repr]
  rfl
theorem int_cases (i : Int) : (∃ m : Nat, i = (m : Int)) ∨ ∃ m : Nat, i = -((m + 1 : Nat) : Int) := by
  cases i with
  | ofNat m => exact .inl ⟨m, rfl⟩
  | negSucc m => exact .inr ⟨m, rfl⟩
theorem str_len (z : Str) : z.cps.toList.length = z.length := Array.length_toList
theorem intS_len {i : Int} {k : Nat} (hk : 1 ≤ k) (h : i.natAbs < 10 ^ k) : (intS i).length ≤ k + 1 := by
  rw [← str_len]
  rcases int_cases i with ⟨m, rfl⟩ | ⟨m, rfl⟩
  · rw [intS_nat]
    have : m < 10 ^ k := by simpa using h
    have := digs_len hk this
    omega
  · rw [intS_neg, List.length_cons]
    have : m + 1 < 10 ^ k := by rw [Int.natAbs_neg] at h; exact h
    have := digs_len hk this
    omega
theorem intS_back {i : Int} (h : i.natAbs < 10 ^ 100) : intText? (intS i) = some i := by
  have hl := intS_len (k := 100) (by decide) h
  rcases int_cases i with ⟨m, rfl⟩ | ⟨m, rfl⟩
  · have e := intText_digits (x := intS (m : Int)) (by rw [intS_nat]; exact digs_all m) (by rw [intS_nat]; exact digs_ne m) (by omega)
    rw [e, intS_nat]
    exact congrArg some (congrArg _ (PySem.W.KIN.val_back m))
  · have e := intText_neg (x := intS (-((m + 1 : Nat) : Int))) (intS_neg m) (digs_all _) (digs_ne _) (by omega)
    rw [e]
    exact congrArg (fun n : Nat => some (-(n : Int))) (PySem.W.KIN.val_back (m + 1))
theorem intS_sign {i : Int} {c : Nat} (h : c ∈ (intS i).cps.toList) : c = 45 ∨ (48 ≤ c ∧ c ≤ 57) := by
  rcases int_cases i with ⟨m, rfl⟩ | ⟨m, rfl⟩
  · rw [intS_nat] at h; exact .inr (digs_all m c h)
  · rw [intS_neg] at h
    rcases List.mem_cons.mp h with h | h
    · exact .inl h
    · exact .inr (digs_all _ c h)
theorem p10 : 10 ^ 100 ≤ 2 ^ 1920 := Nat.le_trans (Nat.pow_le_pow_left (show 10 ≤ 2 ^ 4 by decide) 100) (by rw [← Nat.pow_mul]; exact Nat.pow_le_pow_right (by decide) (by decide))
theorem log2_lt {i : Int} (h : i.natAbs < 10 ^ 100) : i.natAbs.log2 < 1920 := by
  by_cases h0 : i.natAbs = 0
  · rw [h0]; decide
  · exact (Nat.log2_lt h0).mpr (Nat.lt_of_lt_of_le h (p10))
end Ct
end

section
set_option Elab.async false
set_option linter.all false
set_option maxRecDepth 100000
set_option maxHeartbeats 4000000
namespace Ct
open PySem PySem.Spec PyProof.Rows L2 Evl
section
variable {P : Program} {w : World} {K : PySem.W.Frag} {mg : Str → Option Value} {base : Heap} {C_Groups C_Keeper C_Desk : Addr}
theorem ev_slS {σ : L2.St} {H : Hp} {te : TE} {tl th : TO} {z : Str} {lo hi : Option Int} (h : Ev te σ H (.str z)) (h1 : EvO tl σ H lo) (h2 : EvO th σ H hi) (hl : z.length ≤ 100000) : Ev (tSl rSlS te tl th) σ H (.str (cutS z lo hi)) := fun H1 e Q q =>
  h H1 e _ fun H2 e2 => h1 H2 (e.trans e2) _ fun H3 e3 => h2 H3 ((e.trans e2).trans e3) _ fun H4 e4 => ⟨z, rfl, sz_of hl, q H4 ((e2.trans e3).trans e4)⟩
theorem cut_tail {z : Str} : (cutS z (some 1) none).cps.toList = z.cps.toList.drop 1 := by
  unfold cutS
  have e1 : HT.sIx z.length 0 (some 1) = min 1 z.length := sIx_at _ _ 1
  have e2 : HT.sIx z.length z.length none = z.length := rfl
  have e3 := str_len z
  rw [e1, e2]
  show List.take _ (List.drop _ _) = _
  by_cases g : 1 ≤ z.length
  · rw [Nat.min_eq_left g, List.take_of_length_le (by rw [List.length_drop]; omega)]
  · rw [Nat.min_eq_right (by omega), List.take_of_length_le (by rw [List.length_drop]; omega), List.drop_of_length_le (by omega), List.drop_of_length_le (by omega)]
theorem cut_head {z : Str} : (cutS z none (some 1)).cps.toList = z.cps.toList.take 1 := by
  unfold cutS
  have e1 : HT.sIx z.length z.length (some 1) = min 1 z.length := sIx_at _ _ 1
  have e2 : HT.sIx z.length 0 none = 0 := rfl
  have e3 := str_len z
  rw [e1, e2]
  show List.take _ (List.drop _ _) = _
  rw [List.drop_zero, Nat.sub_zero]
  by_cases g : 1 ≤ z.length
  · rw [Nat.min_eq_left g]
  · rw [Nat.min_eq_right (by omega), List.take_of_length_le (by omega), List.take_of_length_le (by omega)]
theorem fig_in {c : Nat} (h : 48 ≤ c ∧ c ≤ 57) : c ∈ (Str.ofString "0123456789").cps.toList := by
  have e : (Str.ofString "0123456789").cps.toList = (List.range 10).map (· + 48) := by decide +kernel
  rw [e]
  exact List.mem_map.mpr ⟨c - 48, List.mem_range.mpr (by omega), by omega⟩
def sp_number_in : Sp := fun vs H Q _ => ∃ i : Int, vs = [.str (intS i)] ∧ i.natAbs < 10 ^ 100 ∧ ∀ H2, Ex H H2 → Q (.int i) H2
/-- the figures of a number's text -/
theorem figs (i : Int) : ∃ f : Str, f.cps.toList = digs i.natAbs ∧ (cutS (intS i) none (some 1) = (Str.ofString "-") → f = cutS (intS i) (some 1) none) ∧ (cutS (intS i) none (some 1) ≠ (Str.ofString "-") → f = intS i) ∧ (i.natAbs = 0 → intS i = Str.ofString "0") := by
  rcases int_cases i with ⟨m, rfl⟩ | ⟨m, rfl⟩
  · refine ⟨intS m, ?_, fun h => ?_, fun _ => rfl, fun h => ?_⟩
    · rw [intS_nat]; rfl
    · have h2 : (cutS (intS (m : Int)) none (some 1)).cps.toList = [45] := by rw [h]; decide +kernel
      rw [cut_head, intS_nat] at h2
      obtain ⟨c, r, e, _⟩ := digs_head m
      rw [e] at h2
      have hc : c = 45 := by simpa using h2
      have := digs_all m c (by rw [e]; simp)
      omega
    · have : m = 0 := by simpa using h
      subst this
      decide +kernel
  · have hn := intS_neg m
    refine ⟨cutS (intS (-((m + 1 : Nat) : Int))) (some 1) none, ?_, fun _ => rfl, fun h => absurd ?_ h, fun h => ?_⟩
    · rw [cut_tail, hn, Int.natAbs_neg]; rfl
    · refine str_ext ?_
      rw [cut_head, hn]
      have : (Str.ofString "-").cps.toList = [45] := by decide +kernel
      rw [this]; rfl
    · rw [Int.natAbs_neg] at h
      have h' : m + 1 = 0 := h
      omega
theorem sc_number_in : FnScope ["word", "figures", "sign"] ["word"] (defScope s_number_in) := ⟨rfl, rfl, rfl, by decide +kernel, rfl, by decide +kernel, by decide +kernel⟩
theorem ok_number_in {f : Addr} {fd : FuncData} (F : FnP K "number_in" "number_in" s_number_in f fd) (T : Txt w K mg C_Groups C_Keeper C_Desk)
   : FnOk P w K mg base CX0 1 f fd ["word"] sp_number_in := by
  have sc := sc_number_in
  obtain ⟨tk_FIGURES, hFIGURES⟩ := T.v_FIGURES
  refine F.ok sc (fun vs H Q E h => ?_) (fun cdv A outer s H vs Q E hr h => ?_)
  · obtain ⟨i, rfl, _⟩ := h; rfl
  · have hu := hu_of hr
    obtain ⟨i, rfl, hi, hQ⟩ := h
    refine ⟨_, PSs.nox (pss_cons (ps_set (i := 1) sc.nd rfl (Or.inl rfl) (pv 0))
    (pss_cons (ps_if (pt_cmpR op_eq (pe_slice sl_str (pv 0) po_none (po_some pe_int)) pe_str (nomark _)) (pss_one (ps_set (i := 1) sc.nd rfl (Or.inl rfl) (pe_slice sl_str (pv 0) (po_some pe_int) po_none))) pss_nil)
    (pss_cons (ps_if (PW.pt (pw_or (pt_cmpR op_eq (pv 1) pe_str (nomark _)) (pw_or1 (pt_not (pt_val (pe_callB (cr_allK (K := K) rfl (by rfl)) (by rfl) T.b_all (by decide +kernel) (pa_cons (pe_lc (own := [("sign", 2)]) (by rfl) sc.nd (pi_str (pv 1)) (blkOk_by (N := ["word", "figures", "sign"]) (sc := defScope s_number_in) (own := [("sign", 2)]) (by decide +kernel)) (fun _ _ _ _ _ => (pg_name (i := 2) sc.nd rfl (Or.inl rfl))) (fun _ _ _ _ _ => pts_nil) (fun _ _ _ _ _ => (pe_cmpR op_in_sign (pv 2) (pe_glob (v := .str "0123456789") (by rfl) hFIGURES ⟨_, rfl⟩) rfl))) pa_nil))))))) (pss_one (ps_ret pe_non)) pss_nil)
    (pss_cons (ps_if (PW.pt (pw_and (pt_cmpR op_eq (pe_ix ix_str (pv 1) pe_int (fun _ _ => rfl)) pe_str (nomark _)) (pw_and1 (pt_cmpR op_ne (pv 0) pe_str (nomark _))))) (pss_one (ps_ret pe_non)) pss_nil)
    (pss_one (ps_ret (pe_callTy call_int_str (by rfl) T.b_int (by decide +kernel) (pa_cons (pv 0) pa_nil)))))))), ?_⟩
    have zl := intS_len (k := 100) (by decide) hi
    obtain ⟨f, f1, f2, f3, f4⟩ := figs i
    have fl : f.length ≤ 100 := by
      rw [← str_len, f1]; exact digs_len (by decide) hi
    obtain ⟨c, r, ec, hc⟩ := digs_head i.natAbs
    refine q_asg (ev_var rfl) fun H1 e1 => ?_
    refine q_ifAsg (v := .str f) (b := decide (cutS (intS i) none (some 1) = Str.ofString "-")) (et_is (et_test (ev_op (ev_slS (ev_var rfl) eo_none (eo_some ev_c) (by omega)) ev_c (rv_eq rfl))) (dec_str _ _)) (fun hb => ev_is (ev_slS (ev_var rfl) (eo_some ev_c) eo_none (by omega)) (by rw [f2 (of_decide_eq_true hb)])) (fun hb => by rw [f3 (of_decide_eq_false hb)]; rfl) fun H2 e2 => ?_
    refine q_when (b := false) (et_is (et_or (et_test (ev_op (ev_var rfl) ev_c (rv_eq rfl))) (fun _ => et_not (et_B (ev_all (bs := (f.cps.toList.filter fun _ => true).map fun _ => true) ((lr_str (z := f) (RB := fun _ v (b : Bool) => v = .bl b) (ev_var rfl) (by omega) Stay.val (fun _ => true) (fun _ => true)
      (fun i c hc => ⟨et_yes, fun _ => EvR.of' (v := .bl true) ?_ fun _ _ => rfl⟩)).imp fun ys H2 _ hp => Paired.vals hp))))) ?_) (fun hb => by cases hb) (fun _ H3 e3 => ?_)
    · intro H1 _ Q q
      refine ⟨_, rfl, c, _, rfl, rfl, ?_⟩
      have e : decide (c ∈ (Str.ofString "0123456789").cps.toList) = true := decide_eq_true (fig_in (digs_all _ c (by rw [← f1]; exact List.mem_of_getElem? hc)))
      rw [e]
      exact q H1 (Ex.refl H1)
    · have e : List.all ((f.cps.toList.filter fun _ => true).map fun _ => true) id = true := by
        rw [List.all_map]; exact List.all_eq_true.mpr fun _ _ => rfl
      rw [e, dec_str, decide_eq_false]
      · rfl
      · intro z
        rw [z] at f1
        exact digs_ne _ f1.symm
    refine q_when (b := false) (et_is (et_and (et_test (ev_op (ev_op (ev_var rfl) ev_c (rv_ixS (c := c) (by omega) ?_)) ev_c (rv_eq rfl))) (fun _ => et_test (ev_op (ev_var rfl) ev_c (rv_ne rfl)))) ?_) (fun hb => by cases hb) (fun _ H4 e4 => ?_)
    · rw [f1, ec]; exact atI_nat (j := 0) rfl
    · rw [dec_str, dec_str]
      by_cases h : c = 48
      · have := f4 (hc h).1
        rw [this]
        simp
      · rw [decide_eq_false]
        · rfl
        · intro z
          have z' : [c] = [48] := congrArg (fun s : Str => s.cps.toList) z
          exact h (by simpa using z')
    exact s_ret (v := .int i) (ev_cb (ea_cons (ev_var rfl) ea_nil) fun H5 e5 Q q => ⟨_, i, rfl, intS_back hi, by omega, q H5 (Ex.refl H5)⟩) fun H5 e5 => hQ H5 ((e1.trans (e2.trans (e3.trans e4))).trans e5)
end
end Ct
end

section
set_option Elab.async false
set_option linter.all false
set_option maxRecDepth 100000
set_option maxHeartbeats 4000000
namespace Ct
open PySem PySem.Spec PyProof.Rows L2 Evl
section
variable {P : Program} {w : World} {K : PySem.W.Frag} {mg : Str → Option Value} {base : Heap} {C_Groups C_Keeper C_Desk : Addr}
/-! ### the things of an order -/
inductive Th | w (z : Str) | c (i : Int)
def Th.sg : Th → Nat
  | .w _ => 87 | .c _ => 67
def Th.tx : Th → Str
  | .w z => z | .c i => intS i
def Th.v : Th → V
  | .w z => .str z | .c i => .int i
def Th.Ok : Th → Prop
  | .w z => WordOk z | .c i => i.natAbs < 10 ^ 30
theorem p30 : 10 ^ 30 ≤ 10 ^ 100 := Nat.pow_le_pow_right (by decide) (by decide)
def sp_thing_in : Sp := fun vs H Q _ => ∃ t : Th, vs = [.str ⟨#[t.sg]⟩, .str t.tx] ∧ t.Ok ∧ ∀ H2, Ex H H2 → Q t.v H2
theorem sc_thing_in : FnScope ["sign", "word", "number"] ["sign", "word"] (defScope s_thing_in) := ⟨rfl, rfl, rfl, by decide +kernel, rfl, by decide +kernel, by decide +kernel⟩
theorem ok_thing_in {f : Addr} {fd : FuncData} (F : FnP K "thing_in" "thing_in" s_thing_in f fd) (T : Txt w K mg C_Groups C_Keeper C_Desk)
  {f_is_word : Addr} {fd_is_word : FuncData} (G_is_word : Dk P w K mg base "is_word" 1 ["thing"] sp_is_word f_is_word fd_is_word)
  {f_number_in : Addr} {fd_number_in : FuncData} (G_number_in : Dk P w K mg base "number_in" 1 ["word"] sp_number_in f_number_in fd_number_in) : FnOk P w K mg base CX0 2 f fd ["sign", "word"] sp_thing_in := by
  have sc := sc_thing_in

  refine F.ok sc (fun vs H Q E h => ?_) (fun cdv A outer s H vs Q E hr h => ?_)
  · obtain ⟨t, rfl, _⟩ := h; rfl
  · have hu := hu_of hr
    obtain ⟨t, rfl, ok, hQ⟩ := h
    refine ⟨_, PSs.nox (pss_cons (ps_if (pt_cmpR op_eq (pv 0) pe_str (nomark _)) (pss_cons (ps_if (pt_not (pt_val (pe_call G_is_word.ok (hr.mono (by decide)) (by rfl) G_is_word.mgf G_is_word.kp G_is_word.b .nil pass0 (pa_cons (pv 1) pa_nil)))) (pss_one ps_never) pss_nil)
    (pss_one (ps_ret (pv 1)))) pss_nil)
    (pss_cons (ps_set (i := 2) sc.nd rfl (Or.inl rfl) (pe_call G_number_in.ok (hr.mono (by decide)) (by rfl) G_number_in.mgf G_number_in.kp G_number_in.b .nil pass0 (pa_cons (pv 1) pa_nil)))
    (pss_cons (ps_if (PW.pt (pw_or (pt_cmp (pc_isN (pv 2))) (pw_or1 (PW.pt (pw_and (pt_cmpR op_eq (pv 0) pe_str (nomark _)) (pw_and1 (pt_cmpR op_lt (pv 2) pe_int (nomark _)))))))) (pss_one ps_never) pss_nil)
    (pss_one (ps_ret (pv 2)))))), ?_⟩
    cases t with
    | w z =>
      refine q_when (b := true) (et_is (et_test (ev_op (ev_var rfl) ev_c (rv_eq rfl))) (by show decide (V.str ⟨#[87]⟩ = V.str (Str.ofString "W")) = true; decide +kernel)) (fun _ H1 e1 => ?_) (fun hb => by cases hb)
      refine q_when (b := false) (et_is (et_not (et_B (ev_call (ea_cons (ev_var rfl) ea_nil) (spv_word ok)))) rfl) (fun hb => by cases hb) (fun _ H2 e2 => ?_)
      exact s_ret (v := .str z) (ev_var rfl) fun H3 e3 => hQ H3 ((e1.trans e2).trans e3)
    | c i =>
      refine q_when (b := false) (et_is (et_test (ev_op (ev_var rfl) ev_c (rv_eq rfl))) (by show decide (V.str ⟨#[67]⟩ = V.str (Str.ofString "W")) = false; decide +kernel)) (fun hb => by cases hb) (fun _ H1 e1 => ?_)
      refine q_asg (v := .int i) (ev_call (ea_cons (ev_var rfl) ea_nil) fun H2 e2 Q q E => ⟨i, rfl, Nat.lt_of_lt_of_le ok p30, q⟩) fun H2 e2 => ?_
      refine q_when (b := false) (et_is (et_or (et_B (ev_isN (ev_var rfl))) (fun _ => et_is (a := false) (b := false) (et_and (a := false) (b := true) (et_is (et_test (ev_op (ev_var rfl) ev_c (rv_eq rfl))) (by show decide (V.str ⟨#[67]⟩ = V.str (Str.ofString "K")) = false; decide +kernel)) (fun hb => by cases hb)) rfl)) rfl) (fun hb => by cases hb) (fun _ H3 e3 => ?_)
      exact s_ret (v := .int i) (ev_var rfl) fun H4 e4 => hQ H4 ((e1.trans (e2.trans e3)).trans e4)
theorem walk_sl {z : Str} {b : Addr} {ys : List V} {n : Nat} (hn : n = min z.cps.size ys.length) : Walk (Itsl K z b) n (fun H => SqL K H b ys) (YPair (fun i => (z.cps[i]?).map fun c => .str ⟨#[c]⟩) (fun i => ys[i]?)) := by
  subst hn
  refine ⟨fun i _ hi q => ⟨ys, q, by omega, by omega⟩, fun _ q => ⟨ys, q, by omega, by omega⟩, fun i H v H' _ q y => ?_⟩
  obtain ⟨T, c, w, h1, h2, h3, h4, h5⟩ := y
  exact ⟨T, _, w, h1, h2, h3, by dsimp only; rw [h4]; rfl, h5 ys q⟩
theorem lr_zip {α β : Type} {σ : L2.St} {H : Hp} {z : Str} {ta : TA} {ys : List V} {ds : List α} (h : EvAR ta σ H (fun vs H2 => ∃ b, vs = [.str z, .ref b] ∧ H2 b = some (.lst ys))) (hz : z.cps.toList.length = ds.length) (hy : ys.length = ds.length) (hl : ds.length < 50000) {te : TE} {j k : Nat} {vs : List Nat} {RB : Hp → V → β → Prop} (S : Stay RB) (g : α → β)
    (turn : ∀ (i : Nat) (c : Nat) (y : V) (d : α), z.cps.toList[i]? = some c → ys[i]? = some y → ds[i]? = some d → EvR te (((wipe σ vs).set j (some (.str ⟨#[c]⟩))).set k (some y)) H (fun v H2 => RB H2 v (g d)))
    (hw : ∀ x y, wipe (((wipe σ vs).set j (some x)).set k (some y)) vs = wipe σ vs := by intro _ _; rfl) :
    EvLR (tLc (iZipSL K ta) (gTup K 2 (gCons (gName j) (gCons (gName k) gNil))) tYes te vs) σ H (fun ys H2 => Paired (RB H2) ys (ds.map g)) := fun H0 e Q q => h H0 e _ fun vs1 H1 e1 ⟨b, ev, hb⟩ =>
  ⟨z, b, ys, ev, SqL.of hb, fun Dl hD => lc_it (walk_sl (n := ds.length) (by have := str_len z; have : z.cps.size = z.cps.toList.length := Array.length_toList.symm; omega)) (fun i H' => LcInv H1 Dl RB (((ds.take i).filter fun _ => true).map g) H')
    ⟨hD, Ex.new hD, [], upd_same, by simpa using Paired.nil⟩ (fun _ _ _ p => SqL.of (p.2.1 _ _ hb)) (fun i x H' H2 hi p y => by
      obtain ⟨T, x1, y1, rfl, hT, rfl, hx1, hy1⟩ := y
      have hi2 : i < z.cps.toList.length := by omega
      have hc : z.cps.toList[i]? = some z.cps.toList[i] := List.getElem?_eq_getElem hi2
      have hx2 : x1 = .str ⟨#[z.cps.toList[i]]⟩ := by
        rw [Array.getElem?_toList] at hc
        dsimp only at hx1
        rw [hc] at hx1
        exact (Option.some.inj hx1).symm
      subst hx2
      have hd : ds[i]? = some ds[i] := List.getElem?_eq_getElem hi
      have t2 := turn i _ _ _ hc hy1 hd
      have ek : ds.take (i + 1) = ds.take i ++ [ds[i]] := by rw [List.take_add_one, hd]; rfl
      refine ⟨T, _, rfl, SqT.of upd_same, rfl, _, _, rfl, _, _, rfl, rfl, hw _ _, ?_⟩
      rw [ek]
      have p2 : LcInv H1 Dl RB (((ds.take i).filter fun _ => true).map g) (upd H' T (.tup [.str ⟨#[z.cps.toList[i]]⟩, y1])) := by
        obtain ⟨p1, p2, ys', p3, p4⟩ := p
        exact ⟨p1, p2.trans (Ex.new hT), ys', (Ex.new hT) _ _ p3, Paired.mono (fun v b r => S.up _ _ _ _ (Ex.new hT) r) p4⟩
      exact lc_turn (n := i) S.up S.lst (by rw [List.length_take]; omega) p2 (et_yes.mono (e.trans e1)) (fun _ => t2.mono (e.trans e1)))
    (fun H' p => by
      obtain ⟨p1, p2, ys', p3, p4⟩ := p
      rw [List.take_of_length_le (Nat.le_refl _), List.filter_eq_self.mpr fun _ _ => rfl] at p4
      exact q Dl ys' H' (fresh_back e1 hD) (e1.trans p2) p3 p4)⟩
structure Order where
  wd : Str
  ths : List Th
def Order.words (o : Order) : List Str := o.wd :: o.ths.map Th.tx
def Order.line (o : Order) : Str := Txt.join " " o.words
structure Order.Ok (o : Order) : Prop where
  form : ∃ f : Str, (o.wd, He.Dv.str f) ∈ kv_FORMS ∧ f.cps.toList = o.ths.map Th.sg
  ths : ∀ t ∈ o.ths, t.Ok
  nosp : 32 ∉ o.wd.cps.toList
  len : o.wd.length ≤ 10
  few : o.ths.length ≤ 4
  tie : o.wd = "tie" → ∃ n x y c, o.ths = [.w n, .w x, .w y, .c c] ∧ x ≠ y
theorem Th.nosp {t : Th} (h : t.Ok) : 32 ∉ t.tx.cps.toList := by
  cases t with
  | w z => exact fun hm => by have := h.2.2 32 hm; omega
  | c i =>
    intro hm
    rcases intS_sign hm with h | h <;> omega
theorem Th.len {t : Th} (h : t.Ok) : t.tx.length ≤ 31 := by
  cases t with
  | w z => exact Nat.le_trans h.2.1 (by decide)
  | c i => exact intS_len (k := 30) (by decide) h
theorem sum_le {l : List Nat} {m : Nat} (h : ∀ x ∈ l, x ≤ m) : l.sum ≤ l.length * m := by
  induction l with
  | nil => simp
  | cons x r ih =>
    rw [List.sum_cons, List.length_cons, Nat.add_mul, Nat.one_mul]
    have h1 := h x (by simp)
    have h2 := ih fun y hy => h y (List.mem_cons_of_mem _ hy)
    omega
theorem join_le {sep : Str} {ws : List Str} {m n : Nat} (h : ∀ w ∈ ws, w.length ≤ m) (hn : ws.length ≤ n) : (Txt.join sep ws).length ≤ n * (m + sep.length) := by
  have e : Txt.join sep ws = Str.join sep ws := StrLaws.glued_eq_join sep ws
  rw [e]
  refine Nat.le_trans (StrLaws.join_length_le sep ws) ?_
  have h1 : (ws.map (·.length)).sum ≤ (ws.map (·.length)).length * m := sum_le fun x hx => by
    obtain ⟨w, hw, rfl⟩ := List.mem_map.mp hx
    exact h w hw
  rw [List.length_map] at h1
  have h2 : ws.length * m + ws.length * sep.length = ws.length * (m + sep.length) := (Nat.mul_add _ _ _).symm
  have h3 : ws.length * (m + sep.length) ≤ n * (m + sep.length) := Nat.mul_le_mul_right _ hn
  omega
theorem Order.words_ok {o : Order} (h : o.Ok) : ∀ z ∈ o.words, 32 ∉ z.cps.toList ∧ z.length ≤ 31 := by
  intro z hz
  rcases List.mem_cons.mp hz with e | hz
  · subst e; exact ⟨h.nosp, Nat.le_trans h.len (by decide)⟩
  · obtain ⟨t, ht, rfl⟩ := List.mem_map.mp hz
    exact ⟨Th.nosp (h.ths t ht), Th.len (h.ths t ht)⟩
theorem Order.len_le {o : Order} (h : o.Ok) : o.line.length ≤ 200 := by
  refine Nat.le_trans (join_le (m := 31) (n := 5) (fun w hw => (o.words_ok h w hw).2) ?_) (by decide)
  show (o.ths.map Th.tx).length + 1 ≤ 5
  rw [List.length_map]
  have := h.few
  omega
theorem split_sp {ws : List Str} (hne : ws ≠ []) (h : ∀ z ∈ ws, 32 ∉ z.cps.toList) : Txt.split (Txt.join " " ws) " " = ws := TL.split_join (s := 32) (S := []) (by decide +kernel) (by decide +kernel) hne h
theorem el_split {σ : L2.St} {H : Hp} {ta tb : TE} {a b : Str} (ha : Ev ta σ H (.str a)) (hb : Ev tb σ H (.str b)) (h1 : (b.length == 0) = false) (h2 : a.length + 2 ≤ 100000) :
    EvL (tM1 (fun x xs H Q => ∃ a b, x = .str a ∧ xs = [.str b] ∧ (b.length == 0) = false ∧ a.length + 2 ≤ sizeLine ∧ rNewStrs (Txt.split a b) H Q) ta tb) σ H ((Txt.split a b).map V.str) := fun H1 e Q q =>
  ha H1 e _ fun H2 e2 => ⟨⟨a, rfl⟩, hb H2 (e.trans e2) _ fun H3 e3 => ⟨a, b, rfl, rfl, h1, sz_of h2, fun p hp => q p _ (fresh_back (e2.trans e3) hp) ((e2.trans e3).trans (Ex.new hp)) upd_same⟩⟩
theorem spr_thing {H : Hp} {t : Th} (ok : t.Ok) : SpR sp_thing_in [.str ⟨#[t.sg]⟩, .str t.tx] H (fun v _ => v = t.v) := fun Q q E => ⟨t, rfl, ok, fun H2 e => q _ H2 e rfl⟩
def sp_order_in : Sp := fun vs H Q _ => ∃ o : Order, vs = [.str o.line] ∧ o.Ok ∧ ∀ r th H2, Ex H H2 → H2 r = some (.tup [.str o.wd, .ref th]) → H2 th = some (.tup (o.ths.map Th.v)) → Q (.ref r) H2
theorem sc_order_in : FnScope ["line", "words", "form", "things", "sign", "word"] ["line"] (defScope s_order_in) := ⟨rfl, rfl, rfl, by decide +kernel, rfl, by decide +kernel, by decide +kernel⟩
theorem ok_order_in {f : Addr} {fd : FuncData} (F : FnP K "order_in" "order_in" s_order_in f fd) (T : Txt w K mg C_Groups C_Keeper C_Desk)
  {f_thing_in : Addr} {fd_thing_in : FuncData} (G_thing_in : Dk P w K mg base "thing_in" 2 ["sign", "word"] sp_thing_in f_thing_in fd_thing_in) : FnOk P w K mg base CX0 3 f fd ["line"] sp_order_in := by
  have sc := sc_order_in
  obtain ⟨dFORMS, esFORMS, nFORMS, hFORMS, kFORMS, vFORMS⟩ := T.k_FORMS
  refine F.ok sc (fun vs H Q E h => ?_) (fun cdv A outer s H vs Q E hr h => ?_)
  · obtain ⟨o, rfl, _⟩ := h; rfl
  · have hu := hu_of hr
    obtain ⟨o, rfl, ok, hQ⟩ := h
    obtain ⟨f, hf1, hf2⟩ := ok.form
    obtain ⟨u, hu1, hu2⟩ := He.valsB_ok vFORMS hf1
    have hsplit : Txt.split o.line " " = o.words := split_sp (List.cons_ne_nil _ _) fun z hz => (o.words_ok ok z hz).1
    have few := ok.few
    refine ⟨_, PSs.nox (pss_cons (ps_if (pt_not (pt_val (pe_callB call_isi (by rfl) T.b_isinstance (by decide +kernel) (pa_cons (pv 0) (pa_cons (pe_bltn (by rfl) T.b_str (by decide +kernel) (v := .ty "str") rfl) pa_nil))))) (pss_one ps_never) pss_nil)
    (pss_cons (ps_set (i := 1) sc.nd rfl (Or.inl rfl) (pe_split (pv 0) pe_str))
    (pss_cons (ps_set (i := 2) sc.nd rfl (Or.inl rfl) (pe_kget kFORMS hFORMS (by rfl) (pe_ix (ix_listK (K := K) rfl) (pv 1) pe_int (fun _ _ => rfl)) ⟨rfl, rfl, rfl, rfl⟩))
    (pss_cons (ps_if (PW.pt (pw_or (pt_cmp (pc_isN (pv 2))) (pw_or1 (pt_cmpR op_ne (pe_callB (call_len_seqK (K := K) rfl) (by rfl) T.b_len (by decide +kernel) (pa_cons (pv 1) pa_nil)) (pe_op op_add pe_int (pe_callB call_len_str (by rfl) T.b_len (by decide +kernel) (pa_cons (pv 2) pa_nil))) (nomark _))))) (pss_one ps_never) pss_nil)
    (pss_cons (ps_set (i := 3) sc.nd rfl (Or.inl rfl) (pe_callTy (call_tuple_ofK (K := K) rfl) (by rfl) T.b_tuple (by decide +kernel) (pa_cons (pe_lc (own := [("sign", 4), ("word", 5)]) (by rfl) sc.nd (pi_zipSL (by rfl) T.b_zip (pa_cons (pv 2) (pa_cons (pe_slice (sl_listK (K := K) rfl) (pv 1) (po_some pe_int) po_none) pa_nil))) (blkOk_by (N := ["line", "words", "form", "things", "sign", "word"]) (sc := defScope s_order_in) (own := [("sign", 4), ("word", 5)]) (by decide +kernel)) (fun _ _ _ _ _ => (pg_tupK (K := K) (n := 2) rfl rfl (pgs_cons (pg_name (i := 4) sc.nd rfl (Or.inl rfl)) (pgs_cons (pg_name (i := 5) sc.nd rfl (Or.inl rfl)) pgs_nil)))) (fun _ _ _ _ _ => pts_nil) (fun _ _ _ _ _ => (pe_call G_thing_in.ok (hr.mono (by decide)) (by rfl) G_thing_in.mgf G_thing_in.kp G_thing_in.b .nil pass0 (pa_cons (pv 4) (pa_cons (pv 5) pa_nil))))) pa_nil)))
    (pss_cons (ps_if (PW.pt (pw_and (pt_cmpR op_eq (pe_ix (ix_listK (K := K) rfl) (pv 1) pe_int (fun _ _ => rfl)) pe_str (nomark _)) (pw_and1 (pt_cmpR op_eq (pe_ix (ix_tupK (K := K) rfl) (pv 3) pe_int (fun _ _ => rfl)) (pe_ix (ix_tupK (K := K) rfl) (pv 3) pe_int (fun _ _ => rfl)) (nomark _))))) (pss_one ps_never) pss_nil)
    (pss_one (ps_ret (pe_tup (pa_cons (pe_ix (ix_listK (K := K) rfl) (pv 1) pe_int (fun _ _ => rfl)) (pa_cons (pv 3) pa_nil))))))))))), ?_⟩
    refine q_when (b := false) (et_is (et_not (et_B (ev_isi (ev_var rfl) (fun H1 e => .base (.str _)) (r := true) (by decide +kernel)))) rfl) (fun hb => by cases hb) (fun _ H1 e1 => ?_)
    refine q_asgL (el_split (ev_var rfl) ev_c (by decide +kernel) (by have := o.len_le ok; omega)) fun l H2 hl e2 h2 => ?_
    rw [hsplit] at h2
    refine q_asg (v := .str f) (ev_kget (z := o.wd) (ev_op (ev_var rfl) ev_c (rv_ixL (SqL.of h2) (atI_nat (j := 0) rfl))) hu1 hu2) fun H3 e3 => ?_
    have wl : o.words.length = o.ths.length + 1 := by show (o.ths.map Th.tx).length + 1 = _; rw [List.length_map]
    have fl : f.length = o.ths.length := by rw [← str_len, hf2, List.length_map]
    refine q_when (b := false) (et_is (et_or (et_B (ev_isN (ev_var rfl))) (fun _ => et_test (ev_op (ev_lenL (ev_var rfl) (SqL.of (e3 _ _ h2))) (ev_op ev_c (ev_cb (z := .int (f.length : Int)) (ea_cons (ev_var rfl) ea_nil) ?_) rv_I0) (rv_ne rfl)))) ?_) (fun hb => by cases hb) (fun _ H4 e4 => ?_)
    · exact fun H5 e5 Q q => ⟨f, rfl, sz_of (by omega), q H5 (Ex.refl H5)⟩
    · rw [List.length_map, wl, fl]
      have e1 : decide (V.str f = V.non) = false := rfl
      have e2 : (((o.ths.length + 1 : Nat) : Int)) = 1 + (o.ths.length : Int) := by omega
      rw [e1, e2]
      simp
    have h4 := (e3.trans e4) _ _ h2
    refine r_asgU (ur_tuple ((lr_zip (K := K) (z := f) (ys := (o.ths.map Th.tx).map V.str) (ds := o.ths) (RB := fun _ v (t : Th) => v = t.v) (fun H5 e5 Q q => ?_) (by rw [hf2, List.length_map]) (by rw [List.length_map, List.length_map]) (by omega) Stay.val id (fun i c y d hc hy hd => ?_)).imp (PL' := fun ys _ => ys = o.ths.map Th.v) fun ys H5 _ hy => ?_)) fun th ys H5 hth e5 h5 hy => ?_
    · refine (ar_cons (P := fun v _ => v = .str f) (fun _ _ _ _ h => h) (er_var rfl) (ar_cons (P := fun v H2 => ∃ b, v = .ref b ∧ H2 b = some (.lst ((o.ths.map Th.tx).map V.str))) (fun v H H' e ⟨b, h, g⟩ => ⟨b, h, e _ _ g⟩) (fun H6 e6 Q q => el_sl (ev_var rfl) (eo_some ev_c) eo_none (SqL.of h4) H6 e6 Q fun p H7 _ e7 h7 => q _ H7 e7 ⟨p, rfl, ?_⟩) ar_nil)) H5 e5 Q fun vs H6 e6 ⟨v, r, e1, e2, v2, r2, e3, ⟨b, e4, hb⟩, e5⟩ => q vs H6 e6 ⟨b, by rw [e1, e2, e3, e4, e5], hb⟩
      have hcut : cutV (o.words.map V.str) (some 1) none = (o.ths.map Th.tx).map V.str := by
        unfold cutV
        have e1 : HT.sIx (o.words.map V.str).length 0 (some 1) = min 1 (o.words.map V.str).length := sIx_at _ _ 1
        have e2 : HT.sIx (o.words.map V.str).length (o.words.map V.str).length none = (o.words.map V.str).length := rfl
        rw [e1, e2, List.length_map, wl, Nat.min_eq_left (by omega)]
        show List.take _ ((o.ths.map Th.tx).map V.str) = _
        exact List.take_of_length_le (by rw [List.length_map, List.length_map]; omega)
      rw [hcut] at h7
      exact h7
    · have ec : c = d.sg := by
        rw [hf2, List.getElem?_map, hd] at hc
        exact (Option.some.inj hc).symm
      have ey : y = .str d.tx := by
        rw [List.getElem?_map, List.getElem?_map, hd] at hy
        exact (Option.some.inj hy).symm
      subst ec ey
      exact er_call0 (ea_cons (ev_var rfl) (ea_cons (ev_var rfl) ea_nil)) fun H2 e2 => spr_thing (ok.ths d (List.mem_of_getElem? hd))
    · rw [List.map_id] at hy
      exact Paired.vals hy
    · obtain ⟨H6, _, _, hy⟩ := hy
      subst hy
      have h5w := e5 _ _ h4
      have w0 : ∀ {σ : L2.St} {H' : Hp}, Ex H5 H' → σ[1]? = some (some (.ref l)) → Ev (tOp (rIxL K) (tVar 1) (tC (.int 0))) σ H' (.str o.wd) := fun e h => ev_op (ev_var h) ev_c (rv_ixL (SqL.of (e _ _ h5w)) (atI_nat (j := 0) rfl))
      refine q_when (b := false) (et_is (et_and (b := false) (et_test (ev_op (w0 (Ex.refl _) rfl) ev_c (rv_eq rfl))) (fun hb => ?_)) ?_) (fun hb => by cases hb) (fun _ H7 e7 => ?_)
      · rw [dec_str] at hb
        obtain ⟨n, x, y, c, hths, hxy⟩ := ok.tie (of_decide_eq_true hb)
        rw [hths] at h5
        refine et_is (et_test (ev_op (ev_ixT (v := .str x) (ev_var rfl) h5 rfl) (ev_ixT (v := .str y) (ev_var rfl) h5 rfl) (rv_eq rfl))) ?_
        rw [dec_str]; exact decide_eq_false hxy
      · exact Bool.and_false _
      · refine s_retU (eu_tup (ea_cons (w0 e7 rfl) (ea_cons (ev_var rfl) ea_nil)) (by show 2 ≤ 100000; decide)) fun r H8 _ e8 h8 => hQ r th H8 ((((e1.trans e2).trans (e3.trans e4)).trans (e5.trans e7)).trans e8) h8 ((e7.trans e8) _ _ h5)
end
end Ct
end

section
set_option Elab.async false
set_option linter.all false
set_option maxRecDepth 100000
set_option maxHeartbeats 4000000
namespace Ct
open PySem PySem.Spec PyProof.Rows L2 Evl
section
variable {P : Program} {w : World} {K : PySem.W.Frag} {mg : Str → Option Value} {base : Heap} {C_Groups C_Keeper C_Desk : Addr}
structure NetW (N : Net) : Prop where
  ps : ∀ p ∈ N.ps, WordOk p
  n : ∀ t ∈ N.ts, WordOk t.n
  a : ∀ t ∈ N.ts, WordOk t.a
  b : ∀ t ∈ N.ts, WordOk t.b
  c : ∀ t ∈ N.ts, t.c.natAbs < 10 ^ 30
theorem ev_join {σ : L2.St} {H : Hp} {te : TE} {a : Str} {ys : List Str} (h : EvL te σ H (ys.map V.str)) (hl : (ys.map (·.length)).sum + ys.length * a.length ≤ 16777216) : Ev (tM1 (rJoin K) (tC (.str a)) te) σ H (.str (Txt.join a ys)) := fun H1 e Q q =>
  ⟨⟨a, rfl⟩, h H1 e _ fun p H2 _ e2 h2 => ⟨a, p, ys, rfl, rfl, .inl (SqL.of h2), hl, q H2 e2⟩⟩
theorem join_ok {ys : List Str} {m n k : Nat} (h : ∀ w ∈ ys, w.length ≤ m) (hn : ys.length ≤ n) (hb : n * (m + k) ≤ 16777216) : (ys.map (·.length)).sum + ys.length * k ≤ 16777216 := by
  have h1 : (ys.map (·.length)).sum ≤ (ys.map (·.length)).length * m := sum_le fun x hx => by
    obtain ⟨w, hw, rfl⟩ := List.mem_map.mp hx
    exact h w hw
  rw [List.length_map] at h1
  have h2 : ys.length * m + ys.length * k = ys.length * (m + k) := (Nat.mul_add _ _ _).symm
  have h3 : ys.length * (m + k) ≤ n * (m + k) := Nat.mul_le_mul_right _ hn
  omega
def exText (g c : List Str) : Str := Txt.join " " (([("gone" : Str)] ++ g ++ [("come" : Str)]) ++ c)
def sp_exchange_text : Sp := fun vs H Q _ => ∃ r g c, vs = [.ref r] ∧ PairAt H r g c ∧ (∀ z ∈ g ++ c, z.length ≤ 8) ∧ g.length + c.length ≤ 200 ∧ ∀ H2, Ex H H2 → Q (.str (exText g c)) H2
theorem sc_exchange_text : FnScope ["pair", "gone", "come"] ["pair"] (defScope s_exchange_text) := ⟨rfl, rfl, rfl, by decide +kernel, rfl, by decide +kernel, by decide +kernel⟩
theorem ok_exchange_text {f : Addr} {fd : FuncData} (F : FnP K "exchange_text" "exchange_text" s_exchange_text f fd) (T : Txt w K mg C_Groups C_Keeper C_Desk)
   : FnOk P w K mg base CX0 1 f fd ["pair"] sp_exchange_text := by
  have sc := sc_exchange_text

  refine F.ok sc (fun vs H Q E h => ?_) (fun cdv A outer s H vs Q E hr h => ?_)
  · obtain ⟨r, g, c, rfl, _⟩ := h; rfl
  · have hu := hu_of hr
    obtain ⟨r, g, c, rfl, ⟨x, y, h1, h2, h3⟩, hw, hl, hQ⟩ := h
    refine ⟨_, PSs.nox (pss_cons (ps_asg (pv 0) (pg_tupK (K := K) (n := 2) rfl rfl (pgs_cons (pg_name (i := 1) sc.nd rfl (Or.inl rfl)) (pgs_cons (pg_name (i := 2) sc.nd rfl (Or.inl rfl)) pgs_nil))))
    (pss_one (ps_ret (pe_joinK (K := K) rfl pe_str (pe_op op_cat (pe_op op_cat (pe_op op_cat (pe_lst (pa_cons pe_str pa_nil)) (pe_callTy (call_list_ofK (K := K) rfl) (by rfl) T.b_list (by decide +kernel) (pa_cons (pv 1) pa_nil))) (pe_lst (pa_cons pe_str pa_nil))) (pe_callTy (call_list_ofK (K := K) rfl) (by rfl) T.b_list (by decide +kernel) (pa_cons (pv 2) pa_nil))))))), ?_⟩
    refine r_asg2 (x := .ref x) (y := .ref y) (EvR.of' (ev_var rfl) fun H2 e => ⟨r, rfl, e _ _ h1⟩) fun H2 e2 => ?_
    refine s_ret (v := .str (exText g c)) (ev_join (ys := ([("gone" : Str)] ++ g ++ [("come" : Str)]) ++ c) ?_ (join_ok (m := 8) (n := 202) ?_ ?_ (by decide +kernel))) fun H3 e3 => hQ H3 (e2.trans e3)
    · rw [List.map_append, List.map_append, List.map_append]
      refine el_cat (el_cat (el_cat (el_lst (ea_cons ev_c ea_nil) (by show 1 ≤ 100000; decide)) (el_listT (ev_var rfl) (e2 _ _ h2)) ?_) (el_lst (ea_cons ev_c ea_nil) (by show 1 ≤ 100000; decide)) ?_) (el_listT (ev_var rfl) (e2 _ _ h3)) ?_
      · simp only [List.length_append, List.length_map, List.length_singleton]; omega
      · simp only [List.length_append, List.length_map, List.length_singleton]; omega
      · simp only [List.length_append, List.length_map, List.length_singleton]; omega
    · intro z hz
      simp only [List.mem_append, List.mem_singleton] at hz
      rcases hz with ((rfl | hz) | rfl) | hz
      · decide +kernel
      · exact hw z (List.mem_append_left _ hz)
      · decide +kernel
      · exact hw z (List.mem_append_right _ hz)
    · simp only [List.length_append, List.length_singleton]; omega
def Mar.text (z : Str) : Mar → List Str
  | .waits => ["waits"]
  | .comes o => ["comes", intS (costW z o), o.n]
  | .staysN => ["stays"]
  | .stays o => ["stays", intS (costW z o), o.n]
def txV : V → Str
  | .str z => z
  | .int i => intS i
  | _ => ""
theorem Mar.text_eq (z : Str) (m : Mar) : ((m.row z).filter fun v => !decide (v = .non)).map txV = m.text z := by cases m <;> rfl
theorem ev_notN {σ : L2.St} {H : Hp} {te : TE} {v : V} (h : Ev te σ H v) : Ev (tNotN te) σ H (.bl (!decide (v = .non))) := fun H1 e Q q => h H1 e _ fun H2 e2 => q H2 e2
def rStrA : List V → Hp → VK → Prop := fun xs H Q => (∃ z, xs = [.str z] ∧ Q (.str z) H) ∨ ∃ i, xs = [.int i] ∧ i.natAbs.log2 < 1920 ∧ Q (.str (toString i)) H
theorem costW_bound {z : Str} {o : Tie} (h : o.c.natAbs < 10 ^ 30) : (costW z o).natAbs < 10 ^ 31 := by
  unfold costW
  split
  · omega
  · omega
theorem mar_tie {N : Net} {t : Tie} {m : Mar} (nw : NetW N) (hW : WaysOk N) (hg : getT N.ts t.n = some t) (h : MarOk N t m) : (∀ o, m = .comes o → o ∈ N.ts) ∧ ∀ o, m = .stays o → o ∈ N.ts := by
  constructor
  · rintro o rfl
    obtain ⟨h1, h2, pw, h3, h4, _⟩ := h
    obtain ⟨pw', _, _, g1, g2⟩ := hW t (List.mem_filter.mpr ⟨getT_mem hg, h1⟩) h2
    rw [h3] at g2; cases g2
    exact getT_mem (g1 o h4)
  · rintro o rfl
    exact (List.mem_filter.mp (List.mem_filter.mp h.2.2.1).1).1
def sp_margin_text : Sp := fun vs H Q _ => ∃ a N t, vs = [.ref a, .str t.n] ∧ NetAt H a N ∧ NetOk N ∧ NetW N ∧ getT N.ts t.n = some t ∧ WaysOk N ∧
  ∀ m H2, Ex H H2 → MarOk N t m → Q (.str (Txt.join " " (m.text t.n))) H2
theorem sc_margin_text : FnScope ["net", "name", "told", "part"] ["net", "name"] (defScope s_margin_text) := ⟨rfl, rfl, rfl, by decide +kernel, rfl, by decide +kernel, by decide +kernel⟩
theorem ok_margin_text {f : Addr} {fd : FuncData} (F : FnP K "margin_text" "margin_text" s_margin_text f fd) (T : Txt w K mg C_Groups C_Keeper C_Desk)
  {f_margin : Addr} {fd_margin : FuncData} (G_margin : Dk P w K mg base "margin" 6 ["net", "name"] sp_margin f_margin fd_margin) : FnOk P w K mg base CX0 7 f fd ["net", "name"] sp_margin_text := by
  have sc := sc_margin_text

  refine F.ok sc (fun vs H Q E h => ?_) (fun cdv A outer s H vs Q E hr h => ?_)
  · obtain ⟨a, N, t, rfl, _⟩ := h; rfl
  · have hu := hu_of hr
    obtain ⟨a, N, t, rfl, hN, nok, nw, hg, hW, hQ⟩ := h
    refine ⟨_, PSs.nox (pss_cons (ps_try_thru0 (pss_one (ps_set (i := 2) sc.nd rfl (Or.inl rfl) (pe_call G_margin.ok (hr.mono (by decide)) (by rfl) G_margin.mgf G_margin.kp G_margin.b .nil pass0 (pa_cons (pv 0) (pa_cons (pv 1) pa_nil))))))
    (pss_one (ps_ret (pe_joinK (K := K) rfl pe_str (pe_lc (own := [("part", 3)]) (by rfl) sc.nd (pi_tupK (K := K) rfl (pv 2)) (blkOk_by (N := ["net", "name", "told", "part"]) (sc := defScope s_margin_text) (own := [("part", 3)]) (by decide +kernel)) (fun _ _ _ _ _ => (pg_name (i := 3) sc.nd rfl (Or.inl rfl))) (fun _ _ _ _ _ => (pts_one (pt_cmp (pc_notN (pv 3))))) (fun _ _ _ _ _ => (pe_callTy call_strA (by rfl) T.b_str (by decide +kernel) (pa_cons (pv 3) pa_nil)))))))), ?_⟩
    refine r_asg (P := fun v H2 => ∃ m b, v = .ref b ∧ MarOk N t m ∧ H2 b = some (.tup (m.row t.n))) (er_call0 (ea_cons (ev_var rfl) (ea_cons (ev_var rfl) ea_nil)) fun H2 e2 Q q E => ⟨a, N, t, rfl, hN.mono (Tups.ofEx e2), nok, hg, hW, fun m b H3 e3 h1 h2 => q _ H3 e3 ⟨m, b, rfl, h1, h2⟩⟩) fun v H1 e1 ⟨m, b, ev, hm, hb⟩ => ?_
    subst ev
    obtain ⟨m1, m2⟩ := mar_tie nw hW hg hm
    have fine : ∀ v ∈ m.row t.n, v = .non ∨ (∃ z, v = .str z ∧ z.length ≤ 32) ∨ ∃ i : Int, v = .int i ∧ i.natAbs < 10 ^ 31 := by
      cases m with
      | waits => intro v hv; rw [List.mem_singleton.mp hv]; exact .inr (.inl ⟨_, rfl, by decide +kernel⟩)
      | comes o =>
        have ho := m1 o rfl
        have h1 := (nw.n o ho).2.1
        simp only [Mar.row, List.mem_cons, List.not_mem_nil, or_false]
        rintro v (rfl | rfl | rfl)
        · exact .inr (.inl ⟨_, rfl, by decide +kernel⟩)
        · exact .inr (.inr ⟨_, rfl, costW_bound (nw.c o ho)⟩)
        · exact .inr (.inl ⟨_, rfl, by omega⟩)
      | staysN =>
        simp only [Mar.row, List.mem_cons, List.not_mem_nil, or_false]
        rintro v (rfl | rfl | rfl)
        · exact .inr (.inl ⟨_, rfl, by decide +kernel⟩)
        · exact .inl rfl
        · exact .inl rfl
      | stays o =>
        have ho := m2 o rfl
        have h1 := (nw.n o ho).2.1
        simp only [Mar.row, List.mem_cons, List.not_mem_nil, or_false]
        rintro v (rfl | rfl | rfl)
        · exact .inr (.inl ⟨_, rfl, by decide +kernel⟩)
        · exact .inr (.inr ⟨_, rfl, costW_bound (nw.c o ho)⟩)
        · exact .inr (.inl ⟨_, rfl, by omega⟩)
    have rl : (m.row t.n).length ≤ 3 := by cases m <;> simp [Mar.row]
    refine s_ret (v := .str (Txt.join " " (m.text t.n))) (ev_join (ys := m.text t.n) (EvLR.el ((lr_tup (RB := fun _ v (z : Str) => v = .str z) (ds := m.row t.n) (ev_var rfl) (SqT.of hb) rfl (by omega) Stay.val (fun v => !decide (v = .non)) txV (fun i x d hx hd => ?_)).imp fun ys H2 _ hy => ?_)) (join_ok (m := 32) (n := 3) ?_ ?_ (by decide +kernel))) fun H3 e3 => hQ m H3 (e1.trans e3) hm
    · rw [hx] at hd; cases hd
      refine ⟨et_B (ev_notN (ev_var rfl)), fun hf => ?_⟩
      rcases fine x (List.mem_of_getElem? hx) with rfl | ⟨z, rfl, _⟩ | ⟨i, rfl, hi⟩
      · cases hf
      · exact EvR.of (ev_cb (ea_cons (ev_var rfl) ea_nil) fun H5 e5 Q q => .inl ⟨z, rfl, q H5 (Ex.refl H5)⟩)
      · exact EvR.of (ev_cb (ea_cons (ev_var rfl) ea_nil) fun H5 e5 Q q => .inr ⟨i, rfl, log2_lt (Nat.lt_of_lt_of_le hi (Nat.pow_le_pow_right (by decide) (by decide))), q H5 (Ex.refl H5)⟩)
    · rw [Mar.text_eq] at hy; exact Paired.vals hy
    · intro z hz
      rw [← Mar.text_eq] at hz
      obtain ⟨v, hv, rfl⟩ := List.mem_map.mp hz
      rcases fine v (List.mem_filter.mp hv).1 with rfl | ⟨z, rfl, h⟩ | ⟨i, rfl, hi⟩
      · exact Nat.zero_le _
      · exact h
      · exact intS_len (k := 31) (by decide) hi
    · rw [← Mar.text_eq, List.length_map]
      exact Nat.le_trans (List.length_filter_le _ _) rl
def rowP (p : Str) : Str := Str.ofString "place " ++ p
def rowW (t : Tie) : List Str := ["tie", t.n, t.a, t.b, intS t.c]
def rowT (t : Tie) : Str := Txt.join " " (rowW t)
def netRows (N : Net) : List Str := N.ps.map rowP ++ N.ts.map rowT
theorem app_len (x y : Str) : (x ++ y).length = x.length + y.length := by
  rw [← str_len, ← str_len, ← str_len]
  show ((x.cps ++ y.cps).toList).length = _
  rw [Array.toList_append, List.length_append]
theorem rowP_len {p : Str} (h : WordOk p) : (rowP p).length ≤ 14 := by
  unfold rowP
  have h1 := h.2.1
  have h2 : (Str.ofString "place ").length = 6 := by decide +kernel
  rw [app_len, h2]; omega
theorem rowW_len {N : Net} (nw : NetW N) {t : Tie} (h : t ∈ N.ts) : ∀ z ∈ rowW t, z.length ≤ 31 := by
  have h1 := (nw.n t h).2.1
  have h2 := (nw.a t h).2.1
  have h3 := (nw.b t h).2.1
  have h4 := intS_len (k := 30) (by decide) (nw.c t h)
  simp only [rowW, List.mem_cons, List.not_mem_nil, or_false]
  rintro z (rfl | rfl | rfl | rfl | rfl)
  · decide +kernel
  · omega
  · omega
  · omega
  · omega
theorem rowT_len {N : Net} (nw : NetW N) {t : Tie} (h : t ∈ N.ts) : (rowT t).length ≤ 160 := by
  refine Nat.le_trans (join_le (m := 31) (n := 5) (rowW_len nw h) (Nat.le_refl _)) (by decide +kernel)
theorem netRows_len {N : Net} (nw : NetW N) : ∀ z ∈ netRows N, z.length ≤ 160 := by
  intro z hz
  rcases List.mem_append.mp hz with hz | hz
  · obtain ⟨p, hp, rfl⟩ := List.mem_map.mp hz
    exact Nat.le_trans (rowP_len (nw.ps p hp)) (by decide)
  · obtain ⟨t, ht, rfl⟩ := List.mem_map.mp hz
    exact rowT_len nw ht
def sp_net_text : Sp := fun vs H Q _ => ∃ a N, vs = [.ref a] ∧ NetAt H a N ∧ NetOk N ∧ NetW N ∧ ∀ H2, Ex H H2 → Q (.str (Txt.join ⟨#[10]⟩ (netRows N))) H2
theorem sc_net_text : FnScope ["net", "rows", "place", "name", "one", "other", "cost"] ["net"] (defScope s_net_text) := ⟨rfl, rfl, rfl, by decide +kernel, rfl, by decide +kernel, by decide +kernel⟩
theorem ok_net_text {f : Addr} {fd : FuncData} (F : FnP K "net_text" "net_text" s_net_text f fd) (T : Txt w K mg C_Groups C_Keeper C_Desk)
   : FnOk P w K mg base CX0 1 f fd ["net"] sp_net_text := by
  have sc := sc_net_text

  refine F.ok sc (fun vs H Q E h => ?_) (fun cdv A outer s H vs Q E hr h => ?_)
  · obtain ⟨a, N, rfl, _⟩ := h; rfl
  · have hu := hu_of hr
    obtain ⟨a, N, rfl, hN, nok, nw, hQ⟩ := h
    obtain ⟨p, q, h1, hp, ps, hq, hts⟩ := id hN
    have pl := nok.pl
    have tl := nok.tl
    refine ⟨_, PSs.nox (pss_cons (ps_setLc (i := 1) (own := [("place", 2)]) rfl sc.nd rfl rfl (sw_true rfl rfl rfl (by decide +kernel)) (pi_tupK (K := K) rfl (pe_ix (ix_tupK (K := K) rfl) (pv 0) pe_int (fun _ _ => rfl))) (blkOk_by (N := ["net", "rows", "place", "name", "one", "other", "cost"]) (sc := defScope s_net_text) (own := [("place", 2)]) (by decide +kernel)) (fun _ _ _ _ _ => (pg_name (i := 2) sc.nd rfl (Or.inl rfl))) (fun _ _ _ _ _ => pts_nil) (fun _ _ _ _ _ => (pe_op op_add_str pe_str (pv 2))))
    (pss_cons (ps_for PassesOwn.never rfl (pi_tupK (K := K) rfl (pe_ix (ix_tupK (K := K) rfl) (pv 0) pe_int (fun _ _ => rfl))) (pg_tupK (K := K) (n := 4) rfl rfl (pgs_cons (pg_name (i := 3) sc.nd rfl (Or.inl rfl)) (pgs_cons (pg_name (i := 4) sc.nd rfl (Or.inl rfl)) (pgs_cons (pg_name (i := 5) sc.nd rfl (Or.inl rfl)) (pgs_cons (pg_name (i := 6) sc.nd rfl (Or.inl rfl)) pgs_nil))))) (pss_one (ps_expr (pe_bm PySem.F.plainAttrs_list PySem.F.slot_list_append PySem.F.type_list_append mt_append (pv 1) (pa_cons (pe_joinK (K := K) rfl pe_str (pe_lst (pa_cons pe_str (pa_cons (pv 3) (pa_cons (pv 4) (pa_cons (pv 5) (pa_cons (pe_callTy call_str_int (by rfl) T.b_str (by decide +kernel) (pa_cons (pv 6) pa_nil)) pa_nil))))))) pa_nil)))))
    (pss_one (ps_ret (pe_joinK (K := K) rfl pe_str (pv 1)))))), ?_⟩
    refine q_asgL (xs := (N.ps.map rowP).map V.str) (EvLR.el ((lr_tup (RB := fun _ v (z : Str) => v = .str z) (ds := N.ps) (ev_op (ev_var rfl) ev_c (rv_ixT (SqT.of h1) rfl)) (SqT.of hp) (by rw [List.length_map]) (by omega) Stay.val (fun _ => true) rowP (fun i x d hx hd => ?_)).imp fun ys H2 _ hy => ?_)) fun l H1 hl e1 hl1 => ?_
    · have ex : x = .str d := by
        rw [List.getElem?_map, hd] at hx
        exact (Option.some.inj hx).symm
      subst ex
      refine ⟨et_yes, fun _ => EvR.of (ev_op ev_c (ev_var rfl) (rv_val fun H5 e5 Q q => ⟨_, _, rfl, rfl, sz_of ?_, q⟩))⟩
      have h1 := (nw.ps d (List.mem_of_getElem? hd)).2.1
      have h2 : (Str.ofString "place ").length = 6 := by decide +kernel
      omega
    · rw [List.filter_eq_self.mpr fun _ _ => rfl] at hy; exact Paired.vals hy
    · have hl0 : H l = none := hl
      refine q_forT (K := K) (ev_op (ev_var rfl) ev_c (rv_ixT (SqT.of (e1 _ _ h1)) rfl)) (SqT.of (e1 _ _ hq)) (fun i σ' H' => ∃ v2 v3 v4 v5 v6, σ' = [some (.ref a), some (.ref l), v2, v3, v4, v5, v6] ∧ Ex H H' ∧ H' l = some (.lst ((N.ps.map rowP ++ (N.ts.take i).map rowT).map V.str))) ?_ ?_ ?_ ?_
      · intro H2 e2
        refine ⟨_, _, _, _, _, rfl, e1.trans e2, ?_⟩
        rw [e2 _ _ hl1, List.take_zero, List.map_nil, List.append_nil]
      · rintro i σ' H' _ ⟨_, _, _, _, _, _, ex, _⟩
        exact SqT.of (ex _ _ hq)
      · rintro i x σ' H' hi ⟨v2, v3, v4, v5, v6, rfl, ex, hl'⟩
        have hi' : i < N.ts.length := by
          rw [← ties_len hts]; exact (List.getElem?_eq_some_iff.mp hi).1
        have hd : N.ts[i]? = some N.ts[i] := List.getElem?_eq_getElem hi'
        obtain ⟨pt, rfl, ht0⟩ := ties_get hts hi hd
        have ht : TieAt H' pt N.ts[i] := ex _ _ ht0
        have hm : N.ts[i] ∈ N.ts := List.getElem_mem hi'
        refine ⟨pt, _, rfl, SqT.of ht, rfl, _, _, rfl, _, _, rfl, _, _, rfl, _, _, rfl, rfl, ?_⟩
        refine s_app (xs := (N.ps.map rowP ++ (N.ts.take i).map rowT).map V.str) hl' (ev_var rfl) (v := .str (rowT N.ts[i])) (ev_join (ys := rowW N.ts[i]) (el_lst (ea_cons ev_c (ea_cons (ev_var rfl) (ea_cons (ev_var rfl) (ea_cons (ev_var rfl) (ea_cons (ev_cb (ea_cons (ev_var rfl) ea_nil) fun H5 e5 Q q => ⟨_, rfl, log2_lt (Nat.lt_of_lt_of_le (nw.c _ hm) p30), q H5 (Ex.refl H5)⟩) ea_nil))))) (by show 5 ≤ 100000; decide)) (join_ok (m := 31) (n := 5) (rowW_len nw hm) (Nat.le_refl _) (by decide +kernel))) ?_ fun H2 e2 => ?_
        · rw [List.length_map, List.length_append, List.length_map, List.length_map, List.length_take]; omega
        · refine ⟨_, _, _, _, _, rfl, Ex.mut (ex.trans e2) hl0, ?_⟩
          rw [upd_same, List.take_add_one, hd]
          generalize N.ts.take i = T
          generalize N.ts[i] = u
          show _ = some (HO.lst ((N.ps.map rowP ++ (T ++ [u]).map rowT).map V.str))
          rw [List.map_append (f := rowT), ← List.append_assoc, List.map_append (l₂ := [u].map rowT)]
          rfl
      · rintro σ' H' ⟨v2, v3, v4, v5, v6, rfl, ex, hl'⟩
        have e0 : N.ts.take (ps.map V.ref).length = N.ts := List.take_of_length_le (by rw [ties_len hts]; exact Nat.le_refl _)
        rw [e0] at hl'
        refine s_ret (v := .str (Txt.join ⟨#[10]⟩ (netRows N))) (fun H1 e Q q => ?_) fun H2 e2 => hQ H2 (ex.trans e2)
        refine ⟨⟨_, rfl⟩, _, rfl, ⟨#[10]⟩, l, netRows N, rfl, rfl, .inl (SqL.of (e _ _ hl')), join_ok (m := 160) (n := 120) (netRows_len nw) ?_ (by decide +kernel), q H1 (Ex.refl H1)⟩
        unfold netRows
        rw [List.length_append, List.length_map, List.length_map]; omega
end
end Ct
end

section
set_option Elab.async false
set_option linter.all false
set_option maxRecDepth 100000
set_option maxHeartbeats 4000000
namespace Ct
open PySem PySem.Spec PyProof.Rows L2 Evl
section
variable {P : Program} {w : World} {K : PySem.W.Frag} {mg : Str → Option Value} {base : Heap} {C_Groups C_Keeper C_Desk : Addr}
theorem q_asgM {σ : L2.St} {H : Hp} {D : Ends} {tz : TS} {C a dx : Addr} {m : Str} {sp : Sp} {dvs vs : List V} {E : XK} {ta : TE} {t : TA} {fs : List (Str × V)} {i : Nat} (ha : Ev ta σ H (.ref a)) (ho : H a = some (.ins C dx fs)) (hl : fs.lookup m = none) (ht : EvA t σ H vs)
    (k : ∀ H1, Ex H H1 → sp (.ref a :: (vs ++ dvs)) H1 (fun v H2 => tz D (σ.set i (some v)) H2) E) : tSeq (tAsg (tMeth C m sp dvs E ta t) (gName i)) tz D σ H :=
  ha H (Ex.refl H) _ fun H1 e1 => ⟨a, dx, fs, rfl, e1 _ _ ho, hl, ht H1 e1 _ fun H2 e2 => k H2 (e1.trans e2)⟩
theorem s_retM {σ : L2.St} {H : Hp} {D : Ends} {C a dx : Addr} {m : Str} {sp : Sp} {dvs vs : List V} {E : XK} {ta : TE} {t : TA} {fs : List (Str × V)} (ha : Ev ta σ H (.ref a)) (ho : H a = some (.ins C dx fs)) (hl : fs.lookup m = none) (ht : EvA t σ H vs)
    (k : ∀ H1, Ex H H1 → sp (.ref a :: (vs ++ dvs)) H1 D.rt E) : tRet (tMeth C m sp dvs E ta t) D σ H :=
  ha H (Ex.refl H) _ fun H1 e1 => ⟨a, dx, fs, rfl, e1 _ _ ho, hl, ht H1 e1 _ fun H2 e2 => k H2 (e1.trans e2)⟩
theorem er_meth {σ : L2.St} {H : Hp} {C a dx : Addr} {m : Str} {sp : Sp} {dvs vs : List V} {E : XK} {ta : TE} {t : TA} {fs : List (Str × V)} {P : V → Hp → Prop} (ha : Ev ta σ H (.ref a)) (ho : H a = some (.ins C dx fs)) (hl : fs.lookup m = none) (ht : EvA t σ H vs)
    (k : ∀ H1, Ex H H1 → SpR sp (.ref a :: (vs ++ dvs)) H1 P) : EvR (tMeth C m sp dvs E ta t) σ H P := fun H0 e Q q =>
  ha H0 e _ fun H1 e1 => ⟨a, dx, fs, rfl, (e.trans e1) _ _ ho, hl, ht H1 (e.trans e1) _ fun H2 e2 => k H2 ((e.trans e1).trans e2) Q (fun v H3 e3 p => q v H3 ((e1.trans e2).trans e3) p) E⟩
def dFs (k : Addr) : List (Str × V) := [("keeper", .ref k)]
def DeskAt (CK CD : Addr) (H : Hp) (d k l : Addr) (N : Net) (hist : List (Net × Deed)) : Prop := ∃ dx, H d = some (.ins CD dx (dFs k)) ∧ KeeperAt CK H k l N hist
theorem d_lk (k : Addr) : (dFs k).lookup (Str.ofString "keeper") = some (.ref k) := rfl
theorem DeskAt.up {CK CD : Addr} {H H' : Hp} {d k l : Addr} {N : Net} {hist : List (Net × Deed)} (e : Ex H H') (h : DeskAt CK CD H d k l N hist) : DeskAt CK CD H' d k l N hist := by
  obtain ⟨dx, h1, h2⟩ := h
  exact ⟨dx, e _ _ h1, h2.up e⟩
theorem DeskAt.ne {CK CD : Addr} {H : Hp} {d k l : Addr} {N : Net} {hist : List (Net × Deed)} (h : DeskAt CK CD H d k l N hist) : d ≠ k ∧ d ≠ l := by
  obtain ⟨dx, h1, dx', n, t, rows, h2, _, _, h3, _⟩ := h
  constructor
  · intro z
    rw [z, h2] at h1
    injection h1 with h1
    injection h1 with _ _ h1
    unfold kFs dFs at h1
    simp at h1
  · intro z
    rw [z, h3] at h1; cases h1
theorem k_none {n t l : Addr} {m : Str} (h1 : (m == Str.ofString "now") = false) (h2 : (m == Str.ofString "kept") = false) (h3 : (m == Str.ofString "past") = false) : (kFs n t l).lookup m = none := by
  unfold kFs
  rw [List.lookup_cons, h1]; dsimp only
  rw [List.lookup_cons, h2]; dsimp only
  rw [List.lookup_cons, h3]; rfl
theorem d_none {k : Addr} {m : Str} (h1 : (m == Str.ofString "keeper") = false) : (dFs k).lookup m = none := by
  unfold dFs
  rw [List.lookup_cons, h1]; rfl
def sp_Desk_init (CK CD : Addr) : Sp := fun vs H Q _ => ∃ d dx, vs = [.ref d] ∧ H d = some (.ins CD dx []) ∧ ∀ k l H2, H k = none → H l = none → (∀ b o, b ≠ d → H b = some o → H2 b = some o) → DeskAt CK CD H2 d k l ⟨[], []⟩ [] → Q .non H2
theorem sc_Desk_init : FnScope ["self"] ["self"] (defScope s_Desk_init) := ⟨rfl, rfl, rfl, by decide +kernel, rfl, by decide +kernel, by decide +kernel⟩
theorem ok_Desk_init {f : Addr} {fd : FuncData} (F : FnP K "__init__" "Desk.__init__" s_Desk_init f fd) (T : Txt w K mg C_Groups C_Keeper C_Desk)
  {f_Keeper_init : Addr} {fd_Keeper_init : FuncData} (M_Keeper : Dc P w K mg base "Keeper" C_Keeper 2 ["self"] (sp_Keeper_init C_Keeper) f_Keeper_init fd_Keeper_init) : FnOk P w K mg base CX0 4 f fd ["self"] (sp_Desk_init C_Keeper C_Desk) := by
  have sc := sc_Desk_init

  refine F.ok sc (fun vs H Q E h => ?_) (fun cdv A outer s H vs Q E hr h => ?_)
  · obtain ⟨d, dx, rfl, _⟩ := h; rfl
  · have hu := hu_of hr
    obtain ⟨d, dx, rfl, hd, hQ⟩ := h
    refine ⟨_, PSs.nox (pss_one (ps_fld (pv 0) (pe_make0 M_Keeper.mkc M_Keeper.ok (hr.mono (by decide)) (by rfl) M_Keeper.mgC M_Keeper.b .nil pass0) rfl)), ?_⟩
    intro k kx hk hkx ne
    refine ⟨k, kx, rfl, upd_same, fun l H2 hl fr hK => ⟨rfl, _, rfl, d, C_Desk, dx, [], rfl, ?_, T.c_Desk, T.a_keeper, by show 0 < 1000; decide, ?_⟩⟩
    · have hdk : d ≠ k := fun z => by rw [z, hk] at hd; cases hd
      have hdkx : d ≠ kx := fun z => by rw [z, hkx] at hd; cases hd
      exact fr d _ hdk (by rw [upd_ne hdk, upd_ne hdkx]; exact hd)
    · have hdk : d ≠ k := fun z => by rw [z, hk] at hd; cases hd
      have hdkx : d ≠ kx := fun z => by rw [z, hkx] at hd; cases hd
      have e2 : ∀ b o, H b = some o → H2 b = some o := fun b o hb => by
        have n1 : b ≠ k := fun z => by rw [z, hk] at hb; cases hb
        have n2 : b ≠ kx := fun z => by rw [z, hkx] at hb; cases hb
        exact fr b o n1 (by rw [upd_ne n1, upd_ne n2]; exact hb)
      have hl0 : H l = none := by
        cases h : H l with
        | none => rfl
        | some o =>
          have n1 : l ≠ k := fun z => by rw [z, hk] at h; cases h
          have n2 : l ≠ kx := fun z => by rw [z, hkx] at h; cases h
          rw [upd_ne n1, upd_ne n2, h] at hl; cases hl
      refine hQ k l _ hk hl0 (fun b o hb ho => by rw [upd_ne hb]; exact e2 b o ho) ⟨dx, upd_same, ?_⟩
      obtain ⟨dx', n, t, rows, h1, h2, h3, h4, h5⟩ := hK
      have hd2 : H2 d = some (.ins C_Desk dx []) := e2 _ _ hd
      have tu : Tups H2 (upd H2 d (.ins C_Desk dx (putF "keeper" (.ref k) []))) := (Tups.refl H2).upd (Tups.ins hd2)
      exact ⟨dx', n, t, rows, by rw [upd_ne (Ne.symm hdk)]; exact h1, h2.mono tu, h3.mono tu, by rw [upd_ne (fun z => by rw [z, hd2] at h4; cases h4)]; exact h4, rows_mono tu h5⟩
/-- a deed that the keeper can do -/
structure Can (N : Net) (d : Deed) : Prop where
  ok : d.Ok
  fits : d.Fits N
  a : NetOk N
  b : NetOk (N.put d)
  sm : Small N d
  wa : NetW N
  wb : NetW (N.put d)
theorem Tups.fr {CK : Addr} {k l : Addr} {H H' : Hp} {N : Net} {hist : List (Net × Deed)} (h : KeeperAt CK H k l N hist) (f : Fr k l H H') : Tups H H' := fun a xs ha => by
  obtain ⟨dx, n, t, rows, h1, h2, h3, h4, h5⟩ := h
  exact f a _ ha (fun z => by rw [z, h1] at ha; cases ha) (fun z => by rw [z, h4] at ha; cases ha)
theorem name_len {N : Net} (nw : NetW N) {z : Str} (h : z ∈ cheap N) : z.length ≤ 8 := by
  obtain ⟨t, ht, rfl⟩ := cheap_mem h
  exact (nw.n t (List.mem_filter.mp ht).1).2.1
theorem ex_bound {N : Net} {d : Deed} (c : Can N d) : (∀ z ∈ goneOf N d, z.length ≤ 8) ∧ (∀ z ∈ comeOf N d, z.length ≤ 8) ∧ (goneOf N d).length ≤ 60 ∧ (comeOf N d).length ≤ 60 := by
  have l1 := cheap_len N
  have l2 := cheap_len (N.put d)
  have t1 := c.a.tl
  have t2 := c.b.tl
  have g1 : (goneOf N d).length ≤ (cheap N).length := List.length_filter_le _ _
  have g2 : (comeOf N d).length ≤ (cheap (N.put d)).length := List.length_filter_le _ _
  exact ⟨fun z hz => name_len c.wa (List.mem_filter.mp hz).1, fun z hz => name_len c.wb (List.mem_filter.mp hz).1, by omega, by omega⟩
def sp_Desk_done (CK CD : Addr) : Sp := fun vs H Q _ => ∃ d k l b N hist dd, vs = [.ref d, .ref b] ∧ DeskAt CK CD H d k l N hist ∧ H b = some (.tup (Deed.v dd)) ∧ Can N dd ∧ hist.length ≤ 1000 ∧
  ∀ H2, Fr k l H H2 → DeskAt CK CD H2 d k l (N.put dd) (hist ++ [(N, dd)]) → Q (.str (exText (goneOf N dd) (comeOf N dd))) H2
theorem sc_Desk_done : FnScope ["self", "deed", "pair"] ["self", "deed"] (defScope s_Desk_done) := ⟨rfl, rfl, rfl, by decide +kernel, rfl, by decide +kernel, by decide +kernel⟩
theorem ok_Desk_done {f : Addr} {fd : FuncData} (F : FnP K "done" "Desk.done" s_Desk_done f fd) (T : Txt w K mg C_Groups C_Keeper C_Desk)
  {f_exchange_text : Addr} {fd_exchange_text : FuncData} (G_exchange_text : Dk P w K mg base "exchange_text" 1 ["pair"] sp_exchange_text f_exchange_text fd_exchange_text)
  {f_Keeper_do : Addr} {fd_Keeper_do : FuncData} (G_Keeper_do : Dm P w K mg base C_Keeper "do" 7 ["self", "deed"] (sp_Keeper_do C_Keeper) f_Keeper_do fd_Keeper_do) : FnOk P w K mg base CX0 8 f fd ["self", "deed"] (sp_Desk_done C_Keeper C_Desk) := by
  have sc := sc_Desk_done

  refine F.ok sc (fun vs H Q E h => ?_) (fun cdv A outer s H vs Q E hr h => ?_)
  · obtain ⟨d, k, l, b, N, hist, dd, rfl, _⟩ := h; rfl
  · have hu := hu_of hr
    obtain ⟨d, k, l, b, N, hist, dd, rfl, hD, hb, can, hh, hQ⟩ := h
    obtain ⟨n1, n2⟩ := hD.ne
    obtain ⟨dx, hd, hK⟩ := hD
    have hK' := hK
    obtain ⟨dx', n, t, rows, k1, _⟩ := hK'
    refine ⟨_, PSs.nox (pss_cons (ps_try_thru0 (pss_one (ps_set (i := 2) sc.nd rfl (Or.inl rfl) (pe_meth (pe_fld (pv 0) rfl) T.c_Keeper G_Keeper_do.m G_Keeper_do.ok (hr.mono (by decide)) G_Keeper_do.b .nil pass0 (pa_cons (pv 1) pa_nil)))))
    (pss_one (ps_ret (pe_call G_exchange_text.ok (hr.mono (by decide)) (by rfl) G_exchange_text.mgf G_exchange_text.kp G_exchange_text.b .nil pass0 (pa_cons (pv 2) pa_nil))))), ?_⟩
    refine q_asgM (ev_fld (ev_var rfl) hd T.c_Desk T.a_keeper (d_lk k)) k1 (k_none (by decide +kernel) (by decide +kernel) (by decide +kernel)) (ea_cons (ev_var rfl) ea_nil) fun H1 e1 => ?_
    refine ⟨k, l, b, N, hist, dd, rfl, hK.up e1, e1 _ _ hb, can.ok, can.fits, can.a, can.b, can.sm, hh, fun r H2 fr hK2 hp => ?_⟩
    obtain ⟨b1, b2, b3, b4⟩ := ex_bound can
    refine s_ret (v := .str (exText (goneOf N dd) (comeOf N dd))) (ev_call (ea_cons (ev_var rfl) ea_nil) fun H3 e3 Q q E => ⟨r, _, _, rfl, hp.up e3, fun z hz => ?_, by omega, q⟩) fun H3 e3 => ?_
    · rcases List.mem_append.mp hz with hz | hz
      · exact b1 z hz
      · exact b2 z hz
    · exact hQ H3 ((Fr.of e1).trans (fr.trans (Fr.of e3))) ⟨dx, e3 _ _ (fr _ _ (e1 _ _ hd) n1 n2), hK2.up e3⟩
def sp_Desk_gone_back (CK CD : Addr) : Sp := fun vs H Q _ => ∃ d k l N hist dd, vs = [.ref d] ∧ DeskAt CK CD H d k l (N.put dd) (hist ++ [(N, dd)]) ∧ Can N dd ∧ hist.length ≤ 1000 ∧
  ∀ H2, Fr k l H H2 → DeskAt CK CD H2 d k l N hist → Q (.str (exText (comeOf N dd) (goneOf N dd))) H2
theorem sc_Desk_gone_back : FnScope ["self", "pair"] ["self"] (defScope s_Desk_gone_back) := ⟨rfl, rfl, rfl, by decide +kernel, rfl, by decide +kernel, by decide +kernel⟩
theorem ok_Desk_gone_back {f : Addr} {fd : FuncData} (F : FnP K "gone_back" "Desk.gone_back" s_Desk_gone_back f fd) (T : Txt w K mg C_Groups C_Keeper C_Desk)
  {f_exchange_text : Addr} {fd_exchange_text : FuncData} (G_exchange_text : Dk P w K mg base "exchange_text" 1 ["pair"] sp_exchange_text f_exchange_text fd_exchange_text)
  {f_Keeper_back : Addr} {fd_Keeper_back : FuncData} (G_Keeper_back : Dm P w K mg base C_Keeper "back" 2 ["self"] (sp_Keeper_back C_Keeper) f_Keeper_back fd_Keeper_back) : FnOk P w K mg base CX0 3 f fd ["self"] (sp_Desk_gone_back C_Keeper C_Desk) := by
  have sc := sc_Desk_gone_back

  refine F.ok sc (fun vs H Q E h => ?_) (fun cdv A outer s H vs Q E hr h => ?_)
  · obtain ⟨d, k, l, N, hist, dd, rfl, _⟩ := h; rfl
  · have hu := hu_of hr
    obtain ⟨d, k, l, N, hist, dd, rfl, hD, can, hh, hQ⟩ := h
    obtain ⟨n1, n2⟩ := hD.ne
    obtain ⟨dx, hd, hK⟩ := hD
    have hK' := hK
    obtain ⟨dx', n, t, rows, k1, _⟩ := hK'
    refine ⟨_, PSs.nox (pss_cons (ps_try_thru0 (pss_one (ps_set (i := 1) sc.nd rfl (Or.inl rfl) (pe_meth0 (pe_fld (pv 0) rfl) T.c_Keeper G_Keeper_back.m G_Keeper_back.ok (hr.mono (by decide)) G_Keeper_back.b .nil pass0))))
    (pss_one (ps_ret (pe_call G_exchange_text.ok (hr.mono (by decide)) (by rfl) G_exchange_text.mgf G_exchange_text.kp G_exchange_text.b .nil pass0 (pa_cons (pv 1) pa_nil))))), ?_⟩
    refine q_asgM (ev_fld (ev_var rfl) hd T.c_Desk T.a_keeper (d_lk k)) k1 (k_none (by decide +kernel) (by decide +kernel) (by decide +kernel)) ea_nil fun H1 e1 => ?_
    refine ⟨k, l, N, hist, dd, rfl, hK.up e1, can.a, can.b, can.sm, hh, fun r H2 fr hK2 hp => ?_⟩
    obtain ⟨b1, b2, b3, b4⟩ := ex_bound can
    refine s_ret (v := .str (exText (comeOf N dd) (goneOf N dd))) (ev_call (ea_cons (ev_var rfl) ea_nil) fun H3 e3 Q q E => ⟨r, _, _, rfl, hp.up e3, fun z hz => ?_, by omega, q⟩) fun H3 e3 => ?_
    · rcases List.mem_append.mp hz with hz | hz
      · exact b2 z hz
      · exact b1 z hz
    · exact hQ H3 ((Fr.of e1).trans (fr.trans (Fr.of e3))) ⟨dx, e3 _ _ (fr _ _ (e1 _ _ hd) n1 n2), hK2.up e3⟩
def sp_Desk_asked (CK CD : Addr) : Sp := fun vs H Q _ => ∃ d k l th N hist t, vs = [.ref d, .str "margin", .ref th] ∧ DeskAt CK CD H d k l N hist ∧ H th = some (.tup [.str t.n]) ∧ NetOk N ∧ NetW N ∧ getT N.ts t.n = some t ∧ WaysOk N ∧
  ∀ m H2, Ex H H2 → MarOk N t m → Q (.str (Txt.join " " (m.text t.n))) H2
theorem sc_Desk_asked : FnScope ["self", "word", "things", "net"] ["self", "word", "things"] (defScope s_Desk_asked) := ⟨rfl, rfl, rfl, by decide +kernel, rfl, by decide +kernel, by decide +kernel⟩
theorem ok_Desk_asked {f : Addr} {fd : FuncData} (F : FnP K "asked" "Desk.asked" s_Desk_asked f fd) (T : Txt w K mg C_Groups C_Keeper C_Desk)
  {f_margin_text : Addr} {fd_margin_text : FuncData} (G_margin_text : Dk P w K mg base "margin_text" 7 ["net", "name"] sp_margin_text f_margin_text fd_margin_text)
  {f_Keeper_net : Addr} {fd_Keeper_net : FuncData} (G_Keeper_net : Dm P w K mg base C_Keeper "net" 1 ["self"] (sp_Keeper_net C_Keeper) f_Keeper_net fd_Keeper_net) : FnOk P w K mg base CX0 8 f fd ["self", "word", "things"] (sp_Desk_asked C_Keeper C_Desk) := by
  have sc := sc_Desk_asked

  refine F.ok sc (fun vs H Q E h => ?_) (fun cdv A outer s H vs Q E hr h => ?_)
  · obtain ⟨d, k, l, th, N, hist, t, rfl, _⟩ := h; rfl
  · have hu := hu_of hr
    obtain ⟨d, k, l, th, N, hist, t, rfl, hD, hth, nok, nw, hg, hW, hQ⟩ := h
    obtain ⟨dx, hd, hK⟩ := hD
    have hK' := hK
    obtain ⟨dx', n, t', rows, k1, _⟩ := hK'
    refine ⟨_, PSs.nox (pss_cons (ps_set (i := 3) sc.nd rfl (Or.inl rfl) (pe_meth0 (pe_fld (pv 0) rfl) T.c_Keeper G_Keeper_net.m G_Keeper_net.ok (hr.mono (by decide)) G_Keeper_net.b .nil pass0))
    (pss_cons (ps_if (pt_cmpR op_eq (pv 1) pe_str (nomark _)) (pss_one (ps_ret (pe_call G_margin_text.ok (hr.mono (by decide)) (by rfl) G_margin_text.mgf G_margin_text.kp G_margin_text.b .nil pass0 (pa_cons (pv 3) (pa_cons (pe_ix (ix_tupK (K := K) rfl) (pv 2) pe_int (fun _ _ => rfl)) pa_nil))))) pss_nil)
    (pss_cons ps_never
    (pss_one ps_never)))), ?_⟩
    refine q_asgM (ev_fld (ev_var rfl) hd T.c_Desk T.a_keeper (d_lk k)) k1 (k_none (by decide +kernel) (by decide +kernel) (by decide +kernel)) ea_nil fun H1 e1 => ?_
    refine ⟨k, l, N, hist, rfl, hK.up e1, fun n H2 e2 hn => ?_⟩
    refine q_when (b := true) (et_is (et_test (ev_op (ev_var rfl) ev_c (rv_eq rfl))) rfl) (fun _ H3 e3 => ?_) (fun hb => by cases hb)
    have e13 := e1.trans (e2.trans e3)
    refine r_ret (P := fun v _ => ∃ m, MarOk N t m ∧ v = .str (Txt.join " " (m.text t.n))) (er_call0 (ea_cons (ev_var rfl) (ea_cons (ev_ixT (v := .str t.n) (ev_var rfl) (e13 _ _ hth) rfl) ea_nil)) fun H4 e4 Q q E => ⟨n, N, t, rfl, hn.mono (Tups.ofEx (e3.trans e4)), nok, nw, hg, hW, fun m H5 e5 hm => q _ H5 e5 ⟨m, hm, rfl⟩⟩) fun v H4 e4 ⟨m, hm, ev⟩ => ?_
    subst ev
    exact hQ m H4 (e13.trans e4) hm
inductive Tell | tree | sum | wait | net
def Tell.wd : Tell → Str
  | .tree => "tree" | .sum => "sum" | .wait => "wait" | .net => "net"
def waits (N : Net) : List Str := (N.ts.filter fun t => !openB N t).map (·.n)
def Tell.text (N : Net) : Tell → Str
  | .tree => Txt.join " " (cheap N) | .sum => intS (costOf N) | .wait => Txt.join " " (waits N) | .net => Txt.replace (Txt.join ⟨#[10]⟩ (netRows N)) ⟨#[10]⟩ " / "
end
end Ct
end

section
set_option Elab.async false
set_option linter.all false
set_option maxRecDepth 100000
set_option maxHeartbeats 4000000
namespace Ct
open PySem PySem.Spec PyProof.Rows L2 Evl
section
variable {P : Program} {w : World} {K : PySem.W.Frag} {mg : Str → Option Value} {base : Heap} {C_Groups C_Keeper C_Desk : Addr}
theorem PSsTnox {X : Cx} {st : List Stmt} {t : TS} (h : PSsT X.nox st t) : PSsT X st t := fun pins s σ H D ht I hw =>
  wpAny_mono (h pins s σ H D ht (I.wish _) hw) (fun _ _ q => q.unwish) fun _ _ z => False.elim z
theorem fn_okT {CX : CXT} {P : Program} {w : World} {K : PySem.W.Frag} {mg : Str → Option Value} {base : Heap} {x qual : Str} {params : Arguments} {body : List Stmt} {scope : Scope} {dvs : List V} {kws : List (Str × V)} {f : Addr} {fd : FuncData}
    {N ps : List Str} {k : Nat} {sp : Sp} (F : FunD K x qual params body scope dvs kws f fd) (S : FnScope N ps scope) (hnc : ∀ y ∈ scope.names, y.2 ≠ .cell) (hps : 1 ≤ ps.length) (len : ∀ vs H Q E, sp vs H Q E → vs.length = ps.length)
    (hbody : ∀ (cdv : Value) (A : Around) (outer : List Env) (s : Shared) (H : Hp) (vs : List V) (Q : VK) (E : XK), Room k (A.deeper (envOfC qual scope s.heap.objs.size f cdv)) → sp vs H Q E →
      ∃ t, PSsT (cxOf CX P w K mg base N qual scope f cdv A outer s H E) body t ∧ t { nx := fun _ H' => Q .non H', rt := Q } (start N vs) H) : FnOk P w K mg base CX (k + 1) f fd ps sp := by
  obtain ⟨oc, od, dV, kV, doc, pm, an, cdv, ct, osl, rfl, lk, hcd, _, _⟩ := F.ex
  exact fn_ofT lk hcd S hnc hps len fun A outer s H vs Q E hr hsp => hbody cdv A outer s H vs Q E hr hsp
theorem sum_abs {l : List Int} {m : Nat} (h : ∀ x ∈ l, x.natAbs ≤ m) : l.sum.natAbs ≤ l.length * m := by
  induction l with
  | nil => simp
  | cons x r ih =>
    rw [List.sum_cons, List.length_cons, Nat.add_mul, Nat.one_mul]
    have h1 := h x (by simp)
    have h2 := ih fun y hy => h y (List.mem_cons_of_mem _ hy)
    omega
theorem costOf_lt {N : Net} (nok : NetOk N) (nw : NetW N) : (costOf N).natAbs < 10 ^ 100 := by
  have h1 : (costOf N).natAbs ≤ ((cheap N).map (cOf N.ts)).length * 10 ^ 30 := sum_abs fun x hx => by
    obtain ⟨z, hz, rfl⟩ := List.mem_map.mp hx
    obtain ⟨t, ht, e, hg⟩ := cheap_get nok hz
    unfold cOf
    rw [hg]
    exact Nat.le_of_lt (nw.c t (getT_mem hg))
  rw [List.length_map] at h1
  have l1 := cheap_len N
  have l2 := nok.tl
  have h2 : (cheap N).length * 10 ^ 30 ≤ 60 * 10 ^ 30 := Nat.mul_le_mul_right _ (by omega)
  have h3 : 60 * 10 ^ 30 < 10 ^ 100 := by decide +kernel
  omega
theorem ev_joinT {σ : L2.St} {H : Hp} {te : TE} {a : Str} {ys : List Str} (h : EvR te σ H (fun v H2 => ∃ r, v = .ref r ∧ StrsT H2 r ys)) (hl : (ys.map (·.length)).sum + ys.length * a.length ≤ 16777216) : Ev (tM1 (rJoin K) (tC (.str a)) te) σ H (.str (Txt.join a ys)) := fun H1 e Q q =>
  ⟨⟨a, rfl⟩, h H1 e _ fun v H2 e2 ⟨p, ev, h2⟩ => ⟨a, p, ys, rfl, by rw [ev], .inr (SqT.of h2), hl, q H2 e2⟩⟩
theorem netRows_num {N : Net} (nok : NetOk N) : (netRows N).length ≤ 120 := by
  have h1 := nok.pl
  have h2 := nok.tl
  unfold netRows
  rw [List.length_append, List.length_map, List.length_map]; omega
def sp_Desk_told (CK CD : Addr) : Sp := fun vs H Q _ => ∃ d k l N hist tl, vs = [.ref d, .str (Tell.wd tl)] ∧ DeskAt CK CD H d k l N hist ∧ NetOk N ∧ NetW N ∧ ∀ H2, Ex H H2 → Q (.str (tl.text N)) H2
theorem sc_Desk_told : FnScope ["self", "word", "net", "piece"] ["self", "word"] (defScope s_Desk_told) := ⟨rfl, rfl, rfl, by decide +kernel, rfl, by decide +kernel, by decide +kernel⟩
theorem ok_Desk_told {f : Addr} {fd : FuncData} (F : FnP K "told" "Desk.told" s_Desk_told f fd) (T : Txt w K mg C_Groups C_Keeper C_Desk)
  {f_waiting : Addr} {fd_waiting : FuncData} (G_waiting : Dk P w K mg base "waiting" 2 ["net"] sp_waiting f_waiting fd_waiting)
  {f_net_text : Addr} {fd_net_text : FuncData} (G_net_text : Dk P w K mg base "net_text" 1 ["net"] sp_net_text f_net_text fd_net_text)
  {f_Keeper_net : Addr} {fd_Keeper_net : FuncData} (G_Keeper_net : Dm P w K mg base C_Keeper "net" 1 ["self"] (sp_Keeper_net C_Keeper) f_Keeper_net fd_Keeper_net)
  {f_Keeper_tree : Addr} {fd_Keeper_tree : FuncData} (G_Keeper_tree : Dm P w K mg base C_Keeper "tree" 1 ["self"] (sp_Keeper_tree C_Keeper) f_Keeper_tree fd_Keeper_tree)
  {f_Keeper_cost : Addr} {fd_Keeper_cost : FuncData} (G_Keeper_cost : Dm P w K mg base C_Keeper "cost" 2 ["self"] (sp_Keeper_cost C_Keeper) f_Keeper_cost fd_Keeper_cost) : FnOk P w K mg base CX0 3 f fd ["self", "word"] (sp_Desk_told C_Keeper C_Desk) := by
  have sc := sc_Desk_told

  refine fn_okT F sc (by decide +kernel) (by decide) (fun vs H Q E h => ?_) (fun cdv A outer s H vs Q E hr h => ?_)
  · obtain ⟨d, k, l, N, hist, tl, rfl, _⟩ := h; rfl
  · have hu := hu_of hr
    obtain ⟨d, k, l, N, hist, tl, rfl, hD, nok, nw, hQ⟩ := h
    refine ⟨_, PSsTnox (psst_cons (PST.of (ps_set (i := 2) sc.nd rfl (Or.inl rfl) (pe_meth0 (pe_fld (pv 0) rfl) T.c_Keeper G_Keeper_net.m G_Keeper_net.ok (hr.mono (by decide)) G_Keeper_net.b .nil pass0)))
    (psst_cons (PST.of (ps_if (pt_cmpR op_eq (pv 1) pe_str (nomark _)) (pss_one (ps_ret (pe_joinK (K := K) rfl pe_str (pe_meth0 (pe_fld (pv 0) rfl) T.c_Keeper G_Keeper_tree.m G_Keeper_tree.ok (hr.mono (by decide)) G_Keeper_tree.b .nil pass0)))) pss_nil))
    (psst_cons (PST.of (ps_if (pt_cmpR op_eq (pv 1) pe_str (nomark _)) (pss_one (ps_ret (pe_callTy call_str_int (by rfl) T.b_str (by decide +kernel) (pa_cons (pe_meth0 (pe_fld (pv 0) rfl) T.c_Keeper G_Keeper_cost.m G_Keeper_cost.ok (hr.mono (by decide)) G_Keeper_cost.b .nil pass0) pa_nil)))) pss_nil))
    (psst_cons (PST.of (ps_if (pt_cmpR op_eq (pv 1) pe_str (nomark _)) (pss_one ps_never) pss_nil))
    (psst_cons (PST.of (ps_if (pt_cmpR op_eq (pv 1) pe_str (nomark _)) (pss_one (ps_ret (pe_joinK (K := K) rfl pe_str (pe_call G_waiting.ok (hr.mono (by decide)) (by rfl) G_waiting.mgf G_waiting.kp G_waiting.b .nil pass0 (pa_cons (pv 2) pa_nil))))) pss_nil))
    (psst_cons (PST.of (ps_if (pt_cmpR op_eq (pv 1) pe_str (nomark _)) (pss_one ps_never) pss_nil))
    (CwR.psst_one (CwR.pst_ret (CwR.pet_replC (y := "\n") (z := " / ") (pe_call G_net_text.ok (hr.mono (by decide)) (by rfl) G_net_text.mgf G_net_text.kp G_net_text.b .nil pass0 (pa_cons (pv 2) pa_nil)) (by decide +kernel)))))))))), ?_⟩
    obtain ⟨dx, hd, hK⟩ := hD
    have hK' := hK
    obtain ⟨dx', n0, t', rows, k1, _⟩ := hK'
    refine q_asgM (ev_fld (ev_var rfl) hd T.c_Desk T.a_keeper (d_lk k)) k1 (k_none (by decide +kernel) (by decide +kernel) (by decide +kernel)) ea_nil fun H1 e1 => ?_
    refine ⟨k, l, N, hist, rfl, hK.up e1, fun n H2 e2 hn => ?_⟩
    have e12 := e1.trans e2
    have kp : ∀ {σ : L2.St} {H' : Hp}, Ex H H' → σ[0]? = some (some (.ref d)) → Ev (tFld K (tVar 0) "keeper") σ H' (.ref k) := fun e h => ev_fld (ev_var h) (e _ _ hd) T.c_Desk T.a_keeper (d_lk k)
    have l1 := cheap_len N
    have l2 := nok.tl
    cases tl with
    | tree =>
      refine q_when (b := true) (et_is (et_test (ev_op (ev_var rfl) ev_c (rv_eq rfl))) rfl) (fun _ H3 e3 => ?_) (fun hb => by cases hb)
      have e13 := e12.trans e3
      refine s_ret (v := .str (Txt.join " " (cheap N))) (ev_joinT (er_meth (kp e13 rfl) (e13 _ _ k1) (k_none (by decide +kernel) (by decide +kernel) (by decide +kernel)) ea_nil fun H4 e4 Q q E => ⟨k, l, N, hist, rfl, hK.up (e13.trans e4), fun t H5 e5 h5 => q _ H5 e5 ⟨t, rfl, h5⟩⟩) (join_ok (m := 8) (n := 60) (fun z hz => name_len nw hz) (by omega) (by decide +kernel))) fun H4 e4 => hQ H4 (e13.trans e4)
    | sum =>
      refine q_when (b := false) (et_is (et_test (ev_op (ev_var rfl) ev_c (rv_eq rfl))) rfl) (fun hb => by cases hb) (fun _ H3 e3 => ?_)
      refine q_when (b := true) (et_is (et_test (ev_op (ev_var rfl) ev_c (rv_eq rfl))) rfl) (fun _ H4 e4 => ?_) (fun hb => by cases hb)
      have e14 := e12.trans (e3.trans e4)
      refine s_ret (v := .str (intS (costOf N))) (ev_cb (ea_cons (EvR.ev (v := .int (costOf N)) (er_meth (kp e14 rfl) (e14 _ _ k1) (k_none (by decide +kernel) (by decide +kernel) (by decide +kernel)) ea_nil fun H5 e5 Q q E => ⟨k, l, N, hist, rfl, hK.up (e14.trans e5), nok, fun H6 e6 => q _ H6 e6 rfl⟩)) ea_nil) fun H5 e5 Q q => ⟨_, rfl, log2_lt (costOf_lt nok nw), q H5 (Ex.refl H5)⟩) fun H5 e5 => hQ H5 (e14.trans e5)
    | wait =>
      refine q_when (b := false) (et_is (et_test (ev_op (ev_var rfl) ev_c (rv_eq rfl))) rfl) (fun hb => by cases hb) (fun _ H3 e3 => ?_)
      refine q_when (b := false) (et_is (et_test (ev_op (ev_var rfl) ev_c (rv_eq rfl))) rfl) (fun hb => by cases hb) (fun _ H4 e4 => ?_)
      refine q_when (b := false) (et_is (et_test (ev_op (ev_var rfl) ev_c (rv_eq rfl))) rfl) (fun hb => by cases hb) (fun _ H5 e5 => ?_)
      refine q_when (b := true) (et_is (et_test (ev_op (ev_var rfl) ev_c (rv_eq rfl))) rfl) (fun _ H6 e6 => ?_) (fun hb => by cases hb)
      have e26 := (e3.trans e4).trans (e5.trans e6)
      have wl : (waits N).length ≤ N.ts.length := by
        unfold waits
        rw [List.length_map]; exact List.length_filter_le _ _
      refine s_ret (v := .str (Txt.join " " (waits N))) (ev_joinT (er_call0 (ea_cons (ev_var rfl) ea_nil) fun H7 e7 Q q E => ⟨n, N, rfl, hn.mono (Tups.ofEx (e26.trans e7)), by omega, fun b H8 e8 h8 => q _ H8 e8 ⟨b, rfl, h8⟩⟩) (join_ok (m := 8) (n := 60) (fun z hz => ?_) (by omega) (by decide +kernel))) fun H7 e7 => hQ H7 (e12.trans (e26.trans e7))
      obtain ⟨t, ht, rfl⟩ := List.mem_map.mp hz
      exact (nw.n t (List.mem_filter.mp ht).1).2.1
    | net =>
      refine q_when (b := false) (et_is (et_test (ev_op (ev_var rfl) ev_c (rv_eq rfl))) rfl) (fun hb => by cases hb) (fun _ H3 e3 => ?_)
      refine q_when (b := false) (et_is (et_test (ev_op (ev_var rfl) ev_c (rv_eq rfl))) rfl) (fun hb => by cases hb) (fun _ H4 e4 => ?_)
      refine q_when (b := false) (et_is (et_test (ev_op (ev_var rfl) ev_c (rv_eq rfl))) rfl) (fun hb => by cases hb) (fun _ H5 e5 => ?_)
      refine q_when (b := false) (et_is (et_test (ev_op (ev_var rfl) ev_c (rv_eq rfl))) rfl) (fun hb => by cases hb) (fun _ H6 e6 => ?_)
      refine q_when (b := false) (et_is (et_test (ev_op (ev_var rfl) ev_c (rv_eq rfl))) rfl) (fun hb => by cases hb) (fun _ H7 e7 => ?_)
      have e27 := ((e3.trans e4).trans (e5.trans e6)).trans e7
      refine s_ret (v := .str (Tell.net.text N)) (fun H8 e8 Q q => ?_) fun H8 e8 => hQ H8 (e12.trans (e27.trans e8))
      refine ev_call (ea_cons (ev_var rfl) ea_nil) (z := .str (Txt.join ⟨#[10]⟩ (netRows N))) (fun H9 e9 Q q E => ⟨n, N, rfl, hn.mono (Tups.ofEx (e27.trans e9)), nok, nw, q⟩) H8 e8 _ fun H9 e9 => ⟨_, rfl, ?_, q H9 e9⟩
      have jl := join_le (sep := ⟨#[10]⟩) (netRows_len nw) (netRows_num nok)
      have s1 : (⟨#[10]⟩ : Str).length = 1 := rfl
      have s2 : (Str.ofString " / ").length = 3 := by decide +kernel
      rw [s1] at jl
      rw [s2]
      omega
end
end Ct
end

section
set_option Elab.async false
set_option linter.all false
set_option maxRecDepth 100000
set_option maxHeartbeats 4000000
namespace Ct
open PySem PySem.Spec PyProof.Rows L2 Evl
section
variable {P : Program} {w : World} {K : PySem.W.Frag} {mg : Str → Option Value} {base : Heap} {C_Groups C_Keeper C_Desk : Addr}
theorem s_retMA {σ : L2.St} {H : Hp} {D : Ends} {C a dx : Addr} {m : Str} {sp : Sp} {dvs : List V} {PL : List V → Hp → Prop} {E : XK} {ta : TE} {t : TA} {fs : List (Str × V)} (ha : Ev ta σ H (.ref a)) (ho : H a = some (.ins C dx fs)) (hl : fs.lookup m = none) (ht : EvAR t σ H PL)
    (k : ∀ vs H1, Ex H H1 → PL vs H1 → sp (.ref a :: (vs ++ dvs)) H1 D.rt E) : tRet (tMeth C m sp dvs E ta t) D σ H :=
  ha H (Ex.refl H) _ fun H1 e1 => ⟨a, dx, fs, rfl, e1 _ _ ho, hl, ht H1 e1 _ fun vs H2 e2 p => k vs H2 (e1.trans e2) p⟩
def Deed.ths : Deed → List Th
  | .place z => [.w z] | .tie n x y c => [.w n, .w x, .w y, .c c] | .cost n c => [.w n, .c c]
def Deed.order (d : Deed) : Order := ⟨d.wd, d.ths⟩
def Deed.COk : Deed → Prop
  | .place _ => True | .tie _ _ _ c => c.natAbs < 10 ^ 30 | .cost _ c => c.natAbs < 10 ^ 30
theorem Deed.v_eq (d : Deed) : d.v = V.str d.wd :: d.ths.map Th.v := by cases d <;> rfl
theorem Deed.order_ok {d : Deed} (h : d.Ok) (hc : d.COk) : d.order.Ok := by
  cases d with
  | place z => exact ⟨⟨"W", List.mem_of_getElem? (i := 0) rfl, by show _ = [87]; decide +kernel⟩, fun t ht => by rw [List.mem_singleton.mp ht]; exact h, (by decide +kernel : 32 ∉ (Str.ofString "place").cps.toList), (by decide +kernel : (Str.ofString "place").length ≤ 10), by show 1 ≤ 4; decide, fun e => absurd (show Str.ofString "place" = Str.ofString "tie" from e) (by decide +kernel)⟩
  | tie n x y c =>
    refine ⟨⟨"WWWC", List.mem_of_getElem? (i := 2) rfl, by show _ = [87, 87, 87, 67]; decide +kernel⟩, fun t ht => ?_, (by decide +kernel : 32 ∉ (Str.ofString "tie").cps.toList), (by decide +kernel : (Str.ofString "tie").length ≤ 10), by show 4 ≤ 4; decide, fun _ => ⟨n, x, y, c, rfl, h.2.2.2⟩⟩
    have ht' : t ∈ [Th.w n, Th.w x, Th.w y, Th.c c] := ht
    simp only [List.mem_cons, List.not_mem_nil, or_false] at ht'
    rcases ht' with rfl | rfl | rfl | rfl
    · exact h.1
    · exact h.2.1
    · exact h.2.2.1
    · exact hc
  | cost n c =>
    refine ⟨⟨"WC", List.mem_of_getElem? (i := 4) rfl, by show _ = [87, 67]; decide +kernel⟩, fun t ht => ?_, (by decide +kernel : 32 ∉ (Str.ofString "cost").cps.toList), (by decide +kernel : (Str.ofString "cost").length ≤ 10), by show 2 ≤ 4; decide, fun e => absurd (show Str.ofString "cost" = Str.ofString "tie" from e) (by decide +kernel)⟩
    have ht' : t ∈ [Th.w n, Th.c c] := ht
    simp only [List.mem_cons, List.not_mem_nil, or_false] at ht'
    rcases ht' with rfl | rfl
    · exact h
    · exact hc
def backO : Order := ⟨"back", []⟩
def marginO (z : Str) : Order := ⟨"margin", [.w z]⟩
def Tell.order (t : Tell) : Order := ⟨t.wd, []⟩
theorem back_ok : backO.Ok := ⟨⟨"", List.mem_of_getElem? (i := 5) rfl, by decide +kernel⟩, fun t ht => absurd ht List.not_mem_nil, (by decide +kernel : 32 ∉ (Str.ofString "back").cps.toList), (by decide +kernel : (Str.ofString "back").length ≤ 10), by show 0 ≤ 4; decide, fun e => absurd (show Str.ofString "back" = Str.ofString "tie" from e) (by decide +kernel)⟩
theorem margin_ok {z : Str} (h : WordOk z) : (marginO z).Ok := ⟨⟨"W", List.mem_of_getElem? (i := 10) rfl, by show _ = [87]; decide +kernel⟩, fun t ht => by rw [List.mem_singleton.mp ht]; exact h, (by decide +kernel : 32 ∉ (Str.ofString "margin").cps.toList), (by decide +kernel : (Str.ofString "margin").length ≤ 10), by show 1 ≤ 4; decide, fun e => absurd (show Str.ofString "margin" = Str.ofString "tie" from e) (by decide +kernel)⟩
theorem tell_ok (t : Tell) : t.order.Ok := by
  cases t with
  | tree => exact ⟨⟨"", List.mem_of_getElem? (i := 6) rfl, by decide +kernel⟩, fun t ht => absurd ht List.not_mem_nil, by decide +kernel, by decide +kernel, by show 0 ≤ 4; decide, fun e => absurd e (by decide +kernel)⟩
  | sum => exact ⟨⟨"", List.mem_of_getElem? (i := 7) rfl, by decide +kernel⟩, fun t ht => absurd ht List.not_mem_nil, by decide +kernel, by decide +kernel, by show 0 ≤ 4; decide, fun e => absurd e (by decide +kernel)⟩
  | wait => exact ⟨⟨"", List.mem_of_getElem? (i := 9) rfl, by decide +kernel⟩, fun t ht => absurd ht List.not_mem_nil, by decide +kernel, by decide +kernel, by show 0 ≤ 4; decide, fun e => absurd e (by decide +kernel)⟩
  | net => exact ⟨⟨"", List.mem_of_getElem? (i := 14) rfl, by decide +kernel⟩, fun t ht => absurd ht List.not_mem_nil, by decide +kernel, by decide +kernel, by show 0 ≤ 4; decide, fun e => absurd e (by decide +kernel)⟩
def SayDo (CK CD : Addr) (vs : List V) (H : Hp) (Q : VK) : Prop := ∃ d k l N hist dd, vs = [.ref d, .str (Deed.order dd).line] ∧ DeskAt CK CD H d k l N hist ∧ Can N dd ∧ dd.COk ∧ hist.length ≤ 1000 ∧
  ∀ H2, Fr k l H H2 → DeskAt CK CD H2 d k l (N.put dd) (hist ++ [(N, dd)]) → Q (.str (exText (goneOf N dd) (comeOf N dd))) H2
def SayBack (CK CD : Addr) (vs : List V) (H : Hp) (Q : VK) : Prop := ∃ d k l N hist dd, vs = [.ref d, .str backO.line] ∧ DeskAt CK CD H d k l (N.put dd) (hist ++ [(N, dd)]) ∧ Can N dd ∧ hist.length ≤ 1000 ∧
  ∀ H2, Fr k l H H2 → DeskAt CK CD H2 d k l N hist → Q (.str (exText (comeOf N dd) (goneOf N dd))) H2
def SayMargin (CK CD : Addr) (vs : List V) (H : Hp) (Q : VK) : Prop := ∃ d k l N hist t, vs = [.ref d, .str (marginO t.n).line] ∧ DeskAt CK CD H d k l N hist ∧ NetOk N ∧ NetW N ∧ getT N.ts t.n = some t ∧ WaysOk N ∧
  ∀ m H2, Ex H H2 → MarOk N t m → Q (.str (Txt.join " " (m.text t.n))) H2
def SayTell (CK CD : Addr) (vs : List V) (H : Hp) (Q : VK) : Prop := ∃ d k l N hist tl, vs = [.ref d, .str (Tell.order tl).line] ∧ DeskAt CK CD H d k l N hist ∧ NetOk N ∧ NetW N ∧ ∀ H2, Ex H H2 → Q (.str (tl.text N)) H2
def sp_Desk_say (CK CD : Addr) : Sp := fun vs H Q _ => SayDo CK CD vs H Q ∨ SayBack CK CD vs H Q ∨ SayMargin CK CD vs H Q ∨ SayTell CK CD vs H Q
theorem spr_order {H : Hp} {o : Order} (ok : o.Ok) : SpR sp_order_in [.str o.line] H (fun v H2 => ∃ p x y, v = .ref p ∧ H2 p = some (.tup [x, y]) ∧ ∃ th, x = .str o.wd ∧ y = .ref th ∧ H2 th = some (.tup (o.ths.map Th.v))) := fun Q q E =>
  ⟨o, rfl, ok, fun r th H2 e h1 h2 => q _ H2 e ⟨r, _, _, rfl, h1, th, rfl, rfl, h2⟩⟩
theorem in_deeds (z : Str) : inV (.str z) (dv_DEEDS.map (He.Dv.v K)) = decide (z = "place" ∨ z = "leave" ∨ z = "tie" ∨ z = "untie" ∨ z = "cost") := by
  have e := inV_str z ["place", "leave", "tie", "untie", "cost"]
  have e2 : dv_DEEDS.map (He.Dv.v K) = [("place" : Str), "leave", "tie", "untie", "cost"].map V.str := rfl
  rw [e2, e]
  simp
theorem in_deed (d : Deed) : inV (.str d.wd) (dv_DEEDS.map (He.Dv.v K)) = true := by
  rw [in_deeds]
  refine decide_eq_true ?_
  cases d with
  | place z => exact .inl rfl
  | tie n x y c => exact .inr (.inr (.inl rfl))
  | cost n c => exact .inr (.inr (.inr (.inr rfl)))
theorem not_deed {z : Str} (h1 : z ≠ "place") (h2 : z ≠ "leave") (h3 : z ≠ "tie") (h4 : z ≠ "untie") (h5 : z ≠ "cost") : inV (.str z) (dv_DEEDS.map (He.Dv.v K)) = false := by
  rw [in_deeds]
  refine decide_eq_false ?_
  rintro (h | h | h | h | h)
  · exact h1 h
  · exact h2 h
  · exact h3 h
  · exact h4 h
  · exact h5 h
theorem inV_three (z x y w : Str) : inV (.str z) [.str x, .str y, .str w] = decide (z = x ∨ z = y ∨ z = w) := by
  have e := inV_str z [x, y, w]
  rw [show [x, y, w].map V.str = [V.str x, V.str y, V.str w] from rfl] at e
  rw [e]
  simp
theorem sc_Desk_say : FnScope ["self", "line", "word", "things"] ["self", "line"] (defScope s_Desk_say) := ⟨rfl, rfl, rfl, by decide +kernel, rfl, by decide +kernel, by decide +kernel⟩
theorem ok_Desk_say {f : Addr} {fd : FuncData} (F : FnP K "say" "Desk.say" s_Desk_say f fd) (T : Txt w K mg C_Groups C_Keeper C_Desk)
  {f_order_in : Addr} {fd_order_in : FuncData} (G_order_in : Dk P w K mg base "order_in" 3 ["line"] sp_order_in f_order_in fd_order_in)
  {f_Desk_done : Addr} {fd_Desk_done : FuncData} (G_Desk_done : Dm P w K mg base C_Desk "done" 8 ["self", "deed"] (sp_Desk_done C_Keeper C_Desk) f_Desk_done fd_Desk_done)
  {f_Desk_gone_back : Addr} {fd_Desk_gone_back : FuncData} (G_Desk_gone_back : Dm P w K mg base C_Desk "gone_back" 3 ["self"] (sp_Desk_gone_back C_Keeper C_Desk) f_Desk_gone_back fd_Desk_gone_back)
  {f_Desk_asked : Addr} {fd_Desk_asked : FuncData} (G_Desk_asked : Dm P w K mg base C_Desk "asked" 8 ["self", "word", "things"] (sp_Desk_asked C_Keeper C_Desk) f_Desk_asked fd_Desk_asked)
  {f_Desk_told : Addr} {fd_Desk_told : FuncData} (G_Desk_told : Dm P w K mg base C_Desk "told" 3 ["self", "word"] (sp_Desk_told C_Keeper C_Desk) f_Desk_told fd_Desk_told) : FnOk P w K mg base CX0 9 f fd ["self", "line"] (sp_Desk_say C_Keeper C_Desk) := by
  have sc := sc_Desk_say
  obtain ⟨dDEEDS, hDEEDS, qDEEDS⟩ := T.m_DEEDS
  refine F.ok sc (fun vs H Q E h => ?_) (fun cdv A outer s H vs Q E hr h => ?_)
  · rcases h with ⟨_, _, _, _, _, _, rfl, _⟩ | ⟨_, _, _, _, _, _, rfl, _⟩ | ⟨_, _, _, _, _, _, rfl, _⟩ | ⟨_, _, _, _, _, _, rfl, _⟩ <;> rfl
  · have hu := hu_of hr
    refine ⟨_, PSs.nox (pss_cons (ps_asg (pe_call G_order_in.ok (hr.mono (by decide)) (by rfl) G_order_in.mgf G_order_in.kp G_order_in.b .nil pass0 (pa_cons (pv 1) pa_nil)) (pg_tupK (K := K) (n := 2) rfl rfl (pgs_cons (pg_name (i := 2) sc.nd rfl (Or.inl rfl)) (pgs_cons (pg_name (i := 3) sc.nd rfl (Or.inl rfl)) pgs_nil))))
    (pss_cons (ps_if (pt_cmpR (op_in_seqK (K := K) rfl) (pv 2) (pe_glob (v := .ref dDEEDS) (by rfl) hDEEDS rfl) rfl) (pss_one (ps_ret (pe_meth (pv 0) T.c_Desk G_Desk_done.m G_Desk_done.ok (hr.mono (by decide)) G_Desk_done.b .nil pass0 (pa_cons (pe_op (op_catAK (K := K) rfl) (pe_tup (pa_cons (pv 2) pa_nil)) (pv 3)) pa_nil)))) pss_nil)
    (pss_cons (ps_if (pt_cmpR op_eq (pv 2) pe_str (nomark _)) (pss_one (ps_ret (pe_meth0 (pv 0) T.c_Desk G_Desk_gone_back.m G_Desk_gone_back.ok (hr.mono (by decide)) G_Desk_gone_back.b .nil pass0))) pss_nil)
    (pss_cons (ps_if (pt_cmpR (op_in_seqK (K := K) rfl) (pv 2) (pe_tup (pa_cons pe_str (pa_cons pe_str (pa_cons pe_str pa_nil)))) rfl) (pss_one (ps_ret (pe_meth (pv 0) T.c_Desk G_Desk_asked.m G_Desk_asked.ok (hr.mono (by decide)) G_Desk_asked.b .nil pass0 (pa_cons (pv 2) (pa_cons (pv 3) pa_nil))))) pss_nil)
    (pss_one (ps_ret (pe_meth (pv 0) T.c_Desk G_Desk_told.m G_Desk_told.ok (hr.mono (by decide)) G_Desk_told.b .nil pass0 (pa_cons (pv 2) pa_nil)))))))), ?_⟩
    have fl : (dv_DEEDS.map (He.Dv.v K)).all flatV = true := rfl
    rcases h with ⟨d, k, l, N, hist, dd, rfl, hD, can, cok, hh, hQ⟩ | ⟨d, k, l, N, hist, dd, rfl, hD, can, hh, hQ⟩ | ⟨d, k, l, N, hist, t, rfl, hD, nok, nw, hg, hW, hQ⟩ | ⟨d, k, l, N, hist, tl, rfl, hD, nok, nw, hQ⟩
    · obtain ⟨dx, hd, hK⟩ := id hD
      refine r_asg2R (er_call0 (ea_cons (ev_var rfl) ea_nil) fun H2 e2 => spr_order (dd.order_ok can.ok cok)) fun x y H1 e1 ⟨th, ex, ey, hth⟩ => ?_
      subst ex ey
      refine q_when (b := true) (et_is (et_test (ev_op (ev_var rfl) ev_c (rv_isT (qDEEDS _) rfl fl))) ?_) (fun _ H2 e2 => ?_) (fun hb => by cases hb)
      · exact in_deed dd
      · refine s_retMA (PL := fun vs H2 => ∃ b, vs = [.ref b] ∧ H2 b = some (.tup (Deed.v dd))) (ev_var rfl) ((e1.trans e2) _ _ hd) (d_none (by decide +kernel)) (fun H3 e3 Q q => ?_) fun vs H3 e3 ⟨b, ev, hb⟩ => ?_
        · refine er_cat (xs := [.str dd.wd]) (ys := dd.ths.map Th.v) (er_tup (ea_cons (ev_var rfl) ea_nil) (by show 1 ≤ 100000; decide)) (EvR.of' (ev_var rfl) fun H4 e4 => ⟨th, rfl, (e2.trans e4) _ _ hth⟩) ?_ H3 e3 _ fun v H4 e4 ⟨b, ev, hb⟩ => q [v] H4 e4 ⟨b, by rw [ev], by rw [Deed.v_eq]; exact hb⟩
          rw [List.length_map]; cases dd <;> simp [Deed.ths]
        · subst ev
          have e13 := e1.trans (e2.trans e3)
          exact ⟨d, k, l, b, N, hist, dd, rfl, hD.up e13, hb, can, hh, fun H5 fr hD5 => hQ H5 ((Fr.of e13).trans fr) hD5⟩
    · obtain ⟨dx, hd, hK⟩ := id hD
      refine r_asg2R (er_call0 (ea_cons (ev_var rfl) ea_nil) fun H2 e2 => spr_order back_ok) fun x y H1 e1 ⟨th, ex, ey, hth⟩ => ?_
      subst ex ey
      refine q_when (b := false) (et_is (et_test (ev_op (ev_var rfl) ev_c (rv_isT (qDEEDS _) rfl fl))) (not_deed (by decide +kernel) (by decide +kernel) (by decide +kernel) (by decide +kernel) (by decide +kernel))) (fun hb => by cases hb) (fun _ H2 e2 => ?_)
      refine q_when (b := true) (et_is (et_test (ev_op (ev_var rfl) ev_c (rv_eq rfl))) (by decide +kernel)) (fun _ H3 e3 => ?_) (fun hb => by cases hb)
      refine s_retM (ev_var rfl) ((e1.trans (e2.trans e3)) _ _ hd) (d_none (by decide +kernel)) ea_nil fun H4 e4 => ?_
      have e14 := (e1.trans (e2.trans e3)).trans e4
      exact ⟨d, k, l, N, hist, dd, rfl, hD.up e14, can, hh, fun H5 fr hD5 => hQ H5 ((Fr.of e14).trans fr) hD5⟩
    · obtain ⟨dx, hd, hK⟩ := id hD
      refine r_asg2R (er_call0 (ea_cons (ev_var rfl) ea_nil) fun H2 e2 => spr_order (margin_ok (nw.n t (getT_mem hg)))) fun x y H1 e1 ⟨th, ex, ey, hth⟩ => ?_
      subst ex ey
      refine q_when (b := false) (et_is (et_test (ev_op (ev_var rfl) ev_c (rv_isT (qDEEDS _) rfl fl))) (not_deed (z := "margin") (by decide +kernel) (by decide +kernel) (by decide +kernel) (by decide +kernel) (by decide +kernel))) (fun hb => by cases hb) (fun _ H2 e2 => ?_)
      refine q_when (b := false) (et_is (et_test (ev_op (ev_var rfl) ev_c (rv_eq rfl))) (by show decide (V.str "margin" = V.str "back") = false; decide +kernel)) (fun hb => by cases hb) (fun _ H3 e3 => ?_)
      refine q_when (b := true) (et_is (et_test (ev_inU (ev_var rfl) (eu_tup (ea_cons ev_c (ea_cons ev_c (ea_cons ev_c ea_nil))) (by show 3 ≤ 100000; decide)) rfl rfl)) ?_) (fun _ H4 e4 => ?_) (fun hb => by cases hb)
      · exact (inV_three _ _ _ _).trans (decide_eq_true (.inl rfl))
      have e14 := e1.trans (e2.trans (e3.trans e4))
      refine s_retM (ev_var rfl) (e14 _ _ hd) (d_none (by decide +kernel)) (ea_cons (ev_var rfl) (ea_cons (ev_var rfl) ea_nil)) fun H5 e5 => ?_
      exact ⟨d, k, l, th, N, hist, t, rfl, hD.up (e14.trans e5), (e2.trans (e3.trans (e4.trans e5))) _ _ hth, nok, nw, hg, hW, fun m H6 e6 hm => hQ m H6 ((e14.trans e5).trans e6) hm⟩
    · obtain ⟨dx, hd, hK⟩ := id hD
      refine r_asg2R (er_call0 (ea_cons (ev_var rfl) ea_nil) fun H2 e2 => spr_order (tell_ok tl)) fun x y H1 e1 ⟨th, ex, ey, hth⟩ => ?_
      subst ex ey
      refine q_when (b := false) (et_is (et_test (ev_op (ev_var rfl) ev_c (rv_isT (qDEEDS _) rfl fl))) ?_) (fun hb => by cases hb) (fun _ H2 e2 => ?_)
      · cases tl <;> exact not_deed (by decide +kernel) (by decide +kernel) (by decide +kernel) (by decide +kernel) (by decide +kernel)
      refine q_when (b := false) (et_is (et_test (ev_op (ev_var rfl) ev_c (rv_eq rfl))) ?_) (fun hb => by cases hb) (fun _ H3 e3 => ?_)
      · cases tl <;> decide +kernel
      refine q_when (b := false) (et_is (et_test (ev_inU (ev_var rfl) (eu_tup (ea_cons ev_c (ea_cons ev_c (ea_cons ev_c ea_nil))) (by show 3 ≤ 100000; decide)) rfl rfl)) ?_) (fun hb => by cases hb) (fun _ H4 e4 => ?_)
      · refine (inV_three _ _ _ _).trans (decide_eq_false ?_)
        cases tl <;> decide +kernel
      have e14 := e1.trans (e2.trans (e3.trans e4))
      refine s_retM (ev_var rfl) (e14 _ _ hd) (d_none (by decide +kernel)) (ea_cons (ev_var rfl) ea_nil) fun H5 e5 => ?_
      exact ⟨d, k, l, N, hist, tl, rfl, hD.up (e14.trans e5), nok, nw, fun H6 e6 => hQ H6 ((e14.trans e5).trans e6)⟩
end
end Ct
end

section
set_option Elab.async false
set_option linter.all false
set_option maxRecDepth 100000
set_option maxHeartbeats 4000000
namespace Ct
open PySem PySem.Spec PyProof.Rows L2 Evl
section
variable {P : Program} {w : World} {K : PySem.W.Frag} {mg : Str → Option Value} {base : Heap} {C_Groups C_Keeper C_Desk : Addr}
theorem lr_listN {α β : Type} {σ : L2.St} {H : Hp} {xs : List V} {ds : List α} {tl : TE} (h : EvL tl σ H xs) (hl : xs.length = ds.length) (hz : ds.length < 50000) {tt : TT} {te : TE} {j : Nat} {vs : List Nat} {RB : Hp → V → β → Prop} (S : Stay RB) (f : α → Bool) (g : α → β)
    (turn : ∀ (i : Nat) (x : V) (d : α), xs[i]? = some x → ds[i]? = some d → EvT tt ((wipe σ vs).set j (some x)) H (f d) ∧ (f d = true → EvR te ((wipe σ vs).set j (some x)) H (fun v H2 => RB H2 v (g d))))
    (hw : ∀ x, wipe ((wipe σ vs).set j (some x)) vs = wipe σ vs := by intro _; rfl) :
    EvLR (tLc (iList K tl) (gName j) tt te vs) σ H (fun ys H2 => Paired (RB H2) ys ((ds.filter f).map g)) := fun H0 e Q q => h H0 e _ fun p H1 hp e1 h1 =>
  ⟨p, rfl, ⟨xs, SqL.of h1⟩, fun Dl hD => lc_list_data (SqL.of h1) hl hz (Ex.refl H1) S f g hw (fun i x d hx hd => ⟨(turn i x d hx hd).1.mono (e.trans e1), fun hf => ((turn i x d hx hd).2 hf).mono (e.trans e1)⟩) (fun p ys H2 hp e2 h2 p2 => q p ys H2 (fresh_back e1 hp) (e1.trans e2) h2 p2) Dl hD⟩
theorem lr_lst {σ : L2.St} {H : Hp} {ta : TA} {PL : List V → Hp → Prop} (h : EvAR ta σ H PL) (hl : ∀ vs H2, PL vs H2 → vs.length ≤ 100000) : EvLR (tLst ta) σ H (fun ys H2 => ∃ H1, Ex H H1 ∧ Ex H1 H2 ∧ PL ys H1) := fun H1 e Q q =>
  h H1 e _ fun vs H2 e2 p => ⟨sz_of (hl vs H2 p), fun l hl => q l vs _ (fresh_back e2 hl) (e2.trans (Ex.new hl)) upd_same ⟨H2, e.trans e2, Ex.new hl, p⟩⟩
theorem cut_map {α : Type} {g : α → V} (xs : List α) (lo hi : Option Int) : ∃ ys : List α, cutV (xs.map g) lo hi = ys.map g ∧ ys.Sublist xs := by
  unfold cutV
  exact ⟨(xs.drop (HT.sIx (xs.map g).length 0 lo)).take (HT.sIx (xs.map g).length (xs.map g).length hi - HT.sIx (xs.map g).length 0 lo), by rw [List.map_take, List.map_drop], (List.take_sublist _ _).trans (List.drop_sublist _ _)⟩
theorem fmod_lt {i j : Int} (h : 0 < j) : 0 ≤ i.fmod j ∧ i.fmod j < j := by
  rw [Int.fmod_eq_emod_of_nonneg i (by omega)]
  exact ⟨Int.emod_nonneg i (by omega), Int.emod_lt_of_pos i h⟩
/-- the draws' state -/
def StAt (H : Hp) (s l : Addr) : Prop := ∃ (xs : List Int) (seed : Int), H s = some (.lst [.ref l, .int seed]) ∧ H l = some (.lst (xs.map V.int)) ∧ 0 ≤ seed ∧ seed < 2 ^ 61
theorem StAt.ne {H : Hp} {s l : Addr} (h : StAt H s l) : s ≠ l := by
  obtain ⟨xs, seed, h1, h2, _⟩ := h
  intro z
  rw [z, h2] at h1
  injection h1 with h1
  injection h1 with h1
  cases xs with
  | nil => simp at h1
  | cons x r => simp at h1
theorem StAt.up {H H' : Hp} {s l : Addr} (e : Ex H H') (h : StAt H s l) : StAt H' s l := by
  obtain ⟨xs, seed, h1, h2, h3⟩ := h
  exact ⟨xs, seed, e _ _ h1, e _ _ h2, h3⟩
def absI (i : Int) : Int := if i < 0 then -i else i
theorem ev_abs {σ : L2.St} {H : Hp} {te : TE} {i : Int} (h : Ev te σ H (.int i)) : Ev (tCB (fun xs H Q => ∃ i, xs = [.int i] ∧ Q (.int (if i < 0 then -i else i)) H) (tCons te tNil)) σ H (.int (absI i)) := ev_cb (ea_cons h ea_nil) fun H5 e5 Q q => ⟨i, rfl, q H5 (Ex.refl H5)⟩
def sp_l_begin (K : PySem.W.Frag) : Sp := fun vs H Q _ => ∃ (a : Addr) (ns : List Int), vs = [.ref a] ∧ SqL K H a (ns.map V.int) ∧ ns.length ≤ 63 ∧ ∀ s l H2, H s = none → H l = none → Ex H H2 → StAt H2 s l → Q (.ref s) H2
theorem sc_l_begin : FnScope ["_law_script", "_law_seed", "_law_cell"] ["_law_script"] (defScope s_l_begin) := ⟨rfl, rfl, rfl, by decide +kernel, rfl, by decide +kernel, by decide +kernel⟩
theorem ok_l_begin {f : Addr} {fd : FuncData} (F : FnP K "_law_begin" "_law_begin" s_l_begin f fd) (T : Txt w K mg C_Groups C_Keeper C_Desk)
   : FnOk P w K mg base CX0 1 f fd ["_law_script"] (sp_l_begin K) := by
  have sc := sc_l_begin

  refine F.ok sc (fun vs H Q E h => ?_) (fun cdv A outer s H vs Q E hr h => ?_)
  · obtain ⟨a, ns, rfl, _⟩ := h; rfl
  · have hu := hu_of hr
    obtain ⟨a, ns, rfl, ha, hl, hQ⟩ := h
    refine ⟨_, PSs.nox (pss_cons (ps_set (i := 1) sc.nd rfl (Or.inl rfl) (pe_op op_add (pe_callB (call_len_seqK (K := K) rfl) (by rfl) T.b_len (by decide +kernel) (pa_cons (pv 0) pa_nil)) pe_int))
    (pss_cons (ps_for PassesOwn.never rfl (pi_listK (K := K) rfl (pe_slice (sl_listK (K := K) rfl) (pv 0) po_none (po_some pe_int))) (pg_name (i := 2) sc.nd rfl (Or.inl rfl)) (pss_one (ps_set (i := 1) sc.nd rfl (Or.inl rfl) (pe_op op_modN (pe_op op_add (pe_op op_add (pe_op op_mul (pv 1) pe_int) (pe_op op_modN (pv 2) (pe_op op_pow pe_int pe_int))) pe_int) pe_int))))
    (pss_one (ps_ret (pe_lst (pa_cons (pe_lc (own := [("_law_cell", 2)]) (by rfl) sc.nd (pi_listK (K := K) rfl (pe_slice (sl_listK (K := K) rfl) (pv 0) po_none (po_some pe_int))) (blkOk_by (N := ["_law_script", "_law_seed", "_law_cell"]) (sc := defScope s_l_begin) (own := [("_law_cell", 2)]) (by decide +kernel)) (fun _ _ _ _ _ => (pg_name (i := 2) sc.nd rfl (Or.inl rfl))) (fun _ _ _ _ _ => (pts_one (pt_cmpR op_ge (pe_callB call_abs (by rfl) T.b_abs (by decide +kernel) (pa_cons (pv 2) pa_nil)) (pe_op op_pow pe_int pe_int) (nomark _)))) (fun _ _ _ _ _ => (pe_callB call_abs (by rfl) T.b_abs (by decide +kernel) (pa_cons (pv 2) pa_nil)))) (pa_cons (pv 1) pa_nil))))))), ?_⟩
    refine q_asg (v := .int ((ns.length : Int) + 3)) (ev_is (ev_op (ev_lenL (ev_var rfl) ha) ev_c rv_I0) (by rw [List.length_map])) fun H1 e1 => ?_
    obtain ⟨ms, hms, sub⟩ := cut_map (g := V.int) ns none (some 63)
    have msl : ms.length ≤ 63 := Nat.le_trans sub.length_le hl
    have src : ∀ {σ : L2.St} {H' : Hp}, Ex H H' → σ[0]? = some (some (.ref a)) → EvL (tSl (rSlL K) (tVar 0) tNoPart (tPart (tC (.int 63)))) σ H' (ms.map V.int) := fun e h => hms ▸ el_sl (ev_var h) eo_none (eo_some ev_c) (ex_l e ha)
    refine q_forNL (src e1 rfl) (fun p i σ' H' => ∃ (seed : Int) (v : Option V), σ' = [some (.ref a), some (.int seed), v] ∧ Ex H1 H' ∧ H' p = some (.lst (ms.map V.int)) ∧ 0 ≤ seed ∧ seed < 2 ^ 61) ?_ ?_ ?_ ?_
    · intro p H2 _ e2 h2
      exact ⟨_, none, rfl, e2, h2, by omega, by omega⟩
    · rintro p i σ' H' _ ⟨seed, v, _, _, h2, _⟩
      exact SqL.of h2
    · rintro p i x σ' H' hi ⟨seed, v, rfl, e2, h2, s1, s2⟩
      have hx : ∃ c : Int, x = .int c := by
        rw [List.getElem?_map] at hi
        cases hc : ms[i]? with
        | none => rw [hc] at hi; cases hi
        | some c => rw [hc] at hi; exact ⟨c, (Option.some.inj hi).symm⟩
      obtain ⟨c, rfl⟩ := hx
      refine s_asg (v := .int (((seed * 6364136223846793 + c.fmod (10 ^ 30)) + 1442695040888963).fmod 2305843009213693951)) (ev_op (ev_op (ev_op (ev_op (ev_var rfl) ev_c (rv_I (.inr (by decide)))) (ev_op (ev_var rfl) (ev_op ev_c ev_c (rv_I ⟨by decide, by decide, by decide⟩)) (rv_I (by decide))) rv_I0) ev_c rv_I0) ev_c (rv_I (by decide))) fun H3 e3 => ?_
      have := fmod_lt (i := (seed * 6364136223846793 + c.fmod (10 ^ 30)) + 1442695040888963) (j := 2305843009213693951) (by decide)
      exact ⟨_, _, rfl, e2.trans e3, e3 _ _ h2, this.1, by omega⟩
    · rintro p σ' H' ⟨seed, v, rfl, e2, h2, s1, s2⟩
      have e12 := e1.trans e2
      refine r_retL (lr_lst (ar_cons (P := fun v H2 => ∃ l xs, v = .ref l ∧ H l = none ∧ H2 l = some (.lst ((xs : List Int).map V.int))) (fun v H H' e ⟨l, xs, h1, h2, h3⟩ => ⟨l, xs, h1, h2, e _ _ h3⟩) (fun H3 e3 Q q => (lr_listN (K := K) (RB := fun _ v (n : Int) => v = .int n) (ds := ms) (src e12 rfl) (by rw [List.length_map]) (by omega) Stay.val (fun c => decide (absI c ≥ 10 ^ 18)) absI (fun i x d hx hd => ?_)) H3 e3 Q fun l ys H4 hl e4 h4 hy => by
        have hy' := Paired.vals hy
        subst hy'
        exact q _ H4 e4 ⟨l, _, rfl, fresh_back (e12.trans e3) hl, h4⟩) (ar_cons (P := fun v _ => v = .int seed) (fun _ _ _ _ h => h) (er_var rfl) ar_nil)) ?_) fun s ys H3 hs e3 h3 ⟨H4, e4, e5, v, r, ey, ⟨l, xs, ev, hl, hxs⟩, v2, r2, er, ev2, er2⟩ => ?_
      · have ex : x = .int d := by
          rw [List.getElem?_map, hd] at hx
          exact (Option.some.inj hx).symm
        subst ex
        refine ⟨et_test (ev_op (ev_abs (ev_var rfl)) (ev_op ev_c ev_c (rv_I ⟨by decide, by decide, by decide⟩)) rv_I0), fun _ => EvR.of (ev_abs (ev_var rfl))⟩
      · rintro vs H2 ⟨v, r, rfl, _, v2, r2, rfl, _, rfl⟩
        show 2 ≤ 100000; decide
      · subst ey ev er ev2 er2
        refine hQ s l H3 (fresh_back e12 hs) hl (e12.trans e3) ⟨xs, seed, h3, e5 _ _ hxs, s1, s2⟩
/-! ### lists compared as data -/
theorem dp_map {α : Type} {g : α → V} {d : α → PyData} {H : Hp} (h : ∀ a, Dp K H (g a) (d a)) : ∀ xs : List α, DpAll K H (xs.map g) (xs.map d)
  | [] => .nil
  | x :: r => .cons (h x) (dp_map h r)
theorem lay_map {α : Type} {d : α → PyData} (h : ∀ a, (d a).canLay0 = true) : ∀ xs : List α, PyData.canLayAll0 (xs.map d) = true
  | [] => rfl
  | x :: r => by
    show PyData.canLayAll0 (d x :: r.map d) = true
    simp only [PyData.canLayAll0, h x, lay_map h r, Bool.and_self]
theorem depth_map {α : Type} {d : α → PyData} (h : ∀ a, (d a).depth = 0) : ∀ xs : List α, PyData.depthAll (xs.map d) = 0
  | [] => rfl
  | x :: r => by
    show PyData.depthAll (d x :: r.map d) = 0
    simp only [PyData.depthAll, h x, depth_map h r, Nat.max_self]
theorem shaped_map {α : Type} {d : α → PyData} (h : ∀ a, (d a).canLay0 = true) (g : ∀ a, (d a).depth = 0) (xs : List α) : SeqAt.shaped (.list (xs.map d)) = true := by
  unfold SeqAt.shaped
  simp [PyData.canLay0, PyData.depth, lay_map h, depth_map g]
theorem eqv_strs : ∀ xs ys : List Str, PyData.eqvAll (xs.map .str) (ys.map .str) = decide (xs = ys)
  | [], [] => rfl
  | [], y :: r => rfl
  | x :: r, [] => rfl
  | x :: r, y :: t => by
    show PyData.eqvAll (.str x :: r.map .str) (.str y :: t.map .str) = _
    simp only [PyData.eqvAll, PyData.eqv, eqv_strs r t]
    by_cases h : x = y <;> by_cases g : r = t <;> simp [h, g]
theorem ev_neNil {σ : L2.St} {H : Hp} {ta : TE} {l : Addr} {xs : List Int} (ha : Ev ta σ H (.ref l)) (hl : H l = some (.lst (xs.map V.int))) : Ev (tOp (rNeD K) ta (tLst tNil)) σ H (.bl (!xs.isEmpty)) := fun H1 e Q q =>
  ha H1 e _ fun H2 e2 => el_lst ea_nil (by decide) H2 (e.trans e2) _ fun p H3 hp e3 h3 => ⟨.list (xs.map .int), .list [], Dp.lst (SqL.of ((e.trans (e2.trans e3)) _ _ hl)) (dp_map (fun a => .int a) xs), Dp.lst (SqL.of h3) .nil, shaped_map (fun _ => rfl) (fun _ => rfl) xs, rfl, by
    have e1 : (!PyData.eqv (.list (xs.map .int)) (.list [])) = !xs.isEmpty := by cases xs <;> rfl
    rw [e1]
    exact q H3 (e2.trans e3)⟩
def sp_l_next : Sp := fun vs H Q _ => ∃ s l m, vs = [.ref s, .int m] ∧ StAt H s l ∧ 1 ≤ m ∧ m < 1073741824 ∧ ∀ (r : Int) H2, 0 ≤ r → r < m → Fr s l H H2 → StAt H2 s l → Q (.int r) H2
theorem q_popF {σ : L2.St} {H : Hp} {D : Ends} {te : TE} {l : Addr} {x : V} {xs : List V} (h : Ev te σ H (.ref l)) (hl : H l = some (.lst (x :: xs))) (k : ∀ H1, Ex H H1 → D.nx σ (upd H1 l (.lst xs))) :
    tDrop (tBM K "list" rPopAt te (tCons (tC (.int 0)) tNil)) D σ H := h H (Ex.refl H) _ fun H1 e => ⟨.inl ⟨rfl, _, SqL.of (e _ _ hl)⟩, l, _, 0, 0, x, rfl, rfl, e _ _ hl, by decide, by decide, seqIndex_of (by decide) (by show (0 : Int) < ((xs.length + 1 : Nat) : Int); omega), rfl, k H1 e⟩
theorem q_set {σ : L2.St} {H : Hp} {D : Ends} {tz : TS} {te to : TE} {l : Addr} {xs : List V} {v : V} {j : Nat} (hv : Ev te σ H v) (h : Ev to σ H (.ref l)) (hl : H l = some (.lst xs)) (hj : j < xs.length) (k : ∀ H1, Ex H H1 → tz D σ (upd H1 l (.lst (xs.set j v)))) :
    tSeq (tAsg te (gSub to (tC (.int (j : Int))) rSetL)) tz D σ H := hv H (Ex.refl H) _ fun H1 e1 => h H1 e1 _ fun H2 e2 => ⟨l, xs, (j : Int), j, rfl, rfl, (e1.trans e2) _ _ hl, ixN_nat hj, k H2 (e1.trans e2)⟩
theorem sc_l_next : FnScope ["_law_state", "_law_many", "_law_digit"] ["_law_state", "_law_many"] (defScope s_l_next) := ⟨rfl, rfl, rfl, by decide +kernel, rfl, by decide +kernel, by decide +kernel⟩
theorem ok_l_next {f : Addr} {fd : FuncData} (F : FnP K "_law_next" "_law_next" s_l_next f fd) (T : Txt w K mg C_Groups C_Keeper C_Desk)
   : FnOk P w K mg base CX0 1 f fd ["_law_state", "_law_many"] sp_l_next := by
  have sc := sc_l_next

  refine F.ok sc (fun vs H Q E h => ?_) (fun cdv A outer s H vs Q E hr h => ?_)
  · obtain ⟨s, l, m, rfl, _⟩ := h; rfl
  · have hu := hu_of hr
    obtain ⟨s, l, m, rfl, st, m1, m2, hQ⟩ := h
    have nsl := st.ne
    refine ⟨_, PSs.nox (pss_cons (ps_while PassesOwn.never (PW.pt (pw_and (pt_cmpR (op_neD hr.units) (pe_ix (ix_listK (K := K) rfl) (pv 0) pe_int (fun _ _ => rfl)) (pe_lst pa_nil) (nomark _)) (pw_and1 (pt_cmpR op_eq (pe_ix (ix_listK (K := K) rfl) (pe_ix (ix_listK (K := K) rfl) (pv 0) pe_int (fun _ _ => rfl)) pe_int (fun _ _ => rfl)) pe_int (nomark _))))) (pss_one (ps_expr (pe_K (K := K) (fun k => tBM k "list" rPopAt _ _) rfl (pe_bm PySem.F.plainAttrs_list PySem.F.slot_list_pop PySem.F.type_list_pop mt_popAt (pe_ix (ix_listK (K := K) rfl) (pv 0) pe_int (fun _ _ => rfl)) (pa_cons pe_int pa_nil))))))
    (pss_cons (ps_if (pt_cmpR (op_neD hr.units) (pe_ix (ix_listK (K := K) rfl) (pv 0) pe_int (fun _ _ => rfl)) (pe_lst pa_nil) (nomark _)) (pss_cons (ps_set (i := 2) sc.nd rfl (Or.inl rfl) (pe_op op_modN (pe_ix (ix_listK (K := K) rfl) (pe_ix (ix_listK (K := K) rfl) (pv 0) pe_int (fun _ _ => rfl)) pe_int (fun _ _ => rfl)) (pv 1)))
    (pss_cons (ps_asg (pe_op op_fdivN (pe_ix (ix_listK (K := K) rfl) (pe_ix (ix_listK (K := K) rfl) (pv 0) pe_int (fun _ _ => rfl)) pe_int (fun _ _ => rfl)) (pv 1)) (pg_sub (pe_ix (ix_listK (K := K) rfl) (pv 0) pe_int (fun _ _ => rfl)) pe_int set_list))
    (pss_one (ps_ret (pv 2))))) pss_nil)
    (pss_cons (ps_asg (pe_op op_modN (pe_op op_add (pe_op op_mul (pe_ix (ix_listK (K := K) rfl) (pv 0) pe_int (fun _ _ => rfl)) pe_int) pe_int) pe_int) (pg_sub (pv 0) pe_int set_list))
    (pss_one (ps_ret (pe_op op_modN (pe_op op_fdivN (pe_op op_modN (pe_op op_mul (pe_ix (ix_listK (K := K) rfl) (pv 0) pe_int (fun _ _ => rfl)) (pe_ix (ix_listK (K := K) rfl) (pv 0) pe_int (fun _ _ => rfl))) pe_int) pe_int) (pv 1))))))), ?_⟩
    obtain ⟨xs0, seed, hs, hl, s1, s2⟩ := st
    have i0 : ∀ {σ : L2.St} {H' : Hp}, H' s = some (.lst [.ref l, .int seed]) → σ[0]? = some (some (.ref s)) → Ev (tOp (rIxL K) (tVar 0) (tC (.int 0))) σ H' (.ref l) := fun e h => ev_op (ev_var h) ev_c (rv_ixL (SqL.of e) rfl)
    have i00 : ∀ {σ : L2.St} {H' : Hp} {x : Int} {r : List Int}, H' s = some (.lst [.ref l, .int seed]) → H' l = some (.lst ((x :: r).map V.int)) → σ[0]? = some (some (.ref s)) → Ev (tOp (rIxL K) (tOp (rIxL K) (tVar 0) (tC (.int 0))) (tC (.int 0))) σ H' (.int x) := fun e g h => ev_op (i0 e h) ev_c (rv_ixL (SqL.of g) (atI_nat (j := 0) rfl))
    refine q_while (fun n σ' H' => ∃ xs : List Int, n = xs.length ∧ σ' = [some (.ref s), some (.int m), none] ∧ Fr s l H H' ∧ H' s = some (.lst [.ref l, .int seed]) ∧ H' l = some (.lst (xs.map V.int))) xs0.length ⟨xs0, rfl, rfl, Fr.of (Ex.refl H), hs, hl⟩ ?_
    rintro n σ' H' ⟨xs, rfl, rfl, fr, hs', hl'⟩
    refine ⟨!xs.isEmpty && (match xs with | x :: _ => decide (x = 0) | [] => false), et_and (et_test (ev_neNil (i0 hs' rfl) hl')) (fun hb => ?_), ?_, ?_⟩
    · cases xs with
      | nil => cases hb
      | cons x r =>
        refine et_is (et_test (ev_op (i00 hs' hl' rfl) ev_c (rv_eq rfl))) ?_
        by_cases h : x = 0 <;> simp [h]
    · intro hb H1 e1
      cases xs with
      | nil => cases hb
      | cons x r =>
        refine ⟨fun σ2 H2 => σ2 = [some (.ref s), some (.int m), none] ∧ Fr s l H H2 ∧ H2 s = some (.lst [.ref l, .int seed]) ∧ H2 l = some (.lst (r.map V.int)), fun σ2 H2 ⟨h1, h2, h3, h4⟩ => ⟨r.length, Nat.lt_succ_self _, r, rfl, h1, h2, h3, h4⟩, ?_⟩
        refine q_popF (K := K) (i0 (e1 _ _ hs') rfl) (e1 _ _ hl') fun H2 e2 => ⟨rfl, (fr.trans (Fr.of (e1.trans e2))).l, by rw [upd_ne nsl]; exact (e1.trans e2) _ _ hs', upd_same⟩
    · intro hb H1 e1
      refine q_when (et_test (ev_neNil (i0 (e1 _ _ hs') rfl) (e1 _ _ hl'))) (fun hb2 H2 e2 => ?_) (fun hb2 H2 e2 => ?_)
      · cases xs with
        | nil => cases hb2
        | cons x r =>
          have e12 := e1.trans e2
          have b := fmod_lt (i := x) (j := m) (by omega)
          refine q_asg (v := .int (x.fmod m)) (ev_op (i00 (e12 _ _ hs') (e12 _ _ hl') rfl) (ev_var rfl) (rv_I (by show m ≠ 0; omega))) fun H3 e3 => ?_
          have e13 := e12.trans e3
          refine q_set (j := 0) (v := .int (x.fdiv m)) (ev_op (i00 (e13 _ _ hs') (e13 _ _ hl') rfl) (ev_var rfl) (rv_I ⟨by omega, by omega⟩)) (i0 (e13 _ _ hs') rfl) (e13 _ _ hl') (by simp) fun H4 e4 => ?_
          refine s_ret (ev_var rfl) fun H5 e5 => ?_
          have e14 := e13.trans e4
          refine hQ _ H5 b.1 b.2 ((fr.trans (Fr.of e14)).l.trans (Fr.of e5)) ⟨x.fdiv m :: r, seed, e5 _ _ ?_, e5 _ _ upd_same, s1, s2⟩
          rw [upd_ne nsl]; exact e14 _ _ hs'
      · have e12 := e1.trans e2
        have i1 : ∀ {σ : L2.St} {H' : Hp} {sd : Int}, H' s = some (.lst [.ref l, .int sd]) → σ[0]? = some (some (.ref s)) → Ev (tOp (rIxL K) (tVar 0) (tC (.int 1))) σ H' (.int sd) := fun e h => ev_op (ev_var h) ev_c (rv_ixL (SqL.of e) rfl)
        have b := fmod_lt (i := seed * 6364136223846793 + 1442695040888963) (j := 2305843009213693951) (by decide)
        refine q_set (j := 1) (v := .int ((seed * 6364136223846793 + 1442695040888963).fmod 2305843009213693951)) (ev_op (ev_op (ev_op (i1 (e12 _ _ hs') rfl) ev_c (rv_I (.inr (by decide)))) ev_c rv_I0) ev_c (rv_I (by decide))) (ev_var rfl) (e12 _ _ hs') (by simp) fun H3 e3 => ?_
        generalize (seed * 6364136223846793 + 1442695040888963).fmod 2305843009213693951 = sd at b ⊢
        have e13 := e12.trans e3
        generalize hH4 : upd H3 s (.lst ([V.ref l, V.int seed].set 1 (.int sd))) = H4
        have hs4 : H4 s = some (.lst [.ref l, .int sd]) := by rw [← hH4, upd_same]; rfl
        have hl4 : H4 l = some (.lst (xs.map V.int)) := by rw [← hH4, upd_ne (Ne.symm nsl)]; exact e13 _ _ hl'
        have fr4 : Fr s l H H4 := hH4 ▸ (fr.trans (Fr.of e13)).k
        have c := fmod_lt (i := ((sd * sd).fmod 2305843009213693921).fdiv 65537) (j := m) (by omega)
        refine s_ret (v := .int ((((sd * sd).fmod 2305843009213693921).fdiv 65537).fmod m)) (ev_op (ev_op (ev_op (ev_op (i1 hs4 rfl) (i1 hs4 rfl) (rv_I (.inl ⟨by omega, by omega⟩))) ev_c (rv_I (by decide))) ev_c (rv_I ⟨by decide, by decide⟩)) (ev_var rfl) (rv_I (by show m ≠ 0; omega))) fun H5 e5 => ?_
        exact hQ _ H5 c.1 c.2 (fr4.trans (Fr.of e5)) ⟨xs, sd, e5 _ _ hs4, e5 _ _ hl4, b.1, by omega⟩
end
end Ct
end

section
set_option Elab.async false
set_option linter.all false
set_option maxRecDepth 100000
set_option maxHeartbeats 4000000
namespace Ct
open PySem PySem.Spec PyProof.Rows L2 Evl
section
variable {P : Program} {w : World} {K : PySem.W.Frag} {mg : Str → Option Value} {base : Heap} {C_Groups C_Keeper C_Desk : Addr}
/-! ### the words that are drawn -/
def ltr (i : Nat) : Str := ⟨#[97 + i]⟩
def two (first k : Nat) : Str := ltr ((first + 5 * k) % 26) ++ ltr ((first + k / 26) % 26)
def wordL (many base size at_ first k : Nat) : Str :=
  if many < 8 ∧ size = 6 then mulS (ltr base) (k + 1) else (mulS (ltr base) at_ ++ two first k) ++ mulS (ltr base) (size - at_)
theorem cps_app (x y : Str) : (x ++ y).cps.toList = x.cps.toList ++ y.cps.toList := by
  show (x.cps ++ y.cps).toList = _
  rw [Array.toList_append]
theorem mulS_cps (c n : Nat) : (mulS (ltr c) n).cps.toList = List.replicate n (97 + c) := Cx2.mulS_one (97 + c) n
theorem two_cps (first k : Nat) : (two first k).cps.toList = [97 + (first + 5 * k) % 26, 97 + (first + k / 26) % 26] := by
  unfold two
  rw [cps_app]; rfl
theorem wordL_cps1 {many base size at_ first k : Nat} (h : many < 8 ∧ size = 6) : (wordL many base size at_ first k).cps.toList = List.replicate (k + 1) (97 + base) := by
  unfold wordL; rw [if_pos h, mulS_cps]
theorem wordL_cps2 {many base size at_ first k : Nat} (h : ¬ (many < 8 ∧ size = 6)) : (wordL many base size at_ first k).cps.toList = (List.replicate at_ (97 + base) ++ [97 + (first + 5 * k) % 26, 97 + (first + k / 26) % 26]) ++ List.replicate (size - at_) (97 + base) := by
  unfold wordL; rw [if_neg h, cps_app, cps_app, mulS_cps, mulS_cps, two_cps]
theorem wordL_ok {many base size at_ first k : Nat} (hb : base < 26) (hs : size < 7) (ha : at_ ≤ size) (hk : k < many) : WordOk (wordL many base size at_ first k) := by
  unfold WordOk
  rw [← str_len]
  by_cases h : many < 8 ∧ size = 6
  · rw [wordL_cps1 h, List.length_replicate]
    refine ⟨by omega, by omega, fun c hc => ?_⟩
    have := List.eq_of_mem_replicate hc
    omega
  · rw [wordL_cps2 h]
    refine ⟨?_, ?_, fun c hc => ?_⟩
    · simp only [List.length_append, List.length_replicate, List.length_cons, List.length_nil]; omega
    · simp only [List.length_append, List.length_replicate, List.length_cons, List.length_nil]; omega
    · have m1 := Nat.mod_lt (first + 5 * k) (show 26 > 0 by decide)
      have m2 := Nat.mod_lt (first + k / 26) (show 26 > 0 by decide)
      rcases List.mem_append.mp hc with hc | hc
      · rcases List.mem_append.mp hc with hc | hc
        · have := List.eq_of_mem_replicate hc; omega
        · simp only [List.mem_cons, List.not_mem_nil, or_false] at hc
          rcases hc with rfl | rfl <;> omega
      · have := List.eq_of_mem_replicate hc; omega
theorem wordL_inj {many base size at_ first k j : Nat} (hk : k < 26) (hj : j < 26) (h : wordL many base size at_ first k = wordL many base size at_ first j) : k = j := by
  have e : (wordL many base size at_ first k).cps.toList = (wordL many base size at_ first j).cps.toList := by rw [h]
  by_cases g : many < 8 ∧ size = 6
  · rw [wordL_cps1 g, wordL_cps1 g] at e
    have := congrArg List.length e
    simpa using this
  · rw [wordL_cps2 g, wordL_cps2 g, List.append_assoc, List.append_assoc] at e
    have e2 := List.append_cancel_left e
    have e3 : 97 + (first + 5 * k) % 26 = 97 + (first + 5 * j) % 26 := by
      simp only [List.cons_append] at e2
      exact (List.cons.inj e2).1
    omega
theorem come_cps : (Str.ofString "come").cps.toList = [99, 111, 109, 101] := by decide +kernel
theorem wordL_come {many base size at_ first k : Nat} (ha : at_ ≤ size) : wordL many base size at_ first k ≠ "come" := by
  intro h
  have e : (wordL many base size at_ first k).cps.toList = [99, 111, 109, 101] := by rw [h]; exact come_cps
  by_cases g : many < 8 ∧ size = 6
  · rw [wordL_cps1 g] at e
    have hl := congrArg List.length e
    rw [List.length_replicate] at hl
    have hk : k + 1 = 4 := hl
    rw [hk] at e
    simp [List.replicate] at e
    omega
  · rw [wordL_cps2 g] at e
    have hl := congrArg List.length e
    simp only [List.length_append, List.length_replicate, List.length_cons, List.length_nil] at hl
    have hs : size = 2 := by omega
    subst hs
    have : at_ = 0 ∨ at_ = 1 ∨ at_ = 2 := by omega
    rcases this with rfl | rfl | rfl
    · simp [List.replicate] at e; omega
    · simp [List.replicate] at e; omega
    · simp [List.replicate] at e; omega
/-! ### running forward where the heap changes -/
section
variable {σ : L2.St} {H : Hp} {D : Ends} {tz : TS} {Q : VK} {te ta tb : TE} {v : V} {r : R2}
theorem run_op (h : ta σ H fun x H1 => tb σ H1 fun y H2 => r x y H2 Q) : tOp r ta tb σ H Q := h
theorem run_ev (h : Ev te σ H v) (k : ∀ H1, Ex H H1 → Q v H1) : te σ H Q := h H (Ex.refl H) Q k
theorem run_call {sp : Sp} {dvs vs : List V} {E : XK} {t : TA} (h : EvA t σ H vs) (k : ∀ H1, Ex H H1 → sp (vs ++ dvs) H1 Q E) : tCall sp dvs E t σ H Q := h H (Ex.refl H) _ k
theorem run_lst {t : TA} (h : t σ H fun vs H1 => vs.length ≤ sizeLine ∧ ∀ p, H1 p = none → Q (.ref p) (upd H1 p (.lst vs))) : tLst t σ H Q := h
theorem run_tup {t : TA} (h : t σ H fun vs H1 => vs.length ≤ sizeLine ∧ ∀ p, H1 p = none → Q (.ref p) (upd H1 p (.tup vs))) : tTup t σ H Q := h
theorem run_cons {t : TA} {R : List V → Hp → Prop} (h : te σ H fun v H1 => t σ H1 fun vs H2 => R (v :: vs) H2) : tCons te t σ H R := h
theorem run_nil {R : List V → Hp → Prop} (h : R [] H) : tNil σ H R := h
theorem ret_run (h : te σ H D.rt) : tRet te D σ H := h
theorem asg_run {i : Nat} (h : te σ H fun v H1 => tz D (σ.set i (some v)) H1) : tSeq (tAsg te (gName i)) tz D σ H := h
theorem asg1_run {i : Nat} (h : te σ H fun v H1 => D.nx (σ.set i (some v)) H1) : tAsg te (gName i) D σ H := h
end
theorem next_run {s l : Addr} {m : Nat} {H : Hp} {Q : VK} {E : XK} (st : StAt H s l) (h1 : 1 ≤ m) (h2 : m < 1073741824) (k : ∀ (n : Nat) H2, n < m → Fr s l H H2 → StAt H2 s l → Q (.int (n : Int)) H2) : sp_l_next [.ref s, .int (m : Int)] H Q E :=
  ⟨s, l, (m : Int), rfl, st, by omega, by omega, fun r H2 r1 r2 fr st2 => by
    obtain ⟨n, rfl⟩ := Int.eq_ofNat_of_zero_le r1
    exact k n H2 (by omega) fr st2⟩
theorem fmod_nat (x n : Nat) : ((x : Int)).fmod (n : Int) = ((x % n : Nat) : Int) := by
  rw [Int.fmod_eq_emod_of_nonneg _ (by omega)]; exact (Int.natCast_emod x n).symm
theorem fdiv_nat (x n : Nat) : ((x : Int)).fdiv (n : Int) = ((x / n : Nat) : Int) := by
  rw [Int.fdiv_eq_ediv_of_nonneg _ (by omega)]; exact (Int.natCast_ediv x n).symm
def sp_l_cost : Sp := fun vs H Q _ => ∃ (s l : Addr) (k : Nat), vs = [.ref s, .int (k : Int)] ∧ StAt H s l ∧ ∀ (c : Int) H2, c.natAbs < 10 ^ 30 → Fr s l H H2 → StAt H2 s l → Q (.int c) H2
theorem dec_int (i j : Int) : decide (V.int i = V.int j) = decide (i = j) := by
  by_cases h : i = j
  · subst h; simp
  · rw [decide_eq_false h]; exact decide_eq_false fun z => h (by cases z; rfl)
theorem sc_l_cost : FnScope ["_law_state", "_law_sort"] ["_law_state", "_law_sort"] (defScope s_l_cost) := ⟨rfl, rfl, rfl, by decide +kernel, rfl, by decide +kernel, by decide +kernel⟩
theorem ok_l_cost {f : Addr} {fd : FuncData} (F : FnP K "_law_cost" "_law_cost" s_l_cost f fd) (T : Txt w K mg C_Groups C_Keeper C_Desk)
  {f_l_next : Addr} {fd_l_next : FuncData} (G_l_next : Dk P w K mg base "_law_next" 1 ["_law_state", "_law_many"] sp_l_next f_l_next fd_l_next) : FnOk P w K mg base CX0 2 f fd ["_law_state", "_law_sort"] sp_l_cost := by
  have sc := sc_l_cost

  refine F.ok sc (fun vs H Q E h => ?_) (fun cdv A outer s H vs Q E hr h => ?_)
  · obtain ⟨s, l, k, rfl, _⟩ := h; rfl
  · have hu := hu_of hr
    obtain ⟨s, l, k, rfl, st, hQ⟩ := h
    refine ⟨_, PSs.nox (pss_cons (ps_if (pt_cmpR op_eq (pv 1) pe_int (nomark _)) (pss_one (ps_ret pe_int)) pss_nil)
    (pss_cons (ps_if (pt_cmpR op_eq (pv 1) pe_int (nomark _)) (pss_one (ps_ret (pe_op op_sub (pe_call G_l_next.ok (hr.mono (by decide)) (by rfl) G_l_next.mgf G_l_next.kp G_l_next.b .nil pass0 (pa_cons (pv 0) (pa_cons pe_int pa_nil))) pe_int))) pss_nil)
    (pss_cons (ps_if (pt_cmpR op_eq (pv 1) pe_int (nomark _)) (pss_one (ps_ret (pe_op op_sub (pe_call G_l_next.ok (hr.mono (by decide)) (by rfl) G_l_next.mgf G_l_next.kp G_l_next.b .nil pass0 (pa_cons (pv 0) (pa_cons pe_int pa_nil))) pe_int))) pss_nil)
    (pss_one (ps_ret (pe_ix (ix_listK (K := K) rfl) (pe_lst (pa_cons (pe_op op_sub (pe_op op_pow pe_int pe_int) pe_int) (pa_cons (pe_op op_sub pe_int (pe_op op_pow pe_int pe_int)) (pa_cons pe_int (pa_cons (pe_call G_l_next.ok (hr.mono (by decide)) (by rfl) G_l_next.mgf G_l_next.kp G_l_next.b .nil pass0 (pa_cons (pv 0) (pa_cons (pe_op op_pow pe_int pe_int) pa_nil))) pa_nil))))) (pe_call G_l_next.ok (hr.mono (by decide)) (by rfl) G_l_next.mgf G_l_next.kp G_l_next.b .nil pass0 (pa_cons (pv 0) (pa_cons pe_int pa_nil))) (fun _ _ => rfl))))))), ?_⟩
    refine q_when (et_is (et_test (ev_op (ev_var rfl) ev_c (rv_eq rfl))) (dec_int _ _)) (fun hb H1 e1 => ?_) (fun hb H1 e1 => ?_)
    · exact s_ret (ev_c (v := .int 5)) fun H2 e2 => hQ 5 H2 (by decide) (Fr.of (e1.trans e2)) (st.up (e1.trans e2))
    refine q_when (et_is (et_test (ev_op (ev_var rfl) ev_c (rv_eq rfl))) (dec_int _ _)) (fun hb H2 e2 => ?_) (fun hb H2 e2 => ?_)
    · refine ret_run (run_op (run_call (ea_cons (ev_var rfl) (ea_cons ev_c ea_nil)) fun H3 e3 => next_run (m := 3) (st.up (e1.trans (e2.trans e3))) (by decide) (by decide) fun n H4 hn fr st4 => run_ev ev_c fun H5 e5 => ⟨_, _, rfl, rfl, ?_⟩))
      exact hQ _ H5 (by omega) ((Fr.of (e1.trans (e2.trans e3))).trans (fr.trans (Fr.of e5))) (st4.up e5)
    refine q_when (et_is (et_test (ev_op (ev_var rfl) ev_c (rv_eq rfl))) (dec_int _ _)) (fun hb H3 e3 => ?_) (fun hb H3 e3 => ?_)
    · refine ret_run (run_op (run_call (ea_cons (ev_var rfl) (ea_cons ev_c ea_nil)) fun H4 e4 => next_run (m := 200) (st.up (e1.trans (e2.trans (e3.trans e4)))) (by decide) (by decide) fun n H5 hn fr st5 => run_ev ev_c fun H6 e6 => ⟨_, _, rfl, rfl, ?_⟩))
      exact hQ _ H6 (by omega) ((Fr.of (e1.trans (e2.trans (e3.trans e4)))).trans (fr.trans (Fr.of e6))) (st5.up e6)
    · have e13 := e1.trans (e2.trans e3)
      refine ret_run (run_op (run_lst (run_cons (run_ev (v := .int (10 ^ 30 - 1)) (ev_op (ev_op ev_c ev_c (rv_I ⟨by decide, by decide, by decide⟩)) ev_c rv_I0) fun H4 e4 => run_cons (run_ev (v := .int (1 - 10 ^ 30)) (ev_op ev_c (ev_op ev_c ev_c (rv_I ⟨by decide, by decide, by decide⟩)) rv_I0) fun H5 e5 => run_cons (run_ev (ev_c (v := .int 0)) fun H6 e6 => run_cons (run_call (ea_cons (ev_var rfl) (ea_cons (ev_op ev_c ev_c (rv_I ⟨by decide, by decide, by decide⟩)) ea_nil)) fun H7 e7 => ?_)))))))
      have e17 := e13.trans (e4.trans (e5.trans (e6.trans e7)))
      refine next_run (m := 1000000000) (st.up e17) (by decide) (by decide) fun n H8 hn fr st8 => run_nil ⟨by show 4 ≤ sizeLine; decide, fun p hp => run_call (ea_cons (ev_var rfl) (ea_cons ev_c ea_nil)) fun H9 e9 => ?_⟩
      have e8 : Ex H8 H9 := (Ex.new hp).trans e9
      refine next_run (m := 4) (st8.up e8) (by decide) (by decide) fun j Ha hj fr2 sta => ?_
      have frA : Fr s l H Ha := (Fr.of e17).trans (fr.trans ((Fr.of e8).trans fr2))
      have nps : p ≠ s := fun z => by
        obtain ⟨_, _, g, _⟩ := st8
        rw [z, g] at hp; cases hp
      have npl : p ≠ l := fun z => by
        obtain ⟨_, _, _, g, _⟩ := st8
        rw [z, g] at hp; cases hp
      have hpa : Ha p = some (.lst [.int (10 ^ 30 - 1), .int (1 - 10 ^ 30), .int 0, .int (n : Int)]) := fr2 _ _ (e9 _ _ upd_same) nps npl
      have : j = 0 ∨ j = 1 ∨ j = 2 ∨ j = 3 := by omega
      rcases this with rfl | rfl | rfl | rfl
      · exact ⟨p, _, 0, _, rfl, rfl, SqL.of hpa, rfl, hQ _ Ha (by decide +kernel) frA sta⟩
      · exact ⟨p, _, 1, _, rfl, rfl, SqL.of hpa, rfl, hQ _ Ha (by decide +kernel) frA sta⟩
      · exact ⟨p, _, 2, _, rfl, rfl, SqL.of hpa, rfl, hQ _ Ha (by decide +kernel) frA sta⟩
      · exact ⟨p, _, 3, _, rfl, rfl, SqL.of hpa, rfl, hQ _ Ha (by omega) frA sta⟩
end
end Ct
end

section
set_option Elab.async false
set_option linter.all false
set_option maxRecDepth 100000
set_option maxHeartbeats 4000000
namespace Ct
open PySem PySem.Spec PyProof.Rows L2 Evl
section
variable {P : Program} {w : World} {K : PySem.W.Frag} {mg : Str → Option Value} {base : Heap} {C_Groups C_Keeper C_Desk : Addr}
theorem mod_ne {a r n : Nat} (ha : a < n) (hr : r + 1 < n) : (a + 1 + r) % n ≠ a ∧ (a + 1 + r) % n < n := by
  refine ⟨?_, Nat.mod_lt _ (by omega)⟩
  by_cases h : a + 1 + r < n
  · rw [Nat.mod_eq_of_lt h]; omega
  · rw [Nat.mod_eq_sub_mod (by omega), Nat.mod_eq_of_lt (by omega)]; omega
def sp_l_ends : Sp := fun vs H Q _ => ∃ (s l : Addr) (fam n k : Nat), vs = [.ref s, .int (fam : Int), .int (n : Int), .int (k : Int)] ∧ StAt H s l ∧ 2 ≤ n ∧ n ≤ 100 ∧ k ≤ 100 ∧
  ∀ (p : Addr) (a b : Nat) H2, a < n → b < n → a ≠ b → Fr s l H H2 → StAt H2 s l → H2 p = some (.tup [.int (a : Int), .int (b : Int)]) → Q (.ref p) H2
theorem sc_l_ends : FnScope ["_law_state", "_law_family", "_law_many", "_law_k", "_law_half", "_law_side", "_law_one"] ["_law_state", "_law_family", "_law_many", "_law_k"] (defScope s_l_ends) := ⟨rfl, rfl, rfl, by decide +kernel, rfl, by decide +kernel, by decide +kernel⟩
theorem ok_l_ends {f : Addr} {fd : FuncData} (F : FnP K "_law_ends" "_law_ends" s_l_ends f fd) (T : Txt w K mg C_Groups C_Keeper C_Desk)
  {f_l_next : Addr} {fd_l_next : FuncData} (G_l_next : Dk P w K mg base "_law_next" 1 ["_law_state", "_law_many"] sp_l_next f_l_next fd_l_next) : FnOk P w K mg base CX0 2 f fd ["_law_state", "_law_family", "_law_many", "_law_k"] sp_l_ends := by
  have sc := sc_l_ends

  refine F.ok sc (fun vs H Q E h => ?_) (fun cdv A outer s H vs Q E hr h => ?_)
  · obtain ⟨s, l, fam, n, k, rfl, _⟩ := h; rfl
  · have hu := hu_of hr
    obtain ⟨s, l, fam, n, k, rfl, st, n1, n2, k1, hQ⟩ := h
    refine ⟨_, PSs.nox (pss_cons (ps_if (pt_cmpR op_eq (pv 1) pe_int (nomark _)) (pss_one (ps_ret (pe_tup (pa_cons (pe_op op_modN (pv 3) (pv 2)) (pa_cons (pe_op op_modN (pe_op op_add (pv 3) pe_int) (pv 2)) pa_nil))))) pss_nil)
    (pss_cons (ps_if (pt_cmpR op_eq (pv 1) pe_int (nomark _)) (pss_one (ps_ret (pe_tup (pa_cons pe_int (pa_cons (pe_op op_add pe_int (pe_call G_l_next.ok (hr.mono (by decide)) (by rfl) G_l_next.mgf G_l_next.kp G_l_next.b .nil pass0 (pa_cons (pv 0) (pa_cons (pe_op op_sub (pv 2) pe_int) pa_nil)))) pa_nil))))) pss_nil)
    (pss_cons (ps_if (PW.pt (pw_and (pt_cmpR op_eq (pv 1) pe_int (nomark _)) (pw_and1 (pt_cmpR op_gt (pv 2) pe_int (nomark _))))) (pss_cons (ps_set (i := 4) sc.nd rfl (Or.inl rfl) (pe_op op_fdivN (pv 2) pe_int))
    (pss_cons (ps_set (i := 5) sc.nd rfl (Or.inl rfl) (pe_call G_l_next.ok (hr.mono (by decide)) (by rfl) G_l_next.mgf G_l_next.kp G_l_next.b .nil pass0 (pa_cons (pv 0) (pa_cons pe_int pa_nil))))
    (pss_cons (ps_set (i := 6) sc.nd rfl (Or.inl rfl) (pe_call G_l_next.ok (hr.mono (by decide)) (by rfl) G_l_next.mgf G_l_next.kp G_l_next.b .nil pass0 (pa_cons (pv 0) (pa_cons (pv 4) pa_nil))))
    (pss_one (ps_ret (pe_tup (pa_cons (pe_op op_add (pe_op op_mul (pv 5) (pv 4)) (pv 6)) (pa_cons (pe_op op_add (pe_op op_mul (pv 5) (pv 4)) (pe_op op_modN (pe_op op_add (pe_op op_add (pv 6) pe_int) (pe_call G_l_next.ok (hr.mono (by decide)) (by rfl) G_l_next.mgf G_l_next.kp G_l_next.b .nil pass0 (pa_cons (pv 0) (pa_cons (pe_op op_sub (pv 4) pe_int) pa_nil)))) (pv 4))) pa_nil)))))))) pss_nil)
    (pss_cons (ps_set (i := 6) sc.nd rfl (Or.inl rfl) (pe_call G_l_next.ok (hr.mono (by decide)) (by rfl) G_l_next.mgf G_l_next.kp G_l_next.b .nil pass0 (pa_cons (pv 0) (pa_cons (pv 2) pa_nil))))
    (pss_one (ps_ret (pe_tup (pa_cons (pv 6) (pa_cons (pe_op op_modN (pe_op op_add (pe_op op_add (pv 6) pe_int) (pe_call G_l_next.ok (hr.mono (by decide)) (by rfl) G_l_next.mgf G_l_next.kp G_l_next.b .nil pass0 (pa_cons (pv 0) (pa_cons (pe_op op_sub (pv 2) pe_int) pa_nil)))) (pv 2)) pa_nil))))))))), ?_⟩
    have hn0 : ((n : Int)) ≠ 0 := by omega
    refine q_when (et_is (et_test (ev_op (ev_var rfl) ev_c (rv_eq rfl))) (dec_int _ _)) (fun hb H1 e1 => ?_) (fun hb H1 e1 => ?_)
    · refine s_retU (eu_tup (ea_cons (ev_op (ev_var rfl) (ev_var rfl) (rv_I hn0)) (ea_cons (ev_op (ev_op (ev_var rfl) ev_c rv_I0) (ev_var rfl) (rv_I hn0)) ea_nil)) (by show 2 ≤ 100000; decide)) fun p H2 hp e2 h2 => ?_
      have h2' : H2 p = some (.tup [.int ((k % n : Nat) : Int), .int (((k + 1) % n : Nat) : Int)]) := by
        rw [← fmod_nat, ← fmod_nat]; exact h2
      refine hQ p _ _ H2 (Nat.mod_lt _ (by omega)) (Nat.mod_lt _ (by omega)) ?_ (Fr.of (e1.trans e2)) (st.up (e1.trans e2)) h2'
      have e1 : (k + 1) % n = (k % n + 1 + 0) % n := by
        show (k + 1) % n = (k % n + 1) % n
        rw [Nat.mod_add_mod]
      rw [e1]
      exact Ne.symm (mod_ne (Nat.mod_lt _ (by omega)) (by omega)).1
    refine q_when (et_is (et_test (ev_op (ev_var rfl) ev_c (rv_eq rfl))) (dec_int _ _)) (fun hb H2 e2 => ?_) (fun hb H2 e2 => ?_)
    · refine ret_run (run_tup (run_cons (run_ev ev_c fun H3 e3 => run_cons (run_op (run_ev ev_c fun H4 e4 => run_call (ea_cons (ev_var rfl) (ea_cons (ev_is (ev_op (ev_var rfl) ev_c rv_I0) (show V.int ((n : Int) - 1) = V.int ((n - 1 : Nat) : Int) by congr 1; omega)) ea_nil)) fun H5 e5 => ?_)))))
      have e15 := e1.trans (e2.trans (e3.trans (e4.trans e5)))
      refine next_run (m := n - 1) (st.up e15) (by omega) (by omega) fun r H6 hr6 fr st6 => ⟨_, _, rfl, rfl, run_nil ⟨by show 2 ≤ sizeLine; decide, fun p hp => ?_⟩⟩
      exact hQ p 0 (1 + r) _ (by omega) (by omega) (by omega) ((Fr.of e15).trans (fr.trans (Fr.of (Ex.new hp)))) (st6.up (Ex.new hp)) (by rw [upd_same]; rfl)
    refine q_when (b := decide ((fam : Int) = 4) && decide ((n : Int) > 3)) (et_and (et_is (et_test (ev_op (ev_var rfl) ev_c (rv_eq rfl))) (dec_int _ _)) (fun _ => et_test (ev_op (ev_var rfl) ev_c rv_I0))) (fun hb H3 e3 => ?_) (fun hb H3 e3 => ?_)
    · have hn4 : (n : Int) > 3 := of_decide_eq_true (Bool.and_eq_true_iff.mp hb).2
      have e13 := e1.trans (e2.trans e3)
      refine q_asg (v := .int ((n / 2 : Nat) : Int)) (ev_is (ev_op (ev_var rfl) ev_c (rv_I ⟨by decide, by decide⟩)) (congrArg V.int (fdiv_nat n 2))) fun H4 e4 => ?_
      have hh : 2 ≤ n / 2 := by omega
      have hh2 : 2 * (n / 2) ≤ n := by omega
      generalize n / 2 = half at hh hh2 ⊢
      refine asg_run (run_call (ea_cons (ev_var rfl) (ea_cons ev_c ea_nil)) fun H5 e5 => ?_)
      have e15 := e13.trans (e4.trans e5)
      refine next_run (m := 2) (st.up e15) (by decide) (by decide) fun side H6 hs6 fr6 st6 => ?_
      refine asg_run (run_call (ea_cons (ev_var rfl) (ea_cons (ev_var rfl) ea_nil)) fun H7 e7 => ?_)
      refine next_run (m := half) (st6.up e7) (by omega) (by omega) fun one H8 ho8 fr8 st8 => ?_
      have hsl : ((side : Int)) * (half : Int) = ((side * half : Nat) : Int) := (Int.natCast_mul _ _).symm
      have mulc : CMul (side : Int) (half : Int) := .inl ⟨by omega, by omega⟩
      refine ret_run (run_tup (run_cons (run_ev (v := .int ((side * half + one : Nat) : Int)) (ev_is (ev_op (ev_op (ev_var rfl) (ev_var rfl) (rv_I mulc)) (ev_var rfl) rv_I0) (by rw [hsl]; rfl)) fun H9 e9 => run_cons (run_op (run_ev (v := .int ((side * half : Nat) : Int)) (ev_is (ev_op (ev_var rfl) (ev_var rfl) (rv_I mulc)) (by rw [hsl])) fun Ha ea => run_op (run_op (run_ev (v := .int ((one + 1 : Nat) : Int)) (ev_is (ev_op (ev_var rfl) ev_c rv_I0) rfl) fun Hb eb => run_call (ea_cons (ev_var rfl) (ea_cons (ev_is (ev_op (ev_var rfl) ev_c rv_I0) (show V.int ((half : Int) - 1) = V.int ((half - 1 : Nat) : Int) by congr 1; omega)) ea_nil)) fun Hc ec => ?_)))))))
      have e9c := e9.trans (ea.trans (eb.trans ec))
      refine next_run (m := half - 1) (st8.up e9c) (by omega) (by omega) fun r Hd hrd frd std => ⟨_, _, rfl, rfl, run_ev (ev_var rfl) fun He ee => ⟨_, _, rfl, rfl, by show (half : Int) ≠ 0; omega, _, _, rfl, rfl, run_nil ⟨by show 2 ≤ sizeLine; decide, fun p hp => ?_⟩⟩⟩
      have key := mod_ne (a := one) (r := r) (n := half) ho8 (by omega)
      have efm : ((((one + 1 : Nat) : Int)) + (r : Int)).fmod (half : Int) = (((one + 1 + r) % half : Nat) : Int) := by
        rw [← fmod_nat]; rfl
      have bnd : side * half + half ≤ n := by
        have : side = 0 ∨ side = 1 := by omega
        rcases this with rfl | rfl <;> omega
      refine hQ p (side * half + one) (side * half + (one + 1 + r) % half) _ (by omega) (by omega) (by omega) ((Fr.of e15).trans (fr6.trans ((Fr.of e7).trans (fr8.trans ((Fr.of e9c).trans (frd.trans ((Fr.of ee).trans (Fr.of (Ex.new hp))))))))) (std.up (ee.trans (Ex.new hp))) ?_
      rw [upd_same, efm]; rfl
    · have e13 := e1.trans (e2.trans e3)
      refine asg_run (run_call (ea_cons (ev_var rfl) (ea_cons (ev_var rfl) ea_nil)) fun H4 e4 => ?_)
      refine next_run (m := n) (st.up (e13.trans e4)) (by omega) (by omega) fun one H5 ho fr5 st5 => ?_
      refine ret_run (run_tup (run_cons (run_ev (ev_var rfl) fun H6 e6 => run_cons (run_op (run_op (run_ev (v := .int ((one + 1 : Nat) : Int)) (ev_is (ev_op (ev_var rfl) ev_c rv_I0) rfl) fun H7 e7 => run_call (ea_cons (ev_var rfl) (ea_cons (ev_is (ev_op (ev_var rfl) ev_c rv_I0) (show V.int ((n : Int) - 1) = V.int ((n - 1 : Nat) : Int) by congr 1; omega)) ea_nil)) fun H8 e8 => ?_))))))
      have e68 := e6.trans (e7.trans e8)
      refine next_run (m := n - 1) (st5.up e68) (by omega) (by omega) fun r H9 hr9 fr9 st9 => ⟨_, _, rfl, rfl, run_ev (ev_var rfl) fun Ha ea => ⟨_, _, rfl, rfl, hn0, run_nil ⟨by show 2 ≤ sizeLine; decide, fun p hp => ?_⟩⟩⟩
      have key := mod_ne (a := one) (r := r) (n := n) ho (by omega)
      have efm : ((((one + 1 : Nat) : Int)) + (r : Int)).fmod (n : Int) = (((one + 1 + r) % n : Nat) : Int) := by
        rw [← fmod_nat]; rfl
      refine hQ p one ((one + 1 + r) % n) _ ho key.2 (Ne.symm key.1) ((Fr.of (e13.trans e4)).trans (fr5.trans ((Fr.of e68).trans (fr9.trans ((Fr.of ea).trans (Fr.of (Ex.new hp))))))) (st9.up (ea.trans (Ex.new hp))) ?_
      rw [upd_same]; dsimp only; rw [efm]
theorem ltr_at {i : Nat} (h : i < 26) : atI (Str.ofString "abcdefghijklmnopqrstuvwxyz").cps.toList (i : Int) = some (97 + i) := by
  refine atI_nat ?_
  have e : (Str.ofString "abcdefghijklmnopqrstuvwxyz").cps.toList = (List.range 26).map (97 + ·) := by decide +kernel
  rw [e, List.getElem?_map, List.getElem?_range h]; rfl
theorem ev_ltr {σ : L2.St} {H : Hp} {tb : TE} {i : Nat} {j : Nat} (hv : σ[j]? = some (some (.str "abcdefghijklmnopqrstuvwxyz"))) (h : Ev tb σ H (.int (i : Int))) (hi : i < 26) : Ev (tOp rIxS (tVar j) tb) σ H (.str (ltr i)) := ev_op (ev_var hv) h (rv_ixS (by decide +kernel) (ltr_at hi))
theorem rv_mulS {H : Hp} {z : Str} {n : Nat} (hn : n ≤ 1000) (hz : z.length ≤ 1000) : RV (fun x y H Q => ∃ z i, x = .str z ∧ y = .int i ∧ 0 ≤ i ∧ i ≤ 1000 ∧ z.length ≤ 1000 ∧ Q (.str (mulS z i.toNat)) H) (.str z) (.int (n : Int)) H (.str (mulS z n)) := fun H1 e Q q => ⟨z, n, rfl, rfl, by omega, by omega, hz, q H1 (Ex.refl H1)⟩
theorem rv_addS {H : Hp} {x y : Str} (hl : x.length + y.length ≤ 100000) : RV (fun x y H Q => ∃ i j, x = .str i ∧ y = .str j ∧ i.length + j.length ≤ sizeLine ∧ Q (.str (i ++ j)) H) (.str x) (.str y) H (.str (x ++ y)) := fun H1 e Q q => ⟨x, y, rfl, rfl, sz_of hl, q H1 (Ex.refl H1)⟩
theorem mulS_len (c n : Nat) : (mulS (ltr c) n).length = n := by rw [← str_len, mulS_cps, List.length_replicate]
theorem two_len (f k : Nat) : (two f k).length = 2 := by rw [← str_len, two_cps]; rfl
def wordsL (n base size at_ first : Nat) : List Str := (List.range n).map (wordL n base size at_ first)
def sp_l_words : Sp := fun vs H Q _ => ∃ (s l : Addr) (n : Nat), vs = [.ref s, .int (n : Int)] ∧ StAt H s l ∧ n ≤ 20 ∧
  ∀ (p : Addr) (ws : List Str) H2, H p = none → Fr s l H H2 → StAt H2 s l → H2 p = some (.lst (ws.map V.str)) → ws.length = n → ws.Nodup → (∀ z ∈ ws, WordOk z ∧ z ≠ "come") → Q (.ref p) H2
theorem Fr.none {k l : Addr} {H H' : Hp} {p : Addr} (f : Fr k l H H') (h : H' p = none) (hk : H' k ≠ none) (hl : H' l ≠ none) : H p = none := by
  cases h0 : H p with
  | none => rfl
  | some o =>
    have := f p o h0 (fun z => hk (z ▸ h)) (fun z => hl (z ▸ h))
    rw [this] at h; cases h
theorem StAt.some {H : Hp} {s l : Addr} (h : StAt H s l) : H s ≠ none ∧ H l ≠ none := by
  obtain ⟨xs, seed, h1, h2, _⟩ := h
  exact ⟨by rw [h1]; simp, by rw [h2]; simp⟩
theorem sc_l_words : FnScope ["_law_state", "_law_many", "_law_letters", "_law_base", "_law_size", "_law_at_here", "_law_first", "_law_found", "_law_k", "_law_two"] ["_law_state", "_law_many"] (defScope s_l_words) := ⟨rfl, rfl, rfl, by decide +kernel, rfl, by decide +kernel, by decide +kernel⟩
theorem ok_l_words {f : Addr} {fd : FuncData} (F : FnP K "_law_words" "_law_words" s_l_words f fd) (T : Txt w K mg C_Groups C_Keeper C_Desk)
  {f_l_next : Addr} {fd_l_next : FuncData} (G_l_next : Dk P w K mg base "_law_next" 1 ["_law_state", "_law_many"] sp_l_next f_l_next fd_l_next) : FnOk P w K mg base CX0 2 f fd ["_law_state", "_law_many"] sp_l_words := by
  have sc := sc_l_words

  refine F.ok sc (fun vs H Q E h => ?_) (fun cdv A outer s H vs Q E hr h => ?_)
  · obtain ⟨s, l, n, rfl, _⟩ := h; rfl
  · have hu := hu_of hr
    obtain ⟨s, l, n, rfl, st, hn, hQ⟩ := h
    refine ⟨_, PSs.nox (pss_cons (ps_set (i := 2) sc.nd rfl (Or.inl rfl) pe_str)
    (pss_cons (ps_set (i := 3) sc.nd rfl (Or.inl rfl) (pe_ix ix_str (pv 2) (pe_call G_l_next.ok (hr.mono (by decide)) (by rfl) G_l_next.mgf G_l_next.kp G_l_next.b .nil pass0 (pa_cons (pv 0) (pa_cons pe_int pa_nil))) (fun _ _ => rfl)))
    (pss_cons (ps_set (i := 4) sc.nd rfl (Or.inl rfl) (pe_call G_l_next.ok (hr.mono (by decide)) (by rfl) G_l_next.mgf G_l_next.kp G_l_next.b .nil pass0 (pa_cons (pv 0) (pa_cons pe_int pa_nil))))
    (pss_cons (ps_set (i := 5) sc.nd rfl (Or.inl rfl) (pe_call G_l_next.ok (hr.mono (by decide)) (by rfl) G_l_next.mgf G_l_next.kp G_l_next.b .nil pass0 (pa_cons (pv 0) (pa_cons (pe_op op_add (pv 4) pe_int) pa_nil))))
    (pss_cons (ps_set (i := 6) sc.nd rfl (Or.inl rfl) (pe_call G_l_next.ok (hr.mono (by decide)) (by rfl) G_l_next.mgf G_l_next.kp G_l_next.b .nil pass0 (pa_cons (pv 0) (pa_cons pe_int pa_nil))))
    (pss_cons (ps_set (i := 7) sc.nd rfl (Or.inl rfl) (pe_lst pa_nil))
    (pss_cons (ps_for PassesOwn.never rfl (pi_range1 (by rfl) T.b_range (pa_cons (pv 1) pa_nil)) (pg_name (i := 8) sc.nd rfl (Or.inl rfl)) (pss_cons (ps_set (i := 9) sc.nd rfl (Or.inl rfl) (pe_op op_add_str (pe_ix ix_str (pv 2) (pe_op op_modN (pe_op op_add (pv 6) (pe_op op_mul pe_int (pv 8))) pe_int) (fun _ _ => rfl)) (pe_ix ix_str (pv 2) (pe_op op_modN (pe_op op_add (pv 6) (pe_op op_fdivN (pv 8) pe_int)) pe_int) (fun _ _ => rfl))))
    (pss_one (ps_if (PW.pt (pw_and (pt_cmpR op_lt (pv 1) pe_int (nomark _)) (pw_and1 (pt_cmpR op_eq (pv 4) pe_int (nomark _))))) (pss_one (ps_expr (pe_bm PySem.F.plainAttrs_list PySem.F.slot_list_append PySem.F.type_list_append mt_append (pv 7) (pa_cons (pe_op op_mulS (pv 3) (pe_op op_add (pv 8) pe_int)) pa_nil)))) (pss_one (ps_expr (pe_bm PySem.F.plainAttrs_list PySem.F.slot_list_append PySem.F.type_list_append mt_append (pv 7) (pa_cons (pe_op op_add_str (pe_op op_add_str (pe_op op_mulS (pv 3) (pv 5)) (pv 9)) (pe_op op_mulS (pv 3) (pe_op op_sub (pv 4) (pv 5)))) pa_nil))))))))
    (pss_one (ps_ret (pv 7)))))))))), ?_⟩
    refine q_asg ev_c fun H1 e1 => ?_
    refine asg_run (run_op (run_ev (ev_var rfl) fun H2 e2 => run_call (ea_cons (ev_var rfl) (ea_cons ev_c ea_nil)) fun H3 e3 => ?_))
    have e13 := e1.trans (e2.trans e3)
    refine next_run (m := 26) (st.up e13) (by decide) (by decide) fun base H4 hb fr4 st4 => ⟨_, _, _, rfl, rfl, by decide +kernel, ltr_at hb, ?_⟩
    refine asg_run (run_call (ea_cons (ev_var rfl) (ea_cons ev_c ea_nil)) fun H5 e5 => ?_)
    refine next_run (m := 7) (st4.up e5) (by decide) (by decide) fun size H6 hs fr6 st6 => ?_
    refine asg_run (run_call (ea_cons (ev_var rfl) (ea_cons (ev_is (ev_op (ev_var rfl) ev_c rv_I0) (show V.int ((size : Int) + 1) = V.int ((size + 1 : Nat) : Int) from rfl)) ea_nil)) fun H7 e7 => ?_)
    refine next_run (m := size + 1) (st6.up e7) (by omega) (by omega) fun at_ H8 ha fr8 st8 => ?_
    refine asg_run (run_call (ea_cons (ev_var rfl) (ea_cons ev_c ea_nil)) fun H9 e9 => ?_)
    refine next_run (m := 26) (st8.up e9) (by decide) (by decide) fun first Ha hf fra sta => ?_
    have frH : Fr s l H Ha := (Fr.of e13).trans (fr4.trans ((Fr.of e5).trans (fr6.trans ((Fr.of e7).trans (fr8.trans ((Fr.of e9).trans fra))))))
    refine q_asgL (xs := []) (el_lst ea_nil (by decide)) fun p Hb hp eb hpb => ?_
    refine q_forR1 (n := (n : Int)) (ea_cons (ev_var rfl) ea_nil) ⟨by omega, by omega⟩ (fun i σ' H' => ∃ v8 v9 : Option V, σ' = [some (.ref s), some (.int (n : Int)), some (.str "abcdefghijklmnopqrstuvwxyz"), some (.str (ltr base)), some (.int (size : Int)), some (.int (at_ : Int)), some (.int (first : Int)), some (.ref p), v8, v9] ∧
      Ex Ha H' ∧ H' p = some (.lst (((List.range i).map (wordL n base size at_ first)).map V.str))) ?_ ?_ ?_
    · intro H1 e1
      exact ⟨none, none, rfl, eb.trans e1, e1 _ _ hpb⟩
    · rintro i σ' H' hi ⟨v8, v9, rfl, ex, hl⟩
      have hi' : i < n := by omega
      refine q_asg (v := .str (two first i)) (ev_op (ev_ltr rfl (i := (first + 5 * i) % 26) (ev_is (ev_op (ev_op (ev_var rfl) (ev_op ev_c (ev_var rfl) (rv_I (.inl ⟨by decide, by decide⟩))) rv_I0) ev_c (rv_I (by decide))) ?_) (Nat.mod_lt _ (by decide))) (ev_ltr rfl (i := (first + i / 26) % 26) (ev_is (ev_op (ev_op (ev_var rfl) (ev_op (ev_var rfl) ev_c (rv_I ⟨by decide, by decide⟩)) rv_I0) ev_c (rv_I (by decide))) ?_) (Nat.mod_lt _ (by decide))) (rv_addS (by show 1 + 1 ≤ 100000; decide))) fun H2 e2 => ?_
      · show V.int (((first : Int) + 5 * (i : Int)).fmod 26) = _
        rw [← fmod_nat]
        congr 2
      · show V.int (((first : Int) + (i : Int).fdiv 26).fmod 26) = _
        have h1 : ((i : Int)).fdiv 26 = ((i / 26 : Nat) : Int) := fdiv_nat i 26
        rw [h1, ← fmod_nat]
        congr 2
      have step : ((List.range (i + 1)).map (wordL n base size at_ first)).map V.str = ((List.range i).map (wordL n base size at_ first)).map V.str ++ [V.str (wordL n base size at_ first i)] := by rw [List.range_succ, List.map_append, List.map_append]; rfl
      have zl : (((List.range i).map (wordL n base size at_ first)).map V.str).length < 100000 := by rw [List.length_map, List.length_map, List.length_range]; omega
      refine s_if (b := decide (n < 8) && decide (size = 6)) (et_and (et_is (et_test (ev_op (ev_var rfl) ev_c rv_I0)) ?_) (fun _ => et_is (et_test (ev_op (ev_var rfl) ev_c (rv_eq rfl))) ?_)) (fun hb2 H3 e3 => ?_) (fun hb2 H3 e3 => ?_)
      · exact decide_eq_decide.mpr (by omega)
      · rw [dec_int]; exact decide_eq_decide.mpr (by omega)
      · have hc : n < 8 ∧ size = 6 := by simpa using hb2
        refine s_app (v := .str (wordL n base size at_ first i)) ((e2.trans e3) _ _ hl) (ev_var rfl) (ev_is (ev_op (ev_var rfl) (ev_is (ev_op (ev_var rfl) ev_c rv_I0) (show V.int ((i : Int) + 1) = V.int ((i + 1 : Nat) : Int) from rfl)) (rv_mulS (by omega) (by show 1 ≤ 1000; decide))) (by unfold wordL; rw [if_pos hc])) zl fun H4 e4 => ?_
        refine ⟨_, _, rfl, Ex.mut (ex.trans (e2.trans (e3.trans e4))) hp, ?_⟩
        rw [upd_same, step]
      · have hc : ¬ (n < 8 ∧ size = 6) := by simpa using hb2
        have l1 := mulS_len base at_
        have l2 := mulS_len base (size - at_)
        have l3 := two_len first i
        refine s_app (v := .str (wordL n base size at_ first i)) ((e2.trans e3) _ _ hl) (ev_var rfl) (ev_is (ev_op (ev_op (ev_op (ev_var rfl) (ev_var rfl) (rv_mulS (n := at_) (by omega) (by show 1 ≤ 1000; decide))) (ev_var rfl) (rv_addS (by omega))) (ev_op (ev_var rfl) (ev_is (ev_op (ev_var rfl) (ev_var rfl) rv_I0) (show V.int ((size : Int) - (at_ : Int)) = V.int ((size - at_ : Nat) : Int) by congr 1; omega)) (rv_mulS (by omega) (by show 1 ≤ 1000; decide))) (rv_addS (by rw [app_len]; omega))) (by unfold wordL; rw [if_neg hc])) zl fun H4 e4 => ?_
        refine ⟨_, _, rfl, Ex.mut (ex.trans (e2.trans (e3.trans e4))) hp, ?_⟩
        rw [upd_same, step]
    · rintro σ' H' ⟨v8, v9, rfl, ex, hl⟩
      refine s_ret (ev_var rfl) fun H2 e2 => ?_
      have en : ((n : Int)).toNat = n := by omega
      rw [en] at hl
      refine hQ p (wordsL n base size at_ first) H2 (frH.none hp sta.some.1 sta.some.2) (frH.trans ((Fr.of ex).trans (Fr.of e2))) (sta.up (ex.trans e2)) (e2 _ _ hl) (by unfold wordsL; rw [List.length_map, List.length_range]) ?_ ?_
      · unfold wordsL
        rw [List.Nodup, List.pairwise_map]
        refine List.Pairwise.imp_of_mem (fun {a b} hma hmb hab he => hab ?_) List.nodup_range
        have h1 := List.mem_range.mp hma
        have h2 := List.mem_range.mp hmb
        exact wordL_inj (by omega) (by omega) he
      · intro z hz
        obtain ⟨k, hk, rfl⟩ := List.mem_map.mp hz
        exact ⟨wordL_ok hb hs (by omega) (List.mem_range.mp hk), wordL_come (by omega)⟩
end
end Ct
end

section
set_option Elab.async false
set_option linter.all false
set_option maxRecDepth 100000
set_option maxHeartbeats 4000000
namespace Ct
open PySem PySem.Spec PyProof.Rows L2 Evl
section
variable {P : Program} {w : World} {K : PySem.W.Frag} {mg : Str → Option Value} {base : Heap} {C_Groups C_Keeper C_Desk : Addr}
structure NetG (N : Net) : Prop where
  ok : NetOk N
  w : NetW N
  asc : ∀ t ∈ N.ts, ltS t.a t.b = true
  come : ∀ t ∈ N.ts, t.n ≠ "come"
  pw : N.ps.Pairwise fun x y => ltS y x = false
  tw : N.ts.Pairwise fun s t => ltS t.n s.n = false
  pl : N.ps.length ≤ 8
  tl : N.ts.length ≤ 14
theorem sort_two {x y : Str} (h : x ≠ y) : ∃ u v, sortS [x, y] = [u, v] ∧ ltS u v = true ∧ u ∈ [x, y] ∧ v ∈ [x, y] := by
  have p := sortS_perm [x, y]
  have w := sortS_pw [x, y]
  have hl := p.length_eq
  match hs : sortS [x, y], hl, p, w with
  | [u, v], _, p, w =>
    refine ⟨u, v, rfl, ?_, p.mem_iff.mp (by simp), p.mem_iff.mp (by simp)⟩
    have nd : [u, v].Nodup := p.nodup_iff.mpr (by simp [h])
    have ne : u ≠ v := by
      intro e
      subst e
      simp at nd
    have h1 : ltS v u = false := by simpa using w
    rcases ltS_tri u v with g | g | g
    · exact g
    · exact absurd g ne
    · rw [h1] at g; cases g
section
variable {σ : L2.St} {H : Hp} {Q : VK} {te : TE} {tl th : TO}
theorem run_sl {r : V → Option Int → Option Int → Hp → VK → Prop} (h : te σ H fun x H1 => tl σ H1 fun l H2 => th σ H2 fun u H3 => r x l u H3 Q) : tSl r te tl th σ H Q := h
theorem run_cb {r : List V → Hp → VK → Prop} {ta : TA} (h : ta σ H fun vs H1 => r vs H1 Q) : tCB r ta σ H Q := h
theorem run_no {R : Option Int → Hp → Prop} (h : R none H) : tNoPart σ H R := h
theorem run_part {R : Option Int → Hp → Prop} (h : te σ H fun x H1 => ∃ i, x = .int i ∧ R (some i) H1) : tPart te σ H R := h
end
theorem asgG_run {σ : L2.St} {H : Hp} {D : Ends} {tz : TS} {te : TE} {g : TG} (h : te σ H fun v H1 => g v σ H1 fun σ2 H2 => tz D σ2 H2) : tSeq (tAsg te g) tz D σ H := h
theorem run_dropA {σ : L2.St} {H : Hp} {D : Ends} {ta : TE} {t : TA} {l : Addr} {xs0 : List V} (h : Ev ta σ H (.ref l)) (hl : H l = some (.lst xs0)) (k : ∀ H1, Ex H H1 → t σ H1 fun vs H2 => rAppend (.ref l) vs H2 (fun _ H3 => D.nx σ H3)) : tDrop (tBM K "list" rAppend ta t) D σ H := h H (Ex.refl H) _ fun H1 e => ⟨.inl ⟨rfl, _, SqL.of (e _ _ hl)⟩, k H1 e⟩
theorem nd_inj {α : Type} {xs : List α} {i j : Nat} (h : xs.Nodup) (hi : i < xs.length) (hj : j < xs.length) (e : xs[i] = xs[j]) : i = j := by
  rcases Nat.lt_trichotomy i j with g | g | g
  · exact absurd e (List.pairwise_iff_getElem.mp h i j hi hj g)
  · exact g
  · exact absurd e.symm (List.pairwise_iff_getElem.mp h j i hj hi g)
theorem lr_sortedT {σ : L2.St} {H : Hp} {te : TE} {a : Addr} {ps : List Addr} {ts : List Tie} (h : Ev te σ H (.ref a)) (ha : H a = some (.lst (ps.map V.ref))) (hp : Paired (TieAt H) ps ts) (nd : (ts.map (·.n)).Nodup) (hl : ts.length ≤ 1000) :
    EvLR (tCB (rSortedD K) (tCons te tNil)) σ H (fun ys H2 => ∃ ps', ys = ps'.map V.ref ∧ Paired (TieAt H2) ps' (sortT ts)) := fun H1 e Q q => h H1 e _ fun H2 e2 => by
  have hp2 := ties_mono (Tups.ofEx (e.trans e2)) hp
  obtain ⟨τ, eτ, hτ⟩ := ties_fn hp2
  refine ⟨a, ps, fun p => (τ p).row, rfl, SqL.of ((e.trans e2) _ _ ha), fun p hp => SqT.of (hτ p hp), by rw [Paired.length hp]; exact hl, fun _ _ => List.cons_ne_nil _ _, fun _ _ _ _ => rfl, fun ps' l2 pm pw hl2 => ?_⟩
  have pm' : (ps'.map τ).Perm ts := by rw [eτ]; exact pm.map τ
  have pw' : (ps'.map τ).Pairwise fun s u => ltS u.n s.n = false := by
    have nd' : ((ps'.map τ).map (·.n)).Nodup := (pm'.map _).nodup_iff.mpr nd
    rw [List.map_map] at nd'
    have nd2 : ps'.Pairwise fun p q => (τ p).n ≠ (τ q).n := List.pairwise_map.mp nd'
    rw [List.pairwise_map]
    refine (List.Pairwise.and pw nd2).imp fun ⟨x1, x2⟩ => ?_
    rwa [ltRow_row (Ne.symm x2)] at x1
  refine q l2 _ _ (fresh_back e2 hl2) (e2.trans (Ex.new hl2)) upd_same ⟨ps', rfl, ?_⟩
  rw [← sortT_eq nd pm' pw']
  exact ties_map fun p hp => (hτ p (pm.mem_iff.mp hp)).mono (Tups.ofEx (Ex.new hl2))
theorem upPs {ts : List Tie} : Up (fun (ys : List V) H2 => ∃ ps' : List Addr, ys = ps'.map V.ref ∧ Paired (TieAt H2) ps' ts) := fun ys H H' e ⟨ps', e1, h3⟩ => ⟨ps', e1, ties_mono (Tups.ofEx e) h3⟩
/-- what the ties that were drawn so far are -/
def Drawn (names : List Str) (i : Nat) (ts : List Tie) : Prop := ts.map (·.n) = names.take i ∧ ∀ t ∈ ts, ltS t.a t.b = true ∧ WordOk t.a ∧ WordOk t.b ∧ t.c.natAbs < 10 ^ 30
def sp_l_net : Sp := fun vs H Q _ => ∃ (s l : Addr), vs = [.ref s, .int 8, .int 14] ∧ StAt H s l ∧ ∀ a N H2, NetG N → Fr s l H H2 → StAt H2 s l → NetAt H2 a N → Q (.ref a) H2
theorem take_nat {xs : List V} {n : Nat} : cutV xs none (some (n : Int)) = xs.take n := by
  unfold cutV
  rw [sIx_at]
  have e0 : HT.sIx xs.length 0 none = 0 := rfl
  rw [e0, List.drop_zero, Nat.sub_zero]
  by_cases g : n ≤ xs.length
  · rw [Nat.min_eq_left g]
  · rw [Nat.min_eq_right (by omega), List.take_of_length_le (Nat.le_refl _), List.take_of_length_le (by omega)]
theorem sc_l_net : FnScope ["_law_state", "_law_most", "_law_ties_most", "_law_many", "_law_words_here", "_law_pool", "_law_count", "_law_names", "_law_family", "_law_sort", "_law_ties", "_law_k", "_law_one", "_law_other", "_law_two"] ["_law_state", "_law_most", "_law_ties_most"] (defScope s_l_net) := ⟨rfl, rfl, rfl, by decide +kernel, rfl, by decide +kernel, by decide +kernel⟩
theorem ok_l_net {f : Addr} {fd : FuncData} (F : FnP K "_law_net" "_law_net" s_l_net f fd) (T : Txt w K mg C_Groups C_Keeper C_Desk)
  {f_l_next : Addr} {fd_l_next : FuncData} (G_l_next : Dk P w K mg base "_law_next" 1 ["_law_state", "_law_many"] sp_l_next f_l_next fd_l_next)
  {f_l_words : Addr} {fd_l_words : FuncData} (G_l_words : Dk P w K mg base "_law_words" 2 ["_law_state", "_law_many"] sp_l_words f_l_words fd_l_words)
  {f_l_ends : Addr} {fd_l_ends : FuncData} (G_l_ends : Dk P w K mg base "_law_ends" 2 ["_law_state", "_law_family", "_law_many", "_law_k"] sp_l_ends f_l_ends fd_l_ends)
  {f_l_cost : Addr} {fd_l_cost : FuncData} (G_l_cost : Dk P w K mg base "_law_cost" 2 ["_law_state", "_law_sort"] sp_l_cost f_l_cost fd_l_cost) : FnOk P w K mg base CX0 3 f fd ["_law_state", "_law_most", "_law_ties_most"] sp_l_net := by
  have sc := sc_l_net

  refine F.ok sc (fun vs H Q E h => ?_) (fun cdv A outer s H vs Q E hr h => ?_)
  · obtain ⟨s, l, rfl, _⟩ := h; rfl
  · have hu := hu_of hr
    obtain ⟨s, l, rfl, st, hQ⟩ := h
    refine ⟨_, PSs.nox (pss_cons (ps_set (i := 3) sc.nd rfl (Or.inl rfl) (pe_call G_l_next.ok (hr.mono (by decide)) (by rfl) G_l_next.mgf G_l_next.kp G_l_next.b .nil pass0 (pa_cons (pv 0) (pa_cons (pe_op op_add (pv 1) pe_int) pa_nil))))
    (pss_cons (ps_set (i := 4) sc.nd rfl (Or.inl rfl) (pe_call G_l_words.ok (hr.mono (by decide)) (by rfl) G_l_words.mgf G_l_words.kp G_l_words.b .nil pass0 (pa_cons (pv 0) (pa_cons (pe_op op_add (pv 3) pe_int) pa_nil))))
    (pss_cons (ps_set (i := 5) sc.nd rfl (Or.inl rfl) (pe_slice (sl_listK (K := K) rfl) (pv 4) po_none (po_some (pe_callB (call_max2 (by rfl)) (by rfl) T.b_max (by decide +kernel) (pa_cons pe_int (pa_cons (pe_op op_add (pv 3) (pe_call G_l_next.ok (hr.mono (by decide)) (by rfl) G_l_next.mgf G_l_next.kp G_l_next.b .nil pass0 (pa_cons (pv 0) (pa_cons pe_int pa_nil)))) pa_nil))))))
    (pss_cons (ps_set (i := 6) sc.nd rfl (Or.inl rfl) (pe_call G_l_next.ok (hr.mono (by decide)) (by rfl) G_l_next.mgf G_l_next.kp G_l_next.b .nil pass0 (pa_cons (pv 0) (pa_cons (pe_op op_add (pv 2) pe_int) pa_nil))))
    (pss_cons (ps_set (i := 7) sc.nd rfl (Or.inl rfl) (pe_call G_l_words.ok (hr.mono (by decide)) (by rfl) G_l_words.mgf G_l_words.kp G_l_words.b .nil pass0 (pa_cons (pv 0) (pa_cons (pv 6) pa_nil))))
    (pss_cons (ps_par (i := 8) (j := 9) rfl sc.nd rfl rfl (by decide) rfl rfl (pa_cons (pe_call G_l_next.ok (hr.mono (by decide)) (by rfl) G_l_next.mgf G_l_next.kp G_l_next.b .nil pass0 (pa_cons (pv 0) (pa_cons pe_int pa_nil))) (pa_cons (pe_call G_l_next.ok (hr.mono (by decide)) (by rfl) G_l_next.mgf G_l_next.kp G_l_next.b .nil pass0 (pa_cons (pv 0) (pa_cons pe_int pa_nil))) pa_nil)) rfl)
    (pss_cons (ps_set (i := 10) sc.nd rfl (Or.inl rfl) (pe_lst pa_nil))
    (pss_cons (ps_for PassesOwn.never rfl (pi_range1 (by rfl) T.b_range (pa_cons (pv 6) pa_nil)) (pg_name (i := 11) sc.nd rfl (Or.inl rfl)) (pss_cons (ps_asg (pe_call G_l_ends.ok (hr.mono (by decide)) (by rfl) G_l_ends.mgf G_l_ends.kp G_l_ends.b .nil pass0 (pa_cons (pv 0) (pa_cons (pv 8) (pa_cons (pe_callB (call_len_seqK (K := K) rfl) (by rfl) T.b_len (by decide +kernel) (pa_cons (pv 5) pa_nil)) (pa_cons (pv 11) pa_nil))))) (pg_tupK (K := K) (n := 2) rfl rfl (pgs_cons (pg_name (i := 12) sc.nd rfl (Or.inl rfl)) (pgs_cons (pg_name (i := 13) sc.nd rfl (Or.inl rfl)) pgs_nil))))
    (pss_cons (ps_set (i := 14) sc.nd rfl (Or.inl rfl) (pe_callB (cr_sortedSK (K := K) rfl) (by rfl) T.b_sorted (by decide +kernel) (pa_cons (pe_lst (pa_cons (pe_ix (ix_listK (K := K) rfl) (pv 5) (pv 12) (fun _ _ => rfl)) (pa_cons (pe_ix (ix_listK (K := K) rfl) (pv 5) (pv 13) (fun _ _ => rfl)) pa_nil))) pa_nil)))
    (pss_one (ps_expr (pe_bm PySem.F.plainAttrs_list PySem.F.slot_list_append PySem.F.type_list_append mt_append (pv 10) (pa_cons (pe_tup (pa_cons (pe_ix (ix_listK (K := K) rfl) (pv 7) (pv 11) (fun _ _ => rfl)) (pa_cons (pe_ix (ix_listK (K := K) rfl) (pv 14) pe_int (fun _ _ => rfl)) (pa_cons (pe_ix (ix_listK (K := K) rfl) (pv 14) pe_int (fun _ _ => rfl)) (pa_cons (pe_call G_l_cost.ok (hr.mono (by decide)) (by rfl) G_l_cost.mgf G_l_cost.kp G_l_cost.b .nil pass0 (pa_cons (pv 0) (pa_cons (pv 9) pa_nil))) pa_nil))))) pa_nil)))))))
    (pss_one (ps_ret (pe_tup (pa_cons (pe_callTy (call_tuple_ofK (K := K) rfl) (by rfl) T.b_tuple (by decide +kernel) (pa_cons (pe_callB (cr_sortedSK (K := K) rfl) (by rfl) T.b_sorted (by decide +kernel) (pa_cons (pe_slice (sl_listK (K := K) rfl) (pv 4) po_none (po_some (pv 3))) pa_nil)) pa_nil)) (pa_cons (pe_callTy (call_tuple_ofK (K := K) rfl) (by rfl) T.b_tuple (by decide +kernel) (pa_cons (pe_callB (cr_sortedD (by rfl) hr.units) (by rfl) T.b_sorted (by decide +kernel) (pa_cons (pv 10) pa_nil)) pa_nil)) pa_nil))))))))))))), ?_⟩
    refine asg_run (run_call (ea_cons (ev_var rfl) (ea_cons (ev_op (ev_var rfl) ev_c rv_I0) ea_nil)) fun H1 e1 => ?_)
    refine next_run (m := 9) (st.up e1) (by decide) (by decide) fun many H2 hm fr2 st2 => ?_
    refine asg_run (run_call (ea_cons (ev_var rfl) (ea_cons (ev_op (ev_var rfl) ev_c rv_I0) ea_nil)) fun H3 e3 => ?_)
    refine ⟨s, l, many + 2, rfl, st2.up e3, by omega, fun pw wsL H4 hpw fr4 st4 h4 wl wnd wok => ?_⟩
    have frA : Fr s l H H4 := (Fr.of e1).trans (fr2.trans ((Fr.of e3).trans fr4))
    refine asg_run (run_sl (run_ev (ev_var rfl) fun H5 e5 => run_no (run_part (run_cb (run_cons (run_ev ev_c fun H6 e6 => run_cons (run_op (run_ev (ev_var rfl) fun H7 e7 => run_call (ea_cons (ev_var rfl) (ea_cons ev_c ea_nil)) fun H8 e8 => ?_))))))))
    have e58 := e5.trans (e6.trans (e7.trans e8))
    refine next_run (m := 3) (st4.up e58) (by decide) (by decide) fun r H9 hr9 fr9 st9 => ⟨_, _, rfl, rfl, run_nil ⟨_, _, rfl, _, rfl, pw, wsL.map V.str, rfl, ?_, fun po hpo => ?_⟩⟩
    · have h1 := st4.some
      refine SqL.of (fr9 _ _ (e58 _ _ h4) ?_ ?_)
      · intro z
        obtain ⟨_, _, g, _, _, _⟩ := st2.up e3
        rw [z, g] at hpw; cases hpw
      · intro z
        obtain ⟨_, _, _, g, _, _⟩ := st2.up e3
        rw [z, g] at hpw; cases hpw
    have nps : pw ≠ s := fun z => by
      obtain ⟨_, _, g, _, _, _⟩ := st2.up e3
      rw [z, g] at hpw; cases hpw
    have npl : pw ≠ l := fun z => by
      obtain ⟨_, _, _, g, _, _⟩ := st2.up e3
      rw [z, g] at hpw; cases hpw
    have epool : ∃ pool : List Str, cutV (wsL.map V.str) none (some (if (many : Int) + (r : Int) > 2 then (many : Int) + (r : Int) else 2)) = pool.map V.str ∧ 2 ≤ pool.length ∧ pool.length ≤ 10 ∧ pool.Nodup ∧ ∀ z ∈ pool, WordOk z := by
      refine ⟨wsL.take (max 2 (many + r)), ?_, ?_, ?_, wnd.sublist (List.take_sublist _ _), fun z hz => (wok z (List.mem_of_mem_take hz)).1⟩
      · have e1 : (if (many : Int) + (r : Int) > 2 then (many : Int) + (r : Int) else 2) = ((max 2 (many + r) : Nat) : Int) := by
          split <;> omega
        rw [e1, take_nat, List.map_take]
      · rw [List.length_take, wl]; omega
      · rw [List.length_take, wl]; omega
    obtain ⟨pool, hcut, pl2, pl10, pnd, pok⟩ := epool
    rw [hcut]
    have frB : Fr s l H4 (upd H9 po (.lst (pool.map V.str))) := (Fr.of e58).trans (fr9.trans (Fr.of (Ex.new hpo)))
    have stB : StAt (upd H9 po (.lst (pool.map V.str))) s l := st9.up (Ex.new hpo)
    have hpoB : upd H9 po (.lst (pool.map V.str)) po = some (.lst (pool.map V.str)) := upd_same
    have npos : po ≠ s := fun z => by
      obtain ⟨_, _, g, _, _, _⟩ := st9
      rw [z, g] at hpo; cases hpo
    have npol : po ≠ l := fun z => by
      obtain ⟨_, _, _, g, _, _⟩ := st9
      rw [z, g] at hpo; cases hpo
    generalize upd H9 po (.lst (pool.map V.str)) = HB at frB stB hpoB ⊢
    refine asg_run (run_call (ea_cons (ev_var rfl) (ea_cons (ev_op (ev_var rfl) ev_c rv_I0) ea_nil)) fun Hc ec => ?_)
    refine next_run (m := 15) (stB.up ec) (by decide) (by decide) fun count Hd hcount frd std => ?_
    refine asg_run (run_call (ea_cons (ev_var rfl) (ea_cons (ev_var rfl) ea_nil)) fun He ee => ?_)
    refine ⟨s, l, count, rfl, std.up ee, by omega, fun pn names Hf hpn frf stf hnf nl nnd nok => ?_⟩
    have npns : pn ≠ s := fun z => by
      obtain ⟨_, _, g, _, _, _⟩ := std.up ee
      rw [z, g] at hpn; cases hpn
    have npnl : pn ≠ l := fun z => by
      obtain ⟨_, _, _, g, _, _⟩ := std.up ee
      rw [z, g] at hpn; cases hpn
    refine show tPar 8 9 _ _ _ _ from run_cons (run_call (ea_cons (ev_var rfl) (ea_cons ev_c ea_nil)) fun Hg eg => ?_)
    refine next_run (m := 5) (stf.up eg) (by decide) (by decide) fun fam Hh hfam frh sth => ?_
    refine run_cons (run_call (ea_cons (ev_var rfl) (ea_cons ev_c ea_nil)) fun Hi ei => ?_)
    refine next_run (m := 4) (sth.up ei) (by decide) (by decide) fun sort Hj hsort frj stj => run_nil ⟨_, _, rfl, ?_⟩
    have frC : Fr s l HB Hj := (Fr.of ec).trans (frd.trans ((Fr.of ee).trans (frf.trans ((Fr.of eg).trans (frh.trans ((Fr.of ei).trans frj))))))
    have frF : Fr s l Hf Hj := (Fr.of eg).trans (frh.trans ((Fr.of ei).trans frj))
    have hwJ : Hj pw = some (.lst (wsL.map V.str)) := frC _ _ (frB _ _ h4 nps npl) nps npl
    have hpoJ : Hj po = some (.lst (pool.map V.str)) := frC _ _ hpoB npos npol
    have hnJ : Hj pn = some (.lst (names.map V.str)) := frF _ _ hnf npns npnl
    have frJ : Fr s l H Hj := frA.trans (frB.trans frC)
    refine q_asgL (xs := []) (el_lst ea_nil (by decide)) fun pt Hk hpt ek hk => ?_
    have npts : pt ≠ s := fun z => by
      obtain ⟨_, _, g, _, _, _⟩ := stj
      rw [z, g] at hpt; cases hpt
    have nptl : pt ≠ l := fun z => by
      obtain ⟨_, _, _, g, _, _⟩ := stj
      rw [z, g] at hpt; cases hpt
    refine q_forR1 (n := (count : Int)) (ea_cons (ev_var rfl) ea_nil) ⟨by omega, by omega⟩ (fun i σ' H' => ∃ (v11 v12 v13 v14 : Option V) (ps : List Addr) (ts : List Tie), σ' = [some (.ref s), some (.int 8), some (.int 14), some (.int (many : Int)), some (.ref pw), some (.ref po), some (.int (count : Int)), some (.ref pn), some (.int (fam : Int)), some (.int (sort : Int)), some (.ref pt), v11, v12, v13, v14] ∧
      Fr s l Hj H' ∧ StAt H' s l ∧ H' pt = some (.lst (ps.map V.ref)) ∧ Paired (TieAt H') ps ts ∧ Drawn names i ts) ?_ ?_ ?_
    · intro H1 e1
      exact ⟨none, none, none, none, [], [], rfl, Fr.of (ek.trans e1), stj.up (ek.trans e1), e1 _ _ hk, .nil, rfl, fun t ht => absurd ht List.not_mem_nil⟩
    · rintro i σ' H' hi ⟨v11, v12, v13, v14, ps, ts, rfl, fr, st', hl, hts, hdr⟩
      have hi' : i < count := by omega
      refine asgG_run (run_call (ea_cons (ev_var rfl) (ea_cons (ev_var rfl) (ea_cons (ev_is (ev_lenL (ev_var rfl) (SqL.of (fr _ _ hpoJ npos npol))) (by rw [List.length_map])) (ea_cons (ev_var rfl) ea_nil)))) fun H1 e1 => ?_)
      refine ⟨s, l, fam, pool.length, i, rfl, st'.up e1, pl2, by omega, by omega, fun pe one other H2 ho1 ho2 hne fr2 st2 hpe => ⟨pe, _, rfl, SqT.of hpe, rfl, _, _, rfl, _, _, rfl, rfl, ?_⟩⟩
      have fr02 : Fr s l Hj H2 := fr.trans ((Fr.of e1).trans fr2)
      have hx : pool[one]? = some pool[one] := List.getElem?_eq_getElem ho1
      have hy : pool[other]? = some pool[other] := List.getElem?_eq_getElem ho2
      have nexy : pool[one] ≠ pool[other] := fun z => hne (nd_inj pnd ho1 ho2 z)
      obtain ⟨u, v, huv, hlt, hum, hvm⟩ := sort_two nexy
      have inP : ∀ z ∈ [pool[one], pool[other]], WordOk z := by
        intro z hz
        simp only [List.mem_cons, List.not_mem_nil, or_false] at hz
        rcases hz with rfl | rfl
        · exact pok _ (List.getElem_mem ho1)
        · exact pok _ (List.getElem_mem ho2)
      refine q_asgL (el_sortedS (ws := [pool[one], pool[other]]) (el_lst (ea_cons (ev_op (ev_var rfl) (ev_var rfl) (rv_ixL (SqL.of (fr02 _ _ hpoJ npos npol)) (atI_nat (by rw [List.getElem?_map, hx]; rfl)))) (ea_cons (ev_op (ev_var rfl) (ev_var rfl) (rv_ixL (SqL.of (fr02 _ _ hpoJ npos npol)) (atI_nat (by rw [List.getElem?_map, hy]; rfl)))) ea_nil)) (by show 2 ≤ 100000; decide)) (by show 2 < 64; decide)) fun p2 H3 hp2 e3 h3 => ?_
      rw [huv] at h3
      have hnm : names[i]? = some names[i] := List.getElem?_eq_getElem (by omega)
      have hptH2 : H2 pt = some (.lst (ps.map V.ref)) := fr2 _ _ (e1 _ _ hl) npts nptl
      refine run_dropA (K := K) (xs0 := ps.map V.ref) (ev_var rfl) (e3 _ _ hptH2) fun H4 e4 => run_cons (run_tup (run_cons (run_ev (v := .str names[i]) (ev_op (ev_var rfl) (ev_var rfl) (rv_ixL (SqL.of (e4 _ _ (e3 _ _ (fr02 _ _ hnJ npns npnl)))) (atI_nat (by rw [List.getElem?_map, hnm]; rfl)))) fun H5 e5 => run_cons (run_ev (v := .str u) (ev_op (ev_var rfl) ev_c (rv_ixL (SqL.of (e5 _ _ (e4 _ _ h3))) rfl)) fun H6 e6 => run_cons (run_ev (v := .str v) (ev_op (ev_var rfl) ev_c (rv_ixL (SqL.of (e6 _ _ (e5 _ _ (e4 _ _ h3)))) rfl)) fun H7 e7 => run_cons (run_call (ea_cons (ev_var rfl) (ea_cons (ev_var rfl) ea_nil)) fun H8 e8 => ?_))))))
      have e28 := e3.trans (e4.trans (e5.trans (e6.trans (e7.trans e8))))
      refine ⟨s, l, sort, rfl, st2.up e28, fun c H9 hc fr9 st9 => run_nil ⟨by show 4 ≤ sizeLine; decide, fun q hq => run_nil ?_⟩⟩
      have hpt9 : H9 pt = some (.lst (ps.map V.ref)) := fr9 _ _ (e28 _ _ hptH2) npts nptl
      have npq : pt ≠ q := fun z => by rw [z, hq] at hpt9; cases hpt9
      refine ⟨pt, ps.map V.ref, _, rfl, rfl, by rw [upd_ne npq]; exact hpt9, sz_lt ?_, ?_⟩
      · rw [List.length_map, Paired.length hts]
        have := congrArg List.length hdr.1
        rw [List.length_map, List.length_take] at this
        omega
      · let t : Tie := ⟨names[i], u, v, c⟩
        have hq1 : ∀ xs, H9 q ≠ some (.tup xs) := fun xs z => by rw [hq] at z; cases z
        have tu : Tups H' (upd (upd H9 q (.tup [.str names[i], .str u, .str v, .int c])) pt (.lst (ps.map V.ref ++ [.ref q]))) := fun b xs hb => by
          have n1 : b ≠ s := fun z => by
            obtain ⟨_, _, g, _, _, _⟩ := st'
            rw [z, g] at hb; cases hb
          have n2 : b ≠ l := fun z => by
            obtain ⟨_, _, _, g, _, _⟩ := st'
            rw [z, g] at hb; cases hb
          have n3 : b ≠ pt := fun z => by rw [z, hl] at hb; cases hb
          have h9 : H9 b = some (.tup xs) := fr9 _ _ (e28 _ _ (fr2 _ _ (e1 _ _ hb) n1 n2)) n1 n2
          have n4 : b ≠ q := fun z => by rw [z, hq] at h9; cases h9
          rw [upd_ne n3, upd_ne n4]; exact h9
        have qst : TieAt (upd (upd H9 q (.tup [.str names[i], .str u, .str v, .int c])) pt (.lst (ps.map V.ref ++ [.ref q]))) q t := by
          unfold TieAt
          rw [upd_ne (Ne.symm npq), upd_same]; rfl
        refine ⟨_, _, _, _, ps ++ [q], ts ++ [t], rfl, ?_, ?_, ?_, Paired.snoc qst (ties_mono tu hts), ?_, ?_⟩
        · intro b o hb n1 n2
          have h9 : H9 b = some o := fr9 _ _ (e28 _ _ (fr02 _ _ hb n1 n2)) n1 n2
          have n3 : b ≠ pt := fun z => by rw [z, hpt] at hb; cases hb
          have n4 : b ≠ q := fun z => by rw [z, hq] at h9; cases h9
          rw [upd_ne n3, upd_ne n4]; exact h9
        · obtain ⟨xs, seed, g1, g2, g3⟩ := st9
          have n5 : s ≠ q := fun z => by rw [z, hq] at g1; cases g1
          have n6 : l ≠ q := fun z => by rw [z, hq] at g2; cases g2
          exact ⟨xs, seed, by rw [upd_ne (Ne.symm npts), upd_ne n5]; exact g1, by rw [upd_ne (Ne.symm nptl), upd_ne n6]; exact g2, g3⟩
        · rw [upd_same, List.map_append]; rfl
        · rw [List.map_append, hdr.1, List.take_add_one, hnm]; rfl
        · intro w hw
          rcases List.mem_append.mp hw with hw | hw
          · exact hdr.2 w hw
          · rw [List.mem_singleton.mp hw]
            exact ⟨hlt, inP u hum, inP v hvm, hc⟩
    · rintro σ' H' ⟨v11, v12, v13, v14, ps, ts, rfl, fr, st', hl, hts, hdr⟩
      have en : ((count : Int)).toNat = count := by omega
      rw [en] at hdr
      have hnames : ts.map (·.n) = names := by rw [hdr.1, List.take_of_length_le (by omega)]
      have tsl : ts.length ≤ 14 := by
        have := congrArg List.length hnames
        rw [List.length_map] at this
        omega
      have ndn : (ts.map (·.n)).Nodup := by rw [hnames]; exact nnd
      have hw' : H' pw = some (.lst (wsL.map V.str)) := fr _ _ hwJ nps npl
      have wtl : (wsL.take many).length ≤ 8 := by rw [List.length_take]; omega
      have stm : ∀ t, t ∈ sortT ts ↔ t ∈ ts := fun t => (sortT_perm ts).mem_iff
      have nmem : ∀ t ∈ ts, t.n ∈ names := fun t ht => hnames ▸ List.mem_map_of_mem ht
      have G : NetG ⟨sortS (wsL.take many), sortT ts⟩ := by
        have lp : (sortS (wsL.take many)).length ≤ 8 := by rw [(sortS_perm _).length_eq]; exact wtl
        have lt : (sortT ts).length ≤ 14 := by rw [(sortT_perm _).length_eq]; exact tsl
        refine ⟨⟨(sortS_perm _).nodup_iff.mpr (wnd.sublist (List.take_sublist _ _)), ((sortT_perm ts).map _).nodup_iff.mpr ndn, Nat.le_trans lp (by decide), Nat.le_trans lt (by decide)⟩, ⟨?_, ?_, ?_, ?_, ?_⟩, ?_, ?_, sortS_pw _, sortT_pw _, lp, lt⟩
        · intro p hp
          exact (wok p (List.mem_of_mem_take ((sortS_perm _).mem_iff.mp hp))).1
        · intro t ht; exact (nok _ (nmem t ((stm t).mp ht))).1
        · intro t ht; exact (hdr.2 t ((stm t).mp ht)).2.1
        · intro t ht; exact (hdr.2 t ((stm t).mp ht)).2.2.1
        · intro t ht; exact (hdr.2 t ((stm t).mp ht)).2.2.2
        · intro t ht; exact (hdr.2 t ((stm t).mp ht)).1
        · intro t ht; exact (nok _ (nmem t ((stm t).mp ht))).2
      refine r_retU (ur_tup (ar_cons (P := fun v H => ∃ r, v = .ref r ∧ StrsT H r (sortS (wsL.take many))) upStrs (EvR.imp (EvUR.er (eu_tuple (el_sortedS (ws := wsL.take many) ?_ (by omega)))) ?_) (ar_cons (P := fun v H => ∃ b, v = .ref b ∧ TiesT H b (sortT ts)) upTies (EvR.imp (EvUR.er (ur_up upPs (ur_tuple (lr_sortedT (ev_var rfl) hl hts ndn (by omega))))) ?_) ar_nil)) ?_ ?_) fun r ys H2 _ e2 h2 hy => ?_
      · have h5 := el_sl (K := K) (te := tVar 4) (tl := tNoPart) (th := tPart (tVar 3)) (σ := [some (.ref s), some (.int 8), some (.int 14), some (.int (many : Int)), some (.ref pw), some (.ref po), some (.int (count : Int)), some (.ref pn), some (.int (fam : Int)), some (.int (sort : Int)), some (.ref pt), v11, v12, v13, v14]) (ev_var rfl) eo_none (eo_some (ev_var rfl)) (SqL.of hw')
        rw [take_nat, ← List.map_take] at h5
        exact h5
      · rintro v H2 _ ⟨r, ys, rfl, h, rfl⟩; exact ⟨r, rfl, h⟩
      · rintro v H2 _ ⟨r, ys, rfl, h, ps', rfl, h3⟩; exact ⟨r, rfl, ps', h, h3⟩
      · rintro vs H H' e ⟨v, r, rfl, ⟨r1, rfl, g1⟩, v2, r2, rfl, ⟨r3, rfl, g2⟩, rfl⟩
        exact ⟨_, _, rfl, ⟨r1, rfl, e _ _ g1⟩, _, _, rfl, ⟨r3, rfl, g2.mono (Tups.ofEx e)⟩, rfl⟩
      · rintro vs H ⟨v, r, rfl, ⟨r1, rfl, g1⟩, v2, r2, rfl, ⟨r3, rfl, g2⟩, rfl⟩
        show 2 ≤ 100000; decide
      · obtain ⟨v, r', rfl, ⟨r1, rfl, g1⟩, v2, r2, rfl, ⟨r3, rfl, g2⟩, rfl⟩ := hy
        exact hQ r _ H2 G (frJ.trans (fr.trans (Fr.of e2))) (st'.up e2) ⟨r1, r3, h2, g1, g2⟩
end
end Ct
end

section
set_option Elab.async false
set_option linter.all false
set_option maxRecDepth 100000
set_option maxHeartbeats 4000000
namespace Ct
open PySem PySem.Spec PyProof.Rows L2
section
variable {τ ν : Type} {a b : τ → ν}
theorem Conn.map {P Q : τ → Prop} {x y : ν} (h : Conn a b P x y) (s : ∀ t, P t → ∃ u, Q u ∧ a u = a t ∧ b u = b t) : Conn a b Q x y := by
  induction h with
  | refl => exact .refl
  | fwd _ p ih =>
    obtain ⟨u, hu, e1, e2⟩ := s _ p
    rw [← e2]; rw [← e1] at ih
    exact .fwd ih hu
  | bwd _ p ih =>
    obtain ⟨u, hu, e1, e2⟩ := s _ p
    rw [← e1]; rw [← e2] at ih
    exact .bwd ih hu
theorem IsMst.img {E T : τ → Prop} {lt lt' : τ → τ → Prop} (M : IsMst a b E lt' T) (φ : τ → τ) (ha : ∀ t, a (φ t) = a t) (hb : ∀ t, b (φ t) = b t) (inj : ∀ s t, E s → E t → φ s = φ t → s = t) (hl : ∀ s t, lt' s t → lt (φ s) (φ t)) :
    IsMst a b (fun s => ∃ t, E t ∧ φ t = s) lt (fun s => ∃ t, T t ∧ φ t = s) := by
  refine ⟨fun s ⟨t, h, e⟩ => ⟨t, M.sub t h, e⟩, ?_, ?_⟩
  · rintro f ⟨t, ht, rfl⟩ hc
    refine M.forest t ht ?_
    rw [ha, hb] at hc
    refine hc.map fun s ⟨⟨u, hu, e⟩, hn⟩ => ⟨u, ⟨hu, fun z => hn (by rw [← e, z])⟩, ?_, ?_⟩
    · rw [← e, ha]
    · rw [← e, hb]
  · rintro s ⟨t, ht, rfl⟩ hn
    have nt : ¬ T t := fun h => hn ⟨t, h, rfl⟩
    rw [ha, hb]
    exact (M.cover t ht nt).map fun u ⟨h1, h2⟩ => ⟨φ u, ⟨⟨u, h1, rfl⟩, hl u t h2⟩, ha u, hb u⟩
theorem IsMst.congr {E E' T : τ → Prop} {lt : τ → τ → Prop} (M : IsMst a b E lt T) (h : ∀ t, E t ↔ E' t) : IsMst a b E' lt T := ⟨fun t ht => (h t).mp (M.sub t ht), M.forest, fun t ht nt => M.cover t ((h t).mpr ht) nt⟩
end
def plt (s t : Tie) : Prop := prLt s t = true
instance : DecidableRel plt := fun s t => inferInstanceAs (Decidable (prLt s t = true))
theorem plt_of {N : Net} (ok : NetOk N) {s t : Tie} (hs : s ∈ N.ts) (ht : t ∈ N.ts) (ne : s ≠ t) (h : prLt t s = false) : plt s t := by
  rcases prLt_tri s t with g | g | g
  · exact g
  · exact absurd (nd_name ok.ndt hs ht g.2) ne
  · rw [h] at g; cases g
def inC (N : Net) (t : Tie) : Prop := t ∈ N.op ∧ t.n ∈ cheap N
theorem op_ts {N : Net} {t : Tie} (h : t ∈ N.op) : t ∈ N.ts := (List.mem_filter.mp h).1
theorem op_open {N : Net} {t : Tie} (h : t ∈ N.op) : t.a ∈ N.ps ∧ t.b ∈ N.ps := by
  have := (List.mem_filter.mp h).2
  obtain ⟨h1, h2⟩ := Bool.and_eq_true_iff.mp this
  exact ⟨of_decide_eq_true h1, of_decide_eq_true h2⟩
theorem sortP_lt {N : Net} (ok : NetOk N) : (sortP N.op).Pairwise plt := by
  have nd : ((sortP N.op).map (·.n)).Nodup := ((sortP_perm N.op).map _).nodup_iff.mpr (op_nd ok.ndt)
  have nd2 : (sortP N.op).Pairwise fun s t => s.n ≠ t.n := List.pairwise_map.mp nd
  refine List.Pairwise.imp_of_mem (fun {s t} hs ht ⟨h1, h2⟩ => plt_of ok (op_ts ((sortP_perm _).mem_iff.mp hs)) (op_ts ((sortP_perm _).mem_iff.mp ht)) (fun e => h2 (by rw [e])) h1) (List.Pairwise.and (sortP_pw N.op) nd2)
theorem mst_cheap {N : Net} (ok : NetOk N) : IsMst Tie.a Tie.b (· ∈ N.op) plt (inC N) := by
  have hm : ∀ t, t ∈ sortP N.op ↔ t ∈ N.op := fun t => (sortP_perm N.op).mem_iff
  obtain ⟨M, _⟩ := krun_mst (a := Tie.a) (b := Tie.b) (ps := N.ps) (lt := plt) (L := sortP N.op) (fun t ht => op_open ((hm t).mp ht)) (sortP_lt ok) (fun t h => by
    have : prLt t t = true := h
    rw [prLt_irr] at this; cases this)
  have hT : ∀ t, t ∈ (krun Tie.a Tie.b N.ps (sortP N.op)).2 ↔ inC N t := fun t => by
    unfold inC cheap
    rw [(sortS_perm _).mem_iff]
    constructor
    · intro h
      exact ⟨(hm t).mp (M.sub t h), List.mem_map_of_mem h⟩
    · rintro ⟨h1, h2⟩
      obtain ⟨u, hu, e⟩ := List.mem_map.mp h2
      have : u = t := nd_name ok.ndt (op_ts ((hm u).mp (M.sub u hu))) (op_ts h1) e
      exact this ▸ hu
  have e : (fun t => t ∈ (krun Tie.a Tie.b N.ps (sortP N.op)).2) = inC N := funext fun t => propext (hT t)
  rw [e] at M
  exact M.congr hm
theorem plt_irr (t : Tie) : ¬ plt t t := fun h => by
  have : prLt t t = true := h
  rw [prLt_irr] at this; cases this
theorem plt_tr (r s t : Tie) (h : plt r s) (g : plt s t) : plt r t := prLt_trans h g
/-- another tree with the tree's looks is the tree -/
theorem cheap_unique {N : Net} (ok : NetOk N) {T : Tie → Prop} (M : IsMst Tie.a Tie.b (· ∈ N.op) plt T) (z : Str) : z ∈ cheap N ↔ ∃ t, T t ∧ t.n = z := by
  have u := IsMst.unique (L := N.op) plt_irr plt_tr (mst_cheap ok) M
  constructor
  · intro h
    obtain ⟨t, ht, e⟩ := cheap_mem h
    exact ⟨t, (u t).mp ⟨ht, e ▸ h⟩, e⟩
  · rintro ⟨t, ht, rfl⟩
    exact ((u t).mpr ht).2
/-! ### the ways -/
def NoLoop (N : Net) : Prop := ∀ t ∈ N.ts, t.a ≠ t.b
theorem within_inC {N : Net} (ok : NetOk N) (t : Tie) : t ∈ within (cheap N) N.ts ↔ inC N t := by
  unfold within inC
  rw [List.mem_filter, decide_eq_true_eq]
  constructor
  · rintro ⟨h1, h2⟩
    obtain ⟨u, hu, e⟩ := cheap_mem h2
    rw [nd_name ok.ndt h1 (op_ts hu) e.symm]
    exact ⟨hu, e ▸ h2⟩
  · rintro ⟨h1, h2⟩
    exact ⟨op_ts h1, h2⟩
theorem Path.mono {τ ν : Type} {a b : τ → ν} {P Q : τ → Prop} {x y : ν} {p : List τ} (h : Path a b P x y p) (s : ∀ t, P t → Q t) : Path a b Q x y p := by
  induction h with
  | nil => exact .nil
  | fwd _ q n ih => exact .fwd ih (s _ q) n
  | bwd _ q n ih => exact .bwd ih (s _ q) n
theorem path_ne {τ ν : Type} {a b : τ → ν} {P : τ → Prop} {x y : ν} {p : List τ} (h : Path a b P x y p) (ne : x ≠ y) : p ≠ [] := by
  intro e
  cases h with
  | nil => exact ne rfl
  | fwd _ _ _ => simp at e
  | bwd _ _ _ => simp at e
theorem way_some {N : Net} (ok : NetOk N) {t : Tie} (ht : t ∈ N.op) (nt : t.n ∉ cheap N) : ∃ pw, wayN N (cheap N) t.a t.b = some pw ∧ Path Tie.a Tie.b (inC N) t.a t.b pw := by
  have W := wayOf_told (a := Tie.a) (b := Tie.b) (within (cheap N) N.ts) true t.a t.b
  unfold wayN
  cases h : wayOf Tie.a Tie.b (within (cheap N) N.ts) true t.a t.b with
  | none =>
    rw [h] at W
    exact absurd (((mst_cheap ok).cover t ht fun z => nt z.2).mono fun s hs => (within_inC ok s).mpr hs.1) W
  | some pw =>
    rw [h] at W
    exact ⟨pw, rfl, Path.mono W fun s hs => (within_inC ok s).mp hs⟩
theorem getT_of {N : Net} (ok : NetOk N) {t : Tie} (h : t ∈ N.ts) : getT N.ts t.n = some t := by
  cases hg : getT N.ts t.n with
  | none => exact absurd (List.mem_map_of_mem h) (getT_none.mp hg)
  | some u => rw [nd_name ok.ndt (getT_mem hg) h (getT_name hg)]
theorem ways_ok {N : Net} (ok : NetOk N) (nl : NoLoop N) : WaysOk N := fun t ht nt => by
  obtain ⟨pw, e, P⟩ := way_some ok ht nt
  refine ⟨pw, path_ne P (nl t (op_ts ht)), ?_, fun u hu => getT_of ok (op_ts (P.all u hu).1), e⟩
  have := nd_len pw N.ts P.nd fun u hu => op_ts (P.all u hu).1
  have := ok.tl
  omega
end Ct
end

section
set_option Elab.async false
set_option linter.all false
set_option maxRecDepth 100000
set_option maxHeartbeats 4000000
namespace Ct
open PySem PySem.Spec PyProof.Rows L2
/-! ### the law's own look at a tree -/
def opOf (ps : List Str) (ts : List Tie) : List Tie := ts.filter fun t => decide (t.a ∈ ps) && decide (t.b ∈ ps)
def LawWay (op : List Tie) (F : List Str) (t : Tie) : Option (List Tie) := wayOf Tie.a Tie.b (within (F.filter fun z => decide (z ≠ t.n)) op) false t.a t.b
structure LawCheap (ps : List Str) (ts : List Tie) (F : List Str) : Prop where
  sub : ∀ z ∈ F, z ∈ (opOf ps ts).map (·.n)
  ways : ∀ t ∈ opOf ps ts, (t.n ∈ F → LawWay (opOf ps ts) F t = none) ∧ (t.n ∉ F → ∃ pw, LawWay (opOf ps ts) F t = some pw ∧ pw ≠ [] ∧ pw.length ≤ 1000 ∧ ∀ u ∈ pw, prLt t u = false)
theorem plt_asy {s t : Tie} (h : plt s t) : prLt t s = false := by
  cases e : prLt t s with
  | false => rfl
  | true => exact absurd (plt_tr s t s h e) (plt_irr s)
theorem law_cheap {N : Net} (ok : NetOk N) (nl : NoLoop N) {ps : List Str} {ts : List Tie} (hp : ∀ z, z ∈ ps ↔ z ∈ N.ps) (ht : ∀ t, t ∈ ts ↔ t ∈ N.ts) (hl : ts.length ≤ 60) : LawCheap ps ts (cheap N) := by
  have hop : ∀ t, t ∈ opOf ps ts ↔ t ∈ N.op := fun t => by
    unfold opOf Net.op openB
    rw [List.mem_filter, List.mem_filter, ht]
    simp only [hp]
  have hw : ∀ t u : Tie, u ∈ within ((cheap N).filter fun z => decide (z ≠ t.n)) (opOf ps ts) ↔ inC N u ∧ u.n ≠ t.n := fun t u => by
    unfold within inC
    rw [List.mem_filter, decide_eq_true_eq, List.mem_filter, decide_eq_true_eq, hop]
    constructor
    · rintro ⟨h1, h2, h3⟩; exact ⟨⟨h1, h2⟩, h3⟩
    · rintro ⟨⟨h1, h2⟩, h3⟩; exact ⟨h1, h2, h3⟩
  refine ⟨fun z hz => ?_, fun t hto => ⟨fun hin => ?_, fun hin => ?_⟩⟩
  · obtain ⟨t, h1, rfl⟩ := cheap_mem hz
    exact List.mem_map_of_mem ((hop t).mpr h1)
  · have htN := (hop t).mp hto
    unfold LawWay
    have W := wayOf_told (a := Tie.a) (b := Tie.b) (within ((cheap N).filter fun z => decide (z ≠ t.n)) (opOf ps ts)) false t.a t.b
    cases h : wayOf Tie.a Tie.b (within ((cheap N).filter fun z => decide (z ≠ t.n)) (opOf ps ts)) false t.a t.b with
    | none => rfl
    | some pw =>
      rw [h] at W
      have P : Path Tie.a Tie.b (· ∈ within ((cheap N).filter fun z => decide (z ≠ t.n)) (opOf ps ts)) t.a t.b pw := W
      refine absurd ?_ ((mst_cheap ok).forest t ⟨htN, hin⟩)
      exact P.conn.mono fun s hs => by
        obtain ⟨h1, h2⟩ := (hw t s).mp (P.all s hs)
        exact ⟨h1, fun e => h2 (by rw [e])⟩
  · have htN := (hop t).mp hto
    unfold LawWay
    have W := wayOf_told (a := Tie.a) (b := Tie.b) (within ((cheap N).filter fun z => decide (z ≠ t.n)) (opOf ps ts)) false t.a t.b
    have nt : ¬ inC N t := fun h => hin h.2
    cases h : wayOf Tie.a Tie.b (within ((cheap N).filter fun z => decide (z ≠ t.n)) (opOf ps ts)) false t.a t.b with
    | none =>
      rw [h] at W
      refine absurd (((mst_cheap ok).cover t htN nt).mono fun s hs => (hw t s).mpr ⟨hs.1, fun e => ?_⟩) W
      exact hin (e ▸ hs.1.2)
    | some pw =>
      rw [h] at W
      have P : Path Tie.a Tie.b (· ∈ within ((cheap N).filter fun z => decide (z ≠ t.n)) (opOf ps ts)) t.a t.b pw := W
      have P2 : Path Tie.a Tie.b (inC N) t.a t.b pw := Path.mono P fun s hs => ((hw t s).mp hs).1
      refine ⟨pw, rfl, path_ne P (nl t (op_ts htN)), ?_, fun u hu => ?_⟩
      · have := nd_len pw ts P.nd fun u hu => (ht u).mpr (op_ts (P2.all u hu).1)
        omega
      · exact plt_asy ((mst_cheap ok).cheaper htN nt P2 u hu)
/-! ### a cost that changes -/
def recost (e : Tie) (c : Int) (s : Tie) : Tie := if s = e then ⟨e.n, e.a, e.b, c⟩ else s
theorem recost_a (e : Tie) (c : Int) (s : Tie) : (recost e c s).a = s.a := by unfold recost; split <;> simp_all
theorem recost_b (e : Tie) (c : Int) (s : Tie) : (recost e c s).b = s.b := by unfold recost; split <;> simp_all
theorem recost_n (e : Tie) (c : Int) (s : Tie) : (recost e c s).n = s.n := by unfold recost; split <;> simp_all
theorem put_mem {N : Net} (ok : NetOk N) {e : Tie} (he : e ∈ N.ts) (c : Int) (s : Tie) : s ∈ (N.put (.cost e.n c)).ts ↔ ∃ t ∈ N.ts, recost e c t = s := by
  rw [put_cost (getT_of ok he)]
  show s ∈ sortT _ ↔ _
  rw [(sortT_perm _).mem_iff, List.mem_append, List.mem_filter, List.mem_singleton]
  constructor
  · rintro (⟨h1, h2⟩ | h)
    · refine ⟨s, h1, ?_⟩
      unfold recost
      rw [if_neg fun z => of_decide_eq_true h2 (by rw [z])]
    · refine ⟨e, he, ?_⟩
      unfold recost
      rw [if_pos rfl, h]
  · rintro ⟨t, ht, rfl⟩
    unfold recost
    by_cases h : t = e
    · rw [if_pos h]; exact .inr rfl
    · rw [if_neg h]
      exact .inl ⟨ht, decide_eq_true fun z => h (nd_name ok.ndt ht he z)⟩
theorem put_ps {N : Net} (ok : NetOk N) {e : Tie} (he : e ∈ N.ts) (c : Int) : (N.put (.cost e.n c)).ps = N.ps := by rw [put_cost (getT_of ok he)]
theorem put_op {N : Net} (ok : NetOk N) {e : Tie} (he : e ∈ N.ts) (c : Int) (s : Tie) : s ∈ (N.put (.cost e.n c)).op ↔ ∃ t, t ∈ N.op ∧ recost e c t = s := by
  unfold Net.op openB
  rw [List.mem_filter, put_mem ok he, put_ps ok he]
  constructor
  · rintro ⟨⟨t, ht, rfl⟩, h⟩
    rw [recost_a, recost_b] at h
    exact ⟨t, List.mem_filter.mpr ⟨ht, h⟩, rfl⟩
  · rintro ⟨t, ht, rfl⟩
    obtain ⟨h1, h2⟩ := List.mem_filter.mp ht
    refine ⟨⟨t, h1, rfl⟩, ?_⟩
    rw [recost_a, recost_b]; exact h2
theorem filter_len {e : Str} : ∀ {ts : List Tie}, (ts.map (·.n)).Nodup → e ∈ ts.map (·.n) → (ts.filter fun t => decide (t.n ≠ e)).length + 1 = ts.length
  | t :: r, h, hm => by
    rw [List.map_cons] at h hm
    obtain ⟨h1, h2⟩ := List.nodup_cons.mp h
    by_cases g : t.n = e
    · subst g
      rw [List.filter_cons, if_neg (by simp)]
      have : r.filter (fun u => decide (u.n ≠ t.n)) = r := List.filter_eq_self.mpr fun u hu => decide_eq_true fun z => h1 (z ▸ List.mem_map_of_mem hu)
      rw [this]; rfl
    · rw [List.filter_cons, if_pos (by simpa using g)]
      have hm' : e ∈ r.map (·.n) := by
        rcases List.mem_cons.mp hm with z | z
        · exact absurd z.symm g
        · exact z
      have := filter_len h2 hm'
      rw [List.length_cons, List.length_cons]; omega
theorem put_ok {N : Net} (ok : NetOk N) {e : Tie} (he : e ∈ N.ts) (c : Int) : NetOk (N.put (.cost e.n c)) ∧ (N.put (.cost e.n c)).ts.length = N.ts.length := by
  have hl := filter_len ok.ndt (List.mem_map_of_mem he)
  have key : ((N.ts.filter fun t => decide (t.n ≠ e.n)) ++ [⟨e.n, e.a, e.b, c⟩] : List Tie).length = N.ts.length := by
    rw [List.length_append]; exact hl
  rw [put_cost (getT_of ok he)]
  refine ⟨⟨ok.ndp, ?_, ok.pl, ?_⟩, ?_⟩
  · refine ((sortT_perm _).map _).nodup_iff.mpr ?_
    rw [List.map_append]
    refine nd_snoc (ok.ndt.sublist (List.Sublist.map _ List.filter_sublist)) fun hm => ?_
    obtain ⟨u, hu1, hu2⟩ := List.mem_map.mp hm
    exact of_decide_eq_true (List.mem_filter.mp hu1).2 hu2
  · show (sortT _).length ≤ 60
    rw [(sortT_perm _).length_eq, key]; exact ok.tl
  · show (sortT _).length = _
    rw [(sortT_perm _).length_eq, key]
theorem recost_inj {N : Net} (ok : NetOk N) (e : Tie) (c : Int) : ∀ s t, s ∈ N.op → t ∈ N.op → recost e c s = recost e c t → s = t := fun s t hs ht h => by
  have : (recost e c s).n = (recost e c t).n := by rw [h]
  rw [recost_n, recost_n] at this
  exact nd_name ok.ndt (op_ts hs) (op_ts ht) this
/-- the tree after it -/
theorem cost_tree {N : Net} (ok : NetOk N) {e : Tie} (he : e ∈ N.ts) (c : Int) {T : Tie → Prop} (M : IsMst Tie.a Tie.b (· ∈ N.op) (fun s t => plt (recost e c s) (recost e c t)) T) (z : Str) :
    z ∈ cheap (N.put (.cost e.n c)) ↔ ∃ t, T t ∧ t.n = z := by
  have M2 := (M.img (lt := plt) (recost e c) (recost_a e c) (recost_b e c) (recost_inj ok e c) fun s t h => h).congr fun t => (put_op ok he c t).symm
  rw [cheap_unique (put_ok ok he c).1 M2]
  constructor
  · rintro ⟨s, ⟨t, ht, rfl⟩, h⟩
    exact ⟨t, ht, by rw [← h, recost_n]⟩
  · rintro ⟨t, ht, h⟩
    exact ⟨_, ⟨t, ht, rfl⟩, by rw [recost_n]; exact h⟩
theorem filter_one {l : List Str} {p : Str → Bool} {e : Str} (nd : l.Nodup) (he : e ∈ l) (h : ∀ x ∈ l, (p x = true ↔ x = e)) : l.filter p = [e] := by
  have nd2 : (l.filter p).Nodup := nd.sublist List.filter_sublist
  have hm : ∀ x, x ∈ l.filter p ↔ x = e := fun x => by
    rw [List.mem_filter]
    constructor
    · rintro ⟨h1, h2⟩; exact (h x h1).mp h2
    · rintro rfl; exact ⟨he, (h x he).mpr rfl⟩
  match hl : l.filter p, nd2, hm with
  | [], _, hm => exact absurd ((hm e).mpr rfl) List.not_mem_nil
  | [x], _, hm => rw [(hm x).mp (by simp)]
  | x :: y :: r, nd2, hm =>
    have h1 := (hm x).mp (by simp)
    have h2 := (hm y).mp (by simp)
    rw [h1, h2] at nd2
    simp at nd2
theorem filter_none {l : List Str} {p : Str → Bool} (h : ∀ x ∈ l, p x = false) : l.filter p = [] := List.filter_eq_nil_iff.mpr fun x hx => by rw [h x hx]; decide
def Exch (N : Net) (d : Deed) (g c : List Str) : Prop := goneOf N d = g ∧ comeOf N d = c
theorem exch_same {N : Net} {d : Deed} (h : ∀ z, z ∈ cheap (N.put d) ↔ z ∈ cheap N) : Exch N d [] [] :=
  ⟨filter_none fun x hx => decide_eq_false fun z => z ((h x).mpr hx), filter_none fun x hx => decide_eq_false fun z => z ((h x).mp hx)⟩
theorem exch_one {N : Net} {d : Deed} (ok : NetOk N) (ok2 : NetOk (N.put d)) {g c : Str} (hg : g ∈ cheap N) (hc : c ∉ cheap N) (h : ∀ z, z ∈ cheap (N.put d) ↔ ((z ∈ cheap N ∧ z ≠ g) ∨ z = c)) : Exch N d [g] [c] := by
  have gc : g ≠ c := fun e => hc (e ▸ hg)
  refine ⟨filter_one (cheap_nd ok.ndt) hg fun x hx => ?_, filter_one (cheap_nd ok2.ndt) ((h c).mpr (.inr rfl)) fun x hx => ?_⟩
  · rw [decide_eq_true_eq, h]
    constructor
    · intro n
      exact Classical.byContradiction fun e => n (.inl ⟨hx, e⟩)
    · rintro rfl (z | z)
      · exact z.2 rfl
      · exact gc z
  · rw [decide_eq_true_eq]
    constructor
    · intro n
      rcases (h x).mp hx with z | z
      · exact absurd z.1 n
      · exact z
    · rintro rfl; exact hc
/-- what the law asks of a margin -/
def MarLaw (N : Net) (t : Tie) : Mar → Prop
  | .waits => True
  | .staysN => Exch N (.cost t.n (10 ^ 29)) [] []
  | .comes o => Exch N (.cost t.n (costW t.n o)) [o.n] [t.n] ∧ Exch N (.cost t.n (costW t.n o + 1)) [] []
  | .stays o => Exch N (.cost t.n (costW t.n o)) [] [] ∧ Exch N (.cost t.n (costW t.n o + 1)) [t.n] [o.n]
theorem mar_law {N : Net} (ok : NetOk N) {e : Tie} (he : e ∈ N.ts) (m : Mar) (h : MarOk N e m) : MarLaw N e m := by
  have W0 : ∃ W : Tie → List Tie, ∀ t, t ∈ N.op → ¬ inC N t → wayN N (cheap N) t.a t.b = some (W t) ∧ Path Tie.a Tie.b (inC N) t.a t.b (W t) :=
    ⟨fun t => (wayN N (cheap N) t.a t.b).getD [], fun t ht nt => by
      obtain ⟨pw, e1, P⟩ := way_some ok ht fun z => nt ⟨ht, z⟩
      refine ⟨?_, ?_⟩
      · show _ = some (Option.getD _ _)
        rw [e1]; rfl
      · show Path _ _ _ _ _ (Option.getD _ _)
        rw [e1]; exact P⟩
  obtain ⟨W, hW0⟩ := W0
  have hW : ∀ t, t ∈ N.op → ¬ inC N t → Path Tie.a Tie.b (inC N) t.a t.b (W t) := fun t ht nt => (hW0 t ht nt).2
  have M := mst_cheap ok
  have same : ∀ c s t, s ≠ e → t ≠ e → (plt (recost e c s) (recost e c t) ↔ plt s t) := fun c s t hs ht => by
    unfold recost
    rw [if_neg hs, if_neg ht]
  have tr' : ∀ c r s t, plt (recost e c r) (recost e c s) → plt (recost e c s) (recost e c t) → plt (recost e c r) (recost e c t) := fun c r s t => plt_tr _ _ _
  have re : ∀ c, recost e c e = ⟨e.n, e.a, e.b, c⟩ := fun c => by unfold recost; rw [if_pos rfl]
  have ro : ∀ c {o : Tie}, o ≠ e → recost e c o = o := fun c o ho => by unfold recost; rw [if_neg ho]
  have inT : ∀ z, (∃ t, inC N t ∧ t.n = z) ↔ z ∈ cheap N := fun z => by
    constructor
    · rintro ⟨t, ht, rfl⟩; exact ht.2
    · intro h
      obtain ⟨t, ht, e⟩ := cheap_mem h
      exact ⟨t, ⟨ht, e ▸ h⟩, e⟩
  have keep : ∀ c, IsMst Tie.a Tie.b (· ∈ N.op) (fun s t => plt (recost e c s) (recost e c t)) (inC N) → Exch N (.cost e.n c) [] [] := fun c M2 => exch_same fun z => by
    rw [cost_tree ok he c M2 z, inT]
  -- the price at the margin and behind it
  have low : ∀ {o : Tie}, o ≠ e → o.n ≠ e.n → plt ⟨e.n, e.a, e.b, costW e.n o⟩ o := fun {o} ho hn => by
    unfold plt
    rw [prLt_iff]
    unfold costW
    by_cases g : ltS e.n o.n = true
    · rw [if_pos g]; exact .inr ⟨rfl, g⟩
    · rw [if_neg g]; exact .inl (by show o.c - 1 < o.c; omega)
  have high : ∀ {o : Tie}, o.n ≠ e.n → plt o ⟨e.n, e.a, e.b, costW e.n o + 1⟩ := fun {o} hn => by
    unfold plt
    rw [prLt_iff]
    unfold costW
    by_cases g : ltS e.n o.n = true
    · rw [if_pos g]; exact .inl (by show o.c < o.c + 1; omega)
    · rw [if_neg g]
      refine .inr ⟨by show o.c = o.c - 1 + 1; omega, ?_⟩
      show ltS o.n e.n = true
      rcases ltS_tri e.n o.n with z | z | z
      · exact absurd z g
      · exact absurd z.symm hn
      · exact z
  cases m with
  | waits => trivial
  | staysN =>
    obtain ⟨h1, h2, h3⟩ := h
    have hop : e ∈ N.op := List.mem_filter.mpr ⟨he, h1⟩
    refine keep _ (M.stays (same _) ⟨hop, h2⟩ W hW fun t ht nt het => ?_)
    have hm : t ∈ com N (cheap N) e.n := by
      refine List.mem_filter.mpr ⟨ht, ?_⟩
      unfold comB
      rw [(hW0 t ht nt).1, Option.getD_some, decide_eq_true (show t.n ∉ cheap N from fun z => nt ⟨ht, z⟩), decide_eq_true (List.mem_map_of_mem het)]; rfl
    rw [h3] at hm
    exact absurd hm List.not_mem_nil
  | stays o =>
    obtain ⟨h1, h2, h3, h4⟩ := h
    have hop : e ∈ N.op := List.mem_filter.mpr ⟨he, h1⟩
    obtain ⟨ho, hb⟩ := List.mem_filter.mp h3
    unfold comB at hb
    obtain ⟨hb1, hb2⟩ := Bool.and_eq_true_iff.mp hb
    have no' : o.n ∉ cheap N := of_decide_eq_true hb1
    have no : ¬ inC N o := fun z => no' z.2
    have oe : o ≠ e := fun z => no' (z ▸ h2)
    have on : o.n ≠ e.n := fun z => oe (nd_name ok.ndt (op_ts ho) he z)
    have hbo := of_decide_eq_true hb2
    rw [(hW0 o ho no).1, Option.getD_some] at hbo
    have heo : e ∈ W o := by
      obtain ⟨u, hu, eu⟩ := List.mem_map.mp hbo
      have : u = e := nd_name ok.ndt (op_ts ((hW o ho no).all u hu).1) he eu
      exact this ▸ hu
    have least : ∀ t, t ∈ N.op → ¬ inC N t → e ∈ W t → t ≠ o → plt o t := fun t ht nt het hto => by
      have hm : t ∈ com N (cheap N) e.n := by
        refine List.mem_filter.mpr ⟨ht, ?_⟩
        unfold comB
        rw [(hW0 t ht nt).1, Option.getD_some, decide_eq_true (show t.n ∉ cheap N from fun z => nt ⟨ht, z⟩), decide_eq_true (List.mem_map_of_mem het)]; rfl
      exact plt_of ok (op_ts ho) (op_ts ht) (Ne.symm hto) (h4 t hm)
    refine ⟨keep _ (M.stays (same _) ⟨hop, h2⟩ W hW fun t ht nt het => ?_), ?_⟩
    · have te : t ≠ e := fun z => nt (z ▸ ⟨hop, h2⟩)
      show plt (recost e _ e) (recost e _ t)
      rw [re, ro _ te]
      by_cases hto : t = o
      · subst hto; exact low te on
      · exact plt_tr _ _ _ (low oe on) (least t ht nt het hto)
    · have M2 := M.leaves (lt' := fun s t => plt (recost e (costW e.n o + 1) s) (recost e (costW e.n o + 1) t)) plt_tr (same _) ⟨hop, h2⟩ W hW ho no heo least (by show plt (recost e _ o) (recost e _ e); rw [re, ro _ oe]; exact high on) (tr' _) (T' := fun t => (inC N t ∧ t ≠ e) ∨ t = o) (fun t => Iff.rfl)
      refine exch_one ok (put_ok ok he _).1 h2 no' fun z => ?_
      rw [cost_tree ok he _ M2 z]
      constructor
      · rintro ⟨t, (⟨ht, hn⟩ | rfl), rfl⟩
        · exact .inl ⟨ht.2, fun z => hn (nd_name ok.ndt (op_ts ht.1) he z)⟩
        · exact .inr rfl
      · rintro (⟨hz, hn⟩ | rfl)
        · obtain ⟨t, ht, rfl⟩ := (inT z).mpr hz
          exact ⟨t, .inl ⟨ht, fun z => hn (by rw [z])⟩, rfl⟩
        · exact ⟨o, .inr rfl, rfl⟩
  | comes o =>
    obtain ⟨h1, h2, pw, h3, h4, h5⟩ := h
    have hop : e ∈ N.op := List.mem_filter.mpr ⟨he, h1⟩
    have ne : ¬ inC N e := fun z => h2 z.2
    have hWe : W e = pw := by
      have := (hW0 e hop ne).1
      rw [h3] at this
      exact (Option.some.inj this).symm
    subst hWe
    have To : inC N o := (hW e hop ne).all o h4
    have oe : o ≠ e := fun z => ne (z ▸ To)
    have on : o.n ≠ e.n := fun z => oe (nd_name ok.ndt (op_ts To.1) he z)
    have most : ∀ s, s ∈ W e → s ≠ o → plt s o := fun s hs hso => plt_of ok (op_ts ((hW e hop ne).all s hs).1) (op_ts To.1) hso (h5 s hs)
    refine ⟨?_, keep _ (M.without (same _) ne W hW fun s hs => ?_)⟩
    · have M2 := M.comes (lt' := fun s t => plt (recost e (costW e.n o) s) (recost e (costW e.n o) t)) plt_tr (same _) hop ne W hW h4 most (by show plt (recost e _ e) (recost e _ o); rw [re, ro _ oe]; exact low oe on) (tr' _) (T' := fun t => (inC N t ∧ t ≠ o) ∨ t = e) (fun t => Iff.rfl)
      refine exch_one ok (put_ok ok he _).1 To.2 h2 fun z => ?_
      rw [cost_tree ok he _ M2 z]
      constructor
      · rintro ⟨t, (⟨ht, hn⟩ | rfl), rfl⟩
        · exact .inl ⟨ht.2, fun z => hn (nd_name ok.ndt (op_ts ht.1) (op_ts To.1) z)⟩
        · exact .inr rfl
      · rintro (⟨hz, hn⟩ | rfl)
        · obtain ⟨t, ht, rfl⟩ := (inT z).mpr hz
          exact ⟨t, .inl ⟨ht, fun z => hn (by rw [z])⟩, rfl⟩
        · exact ⟨e, .inr rfl, rfl⟩
    · have se : s ≠ e := fun z => ne (z ▸ (hW e hop ne).all s hs)
      show plt (recost e _ s) (recost e _ e)
      rw [re, ro _ se]
      by_cases hso : s = o
      · subst hso; exact high on
      · exact plt_tr _ _ _ (most s hs hso) (high on)
end Ct
end

section
set_option Elab.async false
set_option linter.all false
set_option maxRecDepth 100000
set_option maxHeartbeats 4000000
namespace Ct
open PySem PySem.Spec PyProof.Rows L2 Evl
section
variable {P : Program} {w : World} {K : PySem.W.Frag} {mg : Str → Option Value} {base : Heap} {C_Groups C_Keeper C_Desk : Addr}
theorem el_catE {σ : L2.St} {H : Hp} {ta tb : TE} {a : Addr} {xs ys : List V} (ha : Ev ta σ H (.ref a)) (hx : H a = some (.lst xs)) (hb : EvL tb σ H ys) (hl : xs.length + ys.length ≤ 100000) : EvL (tOp rCat ta tb) σ H (xs ++ ys) := fun H1 e Q q =>
  ha H1 e _ fun H2 e2 => hb H2 (e.trans e2) _ fun p' H3 hp' e3 h3 => ⟨a, p', xs, ys, rfl, rfl, (e.trans (e2.trans e3)) _ _ hx, h3, sz_of hl, fun r hr => q r _ (fresh_back (e2.trans e3) hr) ((e2.trans e3).trans (Ex.new hr)) upd_same⟩
theorem er_slT {σ : L2.St} {H : Hp} {te : TE} {a : Addr} {xs ys : List V} {lo hi : Int} (h : Ev te σ H (.ref a)) (ha : H a = some (.tup xs)) (hc : cutV xs (some lo) (some hi) = ys) (hw : ¬ (HT.sIx xs.length 0 (some lo) = 0 ∧ HT.sIx xs.length xs.length (some hi) = xs.length)) :
    EvR (tSl (rSlA K) te (tPart (tC (.int lo))) (tPart (tC (.int hi)))) σ H (fun v H2 => ∃ p, v = .ref p ∧ H2 p = some (.tup ys)) := fun H1 e Q q =>
  h H1 e _ fun H2 e2 => ⟨lo, rfl, hi, rfl, a, xs, rfl, SqT.of ((e.trans e2) _ _ ha), fun z => absurd z hw, fun _ p hp => q _ _ (e2.trans (Ex.new hp)) ⟨p, rfl, by rw [upd_same, hc]⟩⟩
def RWL (fl : Addr) (H : Hp) (r : Addr) (q : Str × List Tie) : Prop := r ≠ fl ∧ TiesL H r q.2
theorem TiesL.up {H H' : Hp} {a : Addr} {ts : List Tie} (e : Ex H H') (h : TiesL H a ts) : TiesL H' a ts := by
  obtain ⟨ps, h1, h2⟩ := h
  exact ⟨ps, e _ _ h1, ties_mono (Tups.ofEx e) h2⟩
theorem RWL.map {fl : Addr} {H H' : Hp} (k : ∀ r ts, r ≠ fl → TiesL H r ts → TiesL H' r ts) : ∀ {rs : List Addr} {A : List (Str × List Tie)}, Paired (RWL fl H) rs A → Paired (RWL fl H') rs A
  | _, _, .nil => .nil
  | _, _, .cons h t => .cons ⟨h.1, k _ _ h.1 h.2⟩ (RWL.map k t)
theorem RWL.up {fl : Addr} {H H' : Hp} (e : Ex H H') {rs : List Addr} {A : List (Str × List Tie)} (h : Paired (RWL fl H) rs A) : Paired (RWL fl H') rs A := RWL.map (fun r ts _ h => h.up e) h
def WayL (H : Hp) (r : V) : Option (List Tie) → Prop
  | some p => ∃ q, r = .ref q ∧ TiesL H q p
  | none => r = .non
theorem within_take {F : List Str} {ts : List Tie} {i : Nat} {t : Tie} (h : ts[i]? = some t) : within F (ts.take (i + 1)) = within F (ts.take i) ++ (if t.n ∈ F then [t] else []) := by
  unfold within
  rw [List.take_add_one, h, List.filter_append]
  show _ ++ [t].filter _ = _
  by_cases g : t.n ∈ F
  · rw [if_pos g, List.filter_cons, if_pos (decide_eq_true g)]; rfl
  · rw [if_neg g, List.filter_cons, if_neg (by simpa using g)]; rfl
def sp_l_way : Sp := fun vs H Q _ => ∃ tl nl ts F x y, vs = [.ref tl, .ref nl, .str x, .str y] ∧ TiesL H tl ts ∧ StrsL H nl F ∧ ts.length ≤ 1000 ∧ ∀ r H2, Ex H H2 → WayL H2 r (wayOf Tie.a Tie.b (within F ts) false x y) → Q r H2
theorem sc_l_way : FnScope ["_law_ties", "_law_names", "_law_one", "_law_other", "_law_ahead", "_law_line", "_law_at_here", "_law_tie", "_law_there"] ["_law_ties", "_law_names", "_law_one", "_law_other"] (defScope s_l_way) := ⟨rfl, rfl, rfl, by decide +kernel, rfl, by decide +kernel, by decide +kernel⟩
theorem ok_l_way {f : Addr} {fd : FuncData} (F : FnP K "_law_way" "_law_way" s_l_way f fd) (T : Txt w K mg C_Groups C_Keeper C_Desk)
   : FnOk P w K mg base CX0 1 f fd ["_law_ties", "_law_names", "_law_one", "_law_other"] sp_l_way := by
  have sc := sc_l_way

  refine F.ok sc (fun vs H Q E h => ?_) (fun cdv A outer s H vs Q E hr h => ?_)
  · obtain ⟨tl, nl, ts, F, x, y, rfl, _⟩ := h; rfl
  · have hu := hu_of hr
    obtain ⟨tl, nl, tsA, F, x, y, rfl, ⟨ps0, htl, htp⟩, hnl, hlen, hQ⟩ := h
    refine ⟨_, PSs.nox (pss_cons (ps_set (i := 4) sc.nd rfl (Or.inl rfl) (pe_disp (pps_cons (pv 2) (pe_lst pa_nil) pps_nil) (by rfl) (by rfl) (fun z => by cases z) (by decide)))
    (pss_cons (ps_set (i := 5) sc.nd rfl (Or.inl rfl) (pe_lst (pa_cons (pv 2) pa_nil)))
    (pss_cons (ps_set (i := 6) sc.nd rfl (Or.inl rfl) pe_int)
    (pss_cons (ps_while PassesOwn.never (pt_cmpR op_lt (pv 6) (pe_callB (call_len_seqK (K := K) rfl) (by rfl) T.b_len (by decide +kernel) (pa_cons (pv 5) pa_nil)) (nomark _)) (pss_cons (ps_for PassesOwn.never rfl (pi_listK (K := K) rfl (pv 0)) (pg_name (i := 7) sc.nd rfl (Or.inl rfl)) (pss_one (ps_if (PW.pt (pw_and (pt_cmpR (op_in_seqK (K := K) rfl) (pe_ix (ix_tupK (K := K) rfl) (pv 7) pe_int (fun _ _ => rfl)) (pv 1) rfl) (pw_and1 (pt_cmpR (op_in_seqK (K := K) rfl) (pe_ix (ix_listK (K := K) rfl) (pv 5) (pv 6) (fun _ _ => rfl)) (pe_slice (sl_tupAK (K := K) rfl) (pv 7) (po_some pe_int) (po_some pe_int)) rfl)))) (pss_cons (ps_set (i := 8) sc.nd rfl (Or.inl rfl) (pe_ifExp (pt_cmpR op_eq (pe_ix (ix_tupK (K := K) rfl) (pv 7) pe_int (fun _ _ => rfl)) (pe_ix (ix_listK (K := K) rfl) (pv 5) (pv 6) (fun _ _ => rfl)) (nomark _)) (pe_ix (ix_tupK (K := K) rfl) (pv 7) pe_int (fun _ _ => rfl)) (pe_ix (ix_tupK (K := K) rfl) (pv 7) pe_int (fun _ _ => rfl))))
    (pss_one (ps_if (pt_cmp (pc_dnotin hu (pv 8) (pv 4))) (pss_cons (ps_dput hu (pv 4) (pv 8) (pe_op op_cat (pe_dget hu (pv 4) (pe_ix (ix_listK (K := K) rfl) (pv 5) (pv 6) (fun _ _ => rfl)) (fun _ _ => rfl)) (pe_lst (pa_cons (pv 7) pa_nil))) rfl)
    (pss_one (ps_expr (pe_bm PySem.F.plainAttrs_list PySem.F.slot_list_append PySem.F.type_list_append mt_append (pv 5) (pa_cons (pv 8) pa_nil))))) pss_nil))) pss_nil)))
    (pss_one (ps_aug (i := 6) sc.nd rfl (Or.inl rfl) pe_int ip_add))))
    (pss_one (ps_ret (pe_dget1 hu (pv 4) (pv 3) ⟨rfl, rfl, rfl, rfl⟩))))))), ?_⟩
    refine r_asgD (dr_disp1 (P := fun v H2 => ∃ r, v = .ref r ∧ H2 r = some (.lst []) ∧ True) (ev_var rfl) (fun H1 e Q q => el_lst ea_nil (by decide) H1 e Q fun p' H2 _ e2 h2 => q _ H2 e2 ⟨p', rfl, h2, trivial⟩)
      (fun v H p o ⟨kvs, hk⟩ ⟨r, e1, h2, _⟩ => ⟨r, e1, by rw [upd_ne (fun z => by rw [z, hk] at h2; cases h2)]; exact h2, trivial⟩)) fun dl kvs H3 hdl e3 h3 ⟨v, ekv, r0, ev, hr0, _⟩ => ?_
    subst ekv ev
    refine q_asgL (el_lst (ea_cons (ev_var rfl) ea_nil) (by show 1 ≤ 100000; decide)) fun fl H4 hfl e4 h4 => ?_
    refine q_asg ev_c fun H5 e5 => ?_
    let ts := within F tsA
    have tsl : ts.length ≤ 1000 := Nat.le_trans (List.length_filter_le _ _) hlen
    have nfd : dl ≠ fl := fun z => by rw [z, hfl] at h3; cases h3
    have hfl0 : H fl = none := fresh_back e3 hfl
    have nr0 : r0 ≠ fl := fun z => by rw [z, hfl] at hr0; cases hr0
    have e05 : Ex H H5 := (e3.trans e4).trans e5
    refine q_while (fun m σ' H' => ∃ (k : Nat) (A : List (Str × List Tie)) (rs : List Addr) (v7 v8 : Option V), σ' = [some (.ref tl), some (.ref nl), some (.str x), some (.str y), some (.ref dl), some (.ref fl), some (.int k), v7, v8] ∧
        Ex H H' ∧ H' dl = some (.dK (kvG A rs)) ∧ Paired (RWL fl H') rs A ∧ H' fl = some (.lst ((met A).map V.str)) ∧ Bst Tie.a Tie.b ts x k A ∧ 2 * ts.length + 1 ≤ m + k ∧ brun Tie.a Tie.b ts none m k A = brun Tie.a Tie.b ts none (2 * ts.length + 1) 0 [(x, [])])
      (2 * ts.length + 1) ⟨0, [(x, [])], [r0], none, none, rfl, e05, (e4.trans e5) _ _ h3, .cons ⟨nr0, [], (e4.trans e5) _ _ hr0, .nil⟩ .nil, e5 _ _ h4, Bst.first _ _ _ _, by omega, rfl⟩ ?_
    rintro m σ' H' ⟨k, A, rs, v7, v8, rfl, eb, hd, hrs, hf', B, hm, hR⟩
    have hml : (met A).length = A.length := by unfold met; rw [List.length_map]
    refine ⟨decide (k < A.length), et_is (et_test (ev_op (ev_var rfl) (ev_lenL (ev_var rfl) (SqL.of hf')) rv_I0)) ?_, ?_, ?_⟩
    · rw [List.length_map, hml]
      by_cases hk : k < A.length
      · rw [decide_eq_true hk]; exact decide_eq_true (by omega)
      · rw [decide_eq_false hk]; exact decide_eq_false (by omega)
    · intro hb H6 e6
      have hk := of_decide_eq_true hb
      obtain ⟨here, hh⟩ : ∃ here, (met A)[k]? = some here := ⟨_, List.getElem?_eq_getElem (by omega)⟩
      have hm0 : m ≠ 0 := fun z => by have := B.short; omega
      obtain ⟨m', rfl⟩ := Nat.exists_eq_succ_of_ne_zero hm0
      have hR2 : brun Tie.a Tie.b ts none m' (k + 1) (bround Tie.a Tie.b ts here A) = brun Tie.a Tie.b ts none (2 * ts.length + 1) 0 [(x, [])] := by
        rw [← hR]
        conv => rhs; unfold brun
        rw [hh]
        dsimp only
        rw [if_neg]
        rintro ⟨z, e1, e2⟩
        cases e1
      have hhm : here ∈ met A := List.mem_of_getElem? hh
      refine ⟨fun σ2 H2' => ∃ (A' : List (Str × List Tie)) (rs : List Addr) (v7 v8 : Option V), σ2 = [some (.ref tl), some (.ref nl), some (.str x), some (.str y), some (.ref dl), some (.ref fl), some (.int ((k + 1 : Nat) : Int)), v7, v8] ∧ A' = bround Tie.a Tie.b ts here A ∧
        Ex H H2' ∧ H2' dl = some (.dK (kvG A' rs)) ∧ Paired (RWL fl H2') rs A' ∧ H2' fl = some (.lst ((met A').map V.str)), ?_, ?_⟩
      · rintro σ2 H2' ⟨A', rs', w7, w8, rfl, rfl, g1, g2, g3, g4⟩
        exact ⟨m', Nat.lt_succ_self _, k + 1, _, rs', w7, w8, rfl, g1, g2, g3, g4, B.turn hh, by omega, hR2⟩
      · have grow : ∀ (L : List Tie) (A0 : List (Str × List Tie)) (z : Str) (i : Nat), (met A0)[i]? = some z → (met (L.foldl (bstep Tie.a Tie.b here) A0))[i]? = some z := by
          intro L A0 z i hz
          obtain ⟨R, e⟩ := bfold_pre (a := Tie.a) (b := Tie.b) (here := here) L A0
          rw [e]
          unfold met at hz ⊢
          rw [List.map_append, List.getElem?_append_left (List.getElem?_eq_some_iff.mp hz).1]
          exact hz
        refine q_forL (ev_var rfl) (SqL.of (e6 _ _ (eb _ _ htl))) (fun i σ2 H' => ∃ (rs : List Addr) (v7 v8 : Option V), σ2 = [some (.ref tl), some (.ref nl), some (.str x), some (.str y), some (.ref dl), some (.ref fl), some (.int k), v7, v8] ∧
          Ex H H' ∧ H' dl = some (.dK (kvG ((within F (tsA.take i)).foldl (bstep Tie.a Tie.b here) A) rs)) ∧ Paired (RWL fl H') rs ((within F (tsA.take i)).foldl (bstep Tie.a Tie.b here) A) ∧ H' fl = some (.lst ((met ((within F (tsA.take i)).foldl (bstep Tie.a Tie.b here) A)).map V.str)) ∧ Bin Tie.a Tie.b ts x ((within F (tsA.take i)).foldl (bstep Tie.a Tie.b here) A) ∧ here ∈ met ((within F (tsA.take i)).foldl (bstep Tie.a Tie.b here) A)) ?_ ?_ ?_ ?_
        · intro H8 e8
          have e68 := e6.trans e8
          exact ⟨rs, v7, v8, rfl, eb.trans e68, e68 _ _ hd, RWL.up e68 hrs, e68 _ _ hf', B.bin, hhm⟩
        · rintro i σ2 H8 _ ⟨_, _, _, _, e8, _⟩
          exact SqL.of (e8 _ _ htl)
        · rintro i z σ2 H8 hi ⟨rs8, u7, u8, rfl, e8, hd8, hrs8, hf8, B8, hh8⟩
          have hi' : i < tsA.length := by
            have := (List.getElem?_eq_some_iff.mp hi).1
            rwa [ties_len htp] at this
          obtain ⟨t, htt⟩ : ∃ t, tsA[i]? = some t := ⟨_, List.getElem?_eq_getElem hi'⟩
          obtain ⟨pt, rfl, ht0⟩ := ties_get htp hi htt
          have ht : TieAt H8 pt t := e8 _ _ ht0
          have hline : ((met ((within F (tsA.take i)).foldl (bstep Tie.a Tie.b here) A)).map V.str)[k]? = some (.str here) := by rw [List.getElem?_map, grow _ _ _ _ hh]; rfl
          have ek : (within F (tsA.take (i + 1))).foldl (bstep Tie.a Tie.b here) A = if t.n ∈ F then bstep Tie.a Tie.b here ((within F (tsA.take i)).foldl (bstep Tie.a Tie.b here) A) t else (within F (tsA.take i)).foldl (bstep Tie.a Tie.b here) A := by
            rw [within_take htt, List.foldl_append]
            by_cases g : t.n ∈ F
            · rw [if_pos g, if_pos g]; rfl
            · rw [if_neg g, if_neg g]; rfl
          rw [ek]
          generalize (within F (tsA.take i)).foldl (bstep Tie.a Tie.b here) A = A8 at *
          have lineE : ∀ {σ : L2.St} {H' : Hp}, H' fl = some (.lst ((met A8).map V.str)) → σ[5]? = some (some (.ref fl)) → σ[6]? = some (some (.int (k : Int))) → Ev (tOp (rIxL K) (tVar 5) (tVar 6)) σ H' (.str here) := fun h g1 g2 => ev_op (ev_var g1) (ev_var g2) (rv_ixL (SqL.of h) (atI_nat hline))
          refine s_when (b := decide (t.n ∈ F) && decide (here = t.a ∨ here = t.b)) (et_and (et_test (ev_is (ev_op (ev_tie rfl ht rfl) (ev_var rfl) (rv_isL (SqL.of (e8 _ _ hnl)) rfl (flat_strs _))) (congrArg V.bl (inV_str _ _)))) (fun _ => et_test (ev_opR (lineE hf8 rfl rfl) (er_slT (ys := [.str t.a, .str t.b]) (ev_var rfl) ht rfl (show ¬ (HT.sIx 4 0 (some 1) = 0 ∧ HT.sIx 4 4 (some 3) = 4) by decide +kernel)) fun v H9 e9 ⟨p, ev, hp⟩ => ?_))) (fun hb2 H9 e9 => ?_) (fun hb2 H9 e9 => ?_)
          · subst ev
            rw [← inV_two]
            exact rv_isT (SqT.of hp) rfl rfl
          · obtain ⟨hb3, hb4⟩ := Bool.and_eq_true_iff.mp hb2
            have hF := of_decide_eq_true hb3
            have hab := of_decide_eq_true hb4
            rw [if_pos hF]
            have hts : t ∈ ts := List.mem_filter.mpr ⟨List.mem_of_getElem? htt, hb3⟩
            obtain ⟨B9, _, _⟩ := B8.turn hh8 hts
            have hh9 := met_old (a := Tie.a) (b := Tie.b) (here := here) (t := t) hh8
            have hlen8 : A8.length ≤ 2001 := by
              have := (Bst.short (k := 0) ⟨B8, Nat.zero_le _, fun _ h => absurd h (Nat.not_lt_zero _)⟩)
              omega
            have ht9 : TieAt H9 pt t := e9 _ _ ht
            refine q_asg (v := .str (if here = t.a then t.b else t.a)) (ev_if (b := decide (here = t.a)) (et_is (et_test (ev_op (ev_tie rfl ht9 rfl) (lineE (e9 _ _ hf8) rfl rfl) (rv_eq rfl))) ?_) (fun hc => ev_is (ev_tie rfl ht9 rfl) (by rw [if_pos (of_decide_eq_true hc)]; rfl)) (fun hc => ev_is (ev_tie rfl ht9 rfl) (by rw [if_neg (of_decide_eq_false hc)]; rfl))) fun H10 e10 => ?_
            · show decide (V.str t.a = V.str here) = _
              rw [dec_str]
              exact decide_eq_decide.mpr eq_comm
            have e810 := e9.trans e10
            generalize hth : (if here = t.a then t.b else t.a) = th
            have hst : bstep Tie.a Tie.b here A8 t = if th ∈ met A8 then A8 else A8 ++ [(th, (wayTo A8 here).getD [] ++ [t])] := by
              unfold bstep
              rw [if_pos hab]
              dsimp only
              rw [hth]
            refine s_when (et_is (b := decide (th ∉ met A8)) (et_B (ev_dnotin (ev_var rfl) (ev_var rfl) (e810 _ _ hd8))) ?_) (fun hb5 H11 e11 => ?_) (fun hb5 H11 e11 => ?_)
            · rcases kvG_get (R := fun r q => RWL fl H8 r q) hrs8 (z := th) with ⟨w1, w2⟩ | ⟨p, r, w1, w2, _⟩
              · rw [w2, decide_eq_true (wayTo_none.mp w1)]; rfl
              · have hn2 : ¬ th ∉ met A8 := fun hn => by rw [wayTo_none.mpr hn] at w1; cases w1
                rw [w2, decide_eq_false hn2]; rfl
            · have hnm : th ∉ met A8 := of_decide_eq_true hb5
              rw [if_neg hnm] at hst
              have e811 := e810.trans e11
              rcases kvG_get (R := fun r q => RWL fl H8 r q) hrs8 (z := here) with ⟨w1, _⟩ | ⟨p, r, w1, w2, w3⟩
              · exact absurd hh8 (wayTo_none.mp w1)
              · obtain ⟨nrf, pp, hr8, hpp⟩ := w3
                have hr11 : H11 r = some (.lst (pp.map V.ref)) := e811 _ _ hr8
                refine q_dput (P := fun v H2 => ∃ q, v = .ref q ∧ H11 q = none ∧ H2 q = some (.lst (pp.map V.ref ++ [V.ref pt]))) (e811 _ _ hd8) (fun Hx ex Q q => el_catE (ev_dget (ev_var rfl) (lineE (e811 _ _ hf8) rfl rfl) (e811 _ _ hd8) w2) hr11 (el_lst (ea_cons (ev_var rfl) ea_nil) (by show 1 ≤ 100000; decide)) ?_ Hx ex Q fun p' Hy hp' ey hy => q _ Hy ey ⟨p', rfl, fresh_back ex hp', hy⟩) (ev_var rfl) (ev_var rfl) ?_ fun v H12 H13 e12 hv e13 => ?_
                · have hp1 : p.length ≤ 1000 := by
                    have hpw := (B8.way _ (wayTo_mem w1)).1
                    exact Nat.le_trans (nd_len p ts hpw.nd fun z hz => hpw.all z hz) tsl
                  rw [ties_len hpp]
                  show p.length + 1 ≤ 100000
                  omega
                · unfold kvG
                  rw [List.length_map, List.length_zip, Paired.length hrs8]
                  omega
                · obtain ⟨qn, rfl, hqn0, hqn⟩ := hv
                  have e813 := (e811.trans e12).trans e13
                  have hput : putK (kvG A8 rs8) (.inr th) (.ref qn) = kvG (A8 ++ [(th, (wayTo A8 here).getD [] ++ [t])]) (rs8 ++ [qn]) := by
                    rw [putK_fresh, kvG_app hrs8]
                    rw [kvG_keys hrs8]
                    intro hm2
                    obtain ⟨w, hw, ew⟩ := List.mem_map.mp hm2
                    exact hnm (by cases ew; exact hw)
                  have hqd : qn ≠ dl := fun z => by
                    have := e811 _ _ hd8
                    rw [z, this] at hqn0; cases hqn0
                  have hqf : qn ≠ fl := fun z => by
                    have := e811 _ _ hf8
                    rw [z, this] at hqn0; cases hqn0
                  rw [hput]
                  refine s_app (xs := (met A8).map V.str) (by rw [upd_ne (Ne.symm nfd)]; exact e813 _ _ hf8) (ev_var rfl) (ev_var rfl) (by rw [List.length_map]; unfold met; rw [List.length_map]; omega) fun H14 e14 => ?_
                  rw [hst]
                  have keepT : ∀ r ts, r ≠ fl → TiesL H8 r ts → TiesL (upd H14 fl (.lst ((met A8).map V.str ++ [V.str th]))) r ts := fun r ts hrf ⟨ps, g1, g2⟩ => by
                    have nrd : r ≠ dl := fun z => by rw [z, hd8] at g1; cases g1
                    refine ⟨ps, ?_, ?_⟩
                    · rw [upd_ne hrf]
                      exact e14 _ _ (by rw [upd_ne nrd]; exact e813 _ _ g1)
                    · refine ties_mono (fun c xs hc => ?_) g2
                      have c1 : c ≠ dl := fun z => by rw [z, hd8] at hc; cases hc
                      have c2 : c ≠ fl := fun z => by rw [z, hf8] at hc; cases hc
                      rw [upd_ne c2]
                      exact e14 _ _ (by rw [upd_ne c1]; exact e813 _ _ hc)
                  have tupT : Tups H8 (upd H14 fl (.lst ((met A8).map V.str ++ [V.str th]))) := fun c xs hc => by
                    have c1 : c ≠ dl := fun z => by rw [z, hd8] at hc; cases hc
                    have c2 : c ≠ fl := fun z => by rw [z, hf8] at hc; cases hc
                    rw [upd_ne c2]
                    exact e14 _ _ (by rw [upd_ne c1]; exact e813 _ _ hc)
                  refine ⟨rs8 ++ [qn], _, _, rfl, Ex.mut ((Ex.mut (e8.trans e813) hdl).trans e14) hfl0, ?_, ?_, ?_, hst ▸ B9, hst ▸ hh9⟩
                  · rw [upd_ne nfd]; exact e14 _ _ upd_same
                  · refine Paired.snoc ⟨hqf, pp ++ [pt], ?_, ?_⟩ (RWL.map keepT hrs8)
                    · rw [upd_ne hqf, e14 _ _ (by rw [upd_ne hqd]; exact e13 _ _ hqn), List.map_append]; rfl
                    · rw [w1, Option.getD_some]
                      exact Paired.snoc (ht.mono tupT) (ties_mono tupT hpp)
                  · rw [upd_same]
                    unfold met
                    rw [List.map_append, List.map_append]
                    rfl
            · have hnm : ¬ th ∉ met A8 := of_decide_eq_false hb5
              rw [if_pos (Classical.not_not.mp hnm)] at hst
              have e811 := e810.trans e11
              rw [hst]
              exact ⟨rs8, _, _, rfl, e8.trans e811, e811 _ _ hd8, RWL.up e811 hrs8, e811 _ _ hf8, B8, hh8⟩
          · have same : (if t.n ∈ F then bstep Tie.a Tie.b here A8 t else A8) = A8 := by
              by_cases g : t.n ∈ F
              · rw [if_pos g]
                rw [decide_eq_true g, Bool.true_and] at hb2
                unfold bstep
                rw [if_neg (of_decide_eq_false hb2)]
              · rw [if_neg g]
            rw [same]
            exact ⟨rs8, _, _, rfl, e8.trans e9, e9 _ _ hd8, RWL.up e9 hrs8, e9 _ _ hf8, B8, hh8⟩
        · rintro σ2 H8 ⟨rs8, u7, u8, rfl, e8, hd8, hrs8, hf8, B8, hh8⟩
          have e0 : tsA.take (ps0.map V.ref).length = tsA := List.take_of_length_le (by rw [ties_len htp]; exact Nat.le_refl _)
          rw [e0] at hd8 hrs8 hf8
          refine s_aug rfl ev_c fun H9 e9 => ?_
          exact ⟨_, rs8, _, _, rfl, rfl, e8.trans e9, e9 _ _ hd8, RWL.up e9 hrs8, e9 _ _ hf8⟩
    · intro hb H6 e6
      refine s_ret (ev_dget1 (ev_var rfl) (ev_var rfl) (e6 _ _ hd)) fun H7 e7 => ?_
      refine hQ _ H7 ((eb.trans e6).trans e7) ?_
      have hend : brun Tie.a Tie.b ts none m k A = A := by
        cases m with
        | zero => rfl
        | succ m =>
          unfold brun
          cases hh : (met A)[k]? with
          | none => rfl
          | some here =>
            have hkl : k < A.length := by
              have := (List.getElem?_eq_some_iff.mp hh).1
              omega
            rw [decide_eq_true hkl] at hb; cases hb
      have hw : wayOf Tie.a Tie.b (within F tsA) false x y = wayTo A y := by
        unfold wayOf
        rw [if_neg (by decide)]
        show wayTo (brun Tie.a Tie.b ts none (2 * ts.length + 1) 0 [(x, [])]) y = _
        rw [← hR, hend]
      rw [hw]
      rcases kvG_get (R := fun r q => RWL fl H' r q) hrs (z := y) with ⟨w1, w2⟩ | ⟨p, r, w1, w2, w3⟩
      · rw [w1, w2]; rfl
      · rw [w1, w2]
        exact ⟨r, rfl, w3.2.up (e6.trans e7)⟩
end
end Ct
end

section
set_option Elab.async false
set_option linter.all false
set_option maxRecDepth 100000
set_option maxHeartbeats 4000000
namespace Ct
open PySem PySem.Spec PyProof.Rows L2 Evl
section
variable {P : Program} {w : World} {K : PySem.W.Frag} {mg : Str → Option Value} {base : Heap} {C_Groups C_Keeper C_Desk : Addr}
def SOk (ws : List Str) : Prop := ∀ z ∈ ws, ∀ c ∈ z.cps.toList, c < 1114112
theorem strOk_of {z : Str} (h : ∀ c ∈ z.cps.toList, c < 1114112) : PyData.canLay0 (.str z) = true := by
  simp only [PyData.canLay0, PyData.strOk]
  rw [← Array.all_toList, List.all_eq_true]
  exact fun c hc => decide_eq_true (h c hc)
theorem lay_strs : ∀ {ws : List Str}, SOk ws → PyData.canLayAll0 (ws.map .str) = true
  | [], _ => rfl
  | x :: r, h => by
    show PyData.canLayAll0 (.str x :: r.map .str) = true
    simp only [PyData.canLayAll0, strOk_of (h x (by simp)), lay_strs (ws := r) fun z hz => h z (List.mem_cons_of_mem _ hz), Bool.and_self]
theorem shaped_strs {ws : List Str} (h : SOk ws) : SeqAt.shaped (.list (ws.map .str)) = true := by
  unfold SeqAt.shaped
  simp [PyData.canLay0, PyData.depth, lay_strs h, depth_map (d := PyData.str) fun _ => rfl]
theorem SOk.word {z : Str} (h : WordOk z) : ∀ c ∈ z.cps.toList, c < 1114112 := fun c hc => by have := h.2.2 c hc; omega
def EvS (te : TE) (σ : L2.St) (H : Hp) (ws : List Str) : Prop := EvR te σ H (fun v H2 => ∃ p, v = .ref p ∧ H2 p = some (.lst (ws.map V.str)))
theorem EvS.ofL {σ : L2.St} {H : Hp} {te : TE} {ws : List Str} (h : EvL te σ H (ws.map V.str)) : EvS te σ H ws := fun H1 e Q q => h H1 e Q fun p H2 _ e2 h2 => q _ H2 e2 ⟨p, rfl, h2⟩
theorem EvS.ofV {σ : L2.St} {H : Hp} {te : TE} {ws : List Str} {p : Addr} (h : Ev te σ H (.ref p)) (hp : StrsL H p ws) : EvS te σ H ws := EvR.of' h fun H2 e => ⟨p, rfl, e _ _ hp⟩
theorem ev_neS {σ : L2.St} {H : Hp} {ta tb : TE} {xs ys : List Str} (ha : EvS ta σ H xs) (hb : EvS tb σ H ys) (ox : SOk xs) (oy : SOk ys) : Ev (tOp (rNeD K) ta tb) σ H (.bl (!decide (xs = ys))) := fun H1 e Q q =>
  ha H1 e _ fun v H2 e2 ⟨p, ev, hp⟩ => hb H2 (e.trans e2) _ fun w H3 e3 ⟨p', ew, hp'⟩ => ⟨.list (xs.map .str), .list (ys.map .str), by rw [ev]; exact Dp.lst (SqL.of (e3 _ _ hp)) (dp_map (fun a => .str a) xs), by rw [ew]; exact Dp.lst (SqL.of hp') (dp_map (fun a => .str a) ys), shaped_strs ox, shaped_strs oy, by
    have e1 : PyData.eqv (.list (xs.map .str)) (.list (ys.map .str)) = decide (xs = ys) := by
      show PyData.eqv _ _ = _
      rw [← eqv_strs]
      simp only [PyData.eqv]
    rw [e1]
    exact q H3 (e2.trans e3)⟩
theorem ev_eqS {σ : L2.St} {H : Hp} {ta tb : TE} {xs ys : List Str} (ha : EvS ta σ H xs) (hb : EvS tb σ H ys) (ox : SOk xs) (oy : SOk ys) : Ev (tOp (rEqD K) ta tb) σ H (.bl (decide (xs = ys))) := fun H1 e Q q =>
  ha H1 e _ fun v H2 e2 ⟨p, ev, hp⟩ => hb H2 (e.trans e2) _ fun w H3 e3 ⟨p', ew, hp'⟩ => ⟨.list (xs.map .str), .list (ys.map .str), by rw [ev]; exact Dp.lst (SqL.of (e3 _ _ hp)) (dp_map (fun a => .str a) xs), by rw [ew]; exact Dp.lst (SqL.of hp') (dp_map (fun a => .str a) ys), shaped_strs ox, shaped_strs oy, by
    have e1 : PyData.eqv (.list (xs.map .str)) (.list (ys.map .str)) = decide (xs = ys) := by
      show PyData.eqv _ _ = _
      rw [← eqv_strs]
      simp only [PyData.eqv]
    rw [e1]
    exact q H3 (e2.trans e3)⟩
/-- a list of words, filtered -/
theorem el_filter {σ : L2.St} {H : Hp} {tl : TE} {a : Addr} {ws : List Str} (h : Ev tl σ H (.ref a)) (ha : StrsL H a ws) (hl : ws.length < 50000) {tt : TT} {j : Nat} {vs : List Nat} (f : Str → Bool)
    (turn : ∀ z ∈ ws, EvT tt ((wipe σ vs).set j (some (.str z))) H (f z)) (hj : ∀ z : V, ((wipe σ vs).set j (some z))[j]? = some (some z) := by intro _; rfl) (hw : ∀ x, wipe ((wipe σ vs).set j (some x)) vs = wipe σ vs := by intro _; rfl) :
    EvL (tLc (iList K tl) (gName j) tt (tVar j) vs) σ H ((ws.filter f).map V.str) := by
  have h1 := lr_list (K := K) (RB := fun _ v (z : Str) => v = .str z) (ds := ws) (tt := tt) (te := tVar j) h (SqL.of ha) (by rw [List.length_map]) hl Stay.val f id (fun i x d hx hd => by
    have ex : x = .str d := by
      rw [List.getElem?_map, hd] at hx
      exact (Option.some.inj hx).symm
    subst ex
    refine ⟨turn d (List.mem_of_getElem? hd), fun _ => EvR.of (ev_var (hj _))⟩) hw
  refine EvLR.el (h1.imp fun ys H2 _ hy => ?_)
  rw [List.map_id] at hy
  exact Paired.vals hy
def sp_l_words_of : Sp := fun vs H Q _ => ∃ ws : List Str, vs = [.str (Txt.join " " ws)] ∧ (∀ z ∈ ws, 32 ∉ z.cps.toList ∧ z ≠ "") ∧ (Txt.join " " ws).length ≤ 40000 ∧ ∀ p H2, H p = none → Ex H H2 → StrsL H2 p ws → Q (.ref p) H2
theorem split_words {ws : List Str} (h : ∀ z ∈ ws, 32 ∉ z.cps.toList ∧ z ≠ "") : (Txt.split (Txt.join " " ws) " ").filter (fun z => decide (z ≠ Str.ofString "")) = ws := by
  by_cases hne : ws = []
  · subst hne
    have e : Txt.join " " [] = Txt.join " " [Str.ofString ""] := by decide +kernel
    rw [e, split_sp (List.cons_ne_nil _ _) fun z hz => by rw [List.mem_singleton.mp hz]; decide +kernel]
    decide +kernel
  · rw [split_sp hne fun z hz => (h z hz).1]
    exact List.filter_eq_self.mpr fun z hz => decide_eq_true (h z hz).2
theorem split_few (ws : List Str) (h : ∀ z ∈ ws, 32 ∉ z.cps.toList ∧ z ≠ "") : (Txt.split (Txt.join " " ws) " ").length ≤ ws.length + 1 := by
  by_cases hne : ws = []
  · subst hne
    have e : Txt.join " " [] = Txt.join " " [Str.ofString ""] := by decide +kernel
    rw [e, split_sp (List.cons_ne_nil _ _) fun z hz => by rw [List.mem_singleton.mp hz]; decide +kernel]
    decide
  · rw [split_sp hne fun z hz => (h z hz).1]; omega
theorem sc_l_words_of : FnScope ["_law_text", "_law_word"] ["_law_text"] (defScope s_l_words_of) := ⟨rfl, rfl, rfl, by decide +kernel, rfl, by decide +kernel, by decide +kernel⟩
theorem ok_l_words_of {f : Addr} {fd : FuncData} (F : FnP K "_law_words_of" "_law_words_of" s_l_words_of f fd) (T : Txt w K mg C_Groups C_Keeper C_Desk)
   : FnOk P w K mg base CX0 1 f fd ["_law_text"] sp_l_words_of := by
  have sc := sc_l_words_of

  refine F.ok sc (fun vs H Q E h => ?_) (fun cdv A outer s H vs Q E hr h => ?_)
  · obtain ⟨ws, rfl, _⟩ := h; rfl
  · have hu := hu_of hr
    obtain ⟨ws, rfl, hw, hl, hQ⟩ := h
    refine ⟨_, PSs.nox (pss_one (ps_ret (pe_lc (own := [("_law_word", 1)]) (by rfl) sc.nd (pi_listK (K := K) rfl (pe_split (pv 0) pe_str)) (blkOk_by (N := ["_law_text", "_law_word"]) (sc := defScope s_l_words_of) (own := [("_law_word", 1)]) (by decide +kernel)) (fun _ _ _ _ _ => (pg_name (i := 1) sc.nd rfl (Or.inl rfl))) (fun _ _ _ _ _ => (pts_one (pt_cmpR op_ne (pv 1) pe_str (nomark _)))) (fun _ _ _ _ _ => (pv 1))))), ?_⟩
    have sl : (Txt.split (Txt.join " " ws) " ").length ≤ (Txt.join " " ws).length + 2 := PyProof.Rows.split_le _ _
    refine s_retL (xs := ws.map V.str) (EvLR.el ((lr_listN (K := K) (RB := fun _ v (z : Str) => v = .str z) (ds := Txt.split (Txt.join " " ws) " ") (el_split (ev_var rfl) ev_c (by decide +kernel) (by omega)) (by rw [List.length_map]) (by omega) Stay.val (fun z => decide (z ≠ Str.ofString "")) id (fun i x d hx hd => ?_)).imp fun ys H2 _ hy => ?_)) fun p H2 hp e2 h2 => hQ p H2 hp e2 h2
    · have ex : x = .str d := by
        rw [List.getElem?_map, hd] at hx
        exact (Option.some.inj hx).symm
      subst ex
      refine ⟨et_is (et_test (ev_op (ev_var rfl) ev_c (rv_ne rfl))) ?_, fun _ => EvR.of (ev_var rfl)⟩
      rw [dec_str]
      by_cases h : d = (Str.ofString "") <;> simp [h]
    · rw [List.map_id, split_words hw] at hy
      exact Paired.vals hy
theorem row_inj : ∀ {r t : List Sc}, r.map Sc.v = t.map Sc.v → r = t
  | [], [], _ => rfl
  | [], _ :: _, h => by simp at h
  | _ :: _, [], h => by simp at h
  | x :: r, y :: t, h => by
    rw [List.map_cons, List.map_cons] at h
    obtain ⟨h1, h2⟩ := List.cons.inj h
    have e1 : x = y := by
      cases x <;> cases y
      · exact congrArg Sc.s (V.str.inj h1)
      · exact absurd h1 (fun z => by cases z)
      · exact absurd h1 (fun z => by cases z)
      · exact congrArg Sc.i (V.int.inj h1)
    rw [e1, row_inj h2]
theorem row_fn {H : Hp} {ps : List Addr} {rs : List (List Sc)} (h : Paired (fun p r => H p = some (.tup (List.map Sc.v r))) ps rs) : ∃ r : Addr → List Sc, rs = ps.map r ∧ ∀ p ∈ ps, H p = some (.tup ((r p).map Sc.v)) := by
  classical
  let f : Addr → List Sc := fun p => if g : ∃ r, H p = some (.tup (List.map Sc.v r)) then Classical.choose g else []
  have hf : ∀ {p r}, H p = some (.tup (List.map Sc.v r)) → f p = r := fun {p r} g => by
    have g' : ∃ r, H p = some (.tup (List.map Sc.v r)) := ⟨r, g⟩
    show (if g : ∃ r, H p = some (.tup (List.map Sc.v r)) then Classical.choose g else _) = r
    rw [dif_pos g']
    have e0 := g.symm.trans (Classical.choose_spec g')
    injection e0 with e0
    injection e0 with e0
    exact (row_inj e0).symm
  refine ⟨f, ?_, ?_⟩
  · induction h with
    | nil => rfl
    | cons a _ ih => rw [List.map_cons, hf a, ← ih]
  · intro p hp
    obtain ⟨i, hi⟩ := List.mem_iff_getElem?.mp hp
    obtain ⟨t, _, ht⟩ := Paired.get h hi
    rw [hf ht]; exact ht
theorem run_evLR {σ : L2.St} {H : Hp} {te : TE} {Q : VK} {PL : List V → Hp → Prop} (h : EvLR te σ H PL) (k : ∀ p ys H1, H p = none → Ex H H1 → H1 p = some (.lst ys) → PL ys H1 → Q (.ref p) H1) : te σ H Q := h H (Ex.refl H) Q k
theorem run_evU {σ : L2.St} {H : Hp} {te : TE} {Q : VK} {xs : List V} (h : EvU te σ H xs) (k : ∀ p H1, H p = none → Ex H H1 → H1 p = some (.tup xs) → Q (.ref p) H1) : te σ H Q := h H (Ex.refl H) Q k
theorem run_test {σ : L2.St} {H : Hp} {te : TE} {Q : Bool → Hp → Prop} (h : te σ H fun x H' => ∃ k, x = .bl k ∧ Q k H') : tTest te σ H Q := h
def PrV (H : Hp) (v : V) (t : Tie) : Prop := ∃ p, v = .ref p ∧ H p = some (.tup (t.pr.map Sc.v))
theorem Stay.pr : Stay PrV := ⟨fun _ _ _ _ e ⟨p, h1, h2⟩ => ⟨p, h1, e _ _ h2⟩, fun _ _ H l o ⟨xs, hl⟩ ⟨p, h1, h2⟩ => ⟨p, h1, by rw [upd_ne (fun z => by rw [z, hl] at h2; cases h2)]; exact h2⟩⟩
theorem prs_of {H : Hp} : ∀ {ys : List V} {ts : List Tie}, Paired (PrV H) ys ts → ∃ ps, ys = ps.map V.ref ∧ Paired (fun p r => H p = some (.tup (List.map Sc.v r))) ps (ts.map Tie.pr)
  | _, _, .nil => ⟨[], rfl, .nil⟩
  | _, _, .cons ⟨p, h1, h2⟩ r => by
    obtain ⟨ps, e, g⟩ := prs_of r
    exact ⟨p :: ps, by rw [e, h1]; rfl, .cons h2 g⟩
def sp_l_is_cheapest : Sp := fun vs H Q _ => ∃ nt nl pl tl ps ts F, vs = [.ref nt, .ref nl] ∧ H nt = some (.tup [.ref pl, .ref tl]) ∧ StrsL H pl ps ∧ TiesL H tl ts ∧ StrsL H nl F ∧ ps.length ≤ 1000 ∧ ts.length ≤ 1000 ∧ F.length ≤ 1000 ∧ SOk F ∧ LawCheap ps ts F ∧
  ∀ H2, Ex H H2 → Q (.bl true) H2
theorem sc_l_is_cheapest : FnScope ["_law_net_here", "_law_names", "_law_ties", "_law_tie", "_law_name", "_law_found", "_law_one"] ["_law_net_here", "_law_names"] (defScope s_l_is_cheapest) := ⟨rfl, rfl, rfl, by decide +kernel, rfl, by decide +kernel, by decide +kernel⟩
theorem ok_l_is_cheapest {f : Addr} {fd : FuncData} (F : FnP K "_law_is_cheapest" "_law_is_cheapest" s_l_is_cheapest f fd) (T : Txt w K mg C_Groups C_Keeper C_Desk)
  {f_l_way : Addr} {fd_l_way : FuncData} (G_l_way : Dk P w K mg base "_law_way" 1 ["_law_ties", "_law_names", "_law_one", "_law_other"] sp_l_way f_l_way fd_l_way) : FnOk P w K mg base CX0 2 f fd ["_law_net_here", "_law_names"] sp_l_is_cheapest := by
  have sc := sc_l_is_cheapest

  refine F.ok sc (fun vs H Q E h => ?_) (fun cdv A outer s H vs Q E hr h => ?_)
  · obtain ⟨nt, nl, pl, tl, ps, ts, F, rfl, _⟩ := h; rfl
  · have hu := hu_of hr
    obtain ⟨nt, nl, pl, tl, ps, ts, F, rfl, hnt, hpl, ⟨pt0, htl, htp⟩, hnl, lps, lts, lF, okF, C, hQ⟩ := h
    refine ⟨_, PSs.nox (pss_cons (ps_set (i := 2) sc.nd rfl (Or.inr rfl) (pe_lc (own := [("_law_tie", 3)]) (by rfl) sc.nd (pi_listK (K := K) rfl (pe_ix (ix_tupK (K := K) rfl) (pv 0) pe_int (fun _ _ => rfl))) (blkOk_by (N := ["_law_net_here", "_law_names", "_law_ties", "_law_tie", "_law_name", "_law_found", "_law_one"]) (sc := defScope s_l_is_cheapest) (own := [("_law_tie", 3)]) (by decide +kernel)) (fun _ _ _ _ _ => (pg_name (i := 3) sc.nd rfl (Or.inl rfl))) (fun _ _ _ _ _ => (pts_one (PW.pt (pw_and (pt_cmpR (op_in_seqK (K := K) rfl) (pe_ix (ix_tupK (K := K) rfl) (pv 3) pe_int (fun _ _ => rfl)) (pe_ix (ix_tupK (K := K) rfl) (pv 0) pe_int (fun _ _ => rfl)) rfl) (pw_and1 (pt_cmpR (op_in_seqK (K := K) rfl) (pe_ix (ix_tupK (K := K) rfl) (pv 3) pe_int (fun _ _ => rfl)) (pe_ix (ix_tupK (K := K) rfl) (pv 0) pe_int (fun _ _ => rfl)) rfl)))))) (fun _ _ _ _ _ => (pv 3))))
    (pss_cons (ps_if (pt_cmpR (op_neD hr.units) (pe_lc (own := [("_law_name", 4)]) (by rfl) sc.nd (pi_listK (K := K) rfl (pv 1)) (blkOk_by (N := ["_law_net_here", "_law_names", "_law_ties", "_law_tie", "_law_name", "_law_found", "_law_one"]) (sc := defScope s_l_is_cheapest) (own := [("_law_name", 4)]) (by decide +kernel)) (fun _ _ _ _ _ => (pg_name (i := 4) sc.nd rfl (Or.inl rfl))) (fun _ _ _ _ _ => (pts_one (pt_cmpR (op_notIn_seqK (K := K) rfl) (pv 4) (pe_lc (own := [("_law_tie", 3)]) (by rfl) sc.nd (pi_listK (K := K) rfl (pv 2)) (blkOk_by (N := ["_law_net_here", "_law_names", "_law_ties", "_law_tie", "_law_name", "_law_found", "_law_one"]) (sc := ({ kind := .function, names := [(".0", .local), ("_law_name", .local), ("_law_ties", .cell)], isGenerator := false, isCoroutine := false } : Scope)) (own := [("_law_tie", 3)]) (by decide +kernel)) (fun _ _ _ _ _ => (pg_name (i := 3) sc.nd rfl (Or.inl rfl))) (fun _ _ _ _ _ => pts_nil) (fun _ _ _ _ _ => (pe_ix (ix_tupK (K := K) rfl) (pv 3) pe_int (fun _ _ => rfl)))) rfl))) (fun _ _ _ _ _ => (pv 4))) (pe_lst pa_nil) (nomark _)) (pss_one (ps_ret pe_bl)) pss_nil)
    (pss_cons (ps_for PassesOwn.never rfl (pi_listK (K := K) rfl (pv 2)) (pg_name (i := 3) sc.nd rfl (Or.inr rfl)) (pss_cons (ps_set (i := 5) sc.nd rfl (Or.inl rfl) (pe_call G_l_way.ok (hr.mono (by decide)) (by rfl) G_l_way.mgf G_l_way.kp G_l_way.b .nil pass0 (pa_cons (pv 2) (pa_cons (pe_lc (own := [("_law_name", 4)]) (by rfl) sc.nd (pi_listK (K := K) rfl (pv 1)) (blkOk_by (N := ["_law_net_here", "_law_names", "_law_ties", "_law_tie", "_law_name", "_law_found", "_law_one"]) (sc := defScope s_l_is_cheapest) (own := [("_law_name", 4)]) (by decide +kernel)) (fun _ _ _ _ _ => (pg_name (i := 4) sc.nd rfl (Or.inl rfl))) (fun _ _ _ _ _ => (pts_one (pt_cmpR op_ne (pv 4) (pe_ix (ix_tupK (K := K) rfl) (pv 3) pe_int (fun _ _ => rfl)) (nomark _)))) (fun _ _ _ _ _ => (pv 4))) (pa_cons (pe_ix (ix_tupK (K := K) rfl) (pv 3) pe_int (fun _ _ => rfl)) (pa_cons (pe_ix (ix_tupK (K := K) rfl) (pv 3) pe_int (fun _ _ => rfl)) pa_nil))))))
    (pss_cons (ps_if (pt_cmpR op_eq (pe_cmp (pc_notN (pv 5)) rfl) (pe_cmpR (op_in_seqK (K := K) rfl) (pe_ix (ix_tupK (K := K) rfl) (pv 3) pe_int (fun _ _ => rfl)) (pv 1) rfl) (nomark _)) (pss_one (ps_ret pe_bl)) pss_nil)
    (pss_one (ps_if (PW.pt (pw_and (pt_cmpR (op_notIn_seqK (K := K) rfl) (pe_ix (ix_tupK (K := K) rfl) (pv 3) pe_int (fun _ _ => rfl)) (pv 1) rfl) (pw_and1 (pt_cmpR (op_gtD hr.units) (pe_callB (cr_maxT (by rfl) hr.units) (by rfl) T.b_max (by decide +kernel) (pa_cons (pe_lc (own := [("_law_one", 6)]) (by rfl) sc.nd (pi_listK (K := K) rfl (pv 5)) (blkOk_by (N := ["_law_net_here", "_law_names", "_law_ties", "_law_tie", "_law_name", "_law_found", "_law_one"]) (sc := defScope s_l_is_cheapest) (own := [("_law_one", 6)]) (by decide +kernel)) (fun _ _ _ _ _ => (pg_name (i := 6) sc.nd rfl (Or.inl rfl))) (fun _ _ _ _ _ => pts_nil) (fun _ _ _ _ _ => (pe_tup (pa_cons (pe_ix (ix_tupK (K := K) rfl) (pv 6) pe_int (fun _ _ => rfl)) (pa_cons (pe_ix (ix_tupK (K := K) rfl) (pv 6) pe_int (fun _ _ => rfl)) pa_nil))))) pa_nil)) (pe_tup (pa_cons (pe_ix (ix_tupK (K := K) rfl) (pv 3) pe_int (fun _ _ => rfl)) (pa_cons (pe_ix (ix_tupK (K := K) rfl) (pv 3) pe_int (fun _ _ => rfl)) pa_nil))) (nomark _))))) (pss_one (ps_ret pe_bl)) pss_nil)))))
    (pss_one (ps_ret pe_bl))))), ?_⟩
    have n0 : ∀ {σ : L2.St} {H' : Hp}, Ex H H' → σ[0]? = some (some (.ref nt)) → Ev (tOp (rIxT K) (tVar 0) (tC (.int 0))) σ H' (.ref pl) := fun e h => ev_ixT (ev_var h) (e _ _ hnt) rfl
    refine r_asgL ((lr_list (K := K) (RB := fun H v (t : Tie) => ∃ p, v = .ref p ∧ TieAt H p t) (ds := ts) (ev_ixT (v := .ref tl) (ev_var rfl) hnt rfl) (SqL.of htl) (ties_len htp) (by omega) Stay.tie (fun t => decide (t.a ∈ ps) && decide (t.b ∈ ps)) id (fun i z d hx hd => ?_))) (fun ol ys H2 hol e2 h2 hy => ?_)
    · obtain ⟨p, rfl, ht⟩ := ties_get htp hx hd
      refine ⟨et_and (et_test (ev_is (ev_op (ev_tie rfl ht rfl) (n0 (Ex.refl H) rfl) (rv_isL (SqL.of hpl) rfl (flat_strs _))) (congrArg V.bl (inV_str _ _)))) (fun _ => et_test (ev_is (ev_op (ev_tie rfl ht rfl) (n0 (Ex.refl H) rfl) (rv_isL (SqL.of hpl) rfl (flat_strs _))) (congrArg V.bl (inV_str _ _)))), fun _ => EvR.of' (ev_var rfl) fun H2 e => ⟨p, rfl, e _ _ ht⟩⟩
    · rw [List.map_id] at hy
      have hy' : Paired (fun v (t : Tie) => ∃ p, v = .ref p ∧ TieAt H2 p t) ys (opOf ps ts) := hy
      obtain ⟨po, rfl, hpo⟩ := Paired.refs hy'
      have lop : (opOf ps ts).length ≤ 1000 := Nat.le_trans (List.length_filter_le _ _) lts
      refine q_when (b := false) (et_is (et_test (ev_neS (ys := []) (EvS.ofL (el_filter (ev_var rfl) (e2 _ _ hnl) (by omega) (fun z => !decide (z ∈ (opOf ps ts).map (·.n))) (fun z hz => et_test (ev_opR (ev_var rfl) ((lr_list (K := K) (RB := fun _ v (z : Str) => v = .str z) (ds := opOf ps ts) (ev_var rfl) (SqL.of h2) (ties_len hpo) (by omega) Stay.val (fun _ => true) (·.n) (fun i x d hx hd => ?_)).er) fun v H3 e3 hv => ?_)))) (EvS.ofL (el_lst ea_nil (by decide))) (fun z hz => okF z (List.mem_filter.mp hz).1) (fun z hz => absurd hz List.not_mem_nil))) ?_) (fun hb => by cases hb) (fun _ H3 e3 => ?_)
      · obtain ⟨p, rfl, ht⟩ := ties_get hpo hx hd
        exact ⟨et_yes, fun _ => EvR.of (ev_tie rfl ht rfl)⟩
      · obtain ⟨p, ys, rfl, hp, hys⟩ := hv
        rw [List.filter_eq_self.mpr fun _ _ => rfl] at hys
        have := Paired.vals hys
        subst this
        have key := rv_niL (K := K) (x := .str z) (SqL.of hp) rfl (show (((opOf ps ts).map (·.n)).map V.str).all flatV = true from flat_strs _)
        rw [inV_str] at key
        exact key
      · have e0 : F.filter (fun z => !decide (z ∈ (opOf ps ts).map (·.n))) = [] := filter_none fun z hz => by rw [decide_eq_true (C.sub z hz)]; rfl
        rw [e0]; rfl
      · have e23 := e2.trans e3
        refine q_forL (ev_var rfl) (SqL.of (e3 _ _ h2)) (fun i σ' H' => ∃ v3 v5, σ' = [some (.ref nt), some (.ref nl), some (.ref ol), v3, none, v5, none] ∧ Ex H2 H') ?_ ?_ ?_ ?_
        · exact fun H4 e4 => ⟨none, none, rfl, e3.trans e4⟩
        · rintro i σ' H' _ ⟨v3, v5, _, ex⟩
          exact SqL.of (ex _ _ h2)
        · rintro i z σ' H' hi ⟨v3, v5, rfl, ex⟩
          have hi' : i < (opOf ps ts).length := by
            have := (List.getElem?_eq_some_iff.mp hi).1
            rwa [ties_len hpo] at this
          obtain ⟨t, htt⟩ : ∃ t, (opOf ps ts)[i]? = some t := ⟨_, List.getElem?_eq_getElem hi'⟩
          obtain ⟨pt, rfl, ht0⟩ := ties_get hpo hi htt
          have ht : TieAt H' pt t := ex _ _ ht0
          have e02 := e2.trans ex
          obtain ⟨w1, w2⟩ := C.ways t (List.mem_of_getElem? htt)
          refine r_asg (P := fun v H2 => WayL H2 v (LawWay (opOf ps ts) F t)) (er_call (PL := fun vs H4 => ∃ q, vs = [.ref ol, .ref q, .str t.a, .str t.b] ∧ StrsL H4 q (F.filter fun z => decide (z ≠ t.n))) (fun H4 e4 Q q => ?_) fun vs H4 e4 ⟨q, ev, hq⟩ => ?_) fun v H4 e4 hv => ?_
          · refine (ar_cons (P := fun v _ => v = .ref ol) (fun _ _ _ _ h => h) (er_var rfl) (ar_cons (P := fun v H2 => ∃ q, v = .ref q ∧ StrsL H2 q (F.filter fun z => decide (z ≠ t.n))) (fun v H H' e ⟨q, h1, h2⟩ => ⟨q, h1, e _ _ h2⟩) (fun H5 e5 Q q => el_filter (K := K) (ev_var rfl) (e02 _ _ hnl) (by omega) (fun z => decide (z ≠ t.n)) (fun z hz => et_is (et_test (ev_op (ev_var rfl) (ev_tie rfl ht rfl) (rv_ne rfl))) ?_) (by intro _; rfl) (by intro _; rfl) H5 e5 Q fun p H6 _ e6 h6 => q _ H6 e6 ⟨p, rfl, h6⟩) (EvAR.of (ea_cons (ev_tie (v := .str t.a) rfl ht rfl) (ea_cons (ev_tie (v := .str t.b) rfl ht rfl) ea_nil))))) H4 e4 Q fun vs H5 e5 ⟨v, r, e1, e2, v2, r2, e3, ⟨q', e4', hq'⟩, e6⟩ => q vs H5 e5 ⟨q', by rw [e1, e2, e3, e4', e6], hq'⟩
            show (!decide (V.str z = V.str t.n)) = _
            rw [dec_str]
            by_cases h : z = t.n <;> simp [h]
          · subst ev
            exact fun Q' q' E' => ⟨ol, q, opOf ps ts, _, t.a, t.b, rfl, ⟨po, e4 _ _ (ex _ _ h2), ties_mono (Tups.ofEx (ex.trans e4)) hpo⟩, hq, lop, q'⟩
          · have ht4 : TieAt H4 pt t := e4 _ _ ht
            have e04 := e02.trans e4
            have hin : ∀ {σ : L2.St} {H' : Hp} {neg : Bool}, Ex H4 H' → σ[3]? = some (some (.ref pt)) → σ[1]? = some (some (.ref nl)) → Ev (tOp (rIn K neg) (tOp (rIxT K) (tVar 3) (tC (.int 0))) (tVar 1)) σ H' (.bl (if neg then !decide (t.n ∈ F) else decide (t.n ∈ F))) := fun {σ} {H'} {neg} e g1 g2 => by
              have key := rv_inL (K := K) (neg := neg) (x := .str t.n) (H := H') (SqL.of (e _ _ (e04 _ _ hnl))) rfl (flat_strs F)
              rw [inV_str] at key
              exact ev_op (ev_tie g1 (e _ _ ht4) rfl) (ev_var g2) key
            refine q_when (b := false) (et_is (et_test (ev_op (ev_notN (ev_var rfl)) (hin (neg := false) (Ex.refl _) rfl rfl) (rv_eq rfl))) ?_) (fun hb => by cases hb) (fun _ H5 e5 => ?_)
            · by_cases g : t.n ∈ F
              · have hv' := hv
                rw [w1 g] at hv'
                have hv2 : v = .non := hv'
                subst hv2
                rw [if_neg (by decide), decide_eq_true g]; rfl
              · obtain ⟨pw, e1, _⟩ := w2 g
                have hv' := hv
                rw [e1] at hv'
                obtain ⟨q, rfl, _⟩ := hv'
                rw [if_neg (by decide), decide_eq_false g]; rfl
            · refine s_when (b := false) (et_is (et_and (b := false) (et_test (hin (neg := true) e5 rfl rfl)) (fun hb => ?_)) (Bool.and_false _)) (fun hb => by cases hb) (fun _ H6 e6 => ?_)
              · have g : t.n ∉ F := by simpa using hb
                obtain ⟨pw, e1, hne, hpwl, hmax⟩ := w2 g
                rw [e1] at hv
                obtain ⟨q, rfl, pq, hq1, hq2⟩ := hv
                have hq5 := e5 _ _ hq1
                have hq25 := ties_mono (Tups.ofEx e5) hq2
                intro H6 e6 Q' q'
                refine run_test (run_op (run_cb (run_cons (run_evLR (EvLR.mono e6 (lr_list (K := K) (RB := PrV) (ds := pw) (ev_var rfl) (SqL.of hq5) (ties_len hq25) (by omega) Stay.pr (fun _ => true) id (fun i x d hx hd => ?_))) fun p ys H7 hp e7 h7 hy => run_nil ?_))))
                · obtain ⟨pd, rfl, hd2⟩ := ties_get hq25 hx hd
                  exact ⟨et_yes, fun _ H8 e8 Q q => eu_tup (ea_cons (ev_tie rfl hd2 rfl) (ea_cons (ev_tie rfl hd2 rfl) ea_nil)) (by show 2 ≤ 100000; decide) H8 e8 Q fun p' H9 _ e9 h9 => q _ H9 e9 ⟨p', rfl, h9⟩⟩
                · rw [List.filter_eq_self.mpr fun _ _ => rfl, List.map_id] at hy
                  obtain ⟨pp, rfl, hpp⟩ := prs_of hy
                  obtain ⟨r, er, hr⟩ := row_fn hpp
                  have lpp : pp.length = pw.length := by
                    have := Paired.length hpp
                    rw [List.length_map] at this; exact this
                  have rp : ∀ x ∈ pp, ∃ u ∈ pw, r x = u.pr := fun x hx => by
                    have : r x ∈ pw.map Tie.pr := by rw [er]; exact List.mem_map_of_mem hx
                    obtain ⟨u, hu, e⟩ := List.mem_map.mp this
                    exact ⟨u, hu, e.symm⟩
                  refine ⟨p, pp, r, rfl, SqL.of h7, fun x hx => SqT.of (hr x hx), ?_, by omega, fun x hx => ?_, fun x hx y hy => ?_, fun x hx _ => ?_⟩
                  · intro e
                    rw [e] at lpp
                    exact hne (List.length_eq_zero_iff.mp lpp.symm)
                  · obtain ⟨u, _, e⟩ := rp x hx
                    rw [e]; exact List.cons_ne_nil _ _
                  · obtain ⟨u, _, e⟩ := rp x hx
                    obtain ⟨w, _, e'⟩ := rp y hy
                    rw [e, e']; rfl
                  · obtain ⟨u, hu, e⟩ := rp x hx
                    refine run_evU (eu_tup (ea_cons (ev_tie rfl (e7 _ _ (e6 _ _ (e5 _ _ ht4))) rfl) (ea_cons (ev_tie rfl (e7 _ _ (e6 _ _ (e5 _ _ ht4))) rfl) ea_nil)) (by show 2 ≤ 100000; decide)) fun y H8 _ e8 h8 => ?_
                    refine ⟨x, y, r x, t.pr, rfl, rfl, SqT.of (e8 _ _ (hr x hx)), SqT.of h8, by rw [e]; exact List.cons_ne_nil _ _, by rw [e]; rfl, false, ?_, q' H8 (e7.trans e8)⟩
                    rw [e]
                    exact congrArg V.bl (hmax u hu)
              · exact ⟨_, _, rfl, ex.trans (e4.trans (e5.trans e6))⟩
        · rintro σ' H' ⟨v3, v5, rfl, ex⟩
          exact s_ret ev_c fun H5 e5 => hQ H5 ((e2.trans ex).trans e5)
end
end Ct
end

section
set_option Elab.async false
set_option linter.all false
set_option maxRecDepth 100000
set_option maxHeartbeats 4000000
namespace Ct
open PySem PySem.Spec PyProof.Rows L2 Evl
section
variable {P : Program} {w : World} {K : PySem.W.Frag} {mg : Str → Option Value} {base : Heap} {C_Groups C_Keeper C_Desk : Addr}
theorem el_catR {σ : L2.St} {H : Hp} {ta tb : TE} {b : Addr} {xs ys : List V} (ha : EvL ta σ H xs) (hb : Ev tb σ H (.ref b)) (hy : H b = some (.lst ys)) (hl : xs.length + ys.length ≤ 100000) : EvL (tOp rCat ta tb) σ H (xs ++ ys) := fun H1 e Q q =>
  ha H1 e _ fun p H2 hp e2 h2 => hb H2 (e.trans e2) _ fun H3 e3 => ⟨p, b, xs, ys, rfl, rfl, e3 _ _ h2, (e.trans (e2.trans e3)) _ _ hy, sz_of hl, fun r hr => q r _ (fresh_back (e2.trans e3) hr) ((e2.trans e3).trans (Ex.new hr)) upd_same⟩
theorem spl_words {H : Hp} {ws : List Str} (h : ∀ z ∈ ws, 32 ∉ z.cps.toList ∧ z ≠ "") (hl : (Txt.join " " ws).length ≤ 40000) : SpL sp_l_words_of [.str (Txt.join " " ws)] H (ws.map V.str) := fun H1 e Q q E => ⟨ws, rfl, h, hl, fun p H2 hp e2 h2 => q p H2 hp e2 h2⟩
theorem cut_mid {xs : List V} {a b : Nat} (h : a ≤ b) (hb : b ≤ xs.length) : cutV xs (some (a : Int)) (some (b : Int)) = (xs.drop a).take (b - a) := by
  unfold cutV
  rw [sIx_at, sIx_at, Nat.min_eq_left hb, Nat.min_eq_left (by omega)]
theorem cut_end {xs : List V} {a : Nat} (h : a ≤ xs.length) : cutV xs (some (a : Int)) none = xs.drop a := by
  unfold cutV
  rw [sIx_at, Nat.min_eq_left h]
  have e2 : HT.sIx xs.length xs.length none = xs.length := rfl
  rw [e2]
  exact List.take_of_length_le (by rw [List.length_drop]; exact Nat.le_refl _)
def exWords (g c : List Str) : List Str := ([("gone" : Str)] ++ g ++ [("come" : Str)]) ++ c
theorem word_fine {z : Str} (h : WordOk z) : 32 ∉ z.cps.toList ∧ z ≠ "" := ⟨fun hm => by have := h.2.2 32 hm; omega, fun e => by
  have h1 := h.1
  rw [e] at h1
  exact absurd h1 (by decide +kernel)⟩
theorem gone_ok : WordOk "gone" := by
  refine ⟨by decide +kernel, by decide +kernel, ?_⟩
  have : (Str.ofString "gone").cps.toList = [103, 111, 110, 101] := by decide +kernel
  rw [this]
  intro c hc
  simp only [List.mem_cons, List.not_mem_nil, or_false] at hc
  omega
theorem come_ok : WordOk "come" := by
  refine ⟨by decide +kernel, by decide +kernel, ?_⟩
  rw [come_cps]
  intro c hc
  simp only [List.mem_cons, List.not_mem_nil, or_false] at hc
  omega
theorem exWords_ok {g c : List Str} (h : ∀ z ∈ g ++ c, WordOk z) : ∀ z ∈ exWords g c, WordOk z := by
  intro z hz
  simp only [exWords, List.mem_append, List.mem_singleton] at hz
  rcases hz with ((rfl | hz) | rfl) | hz
  · exact gone_ok
  · exact h z (List.mem_append_left _ hz)
  · exact come_ok
  · exact h z (List.mem_append_right _ hz)
theorem exWords_len (g c : List Str) : (exWords g c).length = g.length + c.length + 2 := by
  simp only [exWords, List.length_append, List.length_singleton]; omega
theorem exWords_at {g c : List Str} {i : Nat} (h : i < g.length + 1) (hc : ("come" : Str) ∉ g) : ∃ z, (exWords g c)[i]? = some z ∧ z ≠ "come" := by
  unfold exWords
  rw [List.append_assoc, List.getElem?_append_left (by simp only [List.length_append, List.length_singleton]; omega)]
  cases i with
  | zero => exact ⟨"gone", rfl, by decide +kernel⟩
  | succ i =>
    have hi : i < g.length := by omega
    refine ⟨g[i], ?_, fun e => hc (e ▸ List.getElem_mem hi)⟩
    show (("gone" : Str) :: g)[i + 1]? = _
    rw [List.getElem?_cons_succ, List.getElem?_eq_getElem hi]
theorem exWords_come {g c : List Str} : (exWords g c)[g.length + 1]? = some "come" := by
  unfold exWords
  rw [List.append_assoc, List.getElem?_append_right (by simp only [List.length_append, List.length_singleton]; omega)]
  have : g.length + 1 - ([("gone" : Str)] ++ g).length = 0 := by simp only [List.length_append, List.length_singleton]; omega
  rw [this]; rfl
theorem exWords_gone {g c : List Str} : ((exWords g c).drop 1).take g.length = g := by
  unfold exWords
  show ((g ++ [("come" : Str)]) ++ c).take g.length = g
  rw [List.append_assoc, List.take_left']; rfl
theorem exWords_rest {g c : List Str} : (exWords g c).drop (g.length + 2) = c := by
  unfold exWords
  have : g.length + 2 = ([("gone" : Str)] ++ g ++ [("come" : Str)]).length := by simp only [List.length_append, List.length_singleton]; omega
  rw [this, List.drop_left']; rfl
def sp_l_moved : Sp := fun vs H Q _ => ∃ tr A g c, vs = [.ref tr, .str (exText g c)] ∧ StrsL H tr A ∧ (∀ z ∈ A, WordOk z) ∧ (∀ z ∈ g ++ c, WordOk z) ∧ ("come" : Str) ∉ g ∧ (∀ z ∈ g, z ∈ A) ∧ (∀ z ∈ c, z ∉ A) ∧ A.length + c.length ≤ 60 ∧ g.length ≤ 60 ∧
  ∀ p H2, H p = none → Ex H H2 → StrsL H2 p (exch A g c) → Q (.ref p) H2
theorem sc_l_moved : FnScope ["_law_tree", "_law_told_here", "_law_words_here", "_law_at_here", "_law_gone", "_law_come", "_law_name"] ["_law_tree", "_law_told_here"] (defScope s_l_moved) := ⟨rfl, rfl, rfl, by decide +kernel, rfl, by decide +kernel, by decide +kernel⟩
theorem ok_l_moved {f : Addr} {fd : FuncData} (F : FnP K "_law_moved" "_law_moved" s_l_moved f fd) (T : Txt w K mg C_Groups C_Keeper C_Desk)
  {f_l_words_of : Addr} {fd_l_words_of : FuncData} (G_l_words_of : Dk P w K mg base "_law_words_of" 1 ["_law_text"] sp_l_words_of f_l_words_of fd_l_words_of) : FnOk P w K mg base CX0 2 f fd ["_law_tree", "_law_told_here"] sp_l_moved := by
  have sc := sc_l_moved

  refine F.ok sc (fun vs H Q E h => ?_) (fun cdv A outer s H vs Q E hr h => ?_)
  · obtain ⟨tr, A, g, c, rfl, _⟩ := h; rfl
  · have hu := hu_of hr
    obtain ⟨tr, B, g, c, rfl, htr, hB, hgc, hcome, hgB, hcB, l1, l2, hQ⟩ := h
    refine ⟨_, PSs.nox (pss_cons (ps_set (i := 2) sc.nd rfl (Or.inl rfl) (pe_call G_l_words_of.ok (hr.mono (by decide)) (by rfl) G_l_words_of.mgf G_l_words_of.kp G_l_words_of.b .nil pass0 (pa_cons (pv 1) pa_nil)))
    (pss_cons (ps_if (PW.pt (pw_or (pt_cmpR (op_neD hr.units) (pe_slice (sl_listK (K := K) rfl) (pv 2) po_none (po_some pe_int)) (pe_lst (pa_cons pe_str pa_nil)) (nomark _)) (pw_or1 (pt_cmpR (op_notIn_seqK (K := K) rfl) pe_str (pv 2) rfl)))) (pss_one (ps_ret pe_non)) pss_nil)
    (pss_cons (ps_set (i := 3) sc.nd rfl (Or.inl rfl) (pe_bm PySem.F.plainAttrs_list PySem.F.slot_list_index PySem.F.type_list_index mt_index (pv 2) (pa_cons pe_str pa_nil)))
    (pss_cons (ps_asg (pe_tup (pa_cons (pe_slice (sl_listK (K := K) rfl) (pv 2) (po_some pe_int) (po_some (pv 3))) (pa_cons (pe_slice (sl_listK (K := K) rfl) (pv 2) (po_some (pe_op op_add (pv 3) pe_int)) po_none) pa_nil))) (pg_tupK (K := K) (n := 2) rfl rfl (pgs_cons (pg_name (i := 4) sc.nd rfl (Or.inr rfl)) (pgs_cons (pg_name (i := 5) sc.nd rfl (Or.inl rfl)) pgs_nil))))
    (pss_cons (ps_if (pt_cmpR (op_neD hr.units) (pe_op op_cat (pe_lc (own := [("_law_name", 6)]) (by rfl) sc.nd (pi_listK (K := K) rfl (pv 4)) (blkOk_by (N := ["_law_tree", "_law_told_here", "_law_words_here", "_law_at_here", "_law_gone", "_law_come", "_law_name"]) (sc := defScope s_l_moved) (own := [("_law_name", 6)]) (by decide +kernel)) (fun _ _ _ _ _ => (pg_name (i := 6) sc.nd rfl (Or.inl rfl))) (fun _ _ _ _ _ => (pts_one (pt_cmpR (op_notIn_seqK (K := K) rfl) (pv 6) (pv 0) rfl))) (fun _ _ _ _ _ => (pv 6))) (pe_lc (own := [("_law_name", 6)]) (by rfl) sc.nd (pi_listK (K := K) rfl (pv 5)) (blkOk_by (N := ["_law_tree", "_law_told_here", "_law_words_here", "_law_at_here", "_law_gone", "_law_come", "_law_name"]) (sc := defScope s_l_moved) (own := [("_law_name", 6)]) (by decide +kernel)) (fun _ _ _ _ _ => (pg_name (i := 6) sc.nd rfl (Or.inl rfl))) (fun _ _ _ _ _ => (pts_one (pt_cmpR (op_in_seqK (K := K) rfl) (pv 6) (pv 0) rfl))) (fun _ _ _ _ _ => (pv 6)))) (pe_lst pa_nil) (nomark _)) (pss_one (ps_ret pe_non)) pss_nil)
    (pss_one (ps_ret (pe_callB (cr_sortedSK (K := K) rfl) (by rfl) T.b_sorted (by decide +kernel) (pa_cons (pe_op op_cat (pe_lc (own := [("_law_name", 6)]) (by rfl) sc.nd (pi_listK (K := K) rfl (pv 0)) (blkOk_by (N := ["_law_tree", "_law_told_here", "_law_words_here", "_law_at_here", "_law_gone", "_law_come", "_law_name"]) (sc := defScope s_l_moved) (own := [("_law_name", 6)]) (by decide +kernel)) (fun _ _ _ _ _ => (pg_name (i := 6) sc.nd rfl (Or.inl rfl))) (fun _ _ _ _ _ => (pts_one (pt_cmpR (op_notIn_seqK (K := K) rfl) (pv 6) (pv 4) rfl))) (fun _ _ _ _ _ => (pv 6))) (pv 5)) pa_nil))))))))), ?_⟩
    have wok := exWords_ok hgc
    have wl := exWords_len g c
    have jl : (Txt.join " " (exWords g c)).length ≤ 40000 := Nat.le_trans (join_le (m := 8) (n := 122) (fun z hz => (wok z hz).2.1) (by omega)) (by decide +kernel)
    refine q_asgL (xs := (exWords g c).map V.str) (el_call (ea_cons (ev_var rfl) ea_nil) (spl_words (fun z hz => word_fine (wok z hz)) jl)) fun pw H1 hpw e1 h1 => ?_
    refine q_when (b := false) (et_is (et_or (et_test (ev_neS (xs := ["gone"]) (ys := ["gone"]) (EvS.ofL ?_) (EvS.ofL (el_lst (ea_cons ev_c ea_nil) (by show 1 ≤ 100000; decide))) (fun z hz => SOk.word (by rw [List.mem_singleton.mp hz]; exact gone_ok)) (fun z hz => SOk.word (by rw [List.mem_singleton.mp hz]; exact gone_ok)))) (fun _ => et_test (ev_op ev_c (ev_var rfl) (rv_niL (SqL.of h1) rfl (flat_strs _))))) ?_) (fun hb => by cases hb) (fun _ H2 e2 => ?_)
    · have key := el_sl (K := K) (te := tVar 2) (σ := [some (.ref tr), some (.str (exText g c)), some (.ref pw), none, none, none, none]) (H := H1) (tl := tNoPart) (th := tPart (tC (.int 1))) (ev_var rfl) eo_none (eo_some ev_c) (SqL.of h1)
      have e0 : cutV ((exWords g c).map V.str) none (some (1 : Int)) = [("gone" : Str)].map V.str := take_nat (n := 1)
      rw [e0] at key
      exact key
    · rw [inV_str]
      have : ("come" : Str) ∈ exWords g c := List.mem_of_getElem? exWords_come
      rw [decide_eq_true this]; rfl
    have e12 := e1.trans e2
    have h2 := e2 _ _ h1
    refine q_asg (v := .int ((g.length + 1 : Nat) : Int)) (fun H3 e3 Q' q' => ?_) fun H3 e3 => ?_
    · refine ⟨_, rfl, .inl ⟨rfl, _, SqL.of (e3 _ _ h2)⟩, pw, (exWords g c).map V.str, .str "come", g.length + 1, .str "come", rfl, rfl, SqL.of (e3 _ _ h2), rfl, flat_strs _, by rw [List.getElem?_map, exWords_come]; rfl, by show ((_ : Str) == _) = true; exact beq_self_eq_true _, ?_, q' H3 (Ex.refl H3)⟩
      intro i z hi hz
      obtain ⟨w, hw1, hw2⟩ := exWords_at (c := c) hi hcome
      rw [List.getElem?_map, hw1] at hz
      have : z = .str w := (Option.some.inj hz).symm
      subst this
      show ((_ : Str) == _) = false
      exact beq_eq_false_iff_ne.mpr hw2
    have h3 := e3 _ _ h2
    have e13 := e12.trans e3
    have mlen : ((exWords g c).map V.str).length = g.length + c.length + 2 := by rw [List.length_map, wl]
    refine r_asg2R (R := fun x y H2 => ∃ pg pc, x = .ref pg ∧ y = .ref pc ∧ StrsL H2 pg g ∧ StrsL H2 pc c) (fun H4 e4 Q' q' => ?_) fun x y H4 e4 ⟨pg, pc, ex, ey, hg, hc⟩ => ?_
    · refine ur_tup (ar_cons (P := fun v H2 => ∃ r, v = .ref r ∧ StrsL H2 r g) (fun v H H' e ⟨r, h1, h2⟩ => ⟨r, h1, e _ _ h2⟩) (fun H5 e5 Q q => ?_) (ar_cons (P := fun v H2 => ∃ r, v = .ref r ∧ StrsL H2 r c) (fun v H H' e ⟨r, h1, h2⟩ => ⟨r, h1, e _ _ h2⟩) (fun H5 e5 Q q => ?_) ar_nil)) ?_ ?_ H4 e4 Q' fun p ys H5 _ e5 h5 hy => ?_
      · refine el_sl (K := K) (ev_var rfl) (eo_some ev_c) (eo_some (ev_var rfl)) (SqL.of h3) H5 e5 Q fun p H6 _ e6 h6 => q _ H6 e6 ⟨p, rfl, ?_⟩
        have e0 : cutV ((exWords g c).map V.str) (some (1 : Int)) (some ((g.length + 1 : Nat) : Int)) = g.map V.str := by
          rw [show ((1 : Int)) = ((1 : Nat) : Int) from rfl, cut_mid (by omega) (by omega), ← List.map_drop, ← List.map_take]
          show List.map V.str (((exWords g c).drop 1).take g.length) = _
          rw [exWords_gone]
        rw [e0] at h6
        exact h6
      · refine el_sl (K := K) (ev_var rfl) (eo_some (i := ((g.length + 2 : Nat) : Int)) (ev_is (ev_op (ev_var rfl) ev_c rv_I0) rfl)) eo_none (SqL.of h3) H5 e5 Q fun p H6 _ e6 h6 => q _ H6 e6 ⟨p, rfl, ?_⟩
        rw [cut_end (by omega), ← List.map_drop, exWords_rest] at h6
        exact h6
      · rintro vs H H' e ⟨v, r, rfl, ⟨r1, rfl, g1⟩, v2, r2, rfl, ⟨r3, rfl, g2⟩, rfl⟩
        exact ⟨_, _, rfl, ⟨r1, rfl, e _ _ g1⟩, _, _, rfl, ⟨r3, rfl, e _ _ g2⟩, rfl⟩
      · rintro vs H ⟨v, r, rfl, ⟨r1, rfl, g1⟩, v2, r2, rfl, ⟨r3, rfl, g2⟩, rfl⟩
        show 2 ≤ 100000; decide
      · obtain ⟨v, r, rfl, ⟨r1, rfl, g1⟩, v2, r2, rfl, ⟨r3, rfl, g2⟩, rfl⟩ := hy
        exact q' _ H5 e5 ⟨p, _, _, rfl, h5, r1, r3, rfl, rfl, g1, g2⟩
    · subst ex ey
      have e14 := e13.trans e4
      have htr4 := e14 _ _ htr
      have turnT : ∀ {σ : L2.St} {H' : Hp} {neg : Bool} {a : Addr} {L : List Str} {j : Nat} {z : Str}, σ[6]? = some (some (.str z)) → σ[j]? = some (some (.ref a)) → StrsL H' a L → EvT (tTest (tOp (rIn K neg) (tVar 6) (tVar j))) σ H' (if neg then !decide (z ∈ L) else decide (z ∈ L)) := fun {σ} {H'} {neg} {a} {L} {j} {z} g1 g2 g3 => by
        have key := rv_inL (K := K) (neg := neg) (x := .str z) (H := H') (SqL.of g3) rfl (flat_strs L)
        rw [inV_str] at key
        exact et_test (ev_op (ev_var g1) (ev_var g2) key)
      refine q_when (b := false) (et_is (et_test (ev_neS (xs := (g.filter fun z => !decide (z ∈ B)) ++ (c.filter fun z => decide (z ∈ B))) (ys := []) (EvS.ofL ?_) (EvS.ofL (el_lst ea_nil (by decide))) ?_ (fun z hz => absurd hz List.not_mem_nil))) ?_) (fun hb => by cases hb) (fun _ H5 e5 => ?_)
      · rw [List.map_append]
        refine el_cat (el_filter (K := K) (ev_var rfl) hg (by omega) (fun z => !decide (z ∈ B)) (fun z hz => turnT (neg := true) rfl rfl htr4)) (el_filter (K := K) (ev_var rfl) hc (by omega) (fun z => decide (z ∈ B)) (fun z hz => turnT (neg := false) rfl rfl htr4)) ?_
        have f1 := List.length_filter_le (fun z => !decide (z ∈ B)) g
        have f2 := List.length_filter_le (fun z => decide (z ∈ B)) c
        rw [List.length_map, List.length_map]
        omega
      · intro z hz
        refine SOk.word (hgc z ?_)
        rcases List.mem_append.mp hz with hz | hz
        · exact List.mem_append_left _ (List.mem_filter.mp hz).1
        · exact List.mem_append_right _ (List.mem_filter.mp hz).1
      · have f1 : g.filter (fun z => !decide (z ∈ B)) = [] := filter_none fun z hz => by rw [decide_eq_true (hgB z hz)]; rfl
        have f2 : c.filter (fun z => decide (z ∈ B)) = [] := filter_none fun z hz => decide_eq_false (hcB z hz)
        rw [f1, f2]; rfl
      · have e15 := e14.trans e5
        have f1 := List.length_filter_le (fun z => decide (z ∉ g)) B
        refine s_retL (xs := (exch B g c).map V.str) (el_sortedS (ws := (B.filter fun z => decide (z ∉ g)) ++ c) ?_ ?_) fun p H6 hp e6 h6 => hQ p H6 (fresh_back e15 hp) (e15.trans e6) h6
        · rw [List.map_append]
          refine el_catR (el_filter (K := K) (ev_var rfl) (e15 _ _ htr) (by omega) (fun z => decide (z ∉ g)) (fun z hz => et_is (turnT (neg := true) rfl rfl (e5 _ _ hg)) ?_)) (ev_var rfl) (e5 _ _ hc) ?_
          · by_cases h : z ∈ g <;> simp [h]
          · rw [List.length_map, List.length_map]; omega
        · rw [List.length_append]; omega
end
end Ct
end

section
set_option Elab.async false
set_option linter.all false
set_option maxRecDepth 100000
set_option maxHeartbeats 4000000
namespace Ct
open PySem PySem.Spec PyProof.Rows L2 Evl
section
variable {P : Program} {w : World} {K : PySem.W.Frag} {mg : Str → Option Value} {base : Heap} {C_Groups C_Keeper C_Desk : Addr}
def Deed.line (d : Deed) : Str := d.order.line
def deedsOf (N : Net) : List Deed := N.ps.map Deed.place ++ N.ts.map fun t => .tie t.n t.b t.a t.c
theorem join_two (x y : Str) : (Txt.join " " [x, y]).cps.toList = x.cps.toList ++ 32 :: y.cps.toList := by
  have e : Txt.join " " [x, y] = Str.join " " [x, y] := StrLaws.glued_eq_join _ _
  have e2 : Str.join " " [x, y] = x ++ Str.ofString " " ++ y := rfl
  have e3 : (Str.ofString " ").cps.toList = [32] := by decide +kernel
  rw [e, e2, cps_app, cps_app, e3, List.append_assoc]; rfl
theorem line_place (z : Str) : rowP z = (Deed.place z).line := by
  refine str_ext ?_
  show _ = (Txt.join " " [Str.ofString "place", z]).cps.toList
  rw [join_two]
  unfold rowP
  rw [cps_app]
  have e1 : (Str.ofString "place ").cps.toList = (Str.ofString "place").cps.toList ++ [32] := by decide +kernel
  rw [e1, List.append_assoc]; rfl
theorem lines_map (N : Net) : (deedsOf N).map Deed.line = N.ps.map rowP ++ N.ts.map fun t => Txt.join " " ["tie", t.n, t.b, t.a, intS t.c] := by
  unfold deedsOf
  rw [List.map_append, List.map_map, List.map_map]
  have e1 : N.ps.map (Deed.line ∘ Deed.place) = N.ps.map rowP := List.map_congr_left fun z _ => (line_place z).symm
  rw [e1]
  rfl
theorem el_is {σ : L2.St} {H : Hp} {te : TE} {xs ys : List V} (h : EvL te σ H xs) (e : xs = ys) : EvL te σ H ys := e ▸ h
theorem erase_perm {α : Type} : ∀ {l : List α} {n : Nat} (h : n < l.length), (l[n] :: l.eraseIdx n).Perm l
  | x :: r, 0, _ => List.Perm.refl _
  | x :: r, n + 1, h => by
    have := erase_perm (l := r) (n := n) (by simpa using h)
    show (r[n]'(by simpa using h) :: x :: r.eraseIdx n).Perm (x :: r)
    exact (List.Perm.swap _ _ _).trans (this.cons x)
theorem run_lcR {σ : L2.St} {H : Hp} {ta : TA} {g : TG} {tt : TT} {te : TE} {vs : List Nat} {Q : VK} {n : Nat} (ha : EvA ta σ H [.int (n : Int)]) (hn : n ≤ 1000)
    (k : ∀ H1, Ex H H1 → ∀ D, H1 D = none → ∃ Pv : Nat → Hp → Prop, Pv 0 (upd H1 D (.lst [])) ∧ (∀ i H', i < n → Pv i H' → g (.int (i : Int)) (wipe σ vs) H' fun σ2 H2 => wipe σ2 vs = wipe σ vs ∧ tt σ2 H2 fun b H3 =>
      if b = true then te σ2 H3 fun y H4 => ∃ acc, H4 D = some (.lst acc) ∧ acc.length < sizeLine ∧ Pv (i + 1) (upd H4 D (.lst (acc ++ [y]))) else Pv (i + 1) H3) ∧ ∀ H', Pv n H' → Q (.ref D) H') :
    tLc (iRng1 ta) g tt te vs σ H Q := ha H (Ex.refl H) _ fun H1 e => ⟨(n : Int), rfl, by omega, by omega, fun D hD => by
  obtain ⟨Pv, h0, hs, hd⟩ := k H1 e D hD
  have e0 : ((n : Int)).toNat = n := by omega
  rw [e0]
  exact lc_it walk_range Pv h0 (fun _ _ _ _ => trivial) (fun i x H' H2 hi p ⟨e1, e2⟩ => by
    subst e1 e2
    have := hs i _ hi p
    have e3 : (fun i : Nat => V.int (0 + (i : Int))) i = V.int (i : Int) := congrArg V.int (Int.zero_add _)
    rw [e3]
    exact this) hd⟩
theorem map_erase {α β : Type} (f : α → β) : ∀ (l : List α) (n : Nat), (l.map f).eraseIdx n = (l.eraseIdx n).map f
  | [], _ => rfl
  | _ :: _, 0 => rfl
  | x :: r, n + 1 => by
    show f x :: (r.map f).eraseIdx n = f x :: (r.eraseIdx n).map f
    rw [map_erase f r n]
def LinesAt (H : Hp) (a : Addr) (ds : List Deed) : Prop := H a = some (.lst (ds.map fun d => V.str d.line))
def sp_l_lines : Sp := fun vs H Q _ => ∃ s l a N, vs = [.ref s, .ref a] ∧ StAt H s l ∧ NetAt H a N ∧ NetG N ∧ ∀ p ds H2, H p = none → List.Perm ds (deedsOf N) → Fr s l H H2 → StAt H2 s l → LinesAt H2 p ds → Q (.ref p) H2
theorem sc_l_lines : FnScope ["_law_state", "_law_net_here", "_law_left", "_law_place", "_law_tie", "_law_k"] ["_law_state", "_law_net_here"] (defScope s_l_lines) := ⟨rfl, rfl, rfl, by decide +kernel, rfl, by decide +kernel, by decide +kernel⟩
theorem ok_l_lines {f : Addr} {fd : FuncData} (F : FnP K "_law_lines" "_law_lines" s_l_lines f fd) (T : Txt w K mg C_Groups C_Keeper C_Desk)
  {f_l_next : Addr} {fd_l_next : FuncData} (G_l_next : Dk P w K mg base "_law_next" 1 ["_law_state", "_law_many"] sp_l_next f_l_next fd_l_next) : FnOk P w K mg base CX0 2 f fd ["_law_state", "_law_net_here"] sp_l_lines := by
  have sc := sc_l_lines

  refine F.ok sc (fun vs H Q E h => ?_) (fun cdv A outer s H vs Q E hr h => ?_)
  · obtain ⟨s, l, a, N, rfl, _⟩ := h; rfl
  · have hu := hu_of hr
    obtain ⟨s, l, a, N, rfl, st, hN, G, hQ⟩ := h
    obtain ⟨pp, pt, h1, hp, ps, hq, hts⟩ := id hN
    refine ⟨_, PSs.nox (pss_cons (ps_set (i := 2) sc.nd rfl (Or.inr rfl) (pe_lc (own := [("_law_place", 3)]) (by rfl) sc.nd (pi_tupK (K := K) rfl (pe_ix (ix_tupK (K := K) rfl) (pv 1) pe_int (fun _ _ => rfl))) (blkOk_by (N := ["_law_state", "_law_net_here", "_law_left", "_law_place", "_law_tie", "_law_k"]) (sc := defScope s_l_lines) (own := [("_law_place", 3)]) (by decide +kernel)) (fun _ _ _ _ _ => (pg_name (i := 3) sc.nd rfl (Or.inl rfl))) (fun _ _ _ _ _ => pts_nil) (fun _ _ _ _ _ => (pe_op op_add_str pe_str (pv 3)))))
    (pss_cons (ps_set (i := 2) sc.nd rfl (Or.inr rfl) (pe_op op_cat (pv 2) (pe_lc (own := [("_law_tie", 4)]) (by rfl) sc.nd (pi_tupK (K := K) rfl (pe_ix (ix_tupK (K := K) rfl) (pv 1) pe_int (fun _ _ => rfl))) (blkOk_by (N := ["_law_state", "_law_net_here", "_law_left", "_law_place", "_law_tie", "_law_k"]) (sc := defScope s_l_lines) (own := [("_law_tie", 4)]) (by decide +kernel)) (fun _ _ _ _ _ => (pg_name (i := 4) sc.nd rfl (Or.inl rfl))) (fun _ _ _ _ _ => pts_nil) (fun _ _ _ _ _ => (pe_joinK (K := K) rfl pe_str (pe_lst (pa_cons pe_str (pa_cons (pe_ix (ix_tupK (K := K) rfl) (pv 4) pe_int (fun _ _ => rfl)) (pa_cons (pe_ix (ix_tupK (K := K) rfl) (pv 4) pe_int (fun _ _ => rfl)) (pa_cons (pe_ix (ix_tupK (K := K) rfl) (pv 4) pe_int (fun _ _ => rfl)) (pa_cons (pe_callTy call_str_int (by rfl) T.b_str (by decide +kernel) (pa_cons (pe_ix (ix_tupK (K := K) rfl) (pv 4) pe_int (fun _ _ => rfl)) pa_nil)) pa_nil)))))))))))
    (pss_one (ps_ret (pe_lc (own := [("_law_k", 5)]) (by rfl) sc.nd (pi_range1 (by rfl) T.b_range (pa_cons (pe_callB (call_len_seqK (K := K) rfl) (by rfl) T.b_len (by decide +kernel) (pa_cons (pv 2) pa_nil)) pa_nil)) (blkOk_by (N := ["_law_state", "_law_net_here", "_law_left", "_law_place", "_law_tie", "_law_k"]) (sc := defScope s_l_lines) (own := [("_law_k", 5)]) (by decide +kernel)) (fun _ _ _ _ _ => (pg_name (i := 5) sc.nd rfl (Or.inl rfl))) (fun _ _ _ _ _ => pts_nil) (fun _ _ _ _ _ => (pe_K (K := K) (fun k => tBM k "list" rPopAt _ _) rfl (pe_bm PySem.F.plainAttrs_list PySem.F.slot_list_pop PySem.F.type_list_pop mt_popAt (pv 2) (pa_cons (pe_call G_l_next.ok (hr.mono (by decide)) (by rfl) G_l_next.mgf G_l_next.kp G_l_next.b .nil pass0 (pa_cons (pv 0) (pa_cons (pe_callB (call_len_seqK (K := K) rfl) (by rfl) T.b_len (by decide +kernel) (pa_cons (pv 2) pa_nil)) pa_nil))) pa_nil))))))))), ?_⟩
    have gp := G.pl
    have gt := G.tl
    refine q_asgL (xs := (N.ps.map rowP).map V.str) (EvLR.el ((lr_tup (K := K) (RB := fun _ v (z : Str) => v = .str z) (ds := N.ps) (ev_op (ev_var rfl) ev_c (rv_ixT (SqT.of h1) rfl)) (SqT.of hp) (by rw [List.length_map]) (by omega) Stay.val (fun _ => true) rowP (fun i x d hx hd => ?_)).imp fun ys H2 _ hy => ?_)) fun pl H1 hpl e1 hl1 => ?_
    · have ex : x = .str d := by
        rw [List.getElem?_map, hd] at hx
        exact (Option.some.inj hx).symm
      subst ex
      refine ⟨et_yes, fun _ => EvR.of (ev_op ev_c (ev_var rfl) (rv_addS ?_))⟩
      have h1 := (G.w.ps d (List.mem_of_getElem? hd)).2.1
      have h2 : (Str.ofString "place ").length = 6 := by decide +kernel
      omega
    · rw [List.filter_eq_self.mpr fun _ _ => rfl] at hy; exact Paired.vals hy
    refine q_asgL (xs := ((deedsOf N).map fun d => V.str d.line)) (el_is (el_catE (xs := (N.ps.map rowP).map V.str) (ys := (N.ts.map fun t => Txt.join " " ["tie", t.n, t.b, t.a, intS t.c]).map V.str) (ev_var rfl) hl1 (EvLR.el ((lr_tup (K := K) (RB := fun _ v (z : Str) => v = .str z) (ds := N.ts) (ev_op (ev_var rfl) ev_c (rv_ixT (SqT.of (e1 _ _ h1)) rfl)) (SqT.of (e1 _ _ hq)) (ties_len hts) (by omega) Stay.val (fun _ => true) (fun t => Txt.join " " ["tie", t.n, t.b, t.a, intS t.c]) (fun i x d hx hd => ?_)).imp fun ys H2 _ hy => ?_)) ?_) ?_) fun pa H2 hpa e2 hl2 => ?_
    · obtain ⟨q, rfl, ht0⟩ := ties_get hts hx hd
      have ht : TieAt H1 q d := e1 _ _ ht0
      have hm := List.mem_of_getElem? hd
      refine ⟨et_yes, fun _ => EvR.of (ev_join (ys := [("tie" : Str), d.n, d.b, d.a, intS d.c]) (el_lst (ea_cons ev_c (ea_cons (ev_tie rfl ht rfl) (ea_cons (ev_tie rfl ht rfl) (ea_cons (ev_tie rfl ht rfl) (ea_cons (ev_cb (ea_cons (ev_tie (v := .int d.c) rfl ht rfl) ea_nil) fun H5 e5 Q q => ⟨_, rfl, log2_lt (Nat.lt_of_lt_of_le (G.w.c _ hm) p30), q H5 (Ex.refl H5)⟩) ea_nil))))) (by show 5 ≤ 100000; decide)) (join_ok (m := 31) (n := 5) ?_ (Nat.le_refl _) (by decide +kernel)))⟩
      intro z hz
      have := rowW_len G.w hm
      refine this z ?_
      simp only [rowW, List.mem_cons, List.not_mem_nil, or_false] at hz ⊢
      rcases hz with h | h | h | h | h <;> simp [h]
    · rw [List.filter_eq_self.mpr fun _ _ => rfl] at hy; exact Paired.vals hy
    · simp only [List.length_map]; omega
    · have e0 : ((deedsOf N).map fun d => V.str d.line) = ((deedsOf N).map Deed.line).map V.str := by rw [List.map_map]; rfl
      rw [e0, lines_map, List.map_append]
    have e12 := e1.trans e2
    have st2 := st.up e12
    have dl : (deedsOf N).length ≤ 22 := by
      unfold deedsOf
      rw [List.length_append, List.length_map, List.length_map]; omega
    have hpa0 : H pa = none := fresh_back e1 hpa
    refine ret_run (run_lcR (n := (deedsOf N).length) (ea_cons (ev_is (ev_lenL (ev_var rfl) (SqL.of hl2)) (by rw [List.length_map])) ea_nil) (by omega) fun H3 e3 Dl hD => ?_)
    have nDs : Dl ≠ s := fun z => by
      obtain ⟨_, _, g, _⟩ := st2
      rw [z, e3 _ _ g] at hD; cases hD
    have nDl : Dl ≠ l := fun z => by
      obtain ⟨_, _, _, g, _⟩ := st2
      rw [z, e3 _ _ g] at hD; cases hD
    have nDp : Dl ≠ pa := fun z => by rw [z, e3 _ _ hl2] at hD; cases hD
    have nps : pa ≠ s := fun z => by
      obtain ⟨_, _, g, _⟩ := st.up e1
      rw [z, g] at hpa; cases hpa
    have npl : pa ≠ l := fun z => by
      obtain ⟨_, _, _, g, _⟩ := st.up e1
      rw [z, g] at hpa; cases hpa
    have hD0 : H Dl = none := fresh_back (e12.trans e3) hD
    refine ⟨fun i H' => ∃ done rest : List Deed, (done ++ rest).Perm (deedsOf N) ∧ done.length = i ∧ LinesAt H' pa rest ∧ LinesAt H' Dl done ∧ Fr s l H H' ∧ StAt H' s l, ⟨[], deedsOf N, List.Perm.refl _, rfl, ?_, ?_, ?_, ?_⟩, ?_, ?_⟩
    · unfold LinesAt; rw [upd_ne (Ne.symm nDp)]; exact e3 _ _ hl2
    · exact upd_same
    · exact Fr.of (Ex.mut (e12.trans e3) hD0)
    · exact (st2.up e3).up (Ex.new hD)
    · rintro i H' hi ⟨done, rest, pm, rfl, hr, hd, fr, st'⟩
      have plen := pm.length_eq
      rw [List.length_append] at plen
      have rl : 1 ≤ rest.length := by omega
      refine ⟨rfl, et_yes H' (Ex.refl H') _ fun H4 e4 => iteT ?_⟩
      refine ev_var (v := .ref pa) rfl H4 (Ex.refl H4) _ fun H5 e5 => ⟨.inl ⟨rfl, _, SqL.of (e5 _ _ (e4 _ _ hr))⟩, run_cons (run_call (ea_cons (ev_var rfl) (ea_cons (ev_is (ev_lenL (ev_var rfl) (SqL.of (e5 _ _ (e4 _ _ hr)))) (by rw [List.length_map])) ea_nil)) fun H6 e6 => ?_)⟩
      have e46 := e4.trans (e5.trans e6)
      refine next_run (m := rest.length) (st'.up e46) (by omega) (by omega) fun j H7 hj fr7 st7 => run_nil ?_
      have hr7 : LinesAt H7 pa rest := fr7 _ _ (e46 _ _ hr) nps npl
      have hd7 : LinesAt H7 Dl done := fr7 _ _ (e46 _ _ hd) nDs nDl
      refine ⟨pa, _, (j : Int), j, .str rest[j].line, rfl, rfl, hr7, by omega, by omega, ?_, ?_, done.map fun d => V.str d.line, ?_, sz_lt ?_, done ++ [rest[j]], rest.eraseIdx j, ?_, ?_, ?_, ?_, ?_, ?_⟩
      · rw [List.length_map]; exact seqIndex_of (by omega) (by omega)
      · rw [List.getElem?_map, List.getElem?_eq_getElem hj]; rfl
      · rw [upd_ne nDp]; exact hd7
      · rw [List.length_map]; omega
      · refine List.Perm.trans ?_ pm
        rw [List.append_assoc]
        exact (erase_perm hj).append_left done
      · rw [List.length_append]; rfl
      · unfold LinesAt
        rw [upd_ne (Ne.symm nDp), upd_same, map_erase]
      · unfold LinesAt
        rw [upd_same, List.map_append]; rfl
      · intro b o hb n1 n2
        have n3 : b ≠ pa := fun z => by rw [z, hpa0] at hb; cases hb
        have n4 : b ≠ Dl := fun z => by rw [z, hD0] at hb; cases hb
        rw [upd_ne n4, upd_ne n3]
        exact fr7 _ _ (e46 _ _ (fr b o hb n1 n2)) n1 n2
      · obtain ⟨xs, seed, g1, g2, g3⟩ := st7
        exact ⟨xs, seed, by rw [upd_ne (Ne.symm nDs), upd_ne (Ne.symm nps)]; exact g1, by rw [upd_ne (Ne.symm nDl), upd_ne (Ne.symm npl)]; exact g2, g3⟩
    · rintro H' ⟨done, rest, pm, hl, hr, hd, fr, st'⟩
      have plen := pm.length_eq
      rw [List.length_append] at plen
      have : rest = [] := List.length_eq_zero_iff.mp (by omega)
      subst this
      rw [List.append_nil] at pm
      exact hQ Dl done H' hD0 pm fr st' hd
end
end Ct
end

section
set_option Elab.async false
set_option linter.all false
set_option maxRecDepth 100000
set_option maxHeartbeats 4000000
namespace Ct
open PySem PySem.Spec PyProof.Rows L2 Evl
section
variable {P : Program} {w : World} {K : PySem.W.Frag} {mg : Str → Option Value} {base : Heap} {C_Groups C_Keeper C_Desk : Addr}
theorem run_meth {σ : L2.St} {H : Hp} {C a dx : Addr} {m : Str} {sp : Sp} {dvs vs : List V} {E : XK} {ta : TE} {t : TA} {fs : List (Str × V)} {Q : VK} (ha : Ev ta σ H (.ref a)) (ho : H a = some (.ins C dx fs)) (hl : fs.lookup m = none) (ht : EvA t σ H vs)
    (k : ∀ H1, Ex H H1 → sp (.ref a :: (vs ++ dvs)) H1 Q E) : tMeth C m sp dvs E ta t σ H Q :=
  ha H (Ex.refl H) _ fun H1 e1 => ⟨a, dx, fs, rfl, e1 _ _ ho, hl, ht H1 e1 _ fun H2 e2 => k H2 (e1.trans e2)⟩
theorem run_andV {σ : L2.St} {H : Hp} {ta tb : TE} {Q : VK} (h : ta σ H fun x H1 => ∃ c, x = .bl c ∧ if c = true then tb σ H1 Q else Q (.bl false) H1) : tAndV ta tb σ H Q := h
theorem join_three (x y z : Str) : (Txt.join " " [x, y, z]).cps.toList = x.cps.toList ++ 32 :: (y.cps.toList ++ 32 :: z.cps.toList) := by
  have e : Txt.join " " [x, y, z] = Str.join " " [x, y, z] := StrLaws.glued_eq_join _ _
  have e2 : Str.join " " [x, y, z] = x ++ Str.ofString " " ++ Str.join " " [y, z] := rfl
  have e4 : Str.join " " [y, z] = y ++ Str.ofString " " ++ z := rfl
  have e3 : (Str.ofString " ").cps.toList = [32] := by decide +kernel
  rw [e, e2, e4, cps_app, cps_app, cps_app, cps_app, e3, List.append_assoc, List.append_assoc]; rfl
theorem line_cost (n : Str) (c : Int) : ((Str.ofString "cost " ++ n) ++ Str.ofString " ") ++ intS c = (Deed.cost n c).line := by
  refine str_ext ?_
  show _ = (Txt.join " " [Str.ofString "cost", n, intS c]).cps.toList
  rw [join_three, cps_app, cps_app, cps_app]
  have e1 : (Str.ofString "cost ").cps.toList = (Str.ofString "cost").cps.toList ++ [32] := by decide +kernel
  have e3 : (Str.ofString " ").cps.toList = [32] := by decide +kernel
  rw [e1, e3, List.append_assoc, List.append_assoc, List.append_assoc]; rfl
theorem line_back : (Str.ofString "back") = backO.line := by decide +kernel
theorem can_cost {N : Net} (ok : NetOk N) (w : NetW N) (hl : N.ts.length ≤ 30) {e : Tie} (he : e ∈ N.ts) {c : Int} (hc : c.natAbs < 10 ^ 30) : Can N (.cost e.n c) := by
  obtain ⟨h1, h2⟩ := put_ok ok he c
  refine ⟨w.n e he, ⟨e, getT_of ok he⟩, ok, h1, ?_, w, ?_⟩
  · show N.ts.length + _ ≤ 60
    rw [h2]; omega
  · have back : ∀ s ∈ (N.put (.cost e.n c)).ts, ∃ t ∈ N.ts, recost e c t = s := fun s hs => (put_mem ok he c s).mp hs
    refine ⟨by rw [put_ps ok he c]; exact w.ps, ?_, ?_, ?_, ?_⟩
    · intro s hs
      obtain ⟨t, ht, rfl⟩ := back s hs
      rw [recost_n]; exact w.n t ht
    · intro s hs
      obtain ⟨t, ht, rfl⟩ := back s hs
      rw [recost_a]; exact w.a t ht
    · intro s hs
      obtain ⟨t, ht, rfl⟩ := back s hs
      rw [recost_b]; exact w.b t ht
    · intro s hs
      obtain ⟨t, ht, rfl⟩ := back s hs
      unfold recost
      split
      · exact hc
      · exact w.c t ht
def sp_l_at (CK CD : Addr) : Sp := fun vs H Q _ => ∃ d k l N hist e c gl cl g cm, vs = [.ref d, .str (Tie.n e), .int c, .ref gl, .ref cl] ∧ DeskAt CK CD H d k l N hist ∧ StrsL H gl g ∧ StrsL H cl cm ∧ e ∈ N.ts ∧ NetOk N ∧ NetW N ∧ N.ts.length ≤ 30 ∧ c.natAbs < 10 ^ 30 ∧ Exch N (.cost e.n c) g cm ∧ hist.length ≤ 900 ∧
  ∀ H2, Fr k l H H2 → DeskAt CK CD H2 d k l N hist → Q (.bl true) H2
theorem sc_l_at : FnScope ["_law_desk", "_law_name", "_law_cost_here", "_law_gone", "_law_come", "_law_there", "_law_back"] ["_law_desk", "_law_name", "_law_cost_here", "_law_gone", "_law_come"] (defScope s_l_at) := ⟨rfl, rfl, rfl, by decide +kernel, rfl, by decide +kernel, by decide +kernel⟩
theorem ok_l_at {f : Addr} {fd : FuncData} (F : FnP K "_law_at" "_law_at" s_l_at f fd) (T : Txt w K mg C_Groups C_Keeper C_Desk)
  {f_Desk_say : Addr} {fd_Desk_say : FuncData} (G_Desk_say : Dm P w K mg base C_Desk "say" 9 ["self", "line"] (sp_Desk_say C_Keeper C_Desk) f_Desk_say fd_Desk_say) : FnOk P w K mg base CX0 10 f fd ["_law_desk", "_law_name", "_law_cost_here", "_law_gone", "_law_come"] (sp_l_at C_Keeper C_Desk) := by
  have sc := sc_l_at

  refine F.ok sc (fun vs H Q E h => ?_) (fun cdv A outer s H vs Q E hr h => ?_)
  · obtain ⟨d, k, l, N, hist, e, c, gl, cl, g, cm, rfl, _⟩ := h; rfl
  · have hu := hu_of hr
    obtain ⟨d, k, l, N, hist, e, c, gl, cl, g, cm, rfl, hD, hg, hc, he, ok, nw, hl, hcb, X, hh, hQ⟩ := h
    refine ⟨_, PSs.nox (pss_cons (ps_set (i := 5) sc.nd rfl (Or.inl rfl) (pe_joinK (K := K) rfl pe_str (pe_op op_cat (pe_op op_cat (pe_op op_cat (pe_lst (pa_cons pe_str pa_nil)) (pv 3)) (pe_lst (pa_cons pe_str pa_nil))) (pv 4))))
    (pss_cons (ps_set (i := 6) sc.nd rfl (Or.inl rfl) (pe_joinK (K := K) rfl pe_str (pe_op op_cat (pe_op op_cat (pe_op op_cat (pe_lst (pa_cons pe_str pa_nil)) (pv 4)) (pe_lst (pa_cons pe_str pa_nil))) (pv 3))))
    (pss_one (ps_ret (pe_and (pe_cmpR op_eq (pe_meth (pv 0) T.c_Desk G_Desk_say.m G_Desk_say.ok (hr.mono (by decide)) G_Desk_say.b .nil pass0 (pa_cons (pe_op op_add_str (pe_op op_add_str (pe_op op_add_str pe_str (pv 1)) pe_str) (pe_callTy call_str_int (by rfl) T.b_str (by decide +kernel) (pa_cons (pv 2) pa_nil))) pa_nil)) (pv 5) (nomark _)) (pe_one (pe_cmpR op_eq (pe_meth (pv 0) T.c_Desk G_Desk_say.m G_Desk_say.ok (hr.mono (by decide)) G_Desk_say.b .nil pass0 (pa_cons pe_str pa_nil)) (pv 6) (nomark _)))))))), ?_⟩
    have can := can_cost ok nw hl he hcb
    obtain ⟨b1, b2, b3, b4⟩ := ex_bound can
    obtain ⟨X1, X2⟩ := X
    rw [X1] at b1 b3
    rw [X2] at b2 b4
    have bnd : ∀ (u w : List Str), (∀ z ∈ u, z.length ≤ 8) → (∀ z ∈ w, z.length ≤ 8) → u.length ≤ 60 → w.length ≤ 60 → (((([("gone" : Str)] ++ u ++ [("come" : Str)]) ++ w).map (·.length)).sum + (([("gone" : Str)] ++ u ++ [("come" : Str)]) ++ w).length * (Str.ofString " ").length ≤ 16777216) := by
      intro u w h1 h2 h3 h4
      refine join_ok (m := 8) (n := 122) (fun z hz => ?_) (by simp only [List.length_append, List.length_singleton]; omega) (by decide +kernel)
      simp only [List.mem_append, List.mem_singleton] at hz
      rcases hz with ((rfl | hz) | rfl) | hz
      · decide +kernel
      · exact h1 z hz
      · decide +kernel
      · exact h2 z hz
    have lists : ∀ {σ : L2.St} {H' : Hp} {i j : Nat} {a b : Addr} {u w : List Str}, σ[i]? = some (some (.ref a)) → σ[j]? = some (some (.ref b)) → StrsL H' a u → StrsL H' b w → u.length ≤ 60 → w.length ≤ 60 →
        EvL (tOp rCat (tOp rCat (tOp rCat (tLst (tCons (tC (.str "gone")) tNil)) (tVar i)) (tLst (tCons (tC (.str "come")) tNil))) (tVar j)) σ H' ((([("gone" : Str)] ++ u ++ [("come" : Str)]) ++ w).map V.str) := fun {σ} {H'} {i} {j} {a} {b} {u} {w} g1 g2 g3 g4 l1 l2 => by
      rw [List.map_append, List.map_append, List.map_append]
      refine el_catR (el_cat (el_catR (el_lst (ea_cons ev_c ea_nil) (by show 1 ≤ 100000; decide)) (ev_var g1) g3 ?_) (el_lst (ea_cons ev_c ea_nil) (by show 1 ≤ 100000; decide)) ?_) (ev_var g2) g4 ?_
      · simp only [List.length_append, List.length_map, List.length_singleton]; omega
      · simp only [List.length_append, List.length_map, List.length_singleton]; omega
      · simp only [List.length_append, List.length_map, List.length_singleton]; omega
    refine q_asg (v := .str (exText g cm)) (ev_join (lists rfl rfl hg hc b3 b4) (bnd g cm b1 b2 b3 b4)) fun H1 e1 => ?_
    refine q_asg (v := .str (exText cm g)) (ev_join (lists rfl rfl (e1 _ _ hc) (e1 _ _ hg) b4 b3) (bnd cm g b2 b1 b4 b3)) fun H2 e2 => ?_
    have e12 := e1.trans e2
    obtain ⟨n1, n2⟩ := hD.ne
    obtain ⟨dx, hd, hK⟩ := id hD
    have hil := intS_len (k := 30) (by decide) hcb
    have hnl := (nw.n e he).2.1
    have l5 : (Str.ofString "cost ").length = 5 := by decide +kernel
    have l1 : (Str.ofString " ").length = 1 := by decide +kernel
    refine ret_run (run_andV (run_op (run_meth (ev_var rfl) (e12 _ _ hd) (d_none (by decide +kernel)) (ea_cons (x := .str (Deed.cost e.n c).line) (ev_is (ev_op (ev_op (ev_op ev_c (ev_var rfl) (rv_addS (by omega))) ev_c (rv_addS (by rw [app_len]; omega))) (ev_cb (z := .str (intS c)) (ea_cons (ev_var rfl) ea_nil) fun H5 e5 Q q => ⟨_, rfl, log2_lt (Nat.lt_of_lt_of_le hcb p30), q H5 (Ex.refl H5)⟩) (rv_addS (by rw [app_len, app_len]; omega))) (congrArg V.str (line_cost e.n c))) ea_nil) fun H3 e3 => ?_)))
    have e13 := e12.trans e3
    refine .inl ⟨d, k, l, N, hist, .cost e.n c, rfl, hD.up e13, can, hcb, by omega, fun H4 fr4 hD4 => ?_⟩
    have fr04 : Fr k l H H4 := (Fr.of e13).trans fr4
    obtain ⟨dx4, hd4, hK4⟩ := id hD4
    refine run_ev (ev_var rfl) fun H5 e5 => ⟨rfl, _, rfl, ?_⟩
    rw [X1, X2, decide_eq_true rfl]
    refine iteT ?_
    refine run_op (run_meth (ev_var rfl) (e5 _ _ hd4) (d_none (by decide +kernel)) (ea_cons (x := .str backO.line) (ev_is ev_c (congrArg V.str line_back)) ea_nil) fun H6 e6 => ?_)
    refine .inr (.inl ⟨d, k, l, N, hist, .cost e.n c, rfl, hD4.up (e5.trans e6), can, by omega, fun H7 fr7 hD7 => ?_⟩)
    refine run_ev (ev_var rfl) fun H8 e8 => ⟨rfl, ?_⟩
    rw [X1, X2, decide_eq_true rfl]
    exact hQ H8 (fr04.trans ((Fr.of (e5.trans e6)).trans (fr7.trans (Fr.of e8)))) (hD7.up e8)
end
end Ct
end

section
set_option Elab.async false
set_option linter.all false
set_option maxRecDepth 100000
set_option maxHeartbeats 4000000
namespace Ct
open PySem PySem.Spec PyProof.Rows L2 Evl
section
variable {P : Program} {w : World} {K : PySem.W.Frag} {mg : Str → Option Value} {base : Heap} {C_Groups C_Keeper C_Desk : Addr}
theorem run_callR {σ : L2.St} {H : Hp} {sp : Sp} {dvs : List V} {E : XK} {t : TA} {Q : VK} (h : t σ H fun vs H1 => sp (vs ++ dvs) H1 Q E) : tCall sp dvs E t σ H Q := h
theorem run_evL {σ : L2.St} {H : Hp} {te : TE} {Q : VK} {xs : List V} (h : EvL te σ H xs) (k : ∀ p H1, H p = none → Ex H H1 → H1 p = some (.lst xs) → Q (.ref p) H1) : te σ H Q := h H (Ex.refl H) Q k
theorem at_run {σ : L2.St} {H : Hp} {CK CD d k l : Addr} {N : Net} {hist : List (Net × Deed)} {e : Tie} {c : Int} {g cm : List Str} {tc t1 t2 : TE} {E : XK} {Q : VK} (h0 : σ[0]? = some (some (.ref d))) (h1 : σ[1]? = some (some (.str e.n))) (hc : Ev tc σ H (.int c)) (hg : EvL t1 σ H (g.map V.str)) (hm : EvL t2 σ H (cm.map V.str))
    (hD : DeskAt CK CD H d k l N hist) (he : e ∈ N.ts) (ok : NetOk N) (nw : NetW N) (hl : N.ts.length ≤ 30) (hcb : c.natAbs < 10 ^ 30) (X : Exch N (.cost e.n c) g cm) (hh : hist.length ≤ 900) (kk : ∀ H2, Fr k l H H2 → DeskAt CK CD H2 d k l N hist → Q (.bl true) H2) :
    tCall (sp_l_at CK CD) [] E (tCons (tVar 0) (tCons (tVar 1) (tCons tc (tCons t1 (tCons t2 tNil))))) σ H Q :=
  run_callR (run_cons (run_ev (ev_var h0) fun H1 e1 => run_cons (run_ev (ev_var h1) fun H2 e2 => run_cons (run_ev (hc.mono (e1.trans e2)) fun H3 e3 => run_cons (run_evL (hg.mono (e1.trans (e2.trans e3))) fun p H4 hp e4 h4 => run_cons (run_evL (hm.mono (e1.trans (e2.trans (e3.trans e4)))) fun q H5 hq e5 h5 => run_nil
    ⟨d, k, l, N, hist, e, c, p, q, g, cm, rfl, hD.up (e1.trans (e2.trans (e3.trans (e4.trans e5)))), e5 _ _ h4, h5, he, ok, nw, hl, hcb, X, hh, fun H6 fr hD6 => kk H6 ((Fr.of (e1.trans (e2.trans (e3.trans (e4.trans e5))))).trans fr) hD6⟩))))))
theorem line_margin (n : Str) : Str.ofString "margin " ++ n = (marginO n).line := by
  refine str_ext ?_
  show _ = (Txt.join " " [Str.ofString "margin", n]).cps.toList
  rw [join_two, cps_app]
  have e1 : (Str.ofString "margin ").cps.toList = (Str.ofString "margin").cps.toList ++ [32] := by decide +kernel
  rw [e1, List.append_assoc]; rfl
theorem line_tell (t : Tell) : t.wd = t.order.line := by cases t <;> decide +kernel
theorem int_fine {i : Int} : 32 ∉ (intS i).cps.toList ∧ intS i ≠ "" := ⟨fun hm => by rcases intS_sign hm with h | h <;> omega, fun e => by
  rcases int_cases i with ⟨m, rfl⟩ | ⟨m, rfl⟩
  · have := intS_nat m
    rw [e] at this
    exact digs_ne m this.symm
  · have := intS_neg m
    rw [e] at this
    exact absurd this (List.cons_ne_nil _ _).symm⟩
theorem lit_fine : ∀ z ∈ [("waits" : Str), "comes", "stays"], (32 ∉ z.cps.toList ∧ z ≠ "") ∧ ∀ c ∈ z.cps.toList, c < 1114112 := by
  intro z hz
  simp only [List.mem_cons, List.not_mem_nil, or_false] at hz
  rcases hz with rfl | rfl | rfl <;> decide +kernel
def sp_l_margin (CK CD : Addr) : Sp := fun vs H Q _ => ∃ d k l N hist e kept, vs = [.ref d, .str (Tie.n e), .bl kept] ∧ DeskAt CK CD H d k l N hist ∧ e ∈ N.ts ∧ NetOk N ∧ NetW N ∧ NoLoop N ∧ N.ts.length ≤ 30 ∧ kept = decide (e.n ∈ cheap N) ∧ hist.length ≤ 900 ∧
  ∀ H2, Fr k l H H2 → DeskAt CK CD H2 d k l N hist → Q (.bl true) H2
theorem sc_l_margin : FnScope ["_law_desk", "_law_name", "_law_kept", "_law_words_here", "_law_cost_here", "_law_other"] ["_law_desk", "_law_name", "_law_kept"] (defScope s_l_margin) := ⟨rfl, rfl, rfl, by decide +kernel, rfl, by decide +kernel, by decide +kernel⟩
theorem ok_l_margin {f : Addr} {fd : FuncData} (F : FnP K "_law_margin" "_law_margin" s_l_margin f fd) (T : Txt w K mg C_Groups C_Keeper C_Desk)
  {f_l_words_of : Addr} {fd_l_words_of : FuncData} (G_l_words_of : Dk P w K mg base "_law_words_of" 1 ["_law_text"] sp_l_words_of f_l_words_of fd_l_words_of)
  {f_l_at : Addr} {fd_l_at : FuncData} (G_l_at : Dk P w K mg base "_law_at" 10 ["_law_desk", "_law_name", "_law_cost_here", "_law_gone", "_law_come"] (sp_l_at C_Keeper C_Desk) f_l_at fd_l_at)
  {f_Desk_say : Addr} {fd_Desk_say : FuncData} (G_Desk_say : Dm P w K mg base C_Desk "say" 9 ["self", "line"] (sp_Desk_say C_Keeper C_Desk) f_Desk_say fd_Desk_say) : FnOk P w K mg base CX0 11 f fd ["_law_desk", "_law_name", "_law_kept"] (sp_l_margin C_Keeper C_Desk) := by
  have sc := sc_l_margin

  refine F.ok sc (fun vs H Q E h => ?_) (fun cdv A outer s H vs Q E hr h => ?_)
  · obtain ⟨d, k, l, N, hist, e, kept, rfl, _⟩ := h; rfl
  · have hu := hu_of hr
    obtain ⟨d, k, l, N, hist, e, kept, rfl, hD, he, ok, nw, nl, hl, hkept, hh, hQ⟩ := h
    refine ⟨_, PSs.nox (pss_cons (ps_set (i := 3) sc.nd rfl (Or.inl rfl) (pe_call G_l_words_of.ok (hr.mono (by decide)) (by rfl) G_l_words_of.mgf G_l_words_of.kp G_l_words_of.b .nil pass0 (pa_cons (pe_meth (pv 0) T.c_Desk G_Desk_say.m G_Desk_say.ok (hr.mono (by decide)) G_Desk_say.b .nil pass0 (pa_cons (pe_op op_add_str pe_str (pv 1)) pa_nil)) pa_nil)))
    (pss_cons (ps_if (pt_cmpR (op_eqD hr.units) (pv 3) (pe_lst (pa_cons pe_str pa_nil)) (nomark _)) (pss_one (ps_ret (pe_cmpR (op_in_seqK (K := K) rfl) (pv 1) (pe_call G_l_words_of.ok (hr.mono (by decide)) (by rfl) G_l_words_of.mgf G_l_words_of.kp G_l_words_of.b .nil pass0 (pa_cons (pe_meth (pv 0) T.c_Desk G_Desk_say.m G_Desk_say.ok (hr.mono (by decide)) G_Desk_say.b .nil pass0 (pa_cons pe_str pa_nil)) pa_nil)) rfl))) pss_nil)
    (pss_cons (ps_if (pt_cmpR (op_eqD hr.units) (pv 3) (pe_lst (pa_cons pe_str pa_nil)) (nomark _)) (pss_one (ps_ret (pe_and (pv 2) (pe_one (pe_call G_l_at.ok (hr.mono (by decide)) (by rfl) G_l_at.mgf G_l_at.kp G_l_at.b .nil pass0 (pa_cons (pv 0) (pa_cons (pv 1) (pa_cons (pe_op op_pow pe_int pe_int) (pa_cons (pe_lst pa_nil) (pa_cons (pe_lst pa_nil) pa_nil)))))))))) pss_nil)
    (pss_cons (ps_if (PW.pt (pw_or (pt_cmpR op_ne (pe_callB (call_len_seqK (K := K) rfl) (by rfl) T.b_len (by decide +kernel) (pa_cons (pv 3) pa_nil)) pe_int (nomark _)) (pw_or1 (pt_cmpR op_ne (pe_ix (ix_listK (K := K) rfl) (pv 3) pe_int (fun _ _ => rfl)) (pe_ix (ix_listK (K := K) rfl) (pe_lst (pa_cons pe_str (pa_cons pe_str pa_nil))) (pe_callTy call_int1 (by rfl) T.b_int (by decide +kernel) (pa_cons (pv 2) pa_nil)) (fun _ _ => rfl)) (nomark _))))) (pss_one (ps_ret pe_bl)) pss_nil)
    (pss_cons (ps_par (i := 4) (j := 5) rfl sc.nd rfl rfl (by decide) rfl rfl (pa_cons (pe_callTy call_int_str (by rfl) T.b_int (by decide +kernel) (pa_cons (pe_ix (ix_listK (K := K) rfl) (pv 3) pe_int (fun _ _ => rfl)) pa_nil)) (pa_cons (pe_ix (ix_listK (K := K) rfl) (pv 3) pe_int (fun _ _ => rfl)) pa_nil)) rfl)
    (pss_cons (ps_if (pt_cmpR op_ge (pe_op op_add (pe_callB call_abs (by rfl) T.b_abs (by decide +kernel) (pa_cons (pv 4) pa_nil)) pe_int) (pe_op op_pow pe_int pe_int) (nomark _)) (pss_one (ps_ret pe_bl)) pss_nil)
    (pss_cons (ps_if (pt_val (pv 2)) (pss_one (ps_ret (pe_and (pe_call G_l_at.ok (hr.mono (by decide)) (by rfl) G_l_at.mgf G_l_at.kp G_l_at.b .nil pass0 (pa_cons (pv 0) (pa_cons (pv 1) (pa_cons (pv 4) (pa_cons (pe_lst pa_nil) (pa_cons (pe_lst pa_nil) pa_nil)))))) (pe_one (pe_call G_l_at.ok (hr.mono (by decide)) (by rfl) G_l_at.mgf G_l_at.kp G_l_at.b .nil pass0 (pa_cons (pv 0) (pa_cons (pv 1) (pa_cons (pe_op op_add (pv 4) pe_int) (pa_cons (pe_lst (pa_cons (pv 1) pa_nil)) (pa_cons (pe_lst (pa_cons (pv 5) pa_nil)) pa_nil)))))))))) pss_nil)
    (pss_one (ps_ret (pe_and (pe_call G_l_at.ok (hr.mono (by decide)) (by rfl) G_l_at.mgf G_l_at.kp G_l_at.b .nil pass0 (pa_cons (pv 0) (pa_cons (pv 1) (pa_cons (pv 4) (pa_cons (pe_lst (pa_cons (pv 5) pa_nil)) (pa_cons (pe_lst (pa_cons (pv 1) pa_nil)) pa_nil)))))) (pe_one (pe_call G_l_at.ok (hr.mono (by decide)) (by rfl) G_l_at.mgf G_l_at.kp G_l_at.b .nil pass0 (pa_cons (pv 0) (pa_cons (pv 1) (pa_cons (pe_op op_add (pv 4) pe_int) (pa_cons (pe_lst pa_nil) (pa_cons (pe_lst pa_nil) pa_nil))))))))))))))))), ?_⟩
    have hg := getT_of ok he
    have hW := ways_ok ok nl
    obtain ⟨dx, hd, hK⟩ := id hD
    have hnl := (nw.n e he).2.1
    have l7 : (Str.ofString "margin ").length = 7 := by decide +kernel
    refine asg_run (run_callR (run_cons (run_meth (ev_var rfl) hd (d_none (by decide +kernel)) (ea_cons (x := .str (marginO e.n).line) (ev_is (ev_op ev_c (ev_var rfl) (rv_addS (by omega))) (congrArg V.str (line_margin e.n))) ea_nil) fun H1 e1 => ?_)))
    refine .inr (.inr (.inl ⟨d, k, l, N, hist, e, rfl, hD.up e1, ok, nw, hg, hW, fun m H2 e2 hm => run_nil ?_⟩))
    obtain ⟨m1, m2⟩ := mar_tie nw hW hg hm
    have ML := mar_law ok he m hm
    have wf : ∀ z ∈ m.text e.n, (32 ∉ z.cps.toList ∧ z ≠ "") ∧ z.length ≤ 32 ∧ ∀ c ∈ z.cps.toList, c < 1114112 := by
      have lit : ∀ z ∈ [("waits" : Str), "comes", "stays"], (32 ∉ z.cps.toList ∧ z ≠ "") ∧ z.length ≤ 32 ∧ ∀ c ∈ z.cps.toList, c < 1114112 := fun z hz => ⟨(lit_fine z hz).1, by
        simp only [List.mem_cons, List.not_mem_nil, or_false] at hz
        rcases hz with rfl | rfl | rfl <;> decide +kernel, (lit_fine z hz).2⟩
      have cs : ∀ {o : Tie}, o ∈ N.ts → (32 ∉ (intS (costW e.n o)).cps.toList ∧ intS (costW e.n o) ≠ "") ∧ (intS (costW e.n o)).length ≤ 32 ∧ ∀ c ∈ (intS (costW e.n o)).cps.toList, c < 1114112 := fun ho => ⟨int_fine, intS_len (k := 31) (by decide) (costW_bound (nw.c _ ho)), fun c hc => by rcases intS_sign hc with h | h <;> omega⟩
      have ns : ∀ {o : Tie}, o ∈ N.ts → (32 ∉ o.n.cps.toList ∧ o.n ≠ "") ∧ o.n.length ≤ 32 ∧ ∀ c ∈ o.n.cps.toList, c < 1114112 := fun ho => ⟨word_fine (nw.n _ ho), Nat.le_trans (nw.n _ ho).2.1 (by decide), SOk.word (nw.n _ ho)⟩
      cases m with
      | waits => intro z hz; rw [List.mem_singleton.mp hz]; exact lit _ (by simp)
      | staysN => intro z hz; rw [List.mem_singleton.mp hz]; exact lit _ (by simp)
      | comes o =>
        intro z hz
        simp only [Mar.text, List.mem_cons, List.not_mem_nil, or_false] at hz
        rcases hz with rfl | rfl | rfl
        · exact lit _ (by simp)
        · exact cs (m1 o rfl)
        · exact ns (m1 o rfl)
      | stays o =>
        intro z hz
        simp only [Mar.text, List.mem_cons, List.not_mem_nil, or_false] at hz
        rcases hz with rfl | rfl | rfl
        · exact lit _ (by simp)
        · exact cs (m2 o rfl)
        · exact ns (m2 o rfl)
    have tl3 : (m.text e.n).length ≤ 3 := by cases m <;> simp [Mar.text]
    have jl : (Txt.join " " (m.text e.n)).length ≤ 40000 := Nat.le_trans (join_le (m := 32) (n := 3) (fun z hz => (wf z hz).2.1) tl3) (by decide +kernel)
    refine ⟨m.text e.n, rfl, fun z hz => (wf z hz).1, jl, fun pw H3 hpw e3 hw => ?_⟩
    have e13 := e1.trans (e2.trans e3)
    have okw : SOk (m.text e.n) := fun z hz => (wf z hz).2.2
    have okl : ∀ z ∈ [("waits" : Str), "comes", "stays"], SOk [z] := fun z hz w hw => by rw [List.mem_singleton.mp hw]; exact (lit_fine z hz).2
    have eqT : ∀ {σ : L2.St} {H' : Hp} {z : Str}, z ∈ [("waits" : Str), "comes", "stays"] → Ex H3 H' → σ[3]? = some (some (.ref pw)) → EvT (tTest (tOp (rEqD K) (tVar 3) (tLst (tCons (tC (.str z)) tNil)))) σ H' (decide (m.text e.n = [z])) := fun {σ} {H'} {z} hz ex g => et_test (ev_eqS (EvS.ofV (ev_var g) (ex _ _ hw)) (EvS.ofL (el_lst (ea_cons ev_c ea_nil) (by show 1 ≤ 100000; decide))) okw (okl z hz))
    cases m with
    | waits =>
      refine q_when (b := true) (et_is (eqT (z := "waits") (by simp) (Ex.refl _) rfl) (decide_eq_true rfl)) (fun _ H4 e4 => ?_) (fun hb => by cases hb)
      have e14 := e13.trans e4
      refine ret_run (run_op (run_ev (ev_var rfl) fun H5 e5 => run_callR (run_cons (run_meth (ev_var rfl) (e5 _ _ (e14 _ _ hd)) (d_none (by decide +kernel)) (ea_cons (x := .str (Tell.order .wait).line) (ev_is ev_c (congrArg V.str (line_tell .wait))) ea_nil) fun H6 e6 => ?_))))
      have e16 := e14.trans (e5.trans e6)
      refine .inr (.inr (.inr ⟨d, k, l, N, hist, .wait, rfl, hD.up e16, ok, nw, fun H7 e7 => run_nil ?_⟩))
      have wl : (waits N).length ≤ N.ts.length := by
        unfold waits
        rw [List.length_map]; exact List.length_filter_le _ _
      have wfw : ∀ z ∈ waits N, WordOk z := fun z hz => by
        obtain ⟨t, ht, rfl⟩ := List.mem_map.mp hz
        exact nw.n t (List.mem_filter.mp ht).1
      refine ⟨waits N, rfl, fun z hz => word_fine (wfw z hz), Nat.le_trans (join_le (m := 8) (n := 30) (fun z hz => (wfw z hz).2.1) (by omega)) (by decide +kernel), fun p H8 hp e8 h8 => ?_⟩
      have key := rv_isL (K := K) (x := .str e.n) (SqL.of h8) rfl (flat_strs (waits N))
      rw [inV_str] at key
      refine key H8 (Ex.refl H8) _ fun H9 e9 => ?_
      have hin : e.n ∈ waits N := by
        unfold waits
        refine List.mem_map_of_mem (List.mem_filter.mpr ⟨he, ?_⟩)
        have : openB N e = false := hm
        rw [this]; rfl
      rw [decide_eq_true hin]
      have e19 := e16.trans (e7.trans (e8.trans e9))
      exact hQ H9 (Fr.of e19) (hD.up e19)
    | staysN =>
      refine q_when (b := false) (et_is (eqT (z := "waits") (by simp) (Ex.refl _) rfl) (by show decide ([Str.ofString "stays"] = [Str.ofString "waits"]) = false; decide +kernel)) (fun hb => by cases hb) (fun _ H4 e4 => ?_)
      refine q_when (b := true) (et_is (eqT (z := "stays") (by simp) e4 rfl) (decide_eq_true rfl)) (fun _ H5 e5 => ?_) (fun hb => by cases hb)
      have e15 := e13.trans (e4.trans e5)
      have hk : kept = true := hkept.trans (decide_eq_true hm.2.1)
      subst hk
      refine ret_run (run_andV (run_ev (ev_var rfl) fun H6 e6 => ⟨true, rfl, iteT ?_⟩))
      refine at_run (e := e) (c := 10 ^ 29) (g := []) (cm := []) rfl rfl (ev_op ev_c ev_c (rv_I ⟨by decide, by decide, by decide⟩)) (el_lst ea_nil (by decide)) (el_lst ea_nil (by decide)) (hD.up (e15.trans e6)) he ok nw hl (by decide +kernel) ML hh fun H7 fr hD7 => hQ H7 ((Fr.of (e15.trans e6)).trans fr) hD7
    | comes o =>
      have ho := m1 o rfl
      have hk : kept = false := hkept.trans (decide_eq_false hm.2.1)
      subst hk
      have cb := costW_bound (z := e.n) (nw.c o ho)
      have hw' : H3 pw = some (.lst [.str "comes", .str (intS (costW e.n o)), .str o.n]) := hw
      refine q_when (b := false) (et_is (eqT (z := "waits") (by simp) (Ex.refl _) rfl) (decide_eq_false (by simp [Mar.text]))) (fun hb => by cases hb) (fun _ H4 e4 => ?_)
      refine q_when (b := false) (et_is (eqT (z := "stays") (by simp) e4 rfl) (decide_eq_false (by simp [Mar.text]))) (fun hb => by cases hb) (fun _ H5 e5 => ?_)
      have e35 := e4.trans e5
      refine q_when (b := false) (et_is (a := false) (b := false) (et_or (a := false) (b := false) (et_is (et_test (ev_op (ev_lenL (ev_var rfl) (SqL.of (e35 _ _ hw'))) ev_c (rv_ne rfl))) rfl) (fun _ => et_is (et_test (ev_op (ev_op (ev_var rfl) ev_c (rv_ixL (SqL.of (e35 _ _ hw')) rfl)) (ev_opL1 (y := .int 0) (el_lst (ea_cons ev_c (ea_cons ev_c ea_nil)) (by show 2 ≤ 100000; decide)) (fun H6 e6 => ev_cb (ea_cons (ev_var (v := .bl false) rfl) ea_nil) fun H7 e7 Q q => .inr ⟨false, rfl, q H7 (Ex.refl H7)⟩) (fun p H6 h6 e6 => rv_ixL (v := .str "comes") (SqL.of h6) rfl)) (rv_ne rfl))) (by decide +kernel))) rfl) (fun hb => by cases hb) (fun _ H6 e6 => ?_)
      have e36 := e35.trans e6
      refine q_par (v := .int (costW e.n o)) (w := .str o.n) (ea_cons (ev_cb (ea_cons (ev_op (ev_var rfl) ev_c (rv_ixL (SqL.of (e36 _ _ hw')) rfl)) ea_nil) fun H7 e7 Q q => ⟨_, _, rfl, intS_back (Nat.lt_of_lt_of_le cb (Nat.pow_le_pow_right (by decide) (by decide))), Nat.le_trans (intS_len (k := 31) (by decide) cb) (by decide), q H7 (Ex.refl H7)⟩) (ea_cons (ev_op (ev_var rfl) ev_c (rv_ixL (SqL.of (e36 _ _ hw')) rfl)) ea_nil)) fun H7 e7 => ?_
      have e17 := e13.trans (e36.trans e7)
      refine q_when (b := decide (absI (costW e.n o) + 1 ≥ 10 ^ 30)) (et_test (ev_op (ev_op (ev_abs (ev_var rfl)) ev_c rv_I0) (ev_op ev_c ev_c (rv_I ⟨by decide, by decide, by decide⟩)) rv_I0)) (fun _ H8 e8 => ?_) (fun hb H8 e8 => ?_)
      · exact s_ret ev_c fun H9 e9 => hQ H9 (Fr.of (e17.trans (e8.trans e9))) (hD.up (e17.trans (e8.trans e9)))
      have hsmall : ¬ (absI (costW e.n o) + 1 ≥ 10 ^ 30) := of_decide_eq_false hb
      have habs : (absI (costW e.n o)) = ((costW e.n o).natAbs : Int) := by
        unfold absI; split <;> omega
      rw [habs] at hsmall
      refine q_when (b := false) (et_B (ev_var rfl)) (fun hb => by cases hb) (fun _ H9 e9 => ?_)
      have e19 := e17.trans (e8.trans e9)
      refine ret_run (run_andV ?_)
      refine at_run (e := e) (c := costW e.n o) (g := [o.n]) (cm := [e.n]) rfl rfl (ev_var rfl) (el_lst (ea_cons (ev_var rfl) ea_nil) (by show 1 ≤ 100000; decide)) (el_lst (ea_cons (ev_var rfl) ea_nil) (by show 1 ≤ 100000; decide)) (hD.up e19) he ok nw hl (by omega) ML.1 hh fun Ha fra hDa => ?_
      refine ⟨true, rfl, iteT ?_⟩
      refine at_run (e := e) (c := costW e.n o + 1) (g := []) (cm := []) rfl rfl (ev_op (ev_var rfl) ev_c rv_I0) (el_lst ea_nil (by decide)) (el_lst ea_nil (by decide)) hDa he ok nw hl (by omega) ML.2 hh fun Hb frb hDb => ?_
      exact hQ Hb ((Fr.of e19).trans (fra.trans frb)) hDb
    | stays o =>
      have ho := m2 o rfl
      have hk : kept = true := hkept.trans (decide_eq_true hm.2.1)
      subst hk
      have cb := costW_bound (z := e.n) (nw.c o ho)
      have hw' : H3 pw = some (.lst [.str "stays", .str (intS (costW e.n o)), .str o.n]) := hw
      refine q_when (b := false) (et_is (eqT (z := "waits") (by simp) (Ex.refl _) rfl) (decide_eq_false (by simp [Mar.text]))) (fun hb => by cases hb) (fun _ H4 e4 => ?_)
      refine q_when (b := false) (et_is (eqT (z := "stays") (by simp) e4 rfl) (decide_eq_false (by simp [Mar.text]))) (fun hb => by cases hb) (fun _ H5 e5 => ?_)
      have e35 := e4.trans e5
      refine q_when (b := false) (et_is (a := false) (b := false) (et_or (a := false) (b := false) (et_is (et_test (ev_op (ev_lenL (ev_var rfl) (SqL.of (e35 _ _ hw'))) ev_c (rv_ne rfl))) rfl) (fun _ => et_is (et_test (ev_op (ev_op (ev_var rfl) ev_c (rv_ixL (SqL.of (e35 _ _ hw')) rfl)) (ev_opL1 (y := .int 1) (el_lst (ea_cons ev_c (ea_cons ev_c ea_nil)) (by show 2 ≤ 100000; decide)) (fun H6 e6 => ev_cb (ea_cons (ev_var (v := .bl true) rfl) ea_nil) fun H7 e7 Q q => .inr ⟨true, rfl, q H7 (Ex.refl H7)⟩) (fun p H6 h6 e6 => rv_ixL (v := .str "stays") (SqL.of h6) rfl)) (rv_ne rfl))) (by decide +kernel))) rfl) (fun hb => by cases hb) (fun _ H6 e6 => ?_)
      have e36 := e35.trans e6
      refine q_par (v := .int (costW e.n o)) (w := .str o.n) (ea_cons (ev_cb (ea_cons (ev_op (ev_var rfl) ev_c (rv_ixL (SqL.of (e36 _ _ hw')) rfl)) ea_nil) fun H7 e7 Q q => ⟨_, _, rfl, intS_back (Nat.lt_of_lt_of_le cb (Nat.pow_le_pow_right (by decide) (by decide))), Nat.le_trans (intS_len (k := 31) (by decide) cb) (by decide), q H7 (Ex.refl H7)⟩) (ea_cons (ev_op (ev_var rfl) ev_c (rv_ixL (SqL.of (e36 _ _ hw')) rfl)) ea_nil)) fun H7 e7 => ?_
      have e17 := e13.trans (e36.trans e7)
      refine q_when (b := decide (absI (costW e.n o) + 1 ≥ 10 ^ 30)) (et_test (ev_op (ev_op (ev_abs (ev_var rfl)) ev_c rv_I0) (ev_op ev_c ev_c (rv_I ⟨by decide, by decide, by decide⟩)) rv_I0)) (fun _ H8 e8 => ?_) (fun hb H8 e8 => ?_)
      · exact s_ret ev_c fun H9 e9 => hQ H9 (Fr.of (e17.trans (e8.trans e9))) (hD.up (e17.trans (e8.trans e9)))
      have hsmall : ¬ (absI (costW e.n o) + 1 ≥ 10 ^ 30) := of_decide_eq_false hb
      have habs : (absI (costW e.n o)) = ((costW e.n o).natAbs : Int) := by
        unfold absI; split <;> omega
      rw [habs] at hsmall
      refine q_when (b := true) (et_B (ev_var rfl)) (fun _ H9 e9 => ?_) (fun hb => by cases hb)
      have e19 := e17.trans (e8.trans e9)
      refine ret_run (run_andV ?_)
      refine at_run (e := e) (c := costW e.n o) (g := []) (cm := []) rfl rfl (ev_var rfl) (el_lst ea_nil (by decide)) (el_lst ea_nil (by decide)) (hD.up e19) he ok nw hl (by omega) ML.1 hh fun Ha fra hDa => ?_
      refine ⟨true, rfl, iteT ?_⟩
      refine at_run (e := e) (c := costW e.n o + 1) (g := [e.n]) (cm := [o.n]) rfl rfl (ev_op (ev_var rfl) ev_c rv_I0) (el_lst (ea_cons (ev_var rfl) ea_nil) (by show 1 ≤ 100000; decide)) (el_lst (ea_cons (ev_var rfl) ea_nil) (by show 1 ≤ 100000; decide)) hDa he ok nw hl (by omega) ML.2 hh fun Hb frb hDb => ?_
      exact hQ Hb ((Fr.of e19).trans (fra.trans frb)) hDb
end
end Ct
end

section
set_option Elab.async false
set_option linter.all false
set_option maxRecDepth 100000
set_option maxHeartbeats 4000000
namespace Ct
open PySem PySem.Spec PyProof.Rows L2
/-! ### the net that is told so far -/
def dPl : Deed → Option Str
  | .place z => some z | _ => none
def dTi : Deed → Option Tie
  | .tie n x y c => some ⟨n, y, x, c⟩ | _ => none
def psOf (P : List Deed) : List Str := P.filterMap dPl
def tsOf (P : List Deed) : List Tie := P.filterMap dTi
def netOf (P : List Deed) : Net := ⟨sortS (psOf P), sortT (tsOf P)⟩
theorem psOf_app (P : List Deed) (d : Deed) : psOf (P ++ [d]) = psOf P ++ (dPl d).toList := by
  unfold psOf
  rw [List.filterMap_append]
  cases h : dPl d <;> simp [h]
theorem tsOf_app (P : List Deed) (d : Deed) : tsOf (P ++ [d]) = tsOf P ++ (dTi d).toList := by
  unfold tsOf
  rw [List.filterMap_append]
  cases h : dTi d <;> simp [h]
theorem psOf_deeds (N : Net) : psOf (deedsOf N) = N.ps := by
  unfold psOf deedsOf
  rw [List.filterMap_append, List.filterMap_map, List.filterMap_map]
  have e1 : N.ps.filterMap (dPl ∘ Deed.place) = N.ps := by
    have : (dPl ∘ Deed.place) = some := rfl
    rw [this, List.filterMap_some]
  have e2 : N.ts.filterMap (dPl ∘ fun t => Deed.tie t.n t.b t.a t.c) = [] := List.filterMap_eq_nil_iff.mpr fun _ _ => rfl
  rw [e1, e2, List.append_nil]
theorem tsOf_deeds (N : Net) : tsOf (deedsOf N) = N.ts := by
  unfold tsOf deedsOf
  rw [List.filterMap_append, List.filterMap_map, List.filterMap_map]
  have e1 : N.ts.filterMap (dTi ∘ fun t => Deed.tie t.n t.b t.a t.c) = N.ts := by
    have : (dTi ∘ fun t : Tie => Deed.tie t.n t.b t.a t.c) = some := rfl
    rw [this, List.filterMap_some]
  have e2 : N.ps.filterMap (dTi ∘ Deed.place) = [] := List.filterMap_eq_nil_iff.mpr fun _ _ => rfl
  rw [e1, e2, List.nil_append]
theorem sortS_of_perm {xs ys : List Str} (p : xs.Perm ys) : sortS xs = sortS ys := sortS_eq ((sortS_perm xs).trans p) (sortS_pw xs)
theorem sortT_of_perm {xs ys : List Tie} (nd : (ys.map (·.n)).Nodup) (p : xs.Perm ys) : sortT xs = sortT ys := sortT_eq nd ((sortT_perm xs).trans p) (sortT_pw xs)
/-- the deeds told so far and those to come -/
structure Pre (N : Net) (P R : List Deed) : Prop where
  pm : (P ++ R).Perm (deedsOf N)
theorem Pre.ps {N : Net} {P R : List Deed} (h : Pre N P R) : (psOf (P ++ R)).Perm N.ps := by
  have := h.pm.filterMap dPl
  rw [show (deedsOf N).filterMap dPl = N.ps from psOf_deeds N] at this
  exact this
theorem Pre.ts {N : Net} {P R : List Deed} (h : Pre N P R) : (tsOf (P ++ R)).Perm N.ts := by
  have := h.pm.filterMap dTi
  rw [show (deedsOf N).filterMap dTi = N.ts from tsOf_deeds N] at this
  exact this
theorem Pre.turn {N : Net} {P R : List Deed} {d : Deed} (h : Pre N P (d :: R)) : Pre N (P ++ [d]) R := ⟨by
  have := h.pm
  rwa [List.append_assoc]⟩
theorem psOf_sub (P R : List Deed) : (psOf P).Sublist (psOf (P ++ R)) := by
  unfold psOf
  rw [List.filterMap_append]
  exact List.sublist_append_left _ _
theorem tsOf_sub (P R : List Deed) : (tsOf P).Sublist (tsOf (P ++ R)) := by
  unfold tsOf
  rw [List.filterMap_append]
  exact List.sublist_append_left _ _
theorem Pre.psnd {N : Net} {P R : List Deed} (h : Pre N P R) (G : NetG N) : (psOf P).Nodup := (h.ps.nodup_iff.mpr G.ok.ndp).sublist (psOf_sub P R)
theorem Pre.tsnd {N : Net} {P R : List Deed} (h : Pre N P R) (G : NetG N) : ((tsOf P).map (·.n)).Nodup := ((h.ts.map (·.n)).nodup_iff.mpr G.ok.ndt).sublist ((tsOf_sub P R).map _)
theorem Pre.psm {N : Net} {P R : List Deed} (h : Pre N P R) {z : Str} (hz : z ∈ psOf P) : z ∈ N.ps := h.ps.mem_iff.mp ((psOf_sub P R).subset hz)
theorem Pre.tsm {N : Net} {P R : List Deed} (h : Pre N P R) {t : Tie} (ht : t ∈ tsOf P) : t ∈ N.ts := h.ts.mem_iff.mp ((tsOf_sub P R).subset ht)
theorem Pre.psl {N : Net} {P R : List Deed} (h : Pre N P R) (G : NetG N) : (psOf P).length ≤ 8 := Nat.le_trans (psOf_sub P R).length_le (by rw [h.ps.length_eq]; exact G.pl)
theorem Pre.tsl {N : Net} {P R : List Deed} (h : Pre N P R) (G : NetG N) : (tsOf P).length ≤ 14 := Nat.le_trans (tsOf_sub P R).length_le (by rw [h.ts.length_eq]; exact G.tl)
theorem netOf_ps {P : List Deed} (z : Str) : z ∈ (netOf P).ps ↔ z ∈ psOf P := (sortS_perm _).mem_iff
theorem netOf_ts {P : List Deed} (t : Tie) : t ∈ (netOf P).ts ↔ t ∈ tsOf P := (sortT_perm _).mem_iff
theorem Pre.ok {N : Net} {P R : List Deed} (h : Pre N P R) (G : NetG N) : NetOk (netOf P) := by
  have h1 := h.psl G
  have h2 := h.tsl G
  refine ⟨(sortS_perm _).nodup_iff.mpr (h.psnd G), ((sortT_perm _).map _).nodup_iff.mpr (h.tsnd G), ?_, ?_⟩
  · show (sortS _).length ≤ 60
    rw [(sortS_perm _).length_eq]; omega
  · show (sortT _).length ≤ 60
    rw [(sortT_perm _).length_eq]; omega
theorem Pre.w {N : Net} {P R : List Deed} (h : Pre N P R) (G : NetG N) : NetW (netOf P) :=
  ⟨fun z hz => G.w.ps z (h.psm ((netOf_ps z).mp hz)), fun t ht => G.w.n t (h.tsm ((netOf_ts t).mp ht)), fun t ht => G.w.a t (h.tsm ((netOf_ts t).mp ht)), fun t ht => G.w.b t (h.tsm ((netOf_ts t).mp ht)), fun t ht => G.w.c t (h.tsm ((netOf_ts t).mp ht))⟩
theorem NetG.nl {N : Net} (G : NetG N) : NoLoop N := fun t ht e => by
  have := G.asc t ht
  rw [e, ltS_irr] at this; cases this
theorem Pre.nl {N : Net} {P R : List Deed} (h : Pre N P R) (G : NetG N) : NoLoop (netOf P) := fun t ht => G.nl t (h.tsm ((netOf_ts t).mp ht))
theorem deeds_cases {N : Net} {d : Deed} (h : d ∈ deedsOf N) : (∃ z ∈ N.ps, d = .place z) ∨ ∃ t ∈ N.ts, d = .tie t.n t.b t.a t.c := by
  rcases List.mem_append.mp h with h | h
  · obtain ⟨z, hz, e⟩ := List.mem_map.mp h; exact .inl ⟨z, hz, e.symm⟩
  · obtain ⟨t, ht, e⟩ := List.mem_map.mp h; exact .inr ⟨t, ht, e.symm⟩
theorem Pre.mem {N : Net} {P R : List Deed} {d : Deed} (h : Pre N P (d :: R)) : d ∈ deedsOf N := h.pm.mem_iff.mp (by simp)
theorem Pre.put {N : Net} {P R : List Deed} {d : Deed} (h : Pre N P (d :: R)) (G : NetG N) : (netOf P).put d = netOf (P ++ [d]) := by
  rcases deeds_cases h.mem with ⟨z, hz, rfl⟩ | ⟨t, ht, rfl⟩
  · show Net.mk (sortS (sortS (psOf P) ++ [z])) (sortT (tsOf P)) = Net.mk (sortS (psOf (P ++ [.place z]))) (sortT (tsOf (P ++ [.place z])))
    have e1 : tsOf (P ++ [.place z]) = tsOf P := by rw [tsOf_app]; exact List.append_nil _
    have e2 : psOf (P ++ [.place z]) = psOf P ++ [z] := psOf_app _ _
    rw [e1, e2, sortS_of_perm ((sortS_perm (psOf P)).append_right [z])]
  · have e1 : psOf (P ++ [.tie t.n t.b t.a t.c]) = psOf P := by rw [psOf_app]; exact List.append_nil _
    have e2 : tsOf (P ++ [.tie t.n t.b t.a t.c]) = tsOf P ++ [t] := tsOf_app _ _
    have ha := G.asc t ht
    have e3 : loS t.b t.a = t.a := by unfold loS; rw [if_pos ha]
    have e4 : hiS t.b t.a = t.b := by unfold hiS; rw [if_neg (by rw [ltS_asy ha]; decide)]
    show Net.mk (sortS (psOf P)) (sortT (sortT (tsOf P) ++ [⟨t.n, loS t.b t.a, hiS t.b t.a, t.c⟩])) = Net.mk _ _
    have nd := h.turn.tsnd G
    rw [e2] at nd
    rw [e1, e2, e3, e4, sortT_of_perm nd ((sortT_perm (tsOf P)).append_right [t])]
theorem Pre.can {N : Net} {P R : List Deed} {d : Deed} (h : Pre N P (d :: R)) (G : NetG N) : Can (netOf P) d ∧ d.COk := by
  have ok := h.ok G
  have ok2 : NetOk ((netOf P).put d) := by rw [h.put G]; exact h.turn.ok G
  have w2 : NetW ((netOf P).put d) := by rw [h.put G]; exact h.turn.w G
  have sm : Small (netOf P) d := by
    show (sortT (tsOf P)).length + ((netOf P).put d).ts.length ≤ 60
    rw [h.put G, (sortT_perm _).length_eq]
    show _ + (sortT _).length ≤ 60
    rw [(sortT_perm _).length_eq]
    have := h.tsl G
    have := h.turn.tsl G
    omega
  rcases deeds_cases h.mem with ⟨z, hz, rfl⟩ | ⟨t, ht, rfl⟩
  · refine ⟨⟨G.w.ps z hz, fun hm => ?_, ok, ok2, sm, h.w G, w2⟩, trivial⟩
    have nd := h.turn.psnd G
    have e2 : psOf (P ++ [.place z]) = psOf P ++ [z] := psOf_app _ _
    rw [e2] at nd
    exact (List.nodup_append.mp nd).2.2 z ((netOf_ps z).mp hm) z (by simp) rfl
  · refine ⟨⟨⟨G.w.n t ht, G.w.b t ht, G.w.a t ht, Ne.symm (G.nl t ht)⟩, ?_, ok, ok2, sm, h.w G, w2⟩, G.w.c t ht⟩
    refine getT_none.mpr fun hm => ?_
    have nd := h.turn.tsnd G
    have e2 : tsOf (P ++ [.tie t.n t.b t.a t.c]) = tsOf P ++ [t] := tsOf_app _ _
    rw [e2, List.map_append] at nd
    obtain ⟨u, hu, eu⟩ := List.mem_map.mp hm
    exact (List.nodup_append.mp nd).2.2 t.n (List.mem_map.mpr ⟨u, (netOf_ts u).mp hu, eu⟩) t.n (by simp) rfl
theorem Pre.all {N : Net} {P : List Deed} (h : Pre N P []) (G : NetG N) : netOf P = N := by
  have h1 := h.ps
  have h2 := h.ts
  rw [List.append_nil] at h1 h2
  have e1 : sortS (psOf P) = N.ps := (sortS_eq h1.symm G.pw).symm
  have e2 : sortT (tsOf P) = N.ts := (sortT_eq (h.tsnd G) h2.symm G.tw).symm
  show Net.mk (sortS (psOf P)) (sortT (tsOf P)) = N
  rw [e1, e2]
theorem netOf_nil : netOf [] = ⟨[], []⟩ := by
  have e1 : sortS [] = [] := List.length_eq_zero_iff.mp (sortS_perm []).length_eq
  have e2 : sortT [] = [] := List.length_eq_zero_iff.mp (sortT_perm []).length_eq
  show Net.mk (sortS []) (sortT []) = _
  rw [e1, e2]
end Ct
end

section
set_option Elab.async false
set_option linter.all false
set_option maxRecDepth 100000
set_option maxHeartbeats 4000000
namespace Ct
open PySem PySem.Spec PyProof.Rows L2 Evl
section
variable {P : Program} {w : World} {K : PySem.W.Frag} {mg : Str → Option Value} {base : Heap} {C_Groups C_Keeper C_Desk : Addr}
theorem cheap_words {N : Net} (w : NetW N) : ∀ z ∈ cheap N, WordOk z := fun z hz => by
  obtain ⟨t, ht, rfl⟩ := cheap_mem hz
  exact w.n t (op_ts ht)
theorem q_ifK {σ : L2.St} {H : Hp} {D : Ends} {tz tu tw : TS} {c : TT} {b : Bool} (M : L2.St → Hp → Prop) (h : EvT c σ H b) (k : ∀ σ2 H2, M σ2 H2 → tz D σ2 H2) (h1 : b = true → ∀ H1, Ex H H1 → (∀ σ2 H2, M σ2 H2 → tz D σ2 H2) → tu { D with nx := tz D } σ H1)
    (h2 : b = false → ∀ H1, Ex H H1 → (∀ σ2 H2, M σ2 H2 → tz D σ2 H2) → tw { D with nx := tz D } σ H1) : tSeq (tIfS c tu tw) tz D σ H := q_if h (fun hb H1 e1 => h1 hb H1 e1 k) fun hb H1 e1 => h2 hb H1 e1 k
theorem ev_tell {σ : L2.St} {H : Hp} {CK CD d k l : Addr} {N : Net} {hist : List (Net × Deed)} {tl : Tell} {E : XK} {ta : TE} {te : TE} (ha : Ev ta σ H (.ref d)) (hte : Ev te σ H (.str tl.order.line)) (hD : DeskAt CK CD H d k l N hist) (ok : NetOk N) (nw : NetW N) :
    Ev (tMeth CD "say" (sp_Desk_say CK CD) [] E ta (tCons te tNil)) σ H (.str (tl.text N)) := by
  obtain ⟨dx, hd, hK⟩ := id hD
  exact EvR.ev (er_meth ha hd (d_none (by decide +kernel)) (ea_cons hte ea_nil) fun H1 e1 Q q E => .inr (.inr (.inr ⟨d, k, l, N, hist, tl, rfl, hD.up e1, ok, nw, fun H2 e2 => q _ H2 e2 rfl⟩)))
theorem desk_upd {CK CD : Addr} {H : Hp} {d k l x : Addr} {N : Net} {hist : List (Net × Deed)} {ys xs : List V} (h : DeskAt CK CD H d k l N hist) (n1 : x ≠ d) (n2 : x ≠ k) (n3 : x ≠ l) (hx : H x = some (.lst xs)) : DeskAt CK CD (upd H x (.lst ys)) d k l N hist := by
  obtain ⟨dx, h1, dx', n, t, rows, g1, g2, g3, g4, g5⟩ := h
  have tu : Tups H (upd H x (.lst ys)) := (Tups.refl H).upd fun zs z => by rw [hx] at z; cases z
  exact ⟨dx, by rw [upd_ne (Ne.symm n1)]; exact h1, dx', n, t, rows, by rw [upd_ne (Ne.symm n2)]; exact g1, g2.mono tu, StrsT.mono tu g3, by rw [upd_ne (Ne.symm n3)]; exact g4, rows_mono tu g5⟩
theorem tiesL_upd {H : Hp} {a x : Addr} {ts : List Tie} {ys xs : List V} (h : TiesL H a ts) (n : a ≠ x) (hx : H x = some (.lst xs)) : TiesL (upd H x (.lst ys)) a ts := by
  obtain ⟨ps, h1, h2⟩ := h
  exact ⟨ps, by rw [upd_ne n]; exact h1, ties_mono ((Tups.refl H).upd fun zs z => by rw [hx] at z; cases z) h2⟩
theorem pl_words (z : Str) : (Deed.place z).order.words = [Str.ofString "place", z] := rfl
theorem ti_words (n x y : Str) (c : Int) : (Deed.tie n x y c).order.words = [Str.ofString "tie", n, x, y, intS c] := rfl
def sp_l_told (CK CD : Addr) : Sp := fun vs H Q _ => ∃ d k l ll N ds, vs = [.ref d, .ref ll] ∧ DeskAt CK CD H d k l ⟨[], []⟩ [] ∧ LinesAt H ll ds ∧ ll ≠ l ∧ NetG N ∧ List.Perm ds (deedsOf N) ∧
  ∀ r hist H2, Fr k l H H2 → hist.length ≤ 22 → DeskAt CK CD H2 d k l N hist → StrsL H2 r (cheap N) → r ≠ l → H r = none → Q (.ref r) H2
theorem sc_l_told : FnScope ["_law_desk", "_law_lines_here", "_law_tree", "_law_places", "_law_ties", "_law_line", "_law_words_here"] ["_law_desk", "_law_lines_here"] (defScope s_l_told) := ⟨rfl, rfl, rfl, by decide +kernel, rfl, by decide +kernel, by decide +kernel⟩
theorem ok_l_told {f : Addr} {fd : FuncData} (F : FnP K "_law_told" "_law_told" s_l_told f fd) (T : Txt w K mg C_Groups C_Keeper C_Desk)
  {f_l_moved : Addr} {fd_l_moved : FuncData} (G_l_moved : Dk P w K mg base "_law_moved" 2 ["_law_tree", "_law_told_here"] sp_l_moved f_l_moved fd_l_moved)
  {f_l_is_cheapest : Addr} {fd_l_is_cheapest : FuncData} (G_l_is_cheapest : Dk P w K mg base "_law_is_cheapest" 2 ["_law_net_here", "_law_names"] sp_l_is_cheapest f_l_is_cheapest fd_l_is_cheapest)
  {f_l_words_of : Addr} {fd_l_words_of : FuncData} (G_l_words_of : Dk P w K mg base "_law_words_of" 1 ["_law_text"] sp_l_words_of f_l_words_of fd_l_words_of)
  {f_Desk_say : Addr} {fd_Desk_say : FuncData} (G_Desk_say : Dm P w K mg base C_Desk "say" 9 ["self", "line"] (sp_Desk_say C_Keeper C_Desk) f_Desk_say fd_Desk_say) : FnOk P w K mg base CX0 10 f fd ["_law_desk", "_law_lines_here"] (sp_l_told C_Keeper C_Desk) := by
  have sc := sc_l_told

  refine F.ok sc (fun vs H Q E h => ?_) (fun cdv A outer s H vs Q E hr h => ?_)
  · obtain ⟨d, k, l, ll, N, ds, rfl, _⟩ := h; rfl
  · have hu := hu_of hr
    obtain ⟨d, k, l, ll, N, ds, rfl, hD, hll, nll, G, pm, hQ⟩ := h
    refine ⟨_, PSs.nox (pss_cons (ps_set (i := 2) sc.nd rfl (Or.inl rfl) (pe_lst pa_nil))
    (pss_cons (ps_par (i := 3) (j := 4) rfl sc.nd rfl rfl (by decide) rfl rfl (pa_cons (pe_lst pa_nil) (pa_cons (pe_lst pa_nil) pa_nil)) rfl)
    (pss_cons (ps_for PassesOwn.never rfl (pi_listK (K := K) rfl (pv 1)) (pg_name (i := 5) sc.nd rfl (Or.inl rfl)) (pss_cons (ps_set (i := 6) sc.nd rfl (Or.inl rfl) (pe_split (pv 5) pe_str))
    (pss_cons (ps_if (pt_cmpR op_eq (pe_ix (ix_listK (K := K) rfl) (pv 6) pe_int (fun _ _ => rfl)) pe_str (nomark _)) (pss_one (ps_expr (pe_bm PySem.F.plainAttrs_list PySem.F.slot_list_append PySem.F.type_list_append mt_append (pv 3) (pa_cons (pe_ix (ix_listK (K := K) rfl) (pv 6) pe_int (fun _ _ => rfl)) pa_nil)))) (pss_one (ps_expr (pe_bm PySem.F.plainAttrs_list PySem.F.slot_list_append PySem.F.type_list_append mt_append (pv 4) (pa_cons (pe_tup (pa_cons (pe_ix (ix_listK (K := K) rfl) (pv 6) pe_int (fun _ _ => rfl)) (pa_cons (pe_ix (ix_listK (K := K) rfl) (pv 6) pe_int (fun _ _ => rfl)) (pa_cons (pe_ix (ix_listK (K := K) rfl) (pv 6) pe_int (fun _ _ => rfl)) (pa_cons (pe_callTy call_int_str (by rfl) T.b_int (by decide +kernel) (pa_cons (pe_ix (ix_listK (K := K) rfl) (pv 6) pe_int (fun _ _ => rfl)) pa_nil)) pa_nil))))) pa_nil)))))
    (pss_cons (ps_set (i := 2) sc.nd rfl (Or.inl rfl) (pe_call G_l_moved.ok (hr.mono (by decide)) (by rfl) G_l_moved.mgf G_l_moved.kp G_l_moved.b .nil pass0 (pa_cons (pv 2) (pa_cons (pe_meth (pv 0) T.c_Desk G_Desk_say.m G_Desk_say.ok (hr.mono (by decide)) G_Desk_say.b .nil pass0 (pa_cons (pv 5) pa_nil)) pa_nil))))
    (pss_one (ps_if (PW.pt (pw_or (pt_cmp (pc_isN (pv 2))) (pw_or (pt_cmpR (op_neD hr.units) (pv 2) (pe_call G_l_words_of.ok (hr.mono (by decide)) (by rfl) G_l_words_of.mgf G_l_words_of.kp G_l_words_of.b .nil pass0 (pa_cons (pe_meth (pv 0) T.c_Desk G_Desk_say.m G_Desk_say.ok (hr.mono (by decide)) G_Desk_say.b .nil pass0 (pa_cons pe_str pa_nil)) pa_nil)) (nomark _)) (pw_or1 (pt_not (pt_val (pe_call G_l_is_cheapest.ok (hr.mono (by decide)) (by rfl) G_l_is_cheapest.mgf G_l_is_cheapest.kp G_l_is_cheapest.b .nil pass0 (pa_cons (pe_tup (pa_cons (pv 3) (pa_cons (pv 4) pa_nil))) (pa_cons (pv 2) pa_nil))))))))) (pss_one (ps_ret pe_non)) pss_nil))))))
    (pss_one (ps_ret (pv 2)))))), ?_⟩
    obtain ⟨nd1, nd2⟩ := hD.ne
    obtain ⟨dx, hd, dx', n0, t0, rows0, hk, _, _, hlp, _⟩ := id hD
    have nlk : ll ≠ k := fun z => by
      have : H ll = some _ := hll
      rw [z, hk] at this; cases this
    have dl : ds.length ≤ 22 := by
      rw [pm.length_eq]
      unfold deedsOf
      have := G.pl
      have := G.tl
      rw [List.length_append, List.length_map, List.length_map]; omega
    refine q_asgL (xs := []) (el_lst ea_nil (by decide)) fun tr H1 htr e1 h1 => ?_
    refine show tPar 3 4 _ _ _ _ from run_cons (run_evL (xs := []) (el_lst ea_nil (by decide)) fun pl H2 hpl e2 h2 => run_cons (run_evL (xs := []) (el_lst ea_nil (by decide)) fun tl H3 htl e3 h3 => run_nil ⟨_, _, rfl, ?_⟩))
    have e03 := e1.trans (e2.trans e3)
    have hpl0 : H pl = none := fresh_back e1 hpl
    have htl0 : H tl = none := fresh_back (e1.trans e2) htl
    have hll0 : H ll = some (.lst (ds.map fun d => V.str d.line)) := hll
    have nof : ∀ {x : Addr}, H x = none → x ≠ d ∧ x ≠ k ∧ x ≠ l ∧ x ≠ ll := fun {x} hx => ⟨fun z => (by rw [z, hd] at hx; cases hx), fun z => (by rw [z, hk] at hx; cases hx), fun z => (by rw [z, hlp] at hx; cases hx), fun z => (by rw [z, hll0] at hx; cases hx)⟩
    obtain ⟨npd, npk, npl, npll⟩ := nof hpl0
    obtain ⟨ntd, ntk, ntl, ntll⟩ := nof htl0
    have npt : pl ≠ tl := fun z => by rw [z] at h2; rw [h2] at htl; cases htl
    refine q_forL (ev_var rfl) (SqL.of (e03 _ _ hll)) (fun i σ' H' => ∃ (trc : Addr) (v5 v6 : Option V) (hist : List (Net × Deed)), σ' = [some (.ref d), some (.ref ll), some (.ref trc), some (.ref pl), some (.ref tl), v5, v6] ∧ Fr k l H H' ∧ DeskAt C_Keeper C_Desk H' d k l (netOf (ds.take i)) hist ∧ hist.length = i ∧
      StrsL H' trc (cheap (netOf (ds.take i))) ∧ StrsL H' pl (psOf (ds.take i)) ∧ TiesL H' tl (tsOf (ds.take i)) ∧ H trc = none ∧ trc ≠ pl ∧ trc ≠ tl) ?_ ?_ ?_ ?_
    · intro H4 e4
      have e04 := e03.trans e4
      refine ⟨tr, none, none, [], rfl, Fr.of e04, ?_, rfl, ?_, ?_, ?_, htr, ?_, ?_⟩
      · rw [List.take_zero, netOf_nil]; exact hD.up e04
      · rw [List.take_zero, netOf_nil, cheap_empty]; exact e4 _ _ (e3 _ _ (e2 _ _ h1))
      · rw [List.take_zero]; exact e4 _ _ (e3 _ _ h2)
      · rw [List.take_zero]; exact ⟨[], e4 _ _ h3, .nil⟩
      · exact fun z => by rw [z] at h1; rw [h1] at hpl; cases hpl
      · exact fun z => by
          have := e2 _ _ h1
          rw [z] at this; rw [this] at htl; cases htl
    · rintro i σ' H' _ ⟨trc, v5, v6, hist, _, fr, _⟩
      exact SqL.of (fr _ _ hll nlk nll)
    · rintro i z σ' H' hi ⟨trc, v5, v6, hist, rfl, fr, hD', hhl, htc, hps, hts, htr0, n1, n2⟩
      have hi' : i < ds.length := by
        have := (List.getElem?_eq_some_iff.mp hi).1
        rwa [List.length_map] at this
      have hdd : ds[i]? = some ds[i] := List.getElem?_eq_getElem hi'
      have hz : z = .str ds[i].line := by
        rw [List.getElem?_map, hdd] at hi
        exact (Option.some.inj hi).symm
      subst hz
      have ek : ds.take (i + 1) = ds.take i ++ [ds[i]] := by rw [List.take_add_one, hdd]; rfl
      have P : Pre N (ds.take i) (ds[i] :: ds.drop (i + 1)) := ⟨by rw [← List.drop_eq_getElem_cons hi', List.take_append_drop]; exact pm⟩
      rw [ek]
      generalize hdeq : ds[i] = dd at *
      generalize ds.take i = Pr at *
      obtain ⟨can, cok⟩ := P.can G
      have ordok := dd.order_ok can.ok cok
      have okP := P.ok G
      have wP := P.w G
      have hsplit : Txt.split dd.line " " = dd.order.words := split_sp (List.cons_ne_nil _ _) fun z hz => (Order.words_ok ordok z hz).1
      refine q_asgL (xs := dd.order.words.map V.str) (el_is (el_split (ev_var rfl) ev_c (by decide +kernel) (by have := Order.len_le ordok; show dd.order.line.length + 2 ≤ _; omega)) (by rw [hsplit])) fun pw H4 hpw e4 h4 => ?_
      obtain ⟨trn1, trn2, trn3, trn4⟩ := nof htr0
      have w0 : (dd.order.words.map V.str)[0]? = some (.str dd.wd) := rfl
      refine q_ifK (b := decide (dd.wd = "place")) (fun σ2 H2 => σ2 = [some (.ref d), some (.ref ll), some (.ref trc), some (.ref pl), some (.ref tl), some (.str dd.line), some (.ref pw)] ∧ Fr k l H H2 ∧ DeskAt C_Keeper C_Desk H2 d k l (netOf Pr) hist ∧ StrsL H2 trc (cheap (netOf Pr)) ∧ StrsL H2 pl (psOf (Pr ++ [dd])) ∧ TiesL H2 tl (tsOf (Pr ++ [dd]))) (et_is (et_test (ev_op (ev_op (ev_var rfl) ev_c (rv_ixL (SqL.of h4) (atI_nat (j := 0) w0))) ev_c (rv_eq rfl))) (dec_str _ _)) ?_ ?_ ?_
      · rintro σ2 H5 ⟨rfl, fr5, hD5, ht5, hp5, hts5⟩
        obtain ⟨dx5, hd5, _⟩ := id hD5
        refine asg_run (run_callR (run_cons (run_ev (ev_var rfl) fun H6 e6 => run_cons (run_meth (ev_var rfl) (e6 _ _ hd5) (d_none (by decide +kernel)) (ea_cons (ev_var rfl) ea_nil) fun H7 e7 => ?_))))
        have e57 := e6.trans e7
        refine .inl ⟨d, k, l, netOf Pr, hist, dd, rfl, hD5.up e57, can, cok, by omega, fun H8 fr8 hD8 => run_nil ?_⟩
        have ht8 : StrsL H8 trc (cheap (netOf Pr)) := fr8 _ _ (e57 _ _ ht5) trn2 trn3
        have l1 := cheap_len (netOf Pr)
        have l2 := cheap_len ((netOf Pr).put dd)
        have sm : (netOf Pr).ts.length + ((netOf Pr).put dd).ts.length ≤ 60 := can.sm
        have f1 : (goneOf (netOf Pr) dd).length ≤ (cheap (netOf Pr)).length := List.length_filter_le _ _
        have f2 : (comeOf (netOf Pr) dd).length ≤ (cheap ((netOf Pr).put dd)).length := List.length_filter_le _ _
        refine ⟨trc, cheap (netOf Pr), goneOf (netOf Pr) dd, comeOf (netOf Pr) dd, rfl, ht8, cheap_words wP, ?_, ?_, fun z hz => (List.mem_filter.mp hz).1, fun z hz => of_decide_eq_true (List.mem_filter.mp hz).2, by omega, by omega, fun r H9 hr9 e9 hr => ?_⟩
        · intro z hz
          rcases List.mem_append.mp hz with hz | hz
          · exact cheap_words wP z (List.mem_filter.mp hz).1
          · exact cheap_words can.wb z (List.mem_filter.mp hz).1
        · intro hm
          obtain ⟨t, ht, et⟩ := cheap_mem (List.mem_filter.mp hm).1
          exact G.come t (P.tsm ((netOf_ts t).mp (op_ts ht))) et
        · rw [exch_do can.a can.b, P.put G] at hr
          rw [P.put G] at hD8
          have ok2 := P.turn.ok G
          have w2 := P.turn.w G
          have hD9 := hD8.up e9
          have fr08 : Fr k l H H8 := fr5.trans ((Fr.of e57).trans fr8)
          have hp9 : StrsL H9 pl (psOf (Pr ++ [dd])) := e9 _ _ (fr8 _ _ (e57 _ _ hp5) npk npl)
          have hts9 : TiesL H9 tl (tsOf (Pr ++ [dd])) := by
            obtain ⟨pts, g1, g2⟩ := hts5
            refine ⟨pts, e9 _ _ (fr8 _ _ (e57 _ _ g1) ntk ntl), ties_mono (fun b xs hb => ?_) g2⟩
            obtain ⟨dxk, nk, tk, rowk, kk1, _, _, kk4, _⟩ := hD5.choose_spec.2
            exact e9 _ _ (fr8 _ _ (e57 _ _ hb) (fun z => by rw [z, kk1] at hb; cases hb) (fun z => by rw [z, kk4] at hb; cases hb))
          have wds := cheap_words w2
          have cl : (cheap (netOf (Pr ++ [dd]))).length ≤ 14 := by
            have := cheap_len (netOf (Pr ++ [dd]))
            have h2 : (netOf (Pr ++ [dd])).ts.length = (tsOf (Pr ++ [dd])).length := (sortT_perm _).length_eq
            have := P.turn.tsl G
            omega
          have jl : (Txt.join " " (cheap (netOf (Pr ++ [dd])))).length ≤ 40000 := Nat.le_trans (join_le (m := 8) (n := 14) (fun z hz => (wds z hz).2.1) cl) (by decide +kernel)
          have sok : SOk (cheap (netOf (Pr ++ [dd]))) := fun z hz => SOk.word (wds z hz)
          refine s_when (b := false) (et_is (et_or (b := false) (et_is (b := false) (et_B (ev_isN (ev_var rfl))) rfl) (fun _ => et_is (a := false || false) (b := false) (et_or (et_is (b := false) (et_test (ev_neS (xs := cheap (netOf (Pr ++ [dd]))) (ys := cheap (netOf (Pr ++ [dd]))) (EvS.ofV (ev_var rfl) hr) (EvS.ofL (el_call (ea_cons (ev_tell (tl := .tree) (ev_var rfl) (ev_is ev_c (congrArg V.str (line_tell .tree))) hD9 ok2 w2) ea_nil) (spl_words (fun z hz => word_fine (wds z hz)) jl))) sok sok)) (by rw [decide_eq_true rfl]; rfl)) (fun _ => et_is (a := !true) (b := false) (et_not (et_B (EvR.ev (v := .bl true) (er_call (PL := fun vs H2 => ∃ q, vs = [.ref q, .ref r] ∧ H2 q = some (.tup [.ref pl, .ref tl])) (fun Ha ea Q q => ?_) ?_)))) rfl)) rfl)) rfl) (fun hb => by cases hb) (fun _ Ha ea => ?_)
          · exact (ar_cons (P := fun v H2 => ∃ q, v = .ref q ∧ H2 q = some (.tup [.ref pl, .ref tl])) (fun v H H' e ⟨q, h1, h2⟩ => ⟨q, h1, e _ _ h2⟩) (er_tup (ea_cons (ev_var rfl) (ea_cons (ev_var rfl) ea_nil)) (by show 2 ≤ 100000; decide)) (ar_cons (P := fun v _ => v = .ref r) (fun _ _ _ _ h => h) (er_var rfl) ar_nil)) Ha ea Q fun vs Hb eb ⟨v, r', e1, ⟨q', e2, hq'⟩, v2, r2, e3, e4, e5⟩ => q vs Hb eb ⟨q', by rw [e1, e2, e3, e4, e5], hq'⟩
          · rintro vs Hb eb ⟨q, rfl, hq⟩ Q' q' E'
            refine ⟨q, r, pl, tl, psOf (Pr ++ [dd]), tsOf (Pr ++ [dd]), cheap (netOf (Pr ++ [dd])), rfl, hq, eb _ _ hp9, hts9.up eb, eb _ _ hr, by have := P.turn.psl G; omega, by have := P.turn.tsl G; omega, by omega, sok, law_cheap ok2 (P.turn.nl G) (fun z => (netOf_ps z).symm) (fun t => (netOf_ts t).symm) (by have := P.turn.tsl G; omega), fun Hc ec => q' _ Hc ec rfl⟩
          · have hk8 : H8 k ≠ none ∧ H8 l ≠ none := by
              obtain ⟨_, _, _, _, _, _, kk1, _, _, kk4, _⟩ := hD8
              exact ⟨by rw [kk1]; simp, by rw [kk4]; simp⟩
            refine ⟨r, _, _, hist ++ [(netOf Pr, dd)], rfl, fr08.trans ((Fr.of e9).trans (Fr.of ea)), hD9.up ea, by rw [List.length_append, hhl]; rfl, ea _ _ hr, ea _ _ hp9, hts9.up ea, fr08.none hr9 hk8.1 hk8.2, ?_, ?_⟩
            · intro z
              have := fr8 _ _ (e57 _ _ hp5) npk npl
              rw [z] at hr9; rw [hr9] at this; cases this
            · intro z
              obtain ⟨pts, g1, g2⟩ := hts5
              have := fr8 _ _ (e57 _ _ g1) ntk ntl
              rw [z] at hr9; rw [hr9] at this; cases this
      · intro hb H5 e5 kk
        have e45 := e4.trans e5
        rcases deeds_cases P.mem with ⟨z, hz, rfl⟩ | ⟨t, ht, rfl⟩
        · have e2 : psOf (Pr ++ [.place z]) = psOf Pr ++ [z] := psOf_app _ _
          have e3' : tsOf (Pr ++ [.place z]) = tsOf Pr := by rw [tsOf_app]; exact List.append_nil _
          refine s_app (v := .str z) (e45 _ _ hps) (ev_var rfl) (ev_op (ev_var rfl) ev_c (rv_ixL (SqL.of (e5 _ _ h4)) (atI_nat (j := 1) rfl))) (by rw [List.length_map]; have := P.psl G; omega) fun H6 e6 => ?_
          have e46 := e45.trans e6
          refine kk _ _ ⟨rfl, fun b o hb n1 n2 => ?_, ?_, ?_, ?_, ?_⟩
          · rw [upd_ne (fun z => by rw [z, hpl0] at hb; cases hb)]
            exact e46 _ _ (fr b o hb n1 n2)
          · exact desk_upd (hD'.up e46) npd npk npl (e46 _ _ hps)
          · show upd _ _ _ _ = _
            rw [upd_ne n1]; exact e46 _ _ htc
          · show upd _ _ _ _ = _
            rw [upd_same, e2, List.map_append]; rfl
          · rw [e3']
            exact tiesL_upd (hts.up e46) (Ne.symm npt) (e46 _ _ hps)
        · exact absurd (of_decide_eq_true hb) (by show ¬ (Str.ofString "tie" = Str.ofString "place"); decide +kernel)
      · intro hb H5 e5 kk
        have e45 := e4.trans e5
        rcases deeds_cases P.mem with ⟨z, hz, rfl⟩ | ⟨t, ht, rfl⟩
        · exact absurd rfl (of_decide_eq_false hb)
        · have e2 : psOf (Pr ++ [.tie t.n t.b t.a t.c]) = psOf Pr := by rw [psOf_app]; exact List.append_nil _
          have e3' : tsOf (Pr ++ [.tie t.n t.b t.a t.c]) = tsOf Pr ++ [t] := tsOf_app _ _
          obtain ⟨pts, htl1, htl2⟩ := hts
          have hw5 : H5 pw = some (.lst [.str "tie", .str t.n, .str t.b, .str t.a, .str (intS t.c)]) := e5 _ _ h4
          refine s_appU (ys := t.row.map Sc.v) (e45 _ _ htl1) (ev_var rfl) (eu_tup (ea_cons (ev_op (ev_var rfl) ev_c (rv_ixL (SqL.of hw5) rfl)) (ea_cons (ev_op (ev_var rfl) ev_c (rv_ixL (SqL.of hw5) rfl)) (ea_cons (ev_op (ev_var rfl) ev_c (rv_ixL (SqL.of hw5) rfl)) (ea_cons (ev_cb (z := .int t.c) (ea_cons (ev_op (ev_var rfl) ev_c (rv_ixL (SqL.of hw5) rfl)) ea_nil) fun H7 e7 Q q => ⟨_, _, rfl, intS_back (Nat.lt_of_lt_of_le (G.w.c t ht) p30), Nat.le_trans (intS_len (k := 30) (by decide) (G.w.c t ht)) (by decide), q H7 (Ex.refl H7)⟩) ea_nil)))) (by show 4 ≤ 100000; decide)) (by rw [ties_len htl2]; have := P.tsl G; omega) fun q H6 hq e6 hq6 => ?_
          have e46 := e45.trans e6
          refine kk _ _ ⟨rfl, fun b o hb n1 n2 => ?_, ?_, ?_, ?_, ?_⟩
          · rw [upd_ne (fun z => by rw [z, htl0] at hb; cases hb)]
            exact e46 _ _ (fr b o hb n1 n2)
          · exact desk_upd (hD'.up e46) ntd ntk ntl (e46 _ _ htl1)
          · show upd _ _ _ _ = _
            rw [upd_ne n2]; exact e46 _ _ htc
          · show upd _ _ _ _ = _
            rw [upd_ne npt, e2]; exact e46 _ _ hps
          · rw [e3']
            have tu : Tups H' (upd H6 tl (.lst (pts.map V.ref ++ [.ref q]))) := (Tups.ofEx e46).upd fun xs z => by rw [htl1] at z; cases z
            have nqt : q ≠ tl := fun z => by
              have := e46 _ _ htl1
              rw [z] at hq6; rw [hq6] at this; cases this
            refine ⟨pts ++ [q], by rw [upd_same, List.map_append]; rfl, Paired.snoc ?_ (ties_mono tu htl2)⟩
            unfold TieAt
            rw [upd_ne nqt]; exact hq6
    · rintro σ' H' ⟨trc, v5, v6, hist, rfl, fr, hD', hhl, htc, hps, hts, htr0, n1, n2⟩
      have e0 : ds.take (ds.map fun d => V.str d.line).length = ds := List.take_of_length_le (by rw [List.length_map]; exact Nat.le_refl _)
      rw [e0] at hD' htc
      rw [List.length_map] at hhl
      have P : Pre N ds [] := ⟨by rw [List.append_nil]; exact pm⟩
      rw [P.all G] at hD' htc
      obtain ⟨trn1, trn2, trn3, trn4⟩ := nof htr0
      refine s_ret (ev_var rfl) fun H5 e5 => hQ trc hist H5 (fr.trans (Fr.of e5)) (by omega) (hD'.up e5) (e5 _ _ htc) trn3 htr0
end
end Ct
end

section
set_option Elab.async false
set_option linter.all false
set_option maxRecDepth 100000
set_option maxHeartbeats 4000000
namespace Ct
open PySem PySem.Spec PyProof.Rows L2 Evl
section
variable {P : Program} {w : World} {K : PySem.W.Frag} {mg : Str → Option Value} {base : Heap} {C_Groups C_Keeper C_Desk : Addr}
/-! ### plain: the sum and the net's text -/
theorem sum_perm : ∀ {xs ys : List Int}, xs.Perm ys → xs.sum = ys.sum := by
  intro xs ys p
  induction p with
  | nil => rfl
  | cons x _ ih => rw [List.sum_cons, List.sum_cons, ih]
  | swap x y l => rw [List.sum_cons, List.sum_cons, List.sum_cons, List.sum_cons]; omega
  | trans _ _ h1 h2 => rw [h1, h2]
theorem sum_eq {N : Net} (ok : NetOk N) : ((N.ts.filter fun t => decide (t.n ∈ cheap N)).map (·.c)).sum = costOf N := by
  have e1 : (N.ts.filter fun t => decide (t.n ∈ cheap N)).map (·.c) = ((N.ts.filter fun t => decide (t.n ∈ cheap N)).map (·.n)).map (cOf N.ts) := by
    rw [List.map_map]
    refine List.map_congr_left fun t ht => ?_
    show t.c = cOf N.ts t.n
    unfold cOf
    rw [getT_of ok (List.mem_filter.mp ht).1]
  rw [e1]
  unfold costOf
  refine sum_perm (List.Perm.map _ ?_)
  refine (List.perm_ext_iff_of_nodup (ok.ndt.sublist (List.Sublist.map _ List.filter_sublist)) (cheap_nd ok.ndt)).mpr fun z => ?_
  constructor
  · intro h
    obtain ⟨t, ht, rfl⟩ := List.mem_map.mp h
    exact of_decide_eq_true (List.mem_filter.mp ht).2
  · intro h
    obtain ⟨t, ht, rfl⟩ := cheap_mem h
    exact List.mem_map_of_mem (List.mem_filter.mpr ⟨op_ts ht, decide_eq_true h⟩)
theorem net_told {N : Net} (nw : NetW N) : Tell.net.text N = Txt.join " / " (netRows N) := by
  show Txt.replace (Txt.join ⟨#[10]⟩ (netRows N)) ⟨#[10]⟩ " / " = _
  have h10 : ∀ z ∈ netRows N, 10 ∉ z.cps.toList := by
    have word : ∀ {z : Str}, WordOk z → 10 ∉ z.cps.toList := fun h hm => by have := h.2.2 10 hm; omega
    intro z hz
    rcases List.mem_append.mp hz with hz | hz
    · obtain ⟨p, hp, rfl⟩ := List.mem_map.mp hz
      unfold rowP
      rw [cps_app]
      intro hm
      rcases List.mem_append.mp hm with hm | hm
      · exact absurd hm (by decide +kernel)
      · exact word (nw.ps p hp) hm
    · obtain ⟨t, ht, rfl⟩ := List.mem_map.mp hz
      have hws : ∀ y ∈ rowW t, 10 ∉ y.cps.toList := by
        simp only [rowW, List.mem_cons, List.not_mem_nil, or_false]
        rintro y (rfl | rfl | rfl | rfl | rfl)
        · decide +kernel
        · exact word (nw.n t ht)
        · exact word (nw.a t ht)
        · exact word (nw.b t ht)
        · intro hm
          rcases intS_sign hm with h | h <;> omega
      have join10 : ∀ ws : List Str, (∀ y ∈ ws, 10 ∉ y.cps.toList) → 10 ∉ (Str.join " " ws).cps.toList := by
        intro ws
        induction ws with
        | nil => intro _; exact List.not_mem_nil
        | cons x r ih =>
          intro h
          cases r with
          | nil => exact h x (by simp)
          | cons y r =>
            show 10 ∉ (x ++ Str.ofString " " ++ Str.join " " (y :: r)).cps.toList
            rw [cps_app, cps_app]
            intro hm
            rcases List.mem_append.mp hm with hm | hm
            · rcases List.mem_append.mp hm with hm | hm
              · exact h x (by simp) hm
              · exact absurd hm (by decide +kernel)
            · exact ih (fun y hy => h y (List.mem_cons_of_mem _ hy)) hm
      show 10 ∉ (Txt.join " " (rowW t)).cps.toList
      rw [show Txt.join " " (rowW t) = Str.join " " (rowW t) from StrLaws.glued_eq_join _ _]
      exact join10 _ hws
  rw [StrLaws.replace_one, show Txt.join " / " (netRows N) = Str.join " / " (netRows N) from StrLaws.glued_eq_join _ _]
  by_cases hne : netRows N = []
  · rw [hne]; decide +kernel
  · rw [TL.split_join (s := 10) (S := []) rfl (by decide +kernel) hne h10]
theorem StAt.fr {H H' : Hp} {s l k l2 : Addr} (st : StAt H s l) (f : Fr k l2 H H') (n1 : s ≠ k) (n2 : s ≠ l2) (n3 : l ≠ k) (n4 : l ≠ l2) : StAt H' s l := by
  obtain ⟨xs, seed, h1, h2, h3⟩ := st
  exact ⟨xs, seed, f _ _ h1 n1 n2, f _ _ h2 n3 n4, h3⟩
theorem StAt.tups {H H' : Hp} {s l : Addr} (st : StAt H s l) (f : Fr s l H H') : Tups H H' := fun a xs ha => by
  obtain ⟨ys, seed, h1, h2, _⟩ := st
  exact f _ _ ha (fun z => by rw [z, h1] at ha; cases ha) (fun z => by rw [z, h2] at ha; cases ha)
theorem DeskAt.tups {CK CD : Addr} {H H' : Hp} {d k l : Addr} {N : Net} {hist : List (Net × Deed)} (h : DeskAt CK CD H d k l N hist) (f : Fr k l H H') : Tups H H' := by
  obtain ⟨dx, h1, h2⟩ := h
  exact Tups.fr h2 f
theorem DeskAt.fr {CK CD : Addr} {H H' : Hp} {d k l2 s l : Addr} {N : Net} {hist : List (Net × Deed)} (h : DeskAt CK CD H d k l2 N hist) (st : StAt H s l) (f : Fr s l H H') (n : d ≠ s ∧ d ≠ l ∧ k ≠ s ∧ k ≠ l ∧ l2 ≠ s ∧ l2 ≠ l) : DeskAt CK CD H' d k l2 N hist := by
  have tu := st.tups f
  obtain ⟨dx, h1, dx', n0, t, rows, g1, g2, g3, g4, g5⟩ := h
  exact ⟨dx, f _ _ h1 n.1 n.2.1, dx', n0, t, rows, f _ _ g1 n.2.2.1 n.2.2.2.1, g2.mono tu, StrsT.mono tu g3, f _ _ g4 n.2.2.2.2.1 n.2.2.2.2.2, rows_mono tu g5⟩
theorem ev_lenNL {σ : L2.St} {H : Hp} {te : TE} {xs : List V} (h : EvL te σ H xs) : Ev (tCB (rLenK K) (tCons te tNil)) σ H (.int (xs.length : Int)) := fun H1 e Q q => h H1 e _ fun p H2 _ e2 h2 => ⟨p, xs, rfl, .inl (SqL.of h2), q H2 e2⟩
theorem run_lcT {σ : L2.St} {H : Hp} {a : Addr} {xs : List V} {tl : TE} {g : TG} {tt : TT} {te : TE} {vs : List Nat} {Q : VK} (ha : Ev tl σ H (.ref a)) (hx : SqT K H a xs)
    (k : ∀ H1, Ex H H1 → ∀ D, H1 D = none → ∃ Pv : Nat → Hp → Prop, Pv 0 (upd H1 D (.lst [])) ∧ (∀ i H', Pv i H' → SqT K H' a xs) ∧ (∀ i x H', xs[i]? = some x → Pv i H' → g x (wipe σ vs) H' fun σ2 H2 => wipe σ2 vs = wipe σ vs ∧ tt σ2 H2 fun b H3 =>
      if b = true then te σ2 H3 fun y H4 => ∃ acc, H4 D = some (.lst acc) ∧ acc.length < sizeLine ∧ Pv (i + 1) (upd H4 D (.lst (acc ++ [y]))) else Pv (i + 1) H3) ∧ ∀ H', Pv xs.length H' → Q (.ref D) H') :
    tLc (iTup K tl) g tt te vs σ H Q := ha H (Ex.refl H) _ fun H1 e => ⟨a, rfl, ⟨xs, ex_t e hx⟩, fun D hD => by
  obtain ⟨Pv, h0, hG, hs, hd⟩ := k H1 e D hD
  exact lc_it walk_tup Pv h0 (fun i H' _ p => hG i H' p) (fun i x H' H2 hi p y => by
    obtain ⟨e1, e2⟩ := y
    subst e1
    exact hs i x _ e2 p) hd⟩
end
end Ct
end

section
set_option Elab.async false
set_option linter.all false
set_option maxRecDepth 100000
set_option maxHeartbeats 4000000
namespace Ct
open PySem PySem.Spec PyProof.Rows L2 Evl
section
variable {P : Program} {w : World} {K : PySem.W.Frag} {mg : Str → Option Value} {base : Heap} {C_Groups C_Keeper C_Desk : Addr}
theorem run_if {σ : L2.St} {H : Hp} {D : Ends} {tz tu : TS} {c : TT} (h : c σ H fun b H1 => if b = true then tu { D with nx := tz D } σ H1 else tz D σ H1) : tSeq (tIfS c tu tNext) tz D σ H := h
theorem run_not {σ : L2.St} {H : Hp} {t : TT} {Q : Bool → Hp → Prop} (h : t σ H fun b H1 => Q (!b) H1) : tNot t σ H Q := h
theorem run_B {σ : L2.St} {H : Hp} {te : TE} {Q : Bool → Hp → Prop} (h : te σ H fun x H1 => ∃ c, x = .bl c ∧ Q c H1) : tB te σ H Q := h
theorem el_listR {σ : L2.St} {H : Hp} {te : TE} {xs : List V} (h : EvR te σ H (fun v H2 => ∃ p, v = .ref p ∧ H2 p = some (.tup xs))) : EvL (tCB (rListK K) (tCons te tNil)) σ H xs := fun H1 e Q q =>
  h H1 e _ fun v H2 e2 ⟨p, ev, hp⟩ => ⟨p, xs, by rw [ev], .inr (SqT.of hp), fun l hl => q l _ (fresh_back e2 hl) (e2.trans (Ex.new hl)) upd_same⟩
theorem ev_joinE {σ : L2.St} {H : Hp} {te : TE} {a : Str} {p : Addr} {ys : List Str} (h : Ev te σ H (.ref p)) (hp : StrsL H p ys) (hl : (ys.map (·.length)).sum + ys.length * a.length ≤ 16777216) : Ev (tM1 (rJoin K) (tC (.str a)) te) σ H (.str (Txt.join a ys)) := fun H1 e Q q =>
  ⟨⟨a, rfl⟩, h H1 e _ fun H2 e2 => ⟨a, p, ys, rfl, rfl, .inl (SqL.of ((e.trans e2) _ _ hp)), hl, q H2 e2⟩⟩
theorem all_true (n : Nat) : (List.replicate n true).all id = true := by
  rw [List.all_replicate]
  cases n <;> rfl
def sp_law (K : PySem.W.Frag) : Sp := fun vs H Q _ => ∃ (a : Addr) (ns : List Int), vs = [.ref a] ∧ SqL K H a (ns.map V.int) ∧ ns.length ≤ 63 ∧ ∀ H2, Q (.bl true) H2
theorem sc_law : FnScope ["_law_script", "_law_state", "_law_turn", "_law_net_here", "_law_desk", "_law_tree", "_law_tie", "_law_rows", "_law_place", "_law_waits"] ["_law_script"] (defScope s_law) := ⟨rfl, rfl, rfl, by decide +kernel, rfl, by decide +kernel, by decide +kernel⟩
theorem ok_law {f : Addr} {fd : FuncData} (F : FnP K "law" "law" s_law f fd) (T : Txt w K mg C_Groups C_Keeper C_Desk)
  {f_l_begin : Addr} {fd_l_begin : FuncData} (G_l_begin : Dk P w K mg base "_law_begin" 1 ["_law_script"] (sp_l_begin K) f_l_begin fd_l_begin)
  {f_l_net : Addr} {fd_l_net : FuncData} (G_l_net : Dk P w K mg base "_law_net" 3 ["_law_state", "_law_most", "_law_ties_most"] sp_l_net f_l_net fd_l_net)
  {f_l_told : Addr} {fd_l_told : FuncData} (G_l_told : Dk P w K mg base "_law_told" 10 ["_law_desk", "_law_lines_here"] (sp_l_told C_Keeper C_Desk) f_l_told fd_l_told)
  {f_l_lines : Addr} {fd_l_lines : FuncData} (G_l_lines : Dk P w K mg base "_law_lines" 2 ["_law_state", "_law_net_here"] sp_l_lines f_l_lines fd_l_lines)
  {f_l_margin : Addr} {fd_l_margin : FuncData} (G_l_margin : Dk P w K mg base "_law_margin" 11 ["_law_desk", "_law_name", "_law_kept"] (sp_l_margin C_Keeper C_Desk) f_l_margin fd_l_margin)
  {f_Desk_say : Addr} {fd_Desk_say : FuncData} (G_Desk_say : Dm P w K mg base C_Desk "say" 9 ["self", "line"] (sp_Desk_say C_Keeper C_Desk) f_Desk_say fd_Desk_say)
  {f_Desk_init : Addr} {fd_Desk_init : FuncData} (M_Desk : Dc P w K mg base "Desk" C_Desk 4 ["self"] (sp_Desk_init C_Keeper C_Desk) f_Desk_init fd_Desk_init) : FnOk P w K mg base CX0 12 f fd ["_law_script"] (sp_law K) := by
  have sc := sc_law

  refine F.ok sc (fun vs H Q E h => ?_) (fun cdv A outer s H vs Q E hr h => ?_)
  · obtain ⟨a, ns, rfl, _⟩ := h; rfl
  · have hu := hu_of hr
    obtain ⟨a, ns, rfl, ha, hl, hQ⟩ := h
    refine ⟨_, PSs.nox (pss_cons (ps_set (i := 1) sc.nd rfl (Or.inl rfl) (pe_call G_l_begin.ok (hr.mono (by decide)) (by rfl) G_l_begin.mgf G_l_begin.kp G_l_begin.b .nil pass0 (pa_cons (pv 0) pa_nil)))
    (pss_cons (ps_for PassesOwn.never rfl (pi_range1 (by rfl) T.b_range (pa_cons (pe_op op_add pe_int (pe_callB (call_len_seqK (K := K) rfl) (by rfl) T.b_len (by decide +kernel) (pa_cons (pe_slice (sl_listK (K := K) rfl) (pv 0) po_none (po_some pe_int)) pa_nil))) pa_nil)) (pg_name (i := 2) sc.nd rfl (Or.inl rfl)) (pss_cons (ps_set (i := 3) sc.nd rfl (Or.inr rfl) (pe_call G_l_net.ok (hr.mono (by decide)) (by rfl) G_l_net.mgf G_l_net.kp G_l_net.b .nil pass0 (pa_cons (pv 1) (pa_cons pe_int (pa_cons pe_int pa_nil)))))
    (pss_cons (ps_set (i := 4) sc.nd rfl (Or.inr rfl) (pe_make0 M_Desk.mkc M_Desk.ok (hr.mono (by decide)) (by rfl) M_Desk.mgC M_Desk.b .nil pass0))
    (pss_cons (ps_set (i := 5) sc.nd rfl (Or.inr rfl) (pe_call G_l_told.ok (hr.mono (by decide)) (by rfl) G_l_told.mgf G_l_told.kp G_l_told.b .nil pass0 (pa_cons (pv 4) (pa_cons (pe_call G_l_lines.ok (hr.mono (by decide)) (by rfl) G_l_lines.mgf G_l_lines.kp G_l_lines.b .nil pass0 (pa_cons (pv 1) (pa_cons (pv 3) pa_nil))) pa_nil))))
    (pss_cons (ps_if (pt_cmp (pc_isN (pv 5))) (pss_one (ps_ret pe_bl)) pss_nil)
    (pss_cons (ps_if (pt_cmpR op_ne (pe_meth (pv 4) T.c_Desk G_Desk_say.m G_Desk_say.ok (hr.mono (by decide)) G_Desk_say.b .nil pass0 (pa_cons pe_str pa_nil)) (pe_callTy call_str_int (by rfl) T.b_str (by decide +kernel) (pa_cons (pe_callB (cr_sumK (K := K) rfl (by rfl)) (by rfl) T.b_sum (by decide +kernel) (pa_cons (pe_lc (own := [("_law_tie", 6)]) (by rfl) sc.nd (pi_tupK (K := K) rfl (pe_ix (ix_tupK (K := K) rfl) (pv 3) pe_int (fun _ _ => rfl))) (blkOk_by (N := ["_law_script", "_law_state", "_law_turn", "_law_net_here", "_law_desk", "_law_tree", "_law_tie", "_law_rows", "_law_place", "_law_waits"]) (sc := defScope s_law) (own := [("_law_tie", 6)]) (by decide +kernel)) (fun _ _ _ _ _ => (pg_name (i := 6) sc.nd rfl (Or.inl rfl))) (fun _ _ _ _ _ => (pts_one (pt_cmpR (op_in_seqK (K := K) rfl) (pe_ix (ix_tupK (K := K) rfl) (pv 6) pe_int (fun _ _ => rfl)) (pv 5) rfl))) (fun _ _ _ _ _ => (pe_ix (ix_tupK (K := K) rfl) (pv 6) pe_int (fun _ _ => rfl)))) pa_nil)) pa_nil)) (nomark _)) (pss_one (ps_ret pe_bl)) pss_nil)
    (pss_cons (ps_if (pt_not (pt_val (pe_callB (cr_allK (K := K) rfl (by rfl)) (by rfl) T.b_all (by decide +kernel) (pa_cons (pe_lc (own := [("_law_tie", 6)]) (by rfl) sc.nd (pi_tupK (K := K) rfl (pe_ix (ix_tupK (K := K) rfl) (pv 3) pe_int (fun _ _ => rfl))) (blkOk_by (N := ["_law_script", "_law_state", "_law_turn", "_law_net_here", "_law_desk", "_law_tree", "_law_tie", "_law_rows", "_law_place", "_law_waits"]) (sc := defScope s_law) (own := [("_law_tie", 6)]) (by decide +kernel)) (fun _ _ _ _ _ => (pg_name (i := 6) sc.nd rfl (Or.inl rfl))) (fun _ _ _ _ _ => pts_nil) (fun _ _ _ _ _ => (pe_call G_l_margin.ok (hr.mono (by decide)) (by rfl) G_l_margin.mgf G_l_margin.kp G_l_margin.b .nil pass0 (pa_cons (pv 4) (pa_cons (pe_ix (ix_tupK (K := K) rfl) (pv 6) pe_int (fun _ _ => rfl)) (pa_cons (pe_cmpR (op_in_seqK (K := K) rfl) (pe_ix (ix_tupK (K := K) rfl) (pv 6) pe_int (fun _ _ => rfl)) (pv 5) rfl) pa_nil)))))) pa_nil)))) (pss_one (ps_ret pe_bl)) pss_nil)
    (pss_cons (ps_setLc (i := 7) (own := [("_law_place", 8)]) rfl sc.nd rfl rfl (sw_true rfl rfl rfl (by decide +kernel)) (pi_tupK (K := K) rfl (pe_ix (ix_tupK (K := K) rfl) (pv 3) pe_int (fun _ _ => rfl))) (blkOk_by (N := ["_law_script", "_law_state", "_law_turn", "_law_net_here", "_law_desk", "_law_tree", "_law_tie", "_law_rows", "_law_place", "_law_waits"]) (sc := defScope s_law) (own := [("_law_place", 8)]) (by decide +kernel)) (fun _ _ _ _ _ => (pg_name (i := 8) sc.nd rfl (Or.inl rfl))) (fun _ _ _ _ _ => pts_nil) (fun _ _ _ _ _ => (pe_op op_add_str pe_str (pv 8))))
    (pss_cons (ps_set (i := 7) sc.nd rfl (Or.inl rfl) (pe_op op_cat (pv 7) (pe_lc (own := [("_law_tie", 6)]) (by rfl) sc.nd (pi_tupK (K := K) rfl (pe_ix (ix_tupK (K := K) rfl) (pv 3) pe_int (fun _ _ => rfl))) (blkOk_by (N := ["_law_script", "_law_state", "_law_turn", "_law_net_here", "_law_desk", "_law_tree", "_law_tie", "_law_rows", "_law_place", "_law_waits"]) (sc := defScope s_law) (own := [("_law_tie", 6)]) (by decide +kernel)) (fun _ _ _ _ _ => (pg_name (i := 6) sc.nd rfl (Or.inl rfl))) (fun _ _ _ _ _ => pts_nil) (fun _ _ _ _ _ => (pe_joinK (K := K) rfl pe_str (pe_op op_cat (pe_op op_cat (pe_lst (pa_cons pe_str pa_nil)) (pe_callTy (call_list_ofK (K := K) rfl) (by rfl) T.b_list (by decide +kernel) (pa_cons (pe_slice (sl_tupAK (K := K) rfl) (pv 6) po_none (po_some pe_int)) pa_nil))) (pe_lst (pa_cons (pe_callTy call_str_int (by rfl) T.b_str (by decide +kernel) (pa_cons (pe_ix (ix_tupK (K := K) rfl) (pv 6) pe_int (fun _ _ => rfl)) pa_nil)) pa_nil))))))))
    (pss_cons (ps_if (pt_cmpR op_ne (pe_meth (pv 4) T.c_Desk G_Desk_say.m G_Desk_say.ok (hr.mono (by decide)) G_Desk_say.b .nil pass0 (pa_cons pe_str pa_nil)) (pe_joinK (K := K) rfl pe_str (pv 7)) (nomark _)) (pss_one (ps_ret pe_bl)) pss_nil)
    (pss_cons (ps_setLc (i := 9) (own := [("_law_tie", 6)]) rfl sc.nd rfl rfl (sw_true rfl rfl rfl (by decide +kernel)) (pi_tupK (K := K) rfl (pe_ix (ix_tupK (K := K) rfl) (pv 3) pe_int (fun _ _ => rfl))) (blkOk_by (N := ["_law_script", "_law_state", "_law_turn", "_law_net_here", "_law_desk", "_law_tree", "_law_tie", "_law_rows", "_law_place", "_law_waits"]) (sc := defScope s_law) (own := [("_law_tie", 6)]) (by decide +kernel)) (fun _ _ _ _ _ => (pg_name (i := 6) sc.nd rfl (Or.inl rfl))) (fun _ _ _ _ _ => (pts_one (PW.pt (pw_or (pt_cmpR (op_notIn_seqK (K := K) rfl) (pe_ix (ix_tupK (K := K) rfl) (pv 6) pe_int (fun _ _ => rfl)) (pe_ix (ix_tupK (K := K) rfl) (pv 3) pe_int (fun _ _ => rfl)) rfl) (pw_or1 (pt_cmpR (op_notIn_seqK (K := K) rfl) (pe_ix (ix_tupK (K := K) rfl) (pv 6) pe_int (fun _ _ => rfl)) (pe_ix (ix_tupK (K := K) rfl) (pv 3) pe_int (fun _ _ => rfl)) rfl)))))) (fun _ _ _ _ _ => (pe_ix (ix_tupK (K := K) rfl) (pv 6) pe_int (fun _ _ => rfl))))
    (pss_one (ps_if (pt_cmpR op_ne (pe_meth (pv 4) T.c_Desk G_Desk_say.m G_Desk_say.ok (hr.mono (by decide)) G_Desk_say.b .nil pass0 (pa_cons pe_str pa_nil)) (pe_joinK (K := K) rfl pe_str (pv 9)) (nomark _)) (pss_one (ps_ret pe_bl)) pss_nil)))))))))))))
    (pss_one (ps_ret pe_bl)))), ?_⟩
    refine asg_run (run_callR (run_cons (run_ev (ev_var rfl) fun H1 e1 => run_nil ⟨a, ns, rfl, ex_l e1 ha, hl, fun s l H2 hs hl0 e2 st => ?_⟩)))
    obtain ⟨ms, hms, sub⟩ := cut_map (g := V.int) ns none (some 2)
    have msl : ms.length ≤ 63 := Nat.le_trans sub.length_le hl
    have hx : SqL K H2 a (ns.map V.int) := ex_l (e1.trans e2) ha
    refine q_forR1 (n := 1 + (ms.length : Int)) (ea_cons (ev_op ev_c (ev_lenNL (xs := ms.map V.int) (hms ▸ el_sl (ev_var rfl) eo_none (eo_some ev_c) hx)) (by rw [List.length_map]; exact rv_I0)) ea_nil) ⟨by omega, by omega⟩ (fun i σ' H' => ∃ v2 v3 v4 v5 v6 v7 v8 v9 : Option V, σ' = [some (.ref a), some (.ref s), v2, v3, v4, v5, v6, v7, v8, v9] ∧ StAt H' s l) ?_ ?_ ?_
    · exact fun H3 e3 => ⟨none, none, none, none, none, none, none, none, rfl, st.up e3⟩
    · rintro i σ' H3 hi ⟨v2, v3, v4, v5, v6, v7, v8, v9, rfl, st3⟩
      refine asg_run (run_callR (run_cons (run_ev (ev_var rfl) fun H4 e4 => run_cons (run_ev ev_c fun H5 e5 => run_cons (run_ev ev_c fun H6 e6 => run_nil ⟨s, l, rfl, st3.up (e4.trans (e5.trans e6)), fun na N H7 G fr7 st7 hN7 => ?_⟩)))))
      -- the desk
      refine q_make ea_nil fun H8 e8 d dx hd hdx nddx => ?_
      have st8 := st7.up e8
      obtain ⟨xs8, sd8, g1, g2, _⟩ := id st8
      have nds : d ≠ s := fun z => by rw [z, g1] at hd; cases hd
      have ndl : d ≠ l := fun z => by rw [z, g2] at hd; cases hd
      have eM : Ex H8 (upd (upd H8 dx (.own d)) d (.ins C_Desk dx [])) := Ex.mut (Ex.new hdx) hd
      refine ⟨d, dx, rfl, upd_same, fun k l2 H9 hk hl2 fr9 hD9 => ⟨rfl, ?_⟩⟩
      have e9 : ∀ b o, H8 b = some o → H9 b = some o := fun b o hb => fr9 b o (fun z => by rw [z, hd] at hb; cases hb) (eM b o hb)
      have hk8 : H8 k = none := fresh_back eM hk
      have hl8 : H8 l2 = none := fresh_back eM hl2
      have nks : k ≠ s := fun z => by rw [z, g1] at hk8; cases hk8
      have nkl : k ≠ l := fun z => by rw [z, g2] at hk8; cases hk8
      have nls : l2 ≠ s := fun z => by rw [z, g1] at hl8; cases hl8
      have nll : l2 ≠ l := fun z => by rw [z, g2] at hl8; cases hl8
      have st9 : StAt H9 s l := st8.up e9
      have hN9 : NetAt H9 na N := hN7.mono (Tups.ofEx (Ex.trans e8 e9))
      have apart : d ≠ s ∧ d ≠ l ∧ k ≠ s ∧ k ≠ l ∧ l2 ≠ s ∧ l2 ≠ l := ⟨nds, ndl, nks, nkl, nls, nll⟩
      -- the lines, told
      refine asg_run (run_callR (run_cons (run_ev (ev_var rfl) fun Ha ea => run_cons (run_callR (run_cons (run_ev (ev_var rfl) fun Hb eb => run_cons (run_ev (ev_var rfl) fun Hc ec => run_nil ?_))) ))))
      have e9c : Ex H9 Hc := ea.trans (eb.trans ec)
      refine ⟨s, l, na, N, rfl, st9.up e9c, hN9.mono (Tups.ofEx e9c), G, fun pll ds Hd hpll pm frd std hlines => run_nil ?_⟩
      have hDd : DeskAt C_Keeper C_Desk Hd d k l2 ⟨[], []⟩ [] := (hD9.up e9c).fr (st9.up e9c) frd apart
      have hNd : NetAt Hd na N := (hN9.mono (Tups.ofEx e9c)).mono ((st9.up e9c).tups frd)
      have npl2 : pll ≠ l2 := fun z => by
        obtain ⟨_, _, _, _, _, _, _, _, _, kk, _⟩ := hD9.up e9c
        rw [z, kk] at hpll; cases hpll
      refine ⟨d, k, l2, pll, N, ds, rfl, hDd, hlines, npl2, G, pm, fun r hist He fre hhl hDe hr nrl2 hr0 => ?_⟩
      have ste : StAt He s l := std.fr fre (Ne.symm nks) (Ne.symm nls) (Ne.symm nkl) (Ne.symm nll)
      have hNe : NetAt He na N := hNd.mono (hDd.tups fre)
      have ok := G.ok
      have nw := G.w
      have gt := G.tl
      have gp := G.pl
      refine q_when (b := false) (et_is (et_B (ev_isN (ev_var rfl))) rfl) (fun hb => by cases hb) (fun _ Hf ef => ?_)
      obtain ⟨pp, pq, hn1, hpp, psA, hpq, htsA⟩ := id (hNe.mono (Tups.ofEx ef))
      have hDf := hDe.up ef
      have hrf : StrsL Hf r (cheap N) := ef _ _ hr
      have n1E : ∀ {σ : L2.St} {H' : Hp}, Tups Hf H' → σ[3]? = some (some (.ref na)) → Ev (tOp (rIxT K) (tVar 3) (tC (.int 1))) σ H' (.ref pq) := fun e h => ev_ixT (ev_var h) (e _ _ hn1) rfl
      have n0E : ∀ {σ : L2.St} {H' : Hp}, Tups Hf H' → σ[3]? = some (some (.ref na)) → Ev (tOp (rIxT K) (tVar 3) (tC (.int 0))) σ H' (.ref pp) := fun e h => ev_ixT (ev_var h) (e _ _ hn1) rfl
      have inTree : ∀ {σ : L2.St} {H' : Hp} {pt : Addr} {t : Tie}, StrsL H' r (cheap N) → TieAt H' pt t → σ[6]? = some (some (.ref pt)) → σ[5]? = some (some (.ref r)) → Ev (tOp (rIn K false) (tOp (rIxT K) (tVar 6) (tC (.int 0))) (tVar 5)) σ H' (.bl (decide (t.n ∈ cheap N))) := fun {σ} {H'} {pt} {t} g1 g2 g3 g4 => by
        have key := rv_isL (K := K) (x := .str t.n) (H := H') (SqL.of g1) rfl (flat_strs (cheap N))
        rw [inV_str] at key
        exact ev_op (ev_tie g3 g2 rfl) (ev_var g4) key
      -- the sum
      refine q_when (b := false) (et_is (et_test (ev_op (ev_tell (tl := .sum) (ev_var rfl) (ev_is ev_c (congrArg V.str (line_tell .sum))) hDf ok nw) (ev_cb (z := .str (intS (costOf N))) (ea_cons (ev_sum (ns := (N.ts.filter fun t => decide (t.n ∈ cheap N)).map (·.c)) ((lr_tup (K := K) (RB := fun _ v (n : Int) => v = .int n) (ds := N.ts) (n1E (Tups.refl Hf) rfl) (SqT.of hpq) (ties_len htsA) (by omega) Stay.val (fun t => decide (t.n ∈ cheap N)) (·.c) (fun i x t hx hd => ?_)).imp fun ys H2 _ hy => Paired.vals hy)) ea_nil) fun H5 e5 Q q => ⟨_, rfl, ?_, ?_⟩) (rv_ne rfl))) ?_) (fun hb => by cases hb) (fun _ Hg eg => ?_)
      · obtain ⟨pt, rfl, ht⟩ := ties_get htsA hx hd
        exact ⟨et_test (inTree hrf ht rfl rfl), fun _ => EvR.of (ev_tie rfl ht rfl)⟩
      · rw [sum_eq ok]; exact log2_lt (costOf_lt ok nw)
      · rw [sum_eq ok]; exact q H5 (Ex.refl H5)
      · rw [dec_str]
        have : Tell.sum.text N = intS (costOf N) := rfl
        rw [this, decide_eq_true rfl]; rfl
      have tfg : Tups Hf Hg := Tups.ofEx eg
      have hDg := hDf.up eg
      have hrg : StrsL Hg r (cheap N) := eg _ _ hrf
      have nrk : r ≠ k := fun z => by
        obtain ⟨_, _, _, _, _, _, kk, _⟩ := hDg
        have hrg' : Hg r = some (.lst ((cheap N).map V.str)) := hrg
        rw [z, kk] at hrg'; cases hrg'
      -- the margins
      refine run_if (run_not (run_B (run_cb (run_cons (run_lcT (K := K) (n1E tfg rfl) (SqT.of (eg _ _ hpq)) fun Hh eh Dl hDl => ?_)))))
      have hDl0 : Hg Dl = none := fresh_back eh hDl
      have nDk : Dl ≠ k ∧ Dl ≠ l2 ∧ Dl ≠ d ∧ Dl ≠ r ∧ Dl ≠ s ∧ Dl ≠ l := by
        obtain ⟨_, k1, _, _, _, _, k2, _, _, k3, _⟩ := hDg
        obtain ⟨_, _, k4, k5, _⟩ := ste.up (ef.trans eg)
        have hrg' : Hg r = some (.lst ((cheap N).map V.str)) := hrg
        exact ⟨fun z => (by rw [z, k2] at hDl0; cases hDl0), fun z => (by rw [z, k3] at hDl0; cases hDl0), fun z => (by rw [z, k1] at hDl0; cases hDl0), fun z => (by rw [z, hrg'] at hDl0; cases hDl0), fun z => (by rw [z, k4] at hDl0; cases hDl0), fun z => (by rw [z, k5] at hDl0; cases hDl0)⟩
      refine ⟨fun i H' => Fr k l2 Hg H' ∧ DeskAt C_Keeper C_Desk H' d k l2 N hist ∧ H' Dl = some (.lst (List.replicate i (V.bl true))), ⟨Fr.of (Ex.mut eh hDl0), (hDg.up eh).up (Ex.new hDl), upd_same⟩, ?_, ?_, ?_⟩
      · rintro i H' ⟨fr, _, _⟩
        exact SqT.of ((hDg.tups fr) _ _ (eg _ _ hpq))
      · rintro i x H' hx ⟨fr, hD', hl'⟩
        have hi' : i < N.ts.length := by
          rw [← ties_len htsA]; exact (List.getElem?_eq_some_iff.mp hx).1
        have hd' : N.ts[i]? = some N.ts[i] := List.getElem?_eq_getElem hi'
        obtain ⟨pt, rfl, ht0⟩ := ties_get htsA hx hd'
        have tu : Tups Hf H' := tfg.trans (hDg.tups fr)
        have ht : TieAt H' pt N.ts[i] := tu _ _ ht0
        have hr' : StrsL H' r (cheap N) := fr _ _ hrg nrk nrl2
        refine ⟨rfl, et_yes H' (Ex.refl H') _ fun Hi ei => iteT ?_⟩
        refine run_callR (run_cons (run_ev (ev_var rfl) fun Hj ej => run_cons (run_ev (ev_tie (v := .str N.ts[i].n) rfl (ej _ _ (ei _ _ ht)) rfl) fun Hk ek => run_cons (run_ev (inTree (ek _ _ (ej _ _ (ei _ _ hr'))) (ek _ _ (ej _ _ (ei _ _ ht))) rfl rfl) fun Hl el => run_nil ?_))))
        have eil := ei.trans (ej.trans (ek.trans el))
        refine ⟨d, k, l2, N, hist, N.ts[i], _, rfl, hD'.up eil, List.getElem_mem hi', ok, nw, G.nl, by omega, rfl, by omega, fun Hm frm hDm => ?_⟩
        have hlm : Hm Dl = some (.lst (List.replicate i (V.bl true))) := frm _ _ (eil _ _ hl') nDk.1 nDk.2.1
        refine ⟨_, hlm, sz_lt (by rw [List.length_replicate]; omega), ?_, desk_upd hDm nDk.2.2.1 nDk.1 nDk.2.1 hlm, ?_⟩
        · intro b o hb n1 n2
          rw [upd_ne (fun z => by rw [z, hDl0] at hb; cases hb)]
          exact frm _ _ (eil _ _ (fr b o hb n1 n2)) n1 n2
        · rw [upd_same, List.replicate_succ']
      rintro Hn ⟨frn, hDn, hln⟩
      refine run_nil ⟨Dl, List.replicate (psA.map V.ref).length true, rfl, SqL.of (by rw [hln, List.map_replicate]), _, rfl, ?_⟩
      rw [all_true]
      refine iteF ?_
      have tfn : Tups Hf Hn := tfg.trans (hDg.tups frn)
      have stn : StAt Hn s l := ((ste.up ef).up eg).fr frn (Ne.symm nks) (Ne.symm nls) (Ne.symm nkl) (Ne.symm nll)
      have htsN : Paired (TieAt Hn) psA N.ts := ties_mono tfn htsA
      -- the net's text
      refine q_asgL (xs := (N.ps.map rowP).map V.str) (EvLR.el ((lr_tup (K := K) (RB := fun _ v (z : Str) => v = .str z) (ds := N.ps) (n0E tfn rfl) (SqT.of (tfn _ _ hpp)) (by rw [List.length_map]) (by omega) Stay.val (fun _ => true) rowP (fun i x z hx hd => ?_)).imp fun ys H2 _ hy => ?_)) fun p7 Ho hp7 eo ho => ?_
      · have ex : x = .str z := by
          rw [List.getElem?_map, hd] at hx
          exact (Option.some.inj hx).symm
        subst ex
        refine ⟨et_yes, fun _ => EvR.of (ev_op ev_c (ev_var rfl) (rv_addS ?_))⟩
        have h1 := (nw.ps z (List.mem_of_getElem? hd)).2.1
        have h2 : (Str.ofString "place ").length = 6 := by decide +kernel
        omega
      · rw [List.filter_eq_self.mpr fun _ _ => rfl] at hy; exact Paired.vals hy
      have tfo : Tups Hf Ho := tfn.trans (Tups.ofEx eo)
      have htsO : Paired (TieAt Ho) psA N.ts := ties_mono tfo htsA
      refine q_asgL (xs := (netRows N).map V.str) (el_is (el_catE (xs := (N.ps.map rowP).map V.str) (ys := (N.ts.map rowT).map V.str) (ev_var rfl) ho (EvLR.el ((lr_tup (K := K) (RB := fun _ v (z : Str) => v = .str z) (ds := N.ts) (n1E tfo rfl) (SqT.of (tfo _ _ hpq)) (ties_len htsO) (by omega) Stay.val (fun _ => true) rowT (fun i x t hx hd => ?_)).imp fun ys H2 _ hy => ?_)) ?_) ?_) fun p7 Hp hp7 ep hp7r => ?_
      · obtain ⟨pt, rfl, ht⟩ := ties_get htsO hx hd
        have hm := List.mem_of_getElem? hd
        refine ⟨et_yes, fun _ => EvR.of (ev_join (ys := rowW t) ?_ (join_ok (m := 31) (n := 5) (rowW_len nw hm) (Nat.le_refl _) (by decide +kernel)))⟩
        have e0 : (rowW t).map V.str = ([V.str "tie"] ++ (t.row.map Sc.v).take 3) ++ [V.str (intS t.c)] := rfl
        rw [e0]
        refine el_cat (el_cat (el_lst (ea_cons ev_c ea_nil) (by show 1 ≤ 100000; decide)) (el_listR (er_slA (k := 3) (ev_var rfl) ht)) (by show 1 + 3 ≤ 100000; decide)) (el_lst (ea_cons (ev_cb (ea_cons (ev_tie (v := .int t.c) rfl ht rfl) ea_nil) fun H5 e5 Q q => ⟨_, rfl, log2_lt (Nat.lt_of_lt_of_le (nw.c _ hm) p30), q H5 (Ex.refl H5)⟩) ea_nil) (by show 1 ≤ 100000; decide)) (by show 4 + 1 ≤ 100000; decide)
      · rw [List.filter_eq_self.mpr fun _ _ => rfl] at hy; exact Paired.vals hy
      · simp only [List.length_map]; omega
      · unfold netRows; rw [List.map_append]
      have e2p := eo.trans ep
      refine q_when (b := false) (et_is (et_test (ev_op (ev_tell (tl := .net) (ev_var rfl) (ev_is ev_c (congrArg V.str (line_tell .net))) (hDn.up e2p) ok nw) (ev_joinE (ys := netRows N) (ev_var rfl) hp7r (join_ok (m := 160) (n := 120) (netRows_len nw) (netRows_num ok) (by decide +kernel))) (rv_ne rfl))) ?_) (fun hb => by cases hb) (fun _ Hq eq => ?_)
      · rw [dec_str, net_told nw, decide_eq_true rfl]; rfl
      have e2q := e2p.trans eq
      have tfq : Tups Hf Hq := tfn.trans (Tups.ofEx e2q)
      have htsQ : Paired (TieAt Hq) psA N.ts := ties_mono tfq htsA
      have hppQ : Hq pp = some (.tup (N.ps.map V.str)) := tfq _ _ hpp
      refine q_asgL (xs := (waits N).map V.str) (EvLR.el ((lr_tup (K := K) (RB := fun _ v (z : Str) => v = .str z) (ds := N.ts) (n1E tfq rfl) (SqT.of (tfq _ _ hpq)) (ties_len htsQ) (by omega) Stay.val (fun t => !openB N t) (·.n) (fun i x t hx hd => ?_)).imp fun ys H2 _ hy => Paired.vals hy)) fun p9 Hr hp9 er hr9 => ?_
      · obtain ⟨pt, rfl, ht⟩ := ties_get htsQ hx hd
        refine ⟨et_is (et_or (et_test (ev_op (ev_tie rfl ht rfl) (n0E tfq rfl) (rv_niT (SqT.of hppQ) rfl (flat_strs _)))) (fun _ => et_test (ev_op (ev_tie rfl ht rfl) (n0E tfq rfl) (rv_niT (SqT.of hppQ) rfl (flat_strs _))))) ?_, fun _ => EvR.of (ev_tie rfl ht rfl)⟩
        show (!inV (.str t.a) (N.ps.map V.str) || !inV (.str t.b) (N.ps.map V.str)) = _
        rw [inV_str, inV_str]
        unfold openB
        rw [Bool.not_and]
      have wl : (waits N).length ≤ N.ts.length := by
        unfold waits
        rw [List.length_map]; exact List.length_filter_le _ _
      refine s_when (b := false) (et_is (et_test (ev_op (ev_tell (tl := .wait) (ev_var rfl) (ev_is ev_c (congrArg V.str (line_tell .wait))) (hDn.up (e2q.trans er)) ok nw) (ev_joinE (ys := waits N) (ev_var rfl) hr9 (join_ok (m := 8) (n := 60) (fun z hz => ?_) (by omega) (by decide +kernel))) (rv_ne rfl))) ?_) (fun hb => by cases hb) (fun _ Hs es => ?_)
      · obtain ⟨t, ht, rfl⟩ := List.mem_map.mp hz
        exact (nw.n t (List.mem_filter.mp ht).1).2.1
      · rw [dec_str]
        have : Tell.wait.text N = Txt.join " " (waits N) := rfl
        rw [this, decide_eq_true rfl]; rfl
      exact ⟨_, _, _, _, _, _, _, _, rfl, stn.up (e2q.trans (er.trans es))⟩
    · rintro σ' H3 ⟨v2, v3, v4, v5, v6, v7, v8, v9, rfl, st3⟩
      exact s_ret ev_c fun H4 _ => hQ H4
end
end Ct
end

section
set_option Elab.async false
set_option linter.all false
set_option maxRecDepth 100000
set_option maxHeartbeats 4000000
namespace Ct
open PySem PySem.Spec PyProof.Rows L2
section
variable {P : Program} {w : World} {K : PySem.W.Frag} {h : Heap} {mg : Str → Option Value} {base : Heap}
theorem txt_of (X : K.In h) (G : h.Ns mainGlobals mg) (c : He.SaysT faL fnL tsL w K) (x : exL K = true) : Txt w K mg (He.ga K "Groups") (He.ga K "Keeper") (He.ga K "Desk") := by
  obtain ⟨x1, x2⟩ := He.ba (show (He.valsB K (He.ga K "SIZES") kv_SIZES && (He.valsB K (He.ga K "FORMS") kv_FORMS && He.tupB K "DEEDS" dv_DEEDS)) = true from x)
  obtain ⟨x2, x3⟩ := He.ba x2
  obtain ⟨es1, n1, D1⟩ := c.tab 0 (t := ((fun K => He.ga K "SIZES"), kv_SIZES.map (·.1))) rfl
  obtain ⟨es2, n2, D2⟩ := c.tab 1 (t := ((fun K => He.ga K "FORMS"), kv_FORMS.map (·.1))) rfl
  exact {
    b_isinstance := He.free_ok X G (c.d.fact 53 (f := .free "isinstance") rfl)
    b_int := He.free_ok X G (c.d.fact 54 (f := .free "int") rfl)
    b_bool := He.free_ok X G (c.d.fact 55 (f := .free "bool") rfl)
    b_str := He.free_ok X G (c.d.fact 56 (f := .free "str") rfl)
    b_tuple := He.free_ok X G (c.d.fact 57 (f := .free "tuple") rfl)
    b_len := He.free_ok X G (c.d.fact 58 (f := .free "len") rfl)
    b_all := He.free_ok X G (c.d.fact 59 (f := .free "all") rfl)
    b_dict := He.free_ok X G (c.d.fact 60 (f := .free "dict") rfl)
    b_list := He.free_ok X G (c.d.fact 61 (f := .free "list") rfl)
    b_sorted := He.free_ok X G (c.d.fact 62 (f := .free "sorted") rfl)
    b_min := He.free_ok X G (c.d.fact 63 (f := .free "min") rfl)
    b_max := He.free_ok X G (c.d.fact 64 (f := .free "max") rfl)
    b_sum := He.free_ok X G (c.d.fact 65 (f := .free "sum") rfl)
    b_range := He.free_ok X G (c.d.fact 66 (f := .free "range") rfl)
    b_abs := He.free_ok X G (c.d.fact 67 (f := .free "abs") rfl)
    b_zip := He.free_ok X G (c.d.fact 68 (f := .free "zip") rfl)
    v_LETTERS := He.str_ok X G (c.d.fact 50 (f := .str "LETTERS" "abcdefghijklmnopqrstuvwxyz") rfl)
    v_FIGURES := He.str_ok X G (c.d.fact 51 (f := .str "FIGURES" "0123456789") rfl)
    v_MOST_LETTERS := He.int_ok X G (c.d.fact 52 (f := .int "MOST_LETTERS" 8) rfl)
    c_Groups := He.cls_ok (c.d.fact 69 (f := .cls "Groups") rfl)
    c_Keeper := He.cls_ok (c.d.fact 71 (f := .cls "Keeper") rfl)
    c_Desk := He.cls_ok (c.d.fact 73 (f := .cls "Desk") rfl)
    a_label := He.noat_ok (c.d.fact 86 (f := .noat "Groups" "label") rfl)
    a_now := He.noat_ok (c.d.fact 87 (f := .noat "Keeper" "now") rfl)
    a_kept := He.noat_ok (c.d.fact 88 (f := .noat "Keeper" "kept") rfl)
    a_past := He.noat_ok (c.d.fact 89 (f := .noat "Keeper" "past") rfl)
    a_keeper := He.noat_ok (c.d.fact 90 (f := .noat "Desk" "keeper") rfl)
    k_SIZES := ⟨He.ga K "SIZES", es1, n1, He.glo_ok X G (c.d.fact 47 (f := .glo "SIZES") rfl), D1, x1⟩
    k_FORMS := ⟨He.ga K "FORMS", es2, n2, He.glo_ok X G (c.d.fact 48 (f := .glo "FORMS") rfl), D2, x2⟩
    m_DEEDS := ⟨He.ga K "DEEDS", He.glo_ok X G (c.d.fact 49 (f := .glo "DEEDS") rfl), fun H => He.tupB_ok x3 H⟩ }
theorem facts {f : Addr} (X : K.In h) (G : h.Ns mainGlobals mg) (hfa : mg ("law" : Str) = some (.ref f)) (c : He.SaysT faL fnL tsL w K) (x : exL K = true) :
    ∃ fd : FuncData, (∀ (s : Shared) (v : Value), BindsTo s fd ⟨[v], []⟩ [("_law_script", v)]) ∧ ∀ base : Heap, K.In base → base.Ns mainGlobals mg → FnOk P w K mg base CX0 12 f fd ["_law_script"] (sp_law K) := by
  have T := txt_of X G c x
  obtain ⟨fd_l_begin, F_l_begin⟩ := c.d.def_ 43 (d := d_l_begin) rfl
  obtain ⟨fd_l_next, F_l_next⟩ := c.d.def_ 44 (d := d_l_next) rfl
  obtain ⟨fd_l_words, F_l_words⟩ := c.d.def_ 45 (d := d_l_words) rfl
  obtain ⟨fd_l_ends, F_l_ends⟩ := c.d.def_ 47 (d := d_l_ends) rfl
  obtain ⟨fd_l_cost, F_l_cost⟩ := c.d.def_ 46 (d := d_l_cost) rfl
  obtain ⟨fd_l_net, F_l_net⟩ := c.d.def_ 48 (d := d_l_net) rfl
  obtain ⟨fd_l_words_of, F_l_words_of⟩ := c.d.def_ 51 (d := d_l_words_of) rfl
  obtain ⟨fd_l_moved, F_l_moved⟩ := c.d.def_ 52 (d := d_l_moved) rfl
  obtain ⟨fd_l_way, F_l_way⟩ := c.d.def_ 49 (d := d_l_way) rfl
  obtain ⟨fd_l_is_cheapest, F_l_is_cheapest⟩ := c.d.def_ 50 (d := d_l_is_cheapest) rfl
  obtain ⟨fd_is_word, F_is_word⟩ := c.d.def_ 1 (d := d_is_word) rfl
  obtain ⟨fd_number_in, F_number_in⟩ := c.d.def_ 32 (d := d_number_in) rfl
  obtain ⟨fd_thing_in, F_thing_in⟩ := c.d.def_ 33 (d := d_thing_in) rfl
  obtain ⟨fd_order_in, F_order_in⟩ := c.d.def_ 34 (d := d_order_in) rfl
  obtain ⟨fd_exchange_text, F_exchange_text⟩ := c.d.def_ 35 (d := d_exchange_text) rfl
  obtain ⟨fd_price, F_price⟩ := c.d.def_ 6 (d := d_price) rfl
  obtain ⟨fd_is_open, F_is_open⟩ := c.d.def_ 3 (d := d_is_open) rfl
  obtain ⟨fd_opened, F_opened⟩ := c.d.def_ 4 (d := d_opened) rfl
  obtain ⟨fd_Groups_joins, F_Groups_joins⟩ := c.d.def_ 9 (d := d_Groups_joins) rfl
  obtain ⟨fd_Groups_init, F_Groups_init⟩ := c.d.def_ 8 (d := d_Groups_init) rfl
  obtain ⟨fd_cheapest, F_cheapest⟩ := c.d.def_ 12 (d := d_cheapest) rfl
  obtain ⟨fd_is_whole, F_is_whole⟩ := c.d.def_ 0 (d := d_is_whole) rfl
  obtain ⟨fd_is_deed, F_is_deed⟩ := c.d.def_ 17 (d := d_is_deed) rfl
  obtain ⟨fd_tie_of, F_tie_of⟩ := c.d.def_ 7 (d := d_tie_of) rfl
  obtain ⟨fd_look_deed, F_look_deed⟩ := c.d.def_ 18 (d := d_look_deed) rfl
  obtain ⟨fd_with_tie, F_with_tie⟩ := c.d.def_ 19 (d := d_with_tie) rfl
  obtain ⟨fd_without_tie, F_without_tie⟩ := c.d.def_ 20 (d := d_without_tie) rfl
  obtain ⟨fd_changed, F_changed⟩ := c.d.def_ 21 (d := d_changed) rfl
  obtain ⟨fd_without, F_without⟩ := c.d.def_ 22 (d := d_without) rfl
  obtain ⟨fd_exchange, F_exchange⟩ := c.d.def_ 23 (d := d_exchange) rfl
  obtain ⟨fd_exchanged, F_exchanged⟩ := c.d.def_ 24 (d := d_exchanged) rfl
  obtain ⟨fd_Keeper_do, F_Keeper_do⟩ := c.d.def_ 26 (d := d_Keeper_do) rfl
  obtain ⟨fd_Desk_done, F_Desk_done⟩ := c.d.def_ 39 (d := d_Desk_done) rfl
  obtain ⟨fd_Keeper_back, F_Keeper_back⟩ := c.d.def_ 27 (d := d_Keeper_back) rfl
  obtain ⟨fd_Desk_gone_back, F_Desk_gone_back⟩ := c.d.def_ 40 (d := d_Desk_gone_back) rfl
  obtain ⟨fd_dearest_of, F_dearest_of⟩ := c.d.def_ 15 (d := d_dearest_of) rfl
  obtain ⟨fd_way, F_way⟩ := c.d.def_ 11 (d := d_way) rfl
  obtain ⟨fd_cost_within, F_cost_within⟩ := c.d.def_ 13 (d := d_cost_within) rfl
  obtain ⟨fd_coming_in, F_coming_in⟩ := c.d.def_ 14 (d := d_coming_in) rfl
  obtain ⟨fd_margin, F_margin⟩ := c.d.def_ 16 (d := d_margin) rfl
  obtain ⟨fd_margin_text, F_margin_text⟩ := c.d.def_ 36 (d := d_margin_text) rfl
  obtain ⟨fd_Keeper_net, F_Keeper_net⟩ := c.d.def_ 28 (d := d_Keeper_net) rfl
  obtain ⟨fd_Desk_asked, F_Desk_asked⟩ := c.d.def_ 41 (d := d_Desk_asked) rfl
  obtain ⟨fd_waiting, F_waiting⟩ := c.d.def_ 5 (d := d_waiting) rfl
  obtain ⟨fd_net_text, F_net_text⟩ := c.d.def_ 31 (d := d_net_text) rfl
  obtain ⟨fd_Keeper_tree, F_Keeper_tree⟩ := c.d.def_ 29 (d := d_Keeper_tree) rfl
  obtain ⟨fd_cost_of, F_cost_of⟩ := c.d.def_ 10 (d := d_cost_of) rfl
  obtain ⟨fd_Keeper_cost, F_Keeper_cost⟩ := c.d.def_ 30 (d := d_Keeper_cost) rfl
  obtain ⟨fd_Desk_told, F_Desk_told⟩ := c.d.def_ 42 (d := d_Desk_told) rfl
  obtain ⟨fd_Desk_say, F_Desk_say⟩ := c.d.def_ 38 (d := d_Desk_say) rfl
  obtain ⟨fd_l_told, F_l_told⟩ := c.d.def_ 56 (d := d_l_told) rfl
  obtain ⟨fd_l_lines, F_l_lines⟩ := c.d.def_ 55 (d := d_l_lines) rfl
  obtain ⟨fd_l_at, F_l_at⟩ := c.d.def_ 53 (d := d_l_at) rfl
  obtain ⟨fd_l_margin, F_l_margin⟩ := c.d.def_ 54 (d := d_l_margin) rfl
  obtain ⟨fd_empty, F_empty⟩ := c.d.def_ 2 (d := d_empty) rfl
  obtain ⟨fd_Keeper_init, F_Keeper_init⟩ := c.d.def_ 25 (d := d_Keeper_init) rfl
  obtain ⟨fd_Desk_init, F_Desk_init⟩ := c.d.def_ 37 (d := d_Desk_init) rfl
  obtain ⟨fd_law, F_law⟩ := c.d.def_ 57 (d := d_law) rfl
  have e := hfa.symm.trans (He.glo_ok X G (c.d.fact 43 (f := .glo "law") rfl))
  cases e
  refine ⟨fd_law, fun s v => FunD.bindsA (ps := ["_law_script"]) F_law (fun _ _ _ _ _ _ us hl => match us, hl with | [_], _ => rfl) s [v] rfl, fun base _ _ => ?_⟩
  have G_l_begin : Dk P w K mg base "_law_begin" 1 ["_law_script"] (sp_l_begin K) (He.ga K "_law_begin") fd_l_begin := ⟨ok_l_begin F_l_begin T, He.glo_ok X G (c.d.fact 29 (f := .glo "_law_begin") rfl), F_l_begin.kp, F_l_begin.bindsN (ps := ["_law_script"]) fun _ _ _ _ _ _ us hl => match us, hl with | [_], _ => rfl⟩
  have G_l_next : Dk P w K mg base "_law_next" 1 ["_law_state", "_law_many"] sp_l_next (He.ga K "_law_next") fd_l_next := ⟨ok_l_next F_l_next T, He.glo_ok X G (c.d.fact 30 (f := .glo "_law_next") rfl), F_l_next.kp, F_l_next.bindsN (ps := ["_law_state", "_law_many"]) fun _ _ _ _ _ _ us hl => match us, hl with | [_, _], _ => rfl⟩
  have G_l_words : Dk P w K mg base "_law_words" 2 ["_law_state", "_law_many"] sp_l_words (He.ga K "_law_words") fd_l_words := ⟨ok_l_words F_l_words T G_l_next, He.glo_ok X G (c.d.fact 31 (f := .glo "_law_words") rfl), F_l_words.kp, F_l_words.bindsN (ps := ["_law_state", "_law_many"]) fun _ _ _ _ _ _ us hl => match us, hl with | [_, _], _ => rfl⟩
  have G_l_ends : Dk P w K mg base "_law_ends" 2 ["_law_state", "_law_family", "_law_many", "_law_k"] sp_l_ends (He.ga K "_law_ends") fd_l_ends := ⟨ok_l_ends F_l_ends T G_l_next, He.glo_ok X G (c.d.fact 33 (f := .glo "_law_ends") rfl), F_l_ends.kp, F_l_ends.bindsN (ps := ["_law_state", "_law_family", "_law_many", "_law_k"]) fun _ _ _ _ _ _ us hl => match us, hl with | [_, _, _, _], _ => rfl⟩
  have G_l_cost : Dk P w K mg base "_law_cost" 2 ["_law_state", "_law_sort"] sp_l_cost (He.ga K "_law_cost") fd_l_cost := ⟨ok_l_cost F_l_cost T G_l_next, He.glo_ok X G (c.d.fact 32 (f := .glo "_law_cost") rfl), F_l_cost.kp, F_l_cost.bindsN (ps := ["_law_state", "_law_sort"]) fun _ _ _ _ _ _ us hl => match us, hl with | [_, _], _ => rfl⟩
  have G_l_net : Dk P w K mg base "_law_net" 3 ["_law_state", "_law_most", "_law_ties_most"] sp_l_net (He.ga K "_law_net") fd_l_net := ⟨ok_l_net F_l_net T G_l_next G_l_words G_l_ends G_l_cost, He.glo_ok X G (c.d.fact 34 (f := .glo "_law_net") rfl), F_l_net.kp, F_l_net.bindsN (ps := ["_law_state", "_law_most", "_law_ties_most"]) fun _ _ _ _ _ _ us hl => match us, hl with | [_, _, _], _ => rfl⟩
  have G_l_words_of : Dk P w K mg base "_law_words_of" 1 ["_law_text"] sp_l_words_of (He.ga K "_law_words_of") fd_l_words_of := ⟨ok_l_words_of F_l_words_of T, He.glo_ok X G (c.d.fact 37 (f := .glo "_law_words_of") rfl), F_l_words_of.kp, F_l_words_of.bindsN (ps := ["_law_text"]) fun _ _ _ _ _ _ us hl => match us, hl with | [_], _ => rfl⟩
  have G_l_moved : Dk P w K mg base "_law_moved" 2 ["_law_tree", "_law_told_here"] sp_l_moved (He.ga K "_law_moved") fd_l_moved := ⟨ok_l_moved F_l_moved T G_l_words_of, He.glo_ok X G (c.d.fact 38 (f := .glo "_law_moved") rfl), F_l_moved.kp, F_l_moved.bindsN (ps := ["_law_tree", "_law_told_here"]) fun _ _ _ _ _ _ us hl => match us, hl with | [_, _], _ => rfl⟩
  have G_l_way : Dk P w K mg base "_law_way" 1 ["_law_ties", "_law_names", "_law_one", "_law_other"] sp_l_way (He.ga K "_law_way") fd_l_way := ⟨ok_l_way F_l_way T, He.glo_ok X G (c.d.fact 35 (f := .glo "_law_way") rfl), F_l_way.kp, F_l_way.bindsN (ps := ["_law_ties", "_law_names", "_law_one", "_law_other"]) fun _ _ _ _ _ _ us hl => match us, hl with | [_, _, _, _], _ => rfl⟩
  have G_l_is_cheapest : Dk P w K mg base "_law_is_cheapest" 2 ["_law_net_here", "_law_names"] sp_l_is_cheapest (He.ga K "_law_is_cheapest") fd_l_is_cheapest := ⟨ok_l_is_cheapest F_l_is_cheapest T G_l_way, He.glo_ok X G (c.d.fact 36 (f := .glo "_law_is_cheapest") rfl), F_l_is_cheapest.kp, F_l_is_cheapest.bindsN (ps := ["_law_net_here", "_law_names"]) fun _ _ _ _ _ _ us hl => match us, hl with | [_, _], _ => rfl⟩
  have G_is_word : Dk P w K mg base "is_word" 1 ["thing"] sp_is_word (He.ga K "is_word") fd_is_word := ⟨ok_is_word F_is_word T, He.glo_ok X G (c.d.fact 1 (f := .glo "is_word") rfl), F_is_word.kp, F_is_word.bindsN (ps := ["thing"]) fun _ _ _ _ _ _ us hl => match us, hl with | [_], _ => rfl⟩
  have G_number_in : Dk P w K mg base "number_in" 1 ["word"] sp_number_in (He.ga K "number_in") fd_number_in := ⟨ok_number_in F_number_in T, He.glo_ok X G (c.d.fact 24 (f := .glo "number_in") rfl), F_number_in.kp, F_number_in.bindsN (ps := ["word"]) fun _ _ _ _ _ _ us hl => match us, hl with | [_], _ => rfl⟩
  have G_thing_in : Dk P w K mg base "thing_in" 2 ["sign", "word"] sp_thing_in (He.ga K "thing_in") fd_thing_in := ⟨ok_thing_in F_thing_in T G_is_word G_number_in, He.glo_ok X G (c.d.fact 25 (f := .glo "thing_in") rfl), F_thing_in.kp, F_thing_in.bindsN (ps := ["sign", "word"]) fun _ _ _ _ _ _ us hl => match us, hl with | [_, _], _ => rfl⟩
  have G_order_in : Dk P w K mg base "order_in" 3 ["line"] sp_order_in (He.ga K "order_in") fd_order_in := ⟨ok_order_in F_order_in T G_thing_in, He.glo_ok X G (c.d.fact 26 (f := .glo "order_in") rfl), F_order_in.kp, F_order_in.bindsN (ps := ["line"]) fun _ _ _ _ _ _ us hl => match us, hl with | [_], _ => rfl⟩
  have G_exchange_text : Dk P w K mg base "exchange_text" 1 ["pair"] sp_exchange_text (He.ga K "exchange_text") fd_exchange_text := ⟨ok_exchange_text F_exchange_text T, He.glo_ok X G (c.d.fact 27 (f := .glo "exchange_text") rfl), F_exchange_text.kp, F_exchange_text.bindsN (ps := ["pair"]) fun _ _ _ _ _ _ us hl => match us, hl with | [_], _ => rfl⟩
  have G_price : Dk P w K mg base "price" 1 ["tie"] spPrice (He.ga K "price") fd_price := ⟨ok_price F_price T, He.glo_ok X G (c.d.fact 6 (f := .glo "price") rfl), F_price.kp, F_price.bindsN (ps := ["tie"]) fun _ _ _ _ _ _ us hl => match us, hl with | [_], _ => rfl⟩
  have G_is_open : Dk P w K mg base "is_open" 1 ["net", "tie"] sp_is_open (He.ga K "is_open") fd_is_open := ⟨ok_is_open F_is_open T, He.glo_ok X G (c.d.fact 3 (f := .glo "is_open") rfl), F_is_open.kp, F_is_open.bindsN (ps := ["net", "tie"]) fun _ _ _ _ _ _ us hl => match us, hl with | [_, _], _ => rfl⟩
  have G_opened : Dk P w K mg base "opened" 2 ["net"] sp_opened (He.ga K "opened") fd_opened := ⟨ok_opened F_opened T G_is_open, He.glo_ok X G (c.d.fact 4 (f := .glo "opened") rfl), F_opened.kp, F_opened.bindsN (ps := ["net"]) fun _ _ _ _ _ _ us hl => match us, hl with | [_], _ => rfl⟩
  have G_Groups_joins : Dm P w K mg base (He.ga K "Groups") "joins" 1 ["self", "one", "other"] (sp_Groups_joins (He.ga K "Groups")) (He.ma K (He.ga K "Groups") "joins") fd_Groups_joins := ⟨ok_Groups_joins F_Groups_joins T, He.meth_ok (c.d.fact 75 (f := .meth "Groups" "joins") rfl), F_Groups_joins.bindsN (ps := ["self", "one", "other"]) fun _ _ _ _ _ _ us hl => match us, hl with | [_, _, _], _ => rfl⟩
  have M_Groups : Dc P w K mg base "Groups" (He.ga K "Groups") 1 ["self", "places"] (sp_Groups_init (He.ga K "Groups")) (He.ma K (He.ga K "Groups") "__init__") fd_Groups_init := ⟨ok_Groups_init F_Groups_init T, He.mkr_ok (c.d.fact 70 (f := .mkr "Groups") rfl), He.glo_ok X G (c.d.fact 44 (f := .glo "Groups") rfl), F_Groups_init.bindsN (ps := ["self", "places"]) fun _ _ _ _ _ _ us hl => match us, hl with | [_, _], _ => rfl⟩
  have G_cheapest : Dk P w K mg base "cheapest" 5 ["net"] sp_cheapest (He.ga K "cheapest") fd_cheapest := ⟨ok_cheapest F_cheapest T G_price G_opened G_Groups_joins M_Groups, He.glo_ok X G (c.d.fact 10 (f := .glo "cheapest") rfl), F_cheapest.kp, F_cheapest.bindsN (ps := ["net"]) fun _ _ _ _ _ _ us hl => match us, hl with | [_], _ => rfl⟩
  have G_is_whole : Dk P w K mg base "is_whole" 1 ["thing"] sp_is_whole (He.ga K "is_whole") fd_is_whole := ⟨ok_is_whole F_is_whole T, He.glo_ok X G (c.d.fact 0 (f := .glo "is_whole") rfl), F_is_whole.kp, F_is_whole.bindsN (ps := ["thing"]) fun _ _ _ _ _ _ us hl => match us, hl with | [_], _ => rfl⟩
  have G_is_deed : Dk P w K mg base "is_deed" 2 ["thing"] sp_is_deed (He.ga K "is_deed") fd_is_deed := ⟨ok_is_deed F_is_deed T G_is_word G_is_whole, He.glo_ok X G (c.d.fact 15 (f := .glo "is_deed") rfl), F_is_deed.kp, F_is_deed.bindsN (ps := ["thing"]) fun _ _ _ _ _ _ us hl => match us, hl with | [_], _ => rfl⟩
  have G_tie_of : Dk P w K mg base "tie_of" 1 ["net", "name"] sp_tie_of (He.ga K "tie_of") fd_tie_of := ⟨ok_tie_of F_tie_of T, He.glo_ok X G (c.d.fact 7 (f := .glo "tie_of") rfl), F_tie_of.kp, F_tie_of.bindsN (ps := ["net", "name"]) fun _ _ _ _ _ _ us hl => match us, hl with | [_, _], _ => rfl⟩
  have G_look_deed : Dk P w K mg base "look_deed" 3 ["net", "deed"] sp_look_deed (He.ga K "look_deed") fd_look_deed := ⟨ok_look_deed F_look_deed T G_is_deed G_tie_of, He.glo_ok X G (c.d.fact 16 (f := .glo "look_deed") rfl), F_look_deed.kp, F_look_deed.bindsN (ps := ["net", "deed"]) fun _ _ _ _ _ _ us hl => match us, hl with | [_, _], _ => rfl⟩
  have G_with_tie : Dk P w K mg base "with_tie" 1 ["ties", "tie"] sp_with_tie (He.ga K "with_tie") fd_with_tie := ⟨ok_with_tie F_with_tie T, He.glo_ok X G (c.d.fact 17 (f := .glo "with_tie") rfl), F_with_tie.kp, F_with_tie.bindsN (ps := ["ties", "tie"]) fun _ _ _ _ _ _ us hl => match us, hl with | [_, _], _ => rfl⟩
  have G_without_tie : Dk P w K mg base "without_tie" 1 ["ties", "name"] sp_without_tie (He.ga K "without_tie") fd_without_tie := ⟨ok_without_tie F_without_tie T, He.glo_ok X G (c.d.fact 18 (f := .glo "without_tie") rfl), F_without_tie.kp, F_without_tie.bindsN (ps := ["ties", "name"]) fun _ _ _ _ _ _ us hl => match us, hl with | [_, _], _ => rfl⟩
  have G_changed : Dk P w K mg base "changed" 4 ["net", "deed"] sp_changed (He.ga K "changed") fd_changed := ⟨ok_changed F_changed T G_look_deed G_tie_of G_with_tie G_without_tie, He.glo_ok X G (c.d.fact 19 (f := .glo "changed") rfl), F_changed.kp, F_changed.bindsN (ps := ["net", "deed"]) fun _ _ _ _ _ _ us hl => match us, hl with | [_, _], _ => rfl⟩
  have G_without : Dk P w K mg base "without" 1 ["names", "others"] sp_without (He.ga K "without") fd_without := ⟨ok_without F_without T, He.glo_ok X G (c.d.fact 20 (f := .glo "without") rfl), F_without.kp, F_without.bindsN (ps := ["names", "others"]) fun _ _ _ _ _ _ us hl => match us, hl with | [_, _], _ => rfl⟩
  have G_exchange : Dk P w K mg base "exchange" 6 ["net", "deed"] sp_exchange (He.ga K "exchange") fd_exchange := ⟨ok_exchange F_exchange T G_cheapest G_changed G_without, He.glo_ok X G (c.d.fact 21 (f := .glo "exchange") rfl), F_exchange.kp, F_exchange.bindsN (ps := ["net", "deed"]) fun _ _ _ _ _ _ us hl => match us, hl with | [_, _], _ => rfl⟩
  have G_exchanged : Dk P w K mg base "exchanged" 1 ["tree", "gone", "come"] sp_exchanged (He.ga K "exchanged") fd_exchanged := ⟨ok_exchanged F_exchanged T, He.glo_ok X G (c.d.fact 22 (f := .glo "exchanged") rfl), F_exchanged.kp, F_exchanged.bindsN (ps := ["tree", "gone", "come"]) fun _ _ _ _ _ _ us hl => match us, hl with | [_, _, _], _ => rfl⟩
  have G_Keeper_do : Dm P w K mg base (He.ga K "Keeper") "do" 7 ["self", "deed"] (sp_Keeper_do (He.ga K "Keeper")) (He.ma K (He.ga K "Keeper") "do") fd_Keeper_do := ⟨ok_Keeper_do F_Keeper_do T G_exchange G_changed G_exchanged, He.meth_ok (c.d.fact 76 (f := .meth "Keeper" "do") rfl), F_Keeper_do.bindsN (ps := ["self", "deed"]) fun _ _ _ _ _ _ us hl => match us, hl with | [_, _], _ => rfl⟩
  have G_Desk_done : Dm P w K mg base (He.ga K "Desk") "done" 8 ["self", "deed"] (sp_Desk_done (He.ga K "Keeper") (He.ga K "Desk")) (He.ma K (He.ga K "Desk") "done") fd_Desk_done := ⟨ok_Desk_done F_Desk_done T G_exchange_text G_Keeper_do, He.meth_ok (c.d.fact 82 (f := .meth "Desk" "done") rfl), F_Desk_done.bindsN (ps := ["self", "deed"]) fun _ _ _ _ _ _ us hl => match us, hl with | [_, _], _ => rfl⟩
  have G_Keeper_back : Dm P w K mg base (He.ga K "Keeper") "back" 2 ["self"] (sp_Keeper_back (He.ga K "Keeper")) (He.ma K (He.ga K "Keeper") "back") fd_Keeper_back := ⟨ok_Keeper_back F_Keeper_back T G_exchanged, He.meth_ok (c.d.fact 77 (f := .meth "Keeper" "back") rfl), F_Keeper_back.bindsN (ps := ["self"]) fun _ _ _ _ _ _ us hl => match us, hl with | [_], _ => rfl⟩
  have G_Desk_gone_back : Dm P w K mg base (He.ga K "Desk") "gone_back" 3 ["self"] (sp_Desk_gone_back (He.ga K "Keeper") (He.ga K "Desk")) (He.ma K (He.ga K "Desk") "gone_back") fd_Desk_gone_back := ⟨ok_Desk_gone_back F_Desk_gone_back T G_exchange_text G_Keeper_back, He.meth_ok (c.d.fact 83 (f := .meth "Desk" "gone_back") rfl), F_Desk_gone_back.bindsN (ps := ["self"]) fun _ _ _ _ _ _ us hl => match us, hl with | [_], _ => rfl⟩
  have G_dearest_of : Dk P w K mg base "dearest_of" 5 ["net", "names"] sp_dearest_of (He.ga K "dearest_of") fd_dearest_of := ⟨ok_dearest_of F_dearest_of T G_price G_tie_of, He.glo_ok X G (c.d.fact 13 (f := .glo "dearest_of") rfl), F_dearest_of.kp, F_dearest_of.bindsN (ps := ["net", "names"]) fun _ _ _ _ _ _ us hl => match us, hl with | [_, _], _ => rfl⟩
  have G_way : Dk P w K mg base "way" 1 ["net", "forest", "one", "other"] sp_way (He.ga K "way") fd_way := ⟨ok_way F_way T, He.glo_ok X G (c.d.fact 9 (f := .glo "way") rfl), F_way.kp, F_way.bindsN (ps := ["net", "forest", "one", "other"]) fun _ _ _ _ _ _ us hl => match us, hl with | [_, _, _, _], _ => rfl⟩
  have G_cost_within : Dk P w K mg base "cost_within" 1 ["name", "other"] sp_cost_within (He.ga K "cost_within") fd_cost_within := ⟨ok_cost_within F_cost_within T, He.glo_ok X G (c.d.fact 11 (f := .glo "cost_within") rfl), F_cost_within.kp, F_cost_within.bindsN (ps := ["name", "other"]) fun _ _ _ _ _ _ us hl => match us, hl with | [_, _], _ => rfl⟩
  have G_coming_in : Dk P w K mg base "coming_in" 5 ["net", "tree", "name"] sp_coming_in (He.ga K "coming_in") fd_coming_in := ⟨ok_coming_in F_coming_in T G_opened G_way G_price, He.glo_ok X G (c.d.fact 12 (f := .glo "coming_in") rfl), F_coming_in.kp, F_coming_in.bindsN (ps := ["net", "tree", "name"]) fun _ _ _ _ _ _ us hl => match us, hl with | [_, _, _], _ => rfl⟩
  have G_margin : Dk P w K mg base "margin" 6 ["net", "name"] sp_margin (He.ga K "margin") fd_margin := ⟨ok_margin F_margin T G_tie_of G_is_open G_cheapest G_dearest_of G_way G_cost_within G_coming_in, He.glo_ok X G (c.d.fact 14 (f := .glo "margin") rfl), F_margin.kp, F_margin.bindsN (ps := ["net", "name"]) fun _ _ _ _ _ _ us hl => match us, hl with | [_, _], _ => rfl⟩
  have G_margin_text : Dk P w K mg base "margin_text" 7 ["net", "name"] sp_margin_text (He.ga K "margin_text") fd_margin_text := ⟨ok_margin_text F_margin_text T G_margin, He.glo_ok X G (c.d.fact 28 (f := .glo "margin_text") rfl), F_margin_text.kp, F_margin_text.bindsN (ps := ["net", "name"]) fun _ _ _ _ _ _ us hl => match us, hl with | [_, _], _ => rfl⟩
  have G_Keeper_net : Dm P w K mg base (He.ga K "Keeper") "net" 1 ["self"] (sp_Keeper_net (He.ga K "Keeper")) (He.ma K (He.ga K "Keeper") "net") fd_Keeper_net := ⟨ok_Keeper_net F_Keeper_net T, He.meth_ok (c.d.fact 78 (f := .meth "Keeper" "net") rfl), F_Keeper_net.bindsN (ps := ["self"]) fun _ _ _ _ _ _ us hl => match us, hl with | [_], _ => rfl⟩
  have G_Desk_asked : Dm P w K mg base (He.ga K "Desk") "asked" 8 ["self", "word", "things"] (sp_Desk_asked (He.ga K "Keeper") (He.ga K "Desk")) (He.ma K (He.ga K "Desk") "asked") fd_Desk_asked := ⟨ok_Desk_asked F_Desk_asked T G_margin_text G_Keeper_net, He.meth_ok (c.d.fact 84 (f := .meth "Desk" "asked") rfl), F_Desk_asked.bindsN (ps := ["self", "word", "things"]) fun _ _ _ _ _ _ us hl => match us, hl with | [_, _, _], _ => rfl⟩
  have G_waiting : Dk P w K mg base "waiting" 2 ["net"] sp_waiting (He.ga K "waiting") fd_waiting := ⟨ok_waiting F_waiting T G_is_open, He.glo_ok X G (c.d.fact 5 (f := .glo "waiting") rfl), F_waiting.kp, F_waiting.bindsN (ps := ["net"]) fun _ _ _ _ _ _ us hl => match us, hl with | [_], _ => rfl⟩
  have G_net_text : Dk P w K mg base "net_text" 1 ["net"] sp_net_text (He.ga K "net_text") fd_net_text := ⟨ok_net_text F_net_text T, He.glo_ok X G (c.d.fact 23 (f := .glo "net_text") rfl), F_net_text.kp, F_net_text.bindsN (ps := ["net"]) fun _ _ _ _ _ _ us hl => match us, hl with | [_], _ => rfl⟩
  have G_Keeper_tree : Dm P w K mg base (He.ga K "Keeper") "tree" 1 ["self"] (sp_Keeper_tree (He.ga K "Keeper")) (He.ma K (He.ga K "Keeper") "tree") fd_Keeper_tree := ⟨ok_Keeper_tree F_Keeper_tree T, He.meth_ok (c.d.fact 79 (f := .meth "Keeper" "tree") rfl), F_Keeper_tree.bindsN (ps := ["self"]) fun _ _ _ _ _ _ us hl => match us, hl with | [_], _ => rfl⟩
  have G_cost_of : Dk P w K mg base "cost_of" 1 ["net", "names"] sp_cost_of (He.ga K "cost_of") fd_cost_of := ⟨ok_cost_of F_cost_of T, He.glo_ok X G (c.d.fact 8 (f := .glo "cost_of") rfl), F_cost_of.kp, F_cost_of.bindsN (ps := ["net", "names"]) fun _ _ _ _ _ _ us hl => match us, hl with | [_, _], _ => rfl⟩
  have G_Keeper_cost : Dm P w K mg base (He.ga K "Keeper") "cost" 2 ["self"] (sp_Keeper_cost (He.ga K "Keeper")) (He.ma K (He.ga K "Keeper") "cost") fd_Keeper_cost := ⟨ok_Keeper_cost F_Keeper_cost T G_cost_of, He.meth_ok (c.d.fact 80 (f := .meth "Keeper" "cost") rfl), F_Keeper_cost.bindsN (ps := ["self"]) fun _ _ _ _ _ _ us hl => match us, hl with | [_], _ => rfl⟩
  have G_Desk_told : Dm P w K mg base (He.ga K "Desk") "told" 3 ["self", "word"] (sp_Desk_told (He.ga K "Keeper") (He.ga K "Desk")) (He.ma K (He.ga K "Desk") "told") fd_Desk_told := ⟨ok_Desk_told F_Desk_told T G_waiting G_net_text G_Keeper_net G_Keeper_tree G_Keeper_cost, He.meth_ok (c.d.fact 85 (f := .meth "Desk" "told") rfl), F_Desk_told.bindsN (ps := ["self", "word"]) fun _ _ _ _ _ _ us hl => match us, hl with | [_, _], _ => rfl⟩
  have G_Desk_say : Dm P w K mg base (He.ga K "Desk") "say" 9 ["self", "line"] (sp_Desk_say (He.ga K "Keeper") (He.ga K "Desk")) (He.ma K (He.ga K "Desk") "say") fd_Desk_say := ⟨ok_Desk_say F_Desk_say T G_order_in G_Desk_done G_Desk_gone_back G_Desk_asked G_Desk_told, He.meth_ok (c.d.fact 81 (f := .meth "Desk" "say") rfl), F_Desk_say.bindsN (ps := ["self", "line"]) fun _ _ _ _ _ _ us hl => match us, hl with | [_, _], _ => rfl⟩
  have G_l_told : Dk P w K mg base "_law_told" 10 ["_law_desk", "_law_lines_here"] (sp_l_told (He.ga K "Keeper") (He.ga K "Desk")) (He.ga K "_law_told") fd_l_told := ⟨ok_l_told F_l_told T G_l_moved G_l_is_cheapest G_l_words_of G_Desk_say, He.glo_ok X G (c.d.fact 42 (f := .glo "_law_told") rfl), F_l_told.kp, F_l_told.bindsN (ps := ["_law_desk", "_law_lines_here"]) fun _ _ _ _ _ _ us hl => match us, hl with | [_, _], _ => rfl⟩
  have G_l_lines : Dk P w K mg base "_law_lines" 2 ["_law_state", "_law_net_here"] sp_l_lines (He.ga K "_law_lines") fd_l_lines := ⟨ok_l_lines F_l_lines T G_l_next, He.glo_ok X G (c.d.fact 41 (f := .glo "_law_lines") rfl), F_l_lines.kp, F_l_lines.bindsN (ps := ["_law_state", "_law_net_here"]) fun _ _ _ _ _ _ us hl => match us, hl with | [_, _], _ => rfl⟩
  have G_l_at : Dk P w K mg base "_law_at" 10 ["_law_desk", "_law_name", "_law_cost_here", "_law_gone", "_law_come"] (sp_l_at (He.ga K "Keeper") (He.ga K "Desk")) (He.ga K "_law_at") fd_l_at := ⟨ok_l_at F_l_at T G_Desk_say, He.glo_ok X G (c.d.fact 39 (f := .glo "_law_at") rfl), F_l_at.kp, F_l_at.bindsN (ps := ["_law_desk", "_law_name", "_law_cost_here", "_law_gone", "_law_come"]) fun _ _ _ _ _ _ us hl => match us, hl with | [_, _, _, _, _], _ => rfl⟩
  have G_l_margin : Dk P w K mg base "_law_margin" 11 ["_law_desk", "_law_name", "_law_kept"] (sp_l_margin (He.ga K "Keeper") (He.ga K "Desk")) (He.ga K "_law_margin") fd_l_margin := ⟨ok_l_margin F_l_margin T G_l_words_of G_l_at G_Desk_say, He.glo_ok X G (c.d.fact 40 (f := .glo "_law_margin") rfl), F_l_margin.kp, F_l_margin.bindsN (ps := ["_law_desk", "_law_name", "_law_kept"]) fun _ _ _ _ _ _ us hl => match us, hl with | [_, _, _], _ => rfl⟩
  have G_empty : Dk P w K mg base "empty" 1 [] sp_empty (He.ga K "empty") fd_empty := ⟨ok_empty F_empty T, He.glo_ok X G (c.d.fact 2 (f := .glo "empty") rfl), F_empty.kp, F_empty.bindsN (ps := []) fun _ _ _ _ _ _ us hl => match us, hl with | [], _ => rfl⟩
  have M_Keeper : Dc P w K mg base "Keeper" (He.ga K "Keeper") 2 ["self"] (sp_Keeper_init (He.ga K "Keeper")) (He.ma K (He.ga K "Keeper") "__init__") fd_Keeper_init := ⟨ok_Keeper_init F_Keeper_init T G_empty, He.mkr_ok (c.d.fact 72 (f := .mkr "Keeper") rfl), He.glo_ok X G (c.d.fact 45 (f := .glo "Keeper") rfl), F_Keeper_init.bindsN (ps := ["self"]) fun _ _ _ _ _ _ us hl => match us, hl with | [_], _ => rfl⟩
  have M_Desk : Dc P w K mg base "Desk" (He.ga K "Desk") 4 ["self"] (sp_Desk_init (He.ga K "Keeper") (He.ga K "Desk")) (He.ma K (He.ga K "Desk") "__init__") fd_Desk_init := ⟨ok_Desk_init F_Desk_init T M_Keeper, He.mkr_ok (c.d.fact 74 (f := .mkr "Desk") rfl), He.glo_ok X G (c.d.fact 46 (f := .glo "Desk") rfl), F_Desk_init.bindsN (ps := ["self"]) fun _ _ _ _ _ _ us hl => match us, hl with | [_], _ => rfl⟩
  exact ok_law F_law T G_l_begin G_l_net G_l_told G_l_lines G_l_margin G_Desk_say M_Desk
end
end Ct
end

section
set_option Elab.async false
set_option linter.all false
set_option maxRecDepth 100000
set_option maxHeartbeats 0
open PySem PySem.W PySem.Calls PyProof.Rows
theorem PySem.Challenge.cw_cheaptree_k88_whole_from_text_to_trees_w_holds : PySem.Challenge.rw_cheaptree_k88_whole_from_text_to_trees_w.Holds := by
  w_on; o_law
  refine HandSHeadRun.head_any (r := OpenLaw.row PySem.Challenge.rw_cheaptree_k88_whole_from_text_to_trees_w) (q := view (OpenLaw.row PySem.Challenge.rw_cheaptree_k88_whole_from_text_to_trees_w).prog [Ct.lawAt]) (H := Ct.hk) (ob := Ct.ob) (M := 6000) (loose := Ct.looseL) (d := HandSHeadRun.topDef (OpenLaw.row PySem.Challenge.rw_cheaptree_k88_whole_from_text_to_trees_w).prog Ct.lawAt) (kwd := []) Ct.ob_eq
    (by kernel_rfl) (fun s => by kernel_rfl) Ct.run (by kernel_rfl) (by kernel_rfl) (by kernel_rfl) (by rfl) (by first | assumption | decide +kernel) (by decide +kernel) ⟨rfl, rfl, rfl, rfl, rfl, by decide +kernel⟩ ?hw ?hc
  case hw => w_witness2
  case hc =>
    refine L2.walk_ofE (l := PySem.Challenge.rw_cheaptree_k88_whole_from_text_to_trees_w) (n := 63) (k := 12) (x := "_law_script") (CX := L2.CX0) rfl (by decide) (by kernel_rfl) ⟨rfl, by decide, by decide⟩ ?F (fun _ _ _ _ z => z)
    intro w mg fa h Y G hmg0
    obtain ⟨K, KX, c, x⟩ := Y
    have hmg : mg ("law" : PySem.Str) = some (.ref fa) := by
      have e : (HandSHeadRun.topDef (OpenLaw.row PySem.Challenge.rw_cheaptree_k88_whole_from_text_to_trees_w).prog Ct.lawAt).name = ("law" : PySem.Str) := by kernel_rfl
      rw [← e]
      exact hmg0
    obtain ⟨fd, hb, hF⟩ := Ct.facts (P := (PySem.Challenge.rw_cheaptree_k88_whole_from_text_to_trees_w).prog) (w := w) KX G hmg c x
    exact ⟨K, fd, Ct.sp_law K, KX, hb, fun H a ns hl _ hS => ⟨a, ns, rfl, hS, hl, fun _ => rfl⟩, hF⟩
end
