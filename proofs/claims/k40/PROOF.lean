import PyProof.Rows.All
import Wide.All
import OpenK.AllK
import Wide.FinOn
import KE.KStateDown
import KE.KLam
import KE.GoesEnumKw
import KE.KDictKeyed
import Lean
import HandS.ForMost
import HandS.More
import HandS.WordsExc
import HandS.Defaults
import HandS.MakeKw
import HandS.MakeKwOnly
import HandS.Flow
import HandS.IsInst
import HandS.DictComp
import HandS.SetKeys
import HandS.SortInts
import HandS.StrMore
import HandS.Replace
import HandS.TupLe
import HandS.TupAny
import HandS.Lambda
import HandS.EndBits
import HandS.EndTab
import HandS.Head0
import HandS.Head1
import HandS.Head2
import HandS.HeadEnd
import HandS.HeadHook1
import HandS.HeadHook2
import HandS.HeadHook3
import HandS.HeadHook4
import HandS.HeadWalk
import PySem.Challenge.RW_roadbundle_k40_whole_what_writers_say

set_option Elab.async false
set_option linter.all false
set_option maxRecDepth 100000
set_option maxHeartbeats 4000000

namespace RB
open PySem PySem.Spec PyProof.Rows L2


/-! ### the text by places -/
def top (i : Nat) : Stmt := PySem.Challenge.pw_roadbundle_k40_whole_what_writers_say.main.body.getD i (.Pass ⟨0, 0, 0, 0⟩)
abbrev s_is_rule : Stmt := top 11
abbrev s_by_rule : Stmt := top 12
abbrev s_chosen : Stmt := top 13
abbrev s_is_whole : Stmt := top 17
abbrev s_is_from : Stmt := top 18
abbrev s_is_signs : Stmt := top 19
abbrev s_is_word : Stmt := top 20
abbrev s_sum_of : Stmt := top 21
abbrev s_joined : Stmt := top 23
abbrev s_cut_at : Stmt := top 24
abbrev s_is_truth : Stmt := top 28
abbrev s_is_row : Stmt := top 29
abbrev s_is_answer : Stmt := top 30
abbrev s_Way_init : Stmt := inClass (top 35) 0
abbrev s_Way_lay : Stmt := inClass (top 35) 1
abbrev s_Way_letter : Stmt := inClass (top 35) 2
abbrev s_Way_hear : Stmt := inClass (top 35) 3
abbrev s_Way_tick : Stmt := inClass (top 35) 4
abbrev s_Way_pieces : Stmt := inClass (top 35) 5
abbrev s_Way_first_letter : Stmt := inClass (top 35) 6
abbrev s_Way_laid : Stmt := inClass (top 35) 8
abbrev s_Way_sure : Stmt := inClass (top 35) 9
abbrev s_Way_unsure : Stmt := inClass (top 35) 10
abbrev s_Way_is_still : Stmt := inClass (top 35) 12
abbrev s_Way_called : Stmt := inClass (top 35) 13
abbrev s_Way_base : Stmt := inClass (top 35) 14
abbrev s_Road_init : Stmt := inClass (top 38) 0
abbrev s_Writer_init : Stmt := inClass (top 39) 0
abbrev s_Writer_write : Stmt := inClass (top 39) 1
abbrev s_Writer_end : Stmt := inClass (top 39) 2
abbrev s_Writer_begin : Stmt := inClass (top 39) 3
abbrev s_Writer_road_at : Stmt := inClass (top 39) 4
abbrev s_Writer_spare : Stmt := inClass (top 39) 5
abbrev s_Writer_go : Stmt := inClass (top 39) 6
abbrev s_Writer_let_go : Stmt := inClass (top 39) 7
abbrev s_Writer_put_anew : Stmt := inClass (top 39) 8
abbrev s_Writer_drop_known : Stmt := inClass (top 39) 9
abbrev s_Writer_next_piece : Stmt := inClass (top 39) 10
abbrev s_Writer_usable : Stmt := inClass (top 39) 11
abbrev s_Writer_road_for : Stmt := inClass (top 39) 12
abbrev s_Writer_send : Stmt := inClass (top 39) 13
abbrev s_Writer_take : Stmt := inClass (top 39) 14
abbrev s_Writer_on_call : Stmt := inClass (top 39) 15
abbrev s_Writer_on_sure : Stmt := inClass (top 39) 16
abbrev s_Writer_hear_mode : Stmt := inClass (top 39) 17
abbrev s_Writer_has_all_laid : Stmt := inClass (top 39) 18
abbrev s_Writer_tick_letters : Stmt := inClass (top 39) 19
abbrev s_Writer_look_at_still : Stmt := inClass (top 39) 20
abbrev s_Writer_tick : Stmt := inClass (top 39) 21
abbrev s_Writer_written : Stmt := inClass (top 39) 22
abbrev s_Writer_kept : Stmt := inClass (top 39) 23
abbrev s_Writer_known : Stmt := inClass (top 39) 24
abbrev s_Writer_limit : Stmt := inClass (top 39) 25
abbrev s_Writer_mode : Stmt := inClass (top 39) 26
abbrev s_Writer_roads : Stmt := inClass (top 39) 27
abbrev s_Writer_anew : Stmt := inClass (top 39) 28
abbrev s_law_pool : Stmt := top 41
abbrev s_law_take : Stmt := top 42
abbrev s_law_text : Stmt := top 43
abbrev s_law_weight : Stmt := top 44
abbrev s_law_answer : Stmt := top 45
abbrev s_law_lay_right : Stmt := top 46
abbrev s_law_letter_right : Stmt := top 47
abbrev s_law_told : Stmt := top 48
abbrev s_law : Stmt := top 49
def d_is_rule : He.DefD := ⟨("is_rule", none), "is_rule", "is_rule", defArgs s_is_rule, defBody s_is_rule, defScope s_is_rule, [], []⟩
def d_by_rule : He.DefD := ⟨("by_rule", none), "by_rule", "by_rule", defArgs s_by_rule, defBody s_by_rule, defScope s_by_rule, [], []⟩
def d_chosen : He.DefD := ⟨("chosen", none), "chosen", "chosen", defArgs s_chosen, defBody s_chosen, defScope s_chosen, [], []⟩
def d_is_whole : He.DefD := ⟨("is_whole", none), "is_whole", "is_whole", defArgs s_is_whole, defBody s_is_whole, defScope s_is_whole, [], []⟩
def d_is_from : He.DefD := ⟨("is_from", none), "is_from", "is_from", defArgs s_is_from, defBody s_is_from, defScope s_is_from, [], []⟩
def d_is_signs : He.DefD := ⟨("is_signs", none), "is_signs", "is_signs", defArgs s_is_signs, defBody s_is_signs, defScope s_is_signs, [], []⟩
def d_is_word : He.DefD := ⟨("is_word", none), "is_word", "is_word", defArgs s_is_word, defBody s_is_word, defScope s_is_word, [], []⟩
def d_sum_of : He.DefD := ⟨("sum_of", none), "sum_of", "sum_of", defArgs s_sum_of, defBody s_sum_of, defScope s_sum_of, [], []⟩
def d_joined : He.DefD := ⟨("joined", none), "joined", "joined", defArgs s_joined, defBody s_joined, defScope s_joined, [], []⟩
def d_cut_at : He.DefD := ⟨("cut_at", none), "cut_at", "cut_at", defArgs s_cut_at, defBody s_cut_at, defScope s_cut_at, [], []⟩
def d_is_truth : He.DefD := ⟨("is_truth", none), "is_truth", "is_truth", defArgs s_is_truth, defBody s_is_truth, defScope s_is_truth, [], []⟩
def d_is_row : He.DefD := ⟨("is_row", none), "is_row", "is_row", defArgs s_is_row, defBody s_is_row, defScope s_is_row, [], []⟩
def d_is_answer : He.DefD := ⟨("is_answer", none), "is_answer", "is_answer", defArgs s_is_answer, defBody s_is_answer, defScope s_is_answer, [], []⟩
def d_Way_init : He.DefD := ⟨("Way", some "__init__"), "__init__", "Way.__init__", defArgs s_Way_init, defBody s_Way_init, defScope s_Way_init, [], []⟩
def d_Way_lay : He.DefD := ⟨("Way", some "lay"), "lay", "Way.lay", defArgs s_Way_lay, defBody s_Way_lay, defScope s_Way_lay, [], []⟩
def d_Way_letter : He.DefD := ⟨("Way", some "letter"), "letter", "Way.letter", defArgs s_Way_letter, defBody s_Way_letter, defScope s_Way_letter, [], [("bare", .bl false)]⟩
def d_Way_hear : He.DefD := ⟨("Way", some "hear"), "hear", "Way.hear", defArgs s_Way_hear, defBody s_Way_hear, defScope s_Way_hear, [], []⟩
def d_Way_tick : He.DefD := ⟨("Way", some "tick"), "tick", "Way.tick", defArgs s_Way_tick, defBody s_Way_tick, defScope s_Way_tick, [], []⟩
def d_Way_pieces : He.DefD := ⟨("Way", some "pieces"), "pieces", "Way.pieces", defArgs s_Way_pieces, defBody s_Way_pieces, defScope s_Way_pieces, [], []⟩
def d_Way_first_letter : He.DefD := ⟨("Way", some "first_letter"), "first_letter", "Way.first_letter", defArgs s_Way_first_letter, defBody s_Way_first_letter, defScope s_Way_first_letter, [], [("bare", .bl false)]⟩
def d_Way_laid : He.DefD := ⟨("Way", some "laid"), "laid", "Way.laid", defArgs s_Way_laid, defBody s_Way_laid, defScope s_Way_laid, [], []⟩
def d_Way_sure : He.DefD := ⟨("Way", some "sure"), "sure", "Way.sure", defArgs s_Way_sure, defBody s_Way_sure, defScope s_Way_sure, [], []⟩
def d_Way_unsure : He.DefD := ⟨("Way", some "unsure"), "unsure", "Way.unsure", defArgs s_Way_unsure, defBody s_Way_unsure, defScope s_Way_unsure, [], []⟩
def d_Way_is_still : He.DefD := ⟨("Way", some "is_still"), "is_still", "Way.is_still", defArgs s_Way_is_still, defBody s_Way_is_still, defScope s_Way_is_still, [], []⟩
def d_Way_called : He.DefD := ⟨("Way", some "called"), "called", "Way.called", defArgs s_Way_called, defBody s_Way_called, defScope s_Way_called, [], []⟩
def d_Way_base : He.DefD := ⟨("Way", some "base"), "base", "Way.base", defArgs s_Way_base, defBody s_Way_base, defScope s_Way_base, [], []⟩
def d_Road_init : He.DefD := ⟨("Road", some "__init__"), "__init__", "Road.__init__", defArgs s_Road_init, defBody s_Road_init, defScope s_Road_init, [], []⟩
def d_Writer_init : He.DefD := ⟨("Writer", some "__init__"), "__init__", "Writer.__init__", defArgs s_Writer_init, defBody s_Writer_init, defScope s_Writer_init, [], [("rule", .str "first")]⟩
def d_Writer_write : He.DefD := ⟨("Writer", some "write"), "write", "Writer.write", defArgs s_Writer_write, defBody s_Writer_write, defScope s_Writer_write, [], []⟩
def d_Writer_end : He.DefD := ⟨("Writer", some "end"), "end", "Writer.end", defArgs s_Writer_end, defBody s_Writer_end, defScope s_Writer_end, [], []⟩
def d_Writer_begin : He.DefD := ⟨("Writer", some "begin"), "begin", "Writer.begin", defArgs s_Writer_begin, defBody s_Writer_begin, defScope s_Writer_begin, [], []⟩
def d_Writer_road_at : He.DefD := ⟨("Writer", some "road_at"), "road_at", "Writer.road_at", defArgs s_Writer_road_at, defBody s_Writer_road_at, defScope s_Writer_road_at, [], []⟩
def d_Writer_spare : He.DefD := ⟨("Writer", some "spare"), "spare", "Writer.spare", defArgs s_Writer_spare, defBody s_Writer_spare, defScope s_Writer_spare, [], []⟩
def d_Writer_go : He.DefD := ⟨("Writer", some "go"), "go", "Writer.go", defArgs s_Writer_go, defBody s_Writer_go, defScope s_Writer_go, [], []⟩
def d_Writer_let_go : He.DefD := ⟨("Writer", some "let_go"), "let_go", "Writer.let_go", defArgs s_Writer_let_go, defBody s_Writer_let_go, defScope s_Writer_let_go, [], []⟩
def d_Writer_put_anew : He.DefD := ⟨("Writer", some "put_anew"), "put_anew", "Writer.put_anew", defArgs s_Writer_put_anew, defBody s_Writer_put_anew, defScope s_Writer_put_anew, [], []⟩
def d_Writer_drop_known : He.DefD := ⟨("Writer", some "drop_known"), "drop_known", "Writer.drop_known", defArgs s_Writer_drop_known, defBody s_Writer_drop_known, defScope s_Writer_drop_known, [], []⟩
def d_Writer_next_piece : He.DefD := ⟨("Writer", some "next_piece"), "next_piece", "Writer.next_piece", defArgs s_Writer_next_piece, defBody s_Writer_next_piece, defScope s_Writer_next_piece, [], []⟩
def d_Writer_usable : He.DefD := ⟨("Writer", some "usable"), "usable", "Writer.usable", defArgs s_Writer_usable, defBody s_Writer_usable, defScope s_Writer_usable, [], []⟩
def d_Writer_road_for : He.DefD := ⟨("Writer", some "road_for"), "road_for", "Writer.road_for", defArgs s_Writer_road_for, defBody s_Writer_road_for, defScope s_Writer_road_for, [], []⟩
def d_Writer_send : He.DefD := ⟨("Writer", some "send"), "send", "Writer.send", defArgs s_Writer_send, defBody s_Writer_send, defScope s_Writer_send, [], []⟩
def d_Writer_take : He.DefD := ⟨("Writer", some "take"), "take", "Writer.take", defArgs s_Writer_take, defBody s_Writer_take, defScope s_Writer_take, [], []⟩
def d_Writer_on_call : He.DefD := ⟨("Writer", some "on_call"), "on_call", "Writer.on_call", defArgs s_Writer_on_call, defBody s_Writer_on_call, defScope s_Writer_on_call, [], []⟩
def d_Writer_on_sure : He.DefD := ⟨("Writer", some "on_sure"), "on_sure", "Writer.on_sure", defArgs s_Writer_on_sure, defBody s_Writer_on_sure, defScope s_Writer_on_sure, [], []⟩
def d_Writer_hear_mode : He.DefD := ⟨("Writer", some "hear_mode"), "hear_mode", "Writer.hear_mode", defArgs s_Writer_hear_mode, defBody s_Writer_hear_mode, defScope s_Writer_hear_mode, [], []⟩
def d_Writer_has_all_laid : He.DefD := ⟨("Writer", some "has_all_laid"), "has_all_laid", "Writer.has_all_laid", defArgs s_Writer_has_all_laid, defBody s_Writer_has_all_laid, defScope s_Writer_has_all_laid, [], []⟩
def d_Writer_tick_letters : He.DefD := ⟨("Writer", some "tick_letters"), "tick_letters", "Writer.tick_letters", defArgs s_Writer_tick_letters, defBody s_Writer_tick_letters, defScope s_Writer_tick_letters, [], []⟩
def d_Writer_look_at_still : He.DefD := ⟨("Writer", some "look_at_still"), "look_at_still", "Writer.look_at_still", defArgs s_Writer_look_at_still, defBody s_Writer_look_at_still, defScope s_Writer_look_at_still, [], []⟩
def d_Writer_tick : He.DefD := ⟨("Writer", some "tick"), "tick", "Writer.tick", defArgs s_Writer_tick, defBody s_Writer_tick, defScope s_Writer_tick, [], []⟩
def d_Writer_written : He.DefD := ⟨("Writer", some "written"), "written", "Writer.written", defArgs s_Writer_written, defBody s_Writer_written, defScope s_Writer_written, [], []⟩
def d_Writer_kept : He.DefD := ⟨("Writer", some "kept"), "kept", "Writer.kept", defArgs s_Writer_kept, defBody s_Writer_kept, defScope s_Writer_kept, [], []⟩
def d_Writer_known : He.DefD := ⟨("Writer", some "known"), "known", "Writer.known", defArgs s_Writer_known, defBody s_Writer_known, defScope s_Writer_known, [], []⟩
def d_Writer_limit : He.DefD := ⟨("Writer", some "limit"), "limit", "Writer.limit", defArgs s_Writer_limit, defBody s_Writer_limit, defScope s_Writer_limit, [], []⟩
def d_Writer_mode : He.DefD := ⟨("Writer", some "mode"), "mode", "Writer.mode", defArgs s_Writer_mode, defBody s_Writer_mode, defScope s_Writer_mode, [], []⟩
def d_Writer_roads : He.DefD := ⟨("Writer", some "roads"), "roads", "Writer.roads", defArgs s_Writer_roads, defBody s_Writer_roads, defScope s_Writer_roads, [], []⟩
def d_Writer_anew : He.DefD := ⟨("Writer", some "anew"), "anew", "Writer.anew", defArgs s_Writer_anew, defBody s_Writer_anew, defScope s_Writer_anew, [], []⟩
def d_law_pool : He.DefD := ⟨("_law_pool", none), "_law_pool", "_law_pool", defArgs s_law_pool, defBody s_law_pool, defScope s_law_pool, [], []⟩
def d_law_take : He.DefD := ⟨("_law_take", none), "_law_take", "_law_take", defArgs s_law_take, defBody s_law_take, defScope s_law_take, [], []⟩
def d_law_text : He.DefD := ⟨("_law_text", none), "_law_text", "_law_text", defArgs s_law_text, defBody s_law_text, defScope s_law_text, [], []⟩
def d_law_weight : He.DefD := ⟨("_law_weight", none), "_law_weight", "_law_weight", defArgs s_law_weight, defBody s_law_weight, defScope s_law_weight, [], []⟩
def d_law_answer : He.DefD := ⟨("_law_answer", none), "_law_answer", "_law_answer", defArgs s_law_answer, defBody s_law_answer, defScope s_law_answer, [], []⟩
def d_law_lay_right : He.DefD := ⟨("_law_lay_right", none), "_law_lay_right", "_law_lay_right", defArgs s_law_lay_right, defBody s_law_lay_right, defScope s_law_lay_right, [], []⟩
def d_law_letter_right : He.DefD := ⟨("_law_letter_right", none), "_law_letter_right", "_law_letter_right", defArgs s_law_letter_right, defBody s_law_letter_right, defScope s_law_letter_right, [], []⟩
def d_law_told : He.DefD := ⟨("_law_told", none), "_law_told", "_law_told", defArgs s_law_told, defBody s_law_told, defScope s_law_told, [], []⟩
def d_law : He.DefD := ⟨("law", none), "law", "law", defArgs s_law, defBody s_law, defScope s_law, [], []⟩
def fn : List He.DefD := [d_is_rule, d_by_rule, d_chosen, d_is_whole, d_is_from, d_is_signs, d_is_word, d_sum_of, d_joined, d_cut_at, d_is_truth, d_is_row, d_is_answer, d_Way_init, d_Way_lay, d_Way_letter, d_Way_hear, d_Way_tick, d_Way_pieces, d_Way_first_letter, d_Way_laid, d_Way_sure, d_Way_unsure, d_Way_is_still, d_Way_called, d_Way_base, d_Road_init, d_Writer_init, d_Writer_write, d_Writer_end, d_Writer_begin, d_Writer_road_at, d_Writer_spare, d_Writer_go, d_Writer_let_go, d_Writer_put_anew, d_Writer_drop_known, d_Writer_next_piece, d_Writer_usable, d_Writer_road_for, d_Writer_send, d_Writer_take, d_Writer_on_call, d_Writer_on_sure, d_Writer_hear_mode, d_Writer_has_all_laid, d_Writer_tick_letters, d_Writer_look_at_still, d_Writer_tick, d_Writer_written, d_Writer_kept, d_Writer_known, d_Writer_limit, d_Writer_mode, d_Writer_roads, d_Writer_anew, d_law_pool, d_law_take, d_law_text, d_law_weight, d_law_answer, d_law_lay_right, d_law_letter_right, d_law_told, d_law]
def fa0 : List He.Fa := [.glo "is_rule", .glo "by_rule", .glo "chosen", .glo "is_whole", .glo "is_from", .glo "is_signs", .glo "is_word", .glo "sum_of", .glo "joined", .glo "cut_at", .glo "is_truth", .glo "is_row", .glo "is_answer", .glo "_law_pool", .glo "_law_take", .glo "_law_text", .glo "_law_weight", .glo "_law_answer", .glo "_law_lay_right", .glo "_law_letter_right", .glo "_law_told", .glo "law", .glo "Way", .glo "Road", .glo "Writer", .cls "Way", .cls "Road", .cls "Writer", .mkr "Way", .mkr "Road"]
def fa1 : List He.Fa := [.mkr "Writer", .meth "Way" "lay", .meth "Way" "letter", .meth "Way" "hear", .meth "Way" "tick", .meth "Way" "pieces", .meth "Way" "first_letter", .meth "Way" "laid", .meth "Way" "sure", .meth "Way" "unsure", .meth "Way" "is_still", .meth "Way" "called", .meth "Way" "base", .meth "Writer" "write", .meth "Writer" "end", .meth "Writer" "begin", .meth "Writer" "road_at", .meth "Writer" "spare", .meth "Writer" "go", .meth "Writer" "let_go", .meth "Writer" "put_anew", .meth "Writer" "drop_known", .meth "Writer" "next_piece", .meth "Writer" "usable", .meth "Writer" "road_for", .meth "Writer" "send", .meth "Writer" "take", .meth "Writer" "on_call", .meth "Writer" "on_sure", .meth "Writer" "hear_mode"]
def fa2 : List He.Fa := [.meth "Writer" "has_all_laid", .meth "Writer" "tick_letters", .meth "Writer" "look_at_still", .meth "Writer" "tick", .meth "Writer" "written", .meth "Writer" "kept", .meth "Writer" "known", .meth "Writer" "limit", .meth "Writer" "mode", .meth "Writer" "roads", .meth "Writer" "anew", .noat "Way" "own_road", .noat "Way" "own_base", .noat "Way" "own_lays", .noat "Way" "own_pieces", .noat "Way" "own_laid", .noat "Way" "own_sure", .noat "Way" "own_age", .noat "Road" "own_way", .noat "Road" "own_state", .noat "Road" "own_spare", .noat "Road" "was_put", .noat "Writer" "own_rule", .noat "Writer" "own_signs", .noat "Writer" "was_ended", .noat "Writer" "own_known", .noat "Writer" "own_limit", .noat "Writer" "own_mode", .noat "Writer" "was_over", .noat "Writer" "own_roads"]
def fa3 : List He.Fa := [.noat "Writer" "first_road", .noat "Writer" "last_road", .noat "Writer" "own_next", .noat "Writer" "own_anew", .free "isinstance", .free "str", .free "int", .free "bool", .free "tuple", .free "dict", .free "all", .free "min", .free "max", .free "len", .free "sorted", .free "enumerate", .free "range", .free "sum", .int "LONGEST" 8, .int "WINDOW" 24, .int "STALL" 3, .int "MOST_BASE" 9999, .int "PIECE" 8, .str "LETTERS" "abcdefghijklmnopqrstuvwxyz", .glo "RULES", .glo "MODES", .glo "ANSWERS"]
def fa : List He.Fa := fa0 ++ (fa1 ++ (fa2 ++ (fa3)))
def ts : List He.Tab := [(fun K => He.ga K "ANSWERS", ["call", "sure", "meddled"])]
def tf : List He.Defn := [("by_rule", none)]
def intOf (e : DictEntry) : Option Int := match e.val with
  | .int i _ => some i
  | _ => none
def intsB (K : PySem.W.Frag) (a : Addr) (is : List Int) : Bool := match K.lookup a with
  | some ⟨_, _, .dict es _, _⟩ => decide (es.toList.map intOf = is.map some)
  | _ => false
def ex (K : PySem.W.Frag) : Bool := He.tupB K "RULES" [.str "first", .str "few", .str "turns"] && (He.tupB K "MODES" [.str "none", .str "led", .str "plain"] && intsB K (He.ga K "ANSWERS") [2, 7, 2])
def loose0 : List Str := ["_wall", "__name__", "NoSigns", "NoBase", "NoRule", "NoNumber", "NoRoad", "Ended", "NotLed", "RULES", "is_rule", "by_rule", "chosen", "LETTERS", "LONGEST", "is_whole", "is_from", "is_signs", "is_word", "sum_of", "joined", "cut_at", "MODES", "ANSWERS", "is_truth", "is_row", "is_answer", "WINDOW", "STALL", "MOST_BASE"]
def loose1 : List Str := ["Way", "PIECE", "Road", "Writer", "_law_pool", "_law_take", "_law_text", "_law_weight", "_law_answer", "_law_lay_right", "_law_letter_right", "_law_told"]
def loose : List Str := loose0 ++ (loose1)
/-! ### what the walk leans on -/
structure TX (P : Program) (w : World) (K : PySem.W.Frag) (mg : Str → Option Value) (base : Heap) : Prop where
  t : He.SaysT fa fn ts w K
  more : ex K = true
  KX : K.In base
  G : base.Ns mainGlobals mg
  hd : ∀ p ∈ tf, PySem.W.codeHdIn K (He.cT K p).1 (He.cT K p).2 = true
  tab : ∀ p ∈ tf, LamX.TabB base mg (He.cT K p).1 (He.cT K p).2
section
variable {P : Program} {w : World} {K : PySem.W.Frag} {mg : Str → Option Value} {base : Heap}
theorem TX.g_is_rule (T : TX P w K mg base) : mg "is_rule" = some (.ref (He.ga K "is_rule")) := He.glo_ok T.KX T.G (T.t.d.fact 0 (f := .glo "is_rule") rfl)
theorem TX.g_by_rule (T : TX P w K mg base) : mg "by_rule" = some (.ref (He.ga K "by_rule")) := He.glo_ok T.KX T.G (T.t.d.fact 1 (f := .glo "by_rule") rfl)
theorem TX.g_chosen (T : TX P w K mg base) : mg "chosen" = some (.ref (He.ga K "chosen")) := He.glo_ok T.KX T.G (T.t.d.fact 2 (f := .glo "chosen") rfl)
theorem TX.g_is_whole (T : TX P w K mg base) : mg "is_whole" = some (.ref (He.ga K "is_whole")) := He.glo_ok T.KX T.G (T.t.d.fact 3 (f := .glo "is_whole") rfl)
theorem TX.g_is_from (T : TX P w K mg base) : mg "is_from" = some (.ref (He.ga K "is_from")) := He.glo_ok T.KX T.G (T.t.d.fact 4 (f := .glo "is_from") rfl)
theorem TX.g_is_signs (T : TX P w K mg base) : mg "is_signs" = some (.ref (He.ga K "is_signs")) := He.glo_ok T.KX T.G (T.t.d.fact 5 (f := .glo "is_signs") rfl)
theorem TX.g_is_word (T : TX P w K mg base) : mg "is_word" = some (.ref (He.ga K "is_word")) := He.glo_ok T.KX T.G (T.t.d.fact 6 (f := .glo "is_word") rfl)
theorem TX.g_sum_of (T : TX P w K mg base) : mg "sum_of" = some (.ref (He.ga K "sum_of")) := He.glo_ok T.KX T.G (T.t.d.fact 7 (f := .glo "sum_of") rfl)
theorem TX.g_joined (T : TX P w K mg base) : mg "joined" = some (.ref (He.ga K "joined")) := He.glo_ok T.KX T.G (T.t.d.fact 8 (f := .glo "joined") rfl)
theorem TX.g_cut_at (T : TX P w K mg base) : mg "cut_at" = some (.ref (He.ga K "cut_at")) := He.glo_ok T.KX T.G (T.t.d.fact 9 (f := .glo "cut_at") rfl)
theorem TX.g_is_truth (T : TX P w K mg base) : mg "is_truth" = some (.ref (He.ga K "is_truth")) := He.glo_ok T.KX T.G (T.t.d.fact 10 (f := .glo "is_truth") rfl)
theorem TX.g_is_row (T : TX P w K mg base) : mg "is_row" = some (.ref (He.ga K "is_row")) := He.glo_ok T.KX T.G (T.t.d.fact 11 (f := .glo "is_row") rfl)
theorem TX.g_is_answer (T : TX P w K mg base) : mg "is_answer" = some (.ref (He.ga K "is_answer")) := He.glo_ok T.KX T.G (T.t.d.fact 12 (f := .glo "is_answer") rfl)
theorem TX.g_law_pool (T : TX P w K mg base) : mg "_law_pool" = some (.ref (He.ga K "_law_pool")) := He.glo_ok T.KX T.G (T.t.d.fact 13 (f := .glo "_law_pool") rfl)
theorem TX.g_law_take (T : TX P w K mg base) : mg "_law_take" = some (.ref (He.ga K "_law_take")) := He.glo_ok T.KX T.G (T.t.d.fact 14 (f := .glo "_law_take") rfl)
theorem TX.g_law_text (T : TX P w K mg base) : mg "_law_text" = some (.ref (He.ga K "_law_text")) := He.glo_ok T.KX T.G (T.t.d.fact 15 (f := .glo "_law_text") rfl)
theorem TX.g_law_weight (T : TX P w K mg base) : mg "_law_weight" = some (.ref (He.ga K "_law_weight")) := He.glo_ok T.KX T.G (T.t.d.fact 16 (f := .glo "_law_weight") rfl)
theorem TX.g_law_answer (T : TX P w K mg base) : mg "_law_answer" = some (.ref (He.ga K "_law_answer")) := He.glo_ok T.KX T.G (T.t.d.fact 17 (f := .glo "_law_answer") rfl)
theorem TX.g_law_lay_right (T : TX P w K mg base) : mg "_law_lay_right" = some (.ref (He.ga K "_law_lay_right")) := He.glo_ok T.KX T.G (T.t.d.fact 18 (f := .glo "_law_lay_right") rfl)
theorem TX.g_law_letter_right (T : TX P w K mg base) : mg "_law_letter_right" = some (.ref (He.ga K "_law_letter_right")) := He.glo_ok T.KX T.G (T.t.d.fact 19 (f := .glo "_law_letter_right") rfl)
theorem TX.g_law_told (T : TX P w K mg base) : mg "_law_told" = some (.ref (He.ga K "_law_told")) := He.glo_ok T.KX T.G (T.t.d.fact 20 (f := .glo "_law_told") rfl)
theorem TX.g_law (T : TX P w K mg base) : mg "law" = some (.ref (He.ga K "law")) := He.glo_ok T.KX T.G (T.t.d.fact 21 (f := .glo "law") rfl)
theorem TX.g_Way (T : TX P w K mg base) : mg "Way" = some (.ref (He.ga K "Way")) := He.glo_ok T.KX T.G (T.t.d.fact 22 (f := .glo "Way") rfl)
theorem TX.g_Road (T : TX P w K mg base) : mg "Road" = some (.ref (He.ga K "Road")) := He.glo_ok T.KX T.G (T.t.d.fact 23 (f := .glo "Road") rfl)
theorem TX.g_Writer (T : TX P w K mg base) : mg "Writer" = some (.ref (He.ga K "Writer")) := He.glo_ok T.KX T.G (T.t.d.fact 24 (f := .glo "Writer") rfl)
theorem TX.cl_Way (T : TX P w K mg base) : Cls K (He.ga K "Way") := He.cls_ok (T.t.d.fact 25 (f := .cls "Way") rfl)
theorem TX.cl_Road (T : TX P w K mg base) : Cls K (He.ga K "Road") := He.cls_ok (T.t.d.fact 26 (f := .cls "Road") rfl)
theorem TX.cl_Writer (T : TX P w K mg base) : Cls K (He.ga K "Writer") := He.cls_ok (T.t.d.fact 27 (f := .cls "Writer") rfl)
theorem TX.mk_Way (T : TX P w K mg base) : Mk K (He.ga K "Way") (He.ma K (He.ga K "Way") "__init__") := He.mkr_ok (T.t.d.fact 28 (f := .mkr "Way") rfl)
theorem TX.mk_Road (T : TX P w K mg base) : Mk K (He.ga K "Road") (He.ma K (He.ga K "Road") "__init__") := He.mkr_ok (T.t.d.fact 29 (f := .mkr "Road") rfl)
theorem TX.mk_Writer (T : TX P w K mg base) : Mk K (He.ga K "Writer") (He.ma K (He.ga K "Writer") "__init__") := He.mkr_ok (T.t.d.fact 30 (f := .mkr "Writer") rfl)
theorem TX.m_Way_lay (T : TX P w K mg base) : Meth K (He.ga K "Way") "lay" (He.ma K (He.ga K "Way") "lay") := He.meth_ok (T.t.d.fact 31 (f := .meth "Way" "lay") rfl)
theorem TX.m_Way_letter (T : TX P w K mg base) : Meth K (He.ga K "Way") "letter" (He.ma K (He.ga K "Way") "letter") := He.meth_ok (T.t.d.fact 32 (f := .meth "Way" "letter") rfl)
theorem TX.m_Way_hear (T : TX P w K mg base) : Meth K (He.ga K "Way") "hear" (He.ma K (He.ga K "Way") "hear") := He.meth_ok (T.t.d.fact 33 (f := .meth "Way" "hear") rfl)
theorem TX.m_Way_tick (T : TX P w K mg base) : Meth K (He.ga K "Way") "tick" (He.ma K (He.ga K "Way") "tick") := He.meth_ok (T.t.d.fact 34 (f := .meth "Way" "tick") rfl)
theorem TX.m_Way_pieces (T : TX P w K mg base) : Meth K (He.ga K "Way") "pieces" (He.ma K (He.ga K "Way") "pieces") := He.meth_ok (T.t.d.fact 35 (f := .meth "Way" "pieces") rfl)
theorem TX.m_Way_first_letter (T : TX P w K mg base) : Meth K (He.ga K "Way") "first_letter" (He.ma K (He.ga K "Way") "first_letter") := He.meth_ok (T.t.d.fact 36 (f := .meth "Way" "first_letter") rfl)
theorem TX.m_Way_laid (T : TX P w K mg base) : Meth K (He.ga K "Way") "laid" (He.ma K (He.ga K "Way") "laid") := He.meth_ok (T.t.d.fact 37 (f := .meth "Way" "laid") rfl)
theorem TX.m_Way_sure (T : TX P w K mg base) : Meth K (He.ga K "Way") "sure" (He.ma K (He.ga K "Way") "sure") := He.meth_ok (T.t.d.fact 38 (f := .meth "Way" "sure") rfl)
theorem TX.m_Way_unsure (T : TX P w K mg base) : Meth K (He.ga K "Way") "unsure" (He.ma K (He.ga K "Way") "unsure") := He.meth_ok (T.t.d.fact 39 (f := .meth "Way" "unsure") rfl)
theorem TX.m_Way_is_still (T : TX P w K mg base) : Meth K (He.ga K "Way") "is_still" (He.ma K (He.ga K "Way") "is_still") := He.meth_ok (T.t.d.fact 40 (f := .meth "Way" "is_still") rfl)
theorem TX.m_Way_called (T : TX P w K mg base) : Meth K (He.ga K "Way") "called" (He.ma K (He.ga K "Way") "called") := He.meth_ok (T.t.d.fact 41 (f := .meth "Way" "called") rfl)
theorem TX.m_Way_base (T : TX P w K mg base) : Meth K (He.ga K "Way") "base" (He.ma K (He.ga K "Way") "base") := He.meth_ok (T.t.d.fact 42 (f := .meth "Way" "base") rfl)
theorem TX.m_Writer_write (T : TX P w K mg base) : Meth K (He.ga K "Writer") "write" (He.ma K (He.ga K "Writer") "write") := He.meth_ok (T.t.d.fact 43 (f := .meth "Writer" "write") rfl)
theorem TX.m_Writer_end (T : TX P w K mg base) : Meth K (He.ga K "Writer") "end" (He.ma K (He.ga K "Writer") "end") := He.meth_ok (T.t.d.fact 44 (f := .meth "Writer" "end") rfl)
theorem TX.m_Writer_begin (T : TX P w K mg base) : Meth K (He.ga K "Writer") "begin" (He.ma K (He.ga K "Writer") "begin") := He.meth_ok (T.t.d.fact 45 (f := .meth "Writer" "begin") rfl)
theorem TX.m_Writer_road_at (T : TX P w K mg base) : Meth K (He.ga K "Writer") "road_at" (He.ma K (He.ga K "Writer") "road_at") := He.meth_ok (T.t.d.fact 46 (f := .meth "Writer" "road_at") rfl)
theorem TX.m_Writer_spare (T : TX P w K mg base) : Meth K (He.ga K "Writer") "spare" (He.ma K (He.ga K "Writer") "spare") := He.meth_ok (T.t.d.fact 47 (f := .meth "Writer" "spare") rfl)
theorem TX.m_Writer_go (T : TX P w K mg base) : Meth K (He.ga K "Writer") "go" (He.ma K (He.ga K "Writer") "go") := He.meth_ok (T.t.d.fact 48 (f := .meth "Writer" "go") rfl)
theorem TX.m_Writer_let_go (T : TX P w K mg base) : Meth K (He.ga K "Writer") "let_go" (He.ma K (He.ga K "Writer") "let_go") := He.meth_ok (T.t.d.fact 49 (f := .meth "Writer" "let_go") rfl)
theorem TX.m_Writer_put_anew (T : TX P w K mg base) : Meth K (He.ga K "Writer") "put_anew" (He.ma K (He.ga K "Writer") "put_anew") := He.meth_ok (T.t.d.fact 50 (f := .meth "Writer" "put_anew") rfl)
theorem TX.m_Writer_drop_known (T : TX P w K mg base) : Meth K (He.ga K "Writer") "drop_known" (He.ma K (He.ga K "Writer") "drop_known") := He.meth_ok (T.t.d.fact 51 (f := .meth "Writer" "drop_known") rfl)
theorem TX.m_Writer_next_piece (T : TX P w K mg base) : Meth K (He.ga K "Writer") "next_piece" (He.ma K (He.ga K "Writer") "next_piece") := He.meth_ok (T.t.d.fact 52 (f := .meth "Writer" "next_piece") rfl)
theorem TX.m_Writer_usable (T : TX P w K mg base) : Meth K (He.ga K "Writer") "usable" (He.ma K (He.ga K "Writer") "usable") := He.meth_ok (T.t.d.fact 53 (f := .meth "Writer" "usable") rfl)
theorem TX.m_Writer_road_for (T : TX P w K mg base) : Meth K (He.ga K "Writer") "road_for" (He.ma K (He.ga K "Writer") "road_for") := He.meth_ok (T.t.d.fact 54 (f := .meth "Writer" "road_for") rfl)
theorem TX.m_Writer_send (T : TX P w K mg base) : Meth K (He.ga K "Writer") "send" (He.ma K (He.ga K "Writer") "send") := He.meth_ok (T.t.d.fact 55 (f := .meth "Writer" "send") rfl)
theorem TX.m_Writer_take (T : TX P w K mg base) : Meth K (He.ga K "Writer") "take" (He.ma K (He.ga K "Writer") "take") := He.meth_ok (T.t.d.fact 56 (f := .meth "Writer" "take") rfl)
theorem TX.m_Writer_on_call (T : TX P w K mg base) : Meth K (He.ga K "Writer") "on_call" (He.ma K (He.ga K "Writer") "on_call") := He.meth_ok (T.t.d.fact 57 (f := .meth "Writer" "on_call") rfl)
theorem TX.m_Writer_on_sure (T : TX P w K mg base) : Meth K (He.ga K "Writer") "on_sure" (He.ma K (He.ga K "Writer") "on_sure") := He.meth_ok (T.t.d.fact 58 (f := .meth "Writer" "on_sure") rfl)
theorem TX.m_Writer_hear_mode (T : TX P w K mg base) : Meth K (He.ga K "Writer") "hear_mode" (He.ma K (He.ga K "Writer") "hear_mode") := He.meth_ok (T.t.d.fact 59 (f := .meth "Writer" "hear_mode") rfl)
theorem TX.m_Writer_has_all_laid (T : TX P w K mg base) : Meth K (He.ga K "Writer") "has_all_laid" (He.ma K (He.ga K "Writer") "has_all_laid") := He.meth_ok (T.t.d.fact 60 (f := .meth "Writer" "has_all_laid") rfl)
theorem TX.m_Writer_tick_letters (T : TX P w K mg base) : Meth K (He.ga K "Writer") "tick_letters" (He.ma K (He.ga K "Writer") "tick_letters") := He.meth_ok (T.t.d.fact 61 (f := .meth "Writer" "tick_letters") rfl)
theorem TX.m_Writer_look_at_still (T : TX P w K mg base) : Meth K (He.ga K "Writer") "look_at_still" (He.ma K (He.ga K "Writer") "look_at_still") := He.meth_ok (T.t.d.fact 62 (f := .meth "Writer" "look_at_still") rfl)
theorem TX.m_Writer_tick (T : TX P w K mg base) : Meth K (He.ga K "Writer") "tick" (He.ma K (He.ga K "Writer") "tick") := He.meth_ok (T.t.d.fact 63 (f := .meth "Writer" "tick") rfl)
theorem TX.m_Writer_written (T : TX P w K mg base) : Meth K (He.ga K "Writer") "written" (He.ma K (He.ga K "Writer") "written") := He.meth_ok (T.t.d.fact 64 (f := .meth "Writer" "written") rfl)
theorem TX.m_Writer_kept (T : TX P w K mg base) : Meth K (He.ga K "Writer") "kept" (He.ma K (He.ga K "Writer") "kept") := He.meth_ok (T.t.d.fact 65 (f := .meth "Writer" "kept") rfl)
theorem TX.m_Writer_known (T : TX P w K mg base) : Meth K (He.ga K "Writer") "known" (He.ma K (He.ga K "Writer") "known") := He.meth_ok (T.t.d.fact 66 (f := .meth "Writer" "known") rfl)
theorem TX.m_Writer_limit (T : TX P w K mg base) : Meth K (He.ga K "Writer") "limit" (He.ma K (He.ga K "Writer") "limit") := He.meth_ok (T.t.d.fact 67 (f := .meth "Writer" "limit") rfl)
theorem TX.m_Writer_mode (T : TX P w K mg base) : Meth K (He.ga K "Writer") "mode" (He.ma K (He.ga K "Writer") "mode") := He.meth_ok (T.t.d.fact 68 (f := .meth "Writer" "mode") rfl)
theorem TX.m_Writer_roads (T : TX P w K mg base) : Meth K (He.ga K "Writer") "roads" (He.ma K (He.ga K "Writer") "roads") := He.meth_ok (T.t.d.fact 69 (f := .meth "Writer" "roads") rfl)
theorem TX.m_Writer_anew (T : TX P w K mg base) : Meth K (He.ga K "Writer") "anew" (He.ma K (He.ga K "Writer") "anew") := He.meth_ok (T.t.d.fact 70 (f := .meth "Writer" "anew") rfl)
theorem TX.n_Way_own_road (T : TX P w K mg base) : NoAttr K (He.ga K "Way") "own_road" := He.noat_ok (T.t.d.fact 71 (f := .noat "Way" "own_road") rfl)
theorem TX.n_Way_own_base (T : TX P w K mg base) : NoAttr K (He.ga K "Way") "own_base" := He.noat_ok (T.t.d.fact 72 (f := .noat "Way" "own_base") rfl)
theorem TX.n_Way_own_lays (T : TX P w K mg base) : NoAttr K (He.ga K "Way") "own_lays" := He.noat_ok (T.t.d.fact 73 (f := .noat "Way" "own_lays") rfl)
theorem TX.n_Way_own_pieces (T : TX P w K mg base) : NoAttr K (He.ga K "Way") "own_pieces" := He.noat_ok (T.t.d.fact 74 (f := .noat "Way" "own_pieces") rfl)
theorem TX.n_Way_own_laid (T : TX P w K mg base) : NoAttr K (He.ga K "Way") "own_laid" := He.noat_ok (T.t.d.fact 75 (f := .noat "Way" "own_laid") rfl)
theorem TX.n_Way_own_sure (T : TX P w K mg base) : NoAttr K (He.ga K "Way") "own_sure" := He.noat_ok (T.t.d.fact 76 (f := .noat "Way" "own_sure") rfl)
theorem TX.n_Way_own_age (T : TX P w K mg base) : NoAttr K (He.ga K "Way") "own_age" := He.noat_ok (T.t.d.fact 77 (f := .noat "Way" "own_age") rfl)
theorem TX.n_Road_own_way (T : TX P w K mg base) : NoAttr K (He.ga K "Road") "own_way" := He.noat_ok (T.t.d.fact 78 (f := .noat "Road" "own_way") rfl)
theorem TX.n_Road_own_state (T : TX P w K mg base) : NoAttr K (He.ga K "Road") "own_state" := He.noat_ok (T.t.d.fact 79 (f := .noat "Road" "own_state") rfl)
theorem TX.n_Road_own_spare (T : TX P w K mg base) : NoAttr K (He.ga K "Road") "own_spare" := He.noat_ok (T.t.d.fact 80 (f := .noat "Road" "own_spare") rfl)
theorem TX.n_Road_was_put (T : TX P w K mg base) : NoAttr K (He.ga K "Road") "was_put" := He.noat_ok (T.t.d.fact 81 (f := .noat "Road" "was_put") rfl)
theorem TX.n_Writer_own_rule (T : TX P w K mg base) : NoAttr K (He.ga K "Writer") "own_rule" := He.noat_ok (T.t.d.fact 82 (f := .noat "Writer" "own_rule") rfl)
theorem TX.n_Writer_own_signs (T : TX P w K mg base) : NoAttr K (He.ga K "Writer") "own_signs" := He.noat_ok (T.t.d.fact 83 (f := .noat "Writer" "own_signs") rfl)
theorem TX.n_Writer_was_ended (T : TX P w K mg base) : NoAttr K (He.ga K "Writer") "was_ended" := He.noat_ok (T.t.d.fact 84 (f := .noat "Writer" "was_ended") rfl)
theorem TX.n_Writer_own_known (T : TX P w K mg base) : NoAttr K (He.ga K "Writer") "own_known" := He.noat_ok (T.t.d.fact 85 (f := .noat "Writer" "own_known") rfl)
theorem TX.n_Writer_own_limit (T : TX P w K mg base) : NoAttr K (He.ga K "Writer") "own_limit" := He.noat_ok (T.t.d.fact 86 (f := .noat "Writer" "own_limit") rfl)
theorem TX.n_Writer_own_mode (T : TX P w K mg base) : NoAttr K (He.ga K "Writer") "own_mode" := He.noat_ok (T.t.d.fact 87 (f := .noat "Writer" "own_mode") rfl)
theorem TX.n_Writer_was_over (T : TX P w K mg base) : NoAttr K (He.ga K "Writer") "was_over" := He.noat_ok (T.t.d.fact 88 (f := .noat "Writer" "was_over") rfl)
theorem TX.n_Writer_own_roads (T : TX P w K mg base) : NoAttr K (He.ga K "Writer") "own_roads" := He.noat_ok (T.t.d.fact 89 (f := .noat "Writer" "own_roads") rfl)
theorem TX.n_Writer_first_road (T : TX P w K mg base) : NoAttr K (He.ga K "Writer") "first_road" := He.noat_ok (T.t.d.fact 90 (f := .noat "Writer" "first_road") rfl)
theorem TX.n_Writer_last_road (T : TX P w K mg base) : NoAttr K (He.ga K "Writer") "last_road" := He.noat_ok (T.t.d.fact 91 (f := .noat "Writer" "last_road") rfl)
theorem TX.n_Writer_own_next (T : TX P w K mg base) : NoAttr K (He.ga K "Writer") "own_next" := He.noat_ok (T.t.d.fact 92 (f := .noat "Writer" "own_next") rfl)
theorem TX.n_Writer_own_anew (T : TX P w K mg base) : NoAttr K (He.ga K "Writer") "own_anew" := He.noat_ok (T.t.d.fact 93 (f := .noat "Writer" "own_anew") rfl)
theorem TX.f_isinstance (T : TX P w K mg base) : mg "isinstance" = none := He.free_ok T.KX T.G (T.t.d.fact 94 (f := .free "isinstance") rfl)
theorem TX.f_str (T : TX P w K mg base) : mg "str" = none := He.free_ok T.KX T.G (T.t.d.fact 95 (f := .free "str") rfl)
theorem TX.f_int (T : TX P w K mg base) : mg "int" = none := He.free_ok T.KX T.G (T.t.d.fact 96 (f := .free "int") rfl)
theorem TX.f_bool (T : TX P w K mg base) : mg "bool" = none := He.free_ok T.KX T.G (T.t.d.fact 97 (f := .free "bool") rfl)
theorem TX.f_tuple (T : TX P w K mg base) : mg "tuple" = none := He.free_ok T.KX T.G (T.t.d.fact 98 (f := .free "tuple") rfl)
theorem TX.f_dict (T : TX P w K mg base) : mg "dict" = none := He.free_ok T.KX T.G (T.t.d.fact 99 (f := .free "dict") rfl)
theorem TX.f_all (T : TX P w K mg base) : mg "all" = none := He.free_ok T.KX T.G (T.t.d.fact 100 (f := .free "all") rfl)
theorem TX.f_min (T : TX P w K mg base) : mg "min" = none := He.free_ok T.KX T.G (T.t.d.fact 101 (f := .free "min") rfl)
theorem TX.f_max (T : TX P w K mg base) : mg "max" = none := He.free_ok T.KX T.G (T.t.d.fact 102 (f := .free "max") rfl)
theorem TX.f_len (T : TX P w K mg base) : mg "len" = none := He.free_ok T.KX T.G (T.t.d.fact 103 (f := .free "len") rfl)
theorem TX.f_sorted (T : TX P w K mg base) : mg "sorted" = none := He.free_ok T.KX T.G (T.t.d.fact 104 (f := .free "sorted") rfl)
theorem TX.f_enumerate (T : TX P w K mg base) : mg "enumerate" = none := He.free_ok T.KX T.G (T.t.d.fact 105 (f := .free "enumerate") rfl)
theorem TX.f_range (T : TX P w K mg base) : mg "range" = none := He.free_ok T.KX T.G (T.t.d.fact 106 (f := .free "range") rfl)
theorem TX.f_sum (T : TX P w K mg base) : mg "sum" = none := He.free_ok T.KX T.G (T.t.d.fact 107 (f := .free "sum") rfl)
theorem TX.c_LONGEST (T : TX P w K mg base) : ∃ t, mg "LONGEST" = some (.int 8 t) := He.int_ok T.KX T.G (T.t.d.fact 108 (f := .int "LONGEST" 8) rfl)
theorem TX.c_WINDOW (T : TX P w K mg base) : ∃ t, mg "WINDOW" = some (.int 24 t) := He.int_ok T.KX T.G (T.t.d.fact 109 (f := .int "WINDOW" 24) rfl)
theorem TX.c_STALL (T : TX P w K mg base) : ∃ t, mg "STALL" = some (.int 3 t) := He.int_ok T.KX T.G (T.t.d.fact 110 (f := .int "STALL" 3) rfl)
theorem TX.c_MOST_BASE (T : TX P w K mg base) : ∃ t, mg "MOST_BASE" = some (.int 9999 t) := He.int_ok T.KX T.G (T.t.d.fact 111 (f := .int "MOST_BASE" 9999) rfl)
theorem TX.c_PIECE (T : TX P w K mg base) : ∃ t, mg "PIECE" = some (.int 8 t) := He.int_ok T.KX T.G (T.t.d.fact 112 (f := .int "PIECE" 8) rfl)
theorem TX.c_LETTERS (T : TX P w K mg base) : ∃ t, mg "LETTERS" = some (.str "abcdefghijklmnopqrstuvwxyz" t) := He.str_ok T.KX T.G (T.t.d.fact 113 (f := .str "LETTERS" "abcdefghijklmnopqrstuvwxyz") rfl)
theorem TX.g_RULES (T : TX P w K mg base) : mg "RULES" = some (.ref (He.ga K "RULES")) := He.glo_ok T.KX T.G (T.t.d.fact 114 (f := .glo "RULES") rfl)
theorem TX.g_MODES (T : TX P w K mg base) : mg "MODES" = some (.ref (He.ga K "MODES")) := He.glo_ok T.KX T.G (T.t.d.fact 115 (f := .glo "MODES") rfl)
theorem TX.g_ANSWERS (T : TX P w K mg base) : mg "ANSWERS" = some (.ref (He.ga K "ANSWERS")) := He.glo_ok T.KX T.G (T.t.d.fact 116 (f := .glo "ANSWERS") rfl)
/-- a promise that is kept, how its arguments bind -/
structure PR (P : Program) (w : World) (K : PySem.W.Frag) (mg : Str → Option Value) (base : Heap) (k : Nat) (f : Addr) (ps : List Str) (sp : Sp) : Prop where
  ok : ∃ fd, FnOk P w K mg base CX0 k f fd ps sp ∧ Binds K fd ps []
  kp : PySem.W.keepIn K (.ref f) = true
theorem TX.prom (T : TX P w K mg base) (d : He.DefD) (hd : d ∈ fn) {N ps : List Str} {k : Nat} {sp : Sp} (hk : d.dfl = [] ∧ d.kwd = []) (S : FnScope N ps d.scope) (len : ∀ vs H Q E, sp vs H Q E → vs.length = ps.length)
    (hb : ∀ (kV doc pm : Value) (an : Option Addr) (cdv ct : Value) (us : List Value), us.length = ps.length → bindArgs (PySem.W.fnOf d.name d.qual d.params d.body d.scope .none kV doc pm an cdv ct) ⟨us, []⟩ = pure (ps.zip us))
    (hbody : ∀ (cdv : Value) (A : Around) (outer : List Env) (s : Shared) (H : Hp) (vs : List V) (Q : VK) (E : XK), Room k (A.deeper (envOfC d.qual d.scope s.heap.objs.size (He.fAd K d.at_) cdv)) → sp vs H Q E →
      ∃ t, PSs (cxOf CX0 P w K mg base N d.qual d.scope (He.fAd K d.at_) cdv A outer s H E).nox d.body t ∧ t { nx := fun _ H' => Q .non H', rt := Q } (start N vs) H) :
    PR P w K mg base (k + 1) (He.fAd K d.at_) ps sp := by
  obtain ⟨fd, F⟩ := T.t.d.defs hd
  have e1 : d.dvs K = [] := by unfold He.DefD.dvs; rw [hk.1]; rfl
  rw [e1] at F
  refine ⟨⟨fd, F.ok S len fun cdv A outer s H vs Q E hr h => ?_, F.bindsN hb⟩, F.kp⟩
  obtain ⟨t, h1, h2⟩ := hbody cdv A outer s H vs Q E hr h
  exact ⟨t, PSs.nox h1, h2⟩
section
variable {X : Cx} {k : Nat} {f C : Addr} {ps : List Str} {sp : Sp} {x m : Str} {p pos apos : Pos} {e o : Expr} {es : List Expr} {ta : TE} {t : TA}
theorem pe_callP (G : PR X.prog X.w X.K X.mg X.base k f ps sp) (hr : Room k X.A) (hg : Gl X x) (hm : X.mg x = some (.ref f)) (ha : PA X (e :: es) t)
    (hd : (x == ("__debug__" : Str)) = false := by decide) (he : starEach (e :: es) X.env = (false, eval e X.env) :: starEach es X.env := by rfl) (hpl : (backTo pos (starEach es X.env)).any (·.1) = false := by rfl) :
    PE X (.Call (.Name x p) (e :: es) [] pos) (tCall sp [] E0 t) := by
  obtain ⟨fd, F, b⟩ := G.ok
  exact pe_call F hr hg hm G.kp b .nil pass0 ha hd he hpl
theorem pe_methP {pl : Sem Bool} (he : PE X o ta) (c : Cls X.K C) (hm : Meth X.K C m f) (G : PR X.prog X.w X.K X.mg X.base k f ps sp) (hr : Room k X.A) (ha : PA X (e :: es) t)
    (hst : starEach (e :: es) X.env = (false, eval e X.env) :: starEach es X.env := by rfl) (hpl : (backTo pos (starEach es X.env)).any (·.1) = false := by rfl)
    (ht : eval (.Call (.Attribute o m apos) (e :: es) [] pos) X.env = (do
      let ov ← eval o X.env
      standAt apos.atName
      let (f, first) ← holding [ov] (getMethod ov m pl)
      callWith pos f first (backTo pos (starEach (e :: es) X.env)) (backToKw pos (keywordEach [] X.env))) := by rfl) :
    PE X (.Call (.Attribute o m apos) (e :: es) [] pos) (tMeth C m sp [] E0 ta t) := by
  obtain ⟨fd, F, b⟩ := G.ok
  exact pe_meth he c hm F hr b .nil pass0 ha hst hpl ht
theorem pe_methP0 {pl : Sem Bool} (he : PE X o ta) (c : Cls X.K C) (hm : Meth X.K C m f) (G : PR X.prog X.w X.K X.mg X.base k f ps sp) (hr : Room k X.A)
    (ht : eval (.Call (.Attribute o m apos) [] [] pos) X.env = (do
      let ov ← eval o X.env
      standAt apos.atName
      let (f, first) ← holding [ov] (getMethod ov m pl)
      callWith pos f first (backTo pos (starEach [] X.env)) (backToKw pos (keywordEach [] X.env))) := by rfl) :
    PE X (.Call (.Attribute o m apos) [] [] pos) (tMeth C m sp [] E0 ta tNil) := by
  obtain ⟨fd, F, b⟩ := G.ok
  exact pe_meth0 he c hm F hr b .nil pass0 ht
theorem pe_makeP (M : Mk X.K C f) (G : PR X.prog X.w X.K X.mg X.base k f ps sp) (hr : Room (k + 1) X.A) (hg : Gl X x) (hm : X.mg x = some (.ref C)) (ha : PA X (e :: es) t)
    (hd : (x == ("__debug__" : Str)) = false := by decide) (he : starEach (e :: es) X.env = (false, eval e X.env) :: starEach es X.env := by rfl) (hpl : (backTo pos (starEach es X.env)).any (·.1) = false := by rfl) :
    PE X (.Call (.Name x p) (e :: es) [] pos) (tMake C sp [] E0 t) := by
  obtain ⟨fd, F, b⟩ := G.ok
  exact pe_make M F hr hg hm b .nil pass0 ha hd he hpl
/-- a module's int, text -/
theorem pe_gint {i : Int} (hg : Gl X x) (hm : ∃ t, X.mg x = some (.int i t)) (hd : (x == ("__debug__" : Str)) = false := by decide) : PE X (.Name x pos) (tC (.int i)) := by
  obtain ⟨t, h⟩ := hm
  exact pe_glob hg h ⟨t, rfl⟩ hd
theorem pe_gstr {z : Str} (hg : Gl X x) (hm : ∃ t, X.mg x = some (.str z t)) (hd : (x == ("__debug__" : Str)) = false := by decide) : PE X (.Name x pos) (tC (.str z)) := by
  obtain ⟨t, h⟩ := hm
  exact pe_glob hg h ⟨t, rfl⟩ hd
theorem pe_gref {a : Addr} (hg : Gl X x) (hm : X.mg x = some (.ref a)) (hd : (x == ("__debug__" : Str)) = false := by decide) : PE X (.Name x pos) (tC (.ref a)) := pe_glob hg hm rfl hd
theorem pe_bty {n : String} (hg : Gl X x) (hm : X.mg x = none) (hv : bootBuiltins x = some (.type n)) (hn : x ≠ "__name__" := by decide) (hd : (x == ("__debug__" : Str)) = false := by decide) : PE X (.Name x pos) (tC (.ty n)) := pe_bltn hg hm hv rfl hn hd
/-- isinstance(x, T), T a built-in type -/
def rIsB (K : PySem.W.Frag) : List V → Hp → VK → Prop := fun xs H Q => ∃ (x : V) (a b : String) (r : Bool), xs = [x, .ty b] ∧ TyX K H x (.type a) ∧ kitB a b = some r ∧ Q (.bl r) H
theorem call_isB : CallR X (.builtin "isinstance") (rIsB X.K) := by
  intro pins s σ H xs us Q I r h
  obtain ⟨x, a, b, k, rfl, h1, h2, q⟩ := h
  exact call_isi pins s σ H _ us Q I r ⟨x, .ty b, .type a, .type b, k, rfl, .ty b, h1, kit_ty h2, q⟩
end
end

/-! ### rules that the layer lacks: a dict locked where it comes, stars among targets, enumerate of a text, calls by keywords -/
section
variable {X : Cx}
/-- a dict (or list) that an expression gives, locked from there on -/
def tLockN (t : TE) : TE := fun σ H Q => t σ H fun x H1 => ∃ d u, x = .ref d ∧ H1 d = some u ∧ Mut (some u) ∧ ∀ od, Q (.ref d) (upd H1 d (.frz od u))
theorem pe_lockN {e : Expr} {t : TE} (h : PE X e t) : PE X e (tLockN t) := by
  refine ⟨fun pins s σ H Q I hw => ?_⟩
  refine thn (h.run pins s σ H _ I hw) fun v s1 ⟨x, H1, I1, r1, d, u, ex, hd, mu, q⟩ => ?_
  obtain ⟨od, I2⟩ := I1.lock hd mu
  rw [ex] at r1
  exact ⟨.ref d, _, I2, r1, q od⟩
/-! a, b, *c = t -/
theorem unpack_starT {prog : Program} {w : World} {A : Around} {E : Value → Shared → Prop} {s : Shared} {l : Addr} {items : Array Value} {n i : Nat} {Q : List Value → Shared → Prop} (hl : IsTup s.heap l items) (hh : A.handled = none) (hi : i < n) (hn : n ≤ items.size + 1) (hz : items.size ≤ 16384)
    (h : ∀ (h' : Heap) (tk : Nat), (∀ b o, s.heap.get? b = some o → h'.get? b = some o) → Q (items.toList.take i ++ [.ref h'.objs.size] ++ (items.toList.drop i).drop (items.size + 1 - n)) { s with heap := h'.push { cls := .type "list", data := .seq ((items.toList.drop i).take (items.size + 1 - n)).toArray }, toks := tk }) :
    wpAny (model prog w) A (unpackItems (.ref l) n (some i)) Q E s := by
  have hlt : l ≠ s.heap.objs.size := by obtain ⟨o, ho, _⟩ := hl; exact Nat.ne_of_lt (Heap.lt_size ho)
  unfold unpackItems
  refine wpAny_bind ?_
  unfold notIterableAtAll
  refine wpAny_bind (wpAny_specialOf hl.typeIs slot_tuple_iter.lookup ?_)
  refine wpAny_pure ?_
  simp only [Bool.false_eq_true, if_false]
  refine wpAny_bind (wpAny_holding (iter_tuple hl ?_))
  refine wpAny_bind (wpAny_holding (draw_tuple hlt i 0 _ _ ⟨_, Heap.get?_push_size _ rfl, rfl, rfl⟩ (hl.push _) (by omega) fun h₁ hit₁ hs₁ => ?_))
  have hl₁ : IsTup h₁ l items := (hl.push _).extBut hs₁.extBut hlt
  rw [Nat.zero_add] at hit₁
  have hit₁' := hit₁
  obtain ⟨oi, hoi, _⟩ := hit₁'
  have hl₁' := hl₁
  obtain ⟨ol, hol, _⟩ := hl₁'
  rw [List.drop_zero]
  have hfl : (items.toList.take i).length = i := by rw [List.length_take, Array.length_toList]; omega
  rw [if_neg (show ¬ ((items.toList.take i).length < i) by rw [hfl]; omega)]
  refine wpAny_bind (wpAny_holding (PySem.W.kun_collect (s := { s with heap := h₁ }) (T := "tuple_iterator") (.inr (.inr (.inr rfl))) (Walks.tuple (A := A.in1) hh s.heap.objs.size l hlt items) (fun j u st => st.1.typeIs) (k := i) (by omega) ⟨hit₁, hl₁⟩ (Heap.lt_size hoi) (Heap.lt_size hol) (fun h₂ tk hk => ?_) (by rw [sizeLine_eq]; omega)))
  have hrl : (items.toList.drop i).length = items.size - i := by rw [List.length_drop, Array.length_toList]
  have hmid : (items.toList.drop i).length - (n - 1 - i) = items.size + 1 - n := by rw [hrl]; omega
  show wpAny _ _ (if (items.toList.drop i).length < n - 1 - i then _ else _) _ _ _
  rw [if_neg (by rw [hrl]; omega)]
  show wpAny _ _ (newList ((items.toList.drop i).take ((items.toList.drop i).length - (n - 1 - i))) >>= fun d => pure (items.toList.take i ++ [d] ++ (items.toList.drop i).drop ((items.toList.drop i).length - (n - 1 - i)))) _ _ _
  rw [hmid]
  have he : ∀ b o, s.heap.get? b = some o → h₂.get? b = some o := fun b o e => hk b o (Nat.ne_of_lt (Heap.lt_size e)) (hs₁.extBut b o (Nat.ne_of_lt (Heap.lt_size e)) (Heap.get?_push_of_some _ e))
  unfold newList
  exact wpAny_bind (wpAny_newObj_type (wpAny_pure (h h₂ tk he)) (by
    show ((items.toList.drop i).take (items.size + 1 - n)).toArray.size ≤ sizeLine
    rw [List.size_toArray, List.length_take, hrl, sizeLine_eq]; omega))
def gStarT (K : PySem.W.Frag) (n i : Nat) (t : TGs) : TG := fun v σ H Q => ∃ a xs, v = .ref a ∧ SqT K H a xs ∧ (i < n ∧ n ≤ xs.length + 1 ∧ xs.length ≤ 16384) ∧
  ∀ p, H p = none → t (xs.take i ++ [.ref p] ++ (xs.drop i).drop (xs.length + 1 - n)) σ (upd H p (.lst ((xs.drop i).take (xs.length + 1 - n)))) Q
theorem pgs_star {e : Expr} {es : List Expr} {t : TG} {u : TGs} {p : Pos} (h1 : PG X e t) (h2 : PGs X es u) : PGs X (.Starred e p :: es) (gCons t u) := by
  refine ⟨fun pins s σ H vs us Q I r h => ?_⟩
  obtain ⟨v, vr, e1, h⟩ := h
  subst e1
  cases r with
  | cons r rr =>
    show wpAny _ _ (assignInOrder (assign e X.env :: (assignEach es X.env).map (·.2)) _) _ _ _
    refine assignInOrder_cons (thn (h1.run pins s σ H _ _ _ I r h) fun _ s1 ⟨σ1, H1, I1, q1⟩ => ?_)
    exact h2.run pins s1 σ1 H1 _ _ Q I1 rr q1
theorem pg_starT {es : List Expr} {k : Nat} {t : TGs} {n i : Nat} {pos : Pos} (hc : X.calm = true) (h : PGs X es t)
    (hn : (assignEach es X.env).length = n := by rfl) (hst : (assignEach es X.env).findIdx? (·.1) = some i := by rfl) : PG X (.Tuple es k pos) (gStarT X.K n i t) := by
  refine ⟨fun pins s σ H v u Q I r hw => ?_⟩
  obtain ⟨a, xs, e1, hq, ⟨hi, hl, hz⟩, hw⟩ := hw
  subst e1
  cases r
  obtain ⟨its, rv, ht, _⟩ := I.tuple hq
  have el := rv.length
  rw [assign_Tuple]
  refine wpAny_bind (wpAny_standAt ?_)
  unfold unpack
  rw [hn, hst]
  refine wpAny_bind (wpAny_holding (unpack_starT ht (I.ok.hd hc) hi (by simp; omega) (by simp; omega) fun h' tk hk => ?_))
  have I1 : Inv X pins σ H { s with heap := h', toks := tk } := I.kept hk
  have e1 : its.toArray.size + 1 - n = xs.length + 1 - n := by simp [el]
  have I2 := I1.lnew (t' := tk) (its := (its.drop i).take (xs.length + 1 - n)) ((rv.drop i).take _) (by rw [List.length_take, List.length_drop]; rw [sizeLine_eq]; omega)
  have hp := I1.fresh
  have q := hw _ hp
  refine h.run pins _ σ _ _ _ Q (by rw [e1]; exact I2) ?_ q
  rw [e1]
  exact ((rv.take i).append (Paired.cons (show RelV (V.ref _) (Value.ref _) from rfl) .nil)).append ((rv.drop i).drop _)
/-! .. = a list -/
theorem unpack_starL {prog : Program} {w : World} {A : Around} {E : Value → Shared → Prop} {s : Shared} {l : Addr} {items : Array Value} {n i : Nat} {Q : List Value → Shared → Prop} (hl : s.heap.IsList l items) (hh : A.handled = none) (hi : i < n) (hn : n ≤ items.size + 1) (hz : items.size ≤ 16384)
    (h : ∀ (h' : Heap) (tk : Nat), (∀ b o, s.heap.get? b = some o → h'.get? b = some o) → Q (items.toList.take i ++ [.ref h'.objs.size] ++ (items.toList.drop i).drop (items.size + 1 - n)) { s with heap := h'.push { cls := .type "list", data := .seq ((items.toList.drop i).take (items.size + 1 - n)).toArray }, toks := tk }) :
    wpAny (model prog w) A (unpackItems (.ref l) n (some i)) Q E s := by
  have hlt : l ≠ s.heap.objs.size := by obtain ⟨o, ho, _⟩ := hl; exact Nat.ne_of_lt (Heap.lt_size ho)
  unfold unpackItems
  refine wpAny_bind ?_
  unfold notIterableAtAll
  refine wpAny_bind (wpAny_specialOf hl.typeIs slot_list_iter.lookup ?_)
  refine wpAny_pure ?_
  simp only [Bool.false_eq_true, if_false]
  refine wpAny_bind (wpAny_holding (wpAny_pyIter_list hl ?_))
  refine wpAny_bind (wpAny_holding (PySem.W.kun_draw hlt i 0 _ _ ⟨_, Heap.get?_push_size _ rfl, rfl, rfl⟩ (hl.push _) (by omega) fun h₁ hit₁ hs₁ => ?_))
  have hl₁ : h₁.IsList l items := (hl.push _).extBut hs₁.extBut hlt
  rw [Nat.zero_add] at hit₁
  have hit₁' := hit₁
  obtain ⟨oi, hoi, _⟩ := hit₁'
  have hl₁' := hl₁
  obtain ⟨ol, hol, _⟩ := hl₁'
  rw [List.drop_zero]
  have hfl : (items.toList.take i).length = i := by rw [List.length_take, Array.length_toList]; omega
  rw [if_neg (show ¬ ((items.toList.take i).length < i) by rw [hfl]; omega)]
  refine wpAny_bind (wpAny_holding (PySem.W.kun_collect (s := { s with heap := h₁ }) (T := "list_iterator") (.inr (.inr (.inl rfl))) (Walks.list (A := A.in1) hh s.heap.objs.size l hlt items) (fun j u st => st.1.typeIs) (k := i) (by omega) ⟨hit₁, hl₁⟩ (Heap.lt_size hoi) (Heap.lt_size hol) (fun h₂ tk hk => ?_) (by rw [sizeLine_eq]; omega)))
  have hrl : (items.toList.drop i).length = items.size - i := by rw [List.length_drop, Array.length_toList]
  have hmid : (items.toList.drop i).length - (n - 1 - i) = items.size + 1 - n := by rw [hrl]; omega
  show wpAny _ _ (if (items.toList.drop i).length < n - 1 - i then _ else _) _ _ _
  rw [if_neg (by rw [hrl]; omega)]
  show wpAny _ _ (newList ((items.toList.drop i).take ((items.toList.drop i).length - (n - 1 - i))) >>= fun d => pure (items.toList.take i ++ [d] ++ (items.toList.drop i).drop ((items.toList.drop i).length - (n - 1 - i)))) _ _ _
  rw [hmid]
  have he : ∀ b o, s.heap.get? b = some o → h₂.get? b = some o := fun b o e => hk b o (Nat.ne_of_lt (Heap.lt_size e)) (hs₁.extBut b o (Nat.ne_of_lt (Heap.lt_size e)) (Heap.get?_push_of_some _ e))
  unfold newList
  exact wpAny_bind (wpAny_newObj_type (wpAny_pure (h h₂ tk he)) (by
    show ((items.toList.drop i).take (items.size + 1 - n)).toArray.size ≤ sizeLine
    rw [List.size_toArray, List.length_take, hrl, sizeLine_eq]; omega))
def gStarL (K : PySem.W.Frag) (n i : Nat) (t : TGs) : TG := fun v σ H Q => ∃ a xs, v = .ref a ∧ SqL K H a xs ∧ (i < n ∧ n ≤ xs.length + 1 ∧ xs.length ≤ 16384) ∧
  ∀ p, H p = none → t (xs.take i ++ [.ref p] ++ (xs.drop i).drop (xs.length + 1 - n)) σ (upd H p (.lst ((xs.drop i).take (xs.length + 1 - n)))) Q
theorem pg_starL {es : List Expr} {k : Nat} {t : TGs} {n i : Nat} {pos : Pos} (hc : X.calm = true) (h : PGs X es t)
    (hn : (assignEach es X.env).length = n := by rfl) (hst : (assignEach es X.env).findIdx? (·.1) = some i := by rfl) : PG X (.Tuple es k pos) (gStarL X.K n i t) := by
  refine ⟨fun pins s σ H v u Q I r hw => ?_⟩
  obtain ⟨a, xs, e1, hq, ⟨hi, hl, hz⟩, hw⟩ := hw
  subst e1
  cases r
  obtain ⟨its, rv, ht, _⟩ := I.list hq
  have el := rv.length
  rw [assign_Tuple]
  refine wpAny_bind (wpAny_standAt ?_)
  unfold unpack
  rw [hn, hst]
  refine wpAny_bind (wpAny_holding (unpack_starL ht.isList (I.ok.hd hc) hi (by simp; omega) (by simp; omega) fun h' tk hk => ?_))
  have I1 : Inv X pins σ H { s with heap := h', toks := tk } := I.kept hk
  have e1 : its.toArray.size + 1 - n = xs.length + 1 - n := by simp [el]
  have I2 := I1.lnew (t' := tk) (its := (its.drop i).take (xs.length + 1 - n)) ((rv.drop i).take _) (by rw [List.length_take, List.length_drop]; rw [sizeLine_eq]; omega)
  have hp := I1.fresh
  have q := hw _ hp
  refine h.run pins _ σ _ _ _ Q (by rw [e1]; exact I2) ?_ q
  rw [e1]
  exact ((rv.take i).append (Paired.cons (show RelV (V.ref _) (Value.ref _) from rfl) .nil)).append ((rv.drop i).drop _)
/-! ### enumerate of a text, from k0 -/
def Itse (x : Str) (k0 : Int) : It :=
  ⟨fun i _ => i < x.cps.size, fun i H v H' => ∃ T c, v = .ref T ∧ H T = none ∧ H' = upd H T (.tup [.int (k0 + (i : Nat)), .str ⟨#[c]⟩]) ∧ x.cps[i]? = some c, fun i _ => x.cps.size ≤ i⟩
theorem turn_enumS {P : Program} {w : World} {K : PySem.W.Frag} {elts : List Expr} {kk : Nat} {tpos : Pos} (x : Str) (t : Tok) (k0 : Int) (e it : Addr) :
    Turn P w K (.Tuple elts kk tpos) (Itse x k0) [e, it] e (fun i h => i ≤ x.cps.size ∧ ((∃ old, IsEnum h e it (k0 + (i : Nat)) old) ∧ h.IsStrIter it (strIterType x) x t i) ∧ e ≠ it) where
  mem := by simp
  obj := fun i h st b hb => by
    obtain ⟨_, ⟨⟨old, he⟩, o, ho, hc, hd⟩, _⟩ := st
    have e' : b = e ∨ b = it := by simpa using hb
    rcases e' with z | z
    · rw [z]; exact ⟨_, he, fun v q => nomatch q⟩
    · rw [z]; exact ⟨o, ho, fun v q => by rw [hd] at q; cases q⟩
  keep := fun i h h' st k => by
    obtain ⟨hi, ⟨⟨old, he⟩, o, ho, r⟩, hne⟩ := st
    exact ⟨hi, ⟨⟨old, k e (by simp) _ he⟩, o, k it (by simp) o ho, r⟩, hne⟩
  item := by
    intro X hP hw hK hc i pins s σ H E I hf st hg
    subst hP hw hK
    obtain ⟨hi, st, hne⟩ := st
    have W := WalksT.enumFrom (prog := X.prog) (w := X.w) (A := X.A) (fp := [it]) k0 (Draws.text (A := X.A.in1) (show X.A.in1.handled = none from I.ok.hd hc) it x t) e hne (by simpa using hne) (by simp)
    have hel : e < s.heap.objs.size := Heap.lt_size st.1.choose_spec
    have hil : it < s.heap.objs.size := by obtain ⟨_, q, _⟩ := st.2; exact Heap.lt_size q
    refine W.item i s _ _ hg st fun T vals h' tk hv hT hTup hM hk => ?_
    obtain ⟨t1, y, ⟨c, u, hcx, rfl⟩, rfl⟩ := hv
    refine ⟨_, rfl, ?_⟩
    refine W.go elts kk tpos i T { s with heap := h', toks := tk } _ _ hM fun h'' st'' hk2 => ?_
    have hT2 : IsTup h'' T #[.int (k0 + (i : Int)) t1, .str ⟨#[c]⟩ u] := by
      obtain ⟨o, ho, r⟩ := hTup
      exact ⟨o, hk2 T o (W.apart _ _ _ hM) ho, r⟩
    have new : ObjOk X.prog X.w (upd H T (.tup [.int (k0 + (i : Nat)), .str ⟨#[c]⟩])) h'' T (.tup [.int (k0 + (i : Nat)), .str ⟨#[c]⟩]) :=
      ⟨by show 2 ≤ sizeLine; decide, [.int (k0 + (i : Int)) t1, .str ⟨#[c]⟩ u], .cons ⟨_, rfl⟩ (.cons ⟨_, rfl⟩ .nil), hT2⟩
    have I1 : Inv X pins σ (upd H T (.tup [.int (k0 + (i : Nat)), .str ⟨#[c]⟩])) { s with heap := h'', toks := tk } :=
      I.turnedNew (ch := [e, it]) (fun b ob hb q => hk2 b ob hb (hk b ob hb q)) hf hT new
    refine ⟨.ref T, _, I1, rfl, ⟨T, c, rfl, I.hok.fresh hT, rfl, hcx⟩, ⟨hg, st'', hne⟩, fun b hb => ?_⟩
    have hb' : b < s.heap.objs.size := by
      have e' : b = e ∨ b = it := by simpa using hb
      rcases e' with z | z
      · rw [z]; exact hel
      · rw [z]; exact hil
    rw [upd_ne (Nat.ne_of_lt (Nat.lt_of_lt_of_le hb' hT))]
    exact (hf b hb).1
  done := by
    intro X hP hw hK hc i pins s σ H E I hf st hg
    subst hP hw hK
    obtain ⟨hi, st, hne⟩ := st
    have ei : i = x.cps.size := Nat.le_antisymm hi hg
    subst ei
    have W := WalksT.enumFrom (prog := X.prog) (w := X.w) (A := X.A) (fp := [it]) k0 (Draws.text (A := X.A.in1) (show X.A.in1.handled = none from I.ok.hd hc) it x t) e hne (by simpa using hne) (by simp)
    exact W.done s _ _ st fun h' tk hk => ⟨rfl, I.turnedL (ch := [e, it]) hk hf⟩
  self := fun A i s Q E st h => let ⟨_, ⟨⟨_, he⟩, _⟩, _⟩ := st; wpAny_pyIter_enum he h
def iEnumS (ta : TA) : TI := fun σ H R => ta σ H fun vs H1 => ∃ x, vs = [.str x] ∧ R (Itse x 0) H1
theorem pi_enumS {e : Expr} {ta : TA} {p pos tpos : Pos} {elts : List Expr} {kk : Nat} (hg : Gl X "enumerate") (hm : X.mg "enumerate" = none) (ha : PA X [e] ta) (hs : starEach [e] X.env = [(false, eval e X.env)] := by rfl) :
    PI X (.Tuple elts kk tpos) (.Call (.Name "enumerate" p) [e] [] pos) (iEnumS ta) := by
  refine ⟨fun pins s σ H R I h => ?_⟩
  refine Call_ (ld_blt I hg hm boot_enumerate (PyProof.Rows.callWith_type1 (thn (ha.run pos pins s σ H _ I h) fun us s1 ⟨vs, H1, I1, r1, q1⟩ => ?_) hs rfl))
  obtain ⟨x, ex, q⟩ := q1
  subst ex
  cases r1 with
  | cons r rr =>
    cases rr
    obtain ⟨t, rfl⟩ := r
    refine call_enumerate_str fun h' he hit hsz hk => wpAny_pyIter_enum he ?_
    have I2 : Inv X pins σ H1 { s1 with heap := h' } := I1.kept (t' := s1.toks) hk
    refine ⟨s1.heap.objs.size + 1, [s1.heap.objs.size + 1, s1.heap.objs.size], _, _, H1, rfl, I2, turn_enumS x t 0 (s1.heap.objs.size + 1) s1.heap.objs.size, ⟨Nat.zero_le _, ⟨⟨.none, he⟩, hit⟩, Nat.succ_ne_self _⟩, fun b hb => ?_, q⟩
    have e' : b = s1.heap.objs.size + 1 ∨ b = s1.heap.objs.size := by simpa using hb
    have hle : s1.heap.objs.size ≤ b := by
      rcases e' with z | z
      · rw [z]; exact Nat.le_add_right _ _
      · rw [z]; exact Nat.le_refl _
    exact I1.fpOk hle (I1.hok.fresh hle)
/-! ### built-in classes called by keywords; enumerate(text, start=k) -/
theorem callWith_type_kw {M : Model} {A : Around} {E : Value → Shared → Prop} {s : Shared} {pos : Pos} {T : String} {first : List Value} {args : List (Bool × Sem Value)} {keywords : List (Option Str × Sem Value)} {Q : Value → Shared → Prop}
    (hplain : args.any (·.1) = false) (hkw : keywords.any (·.1.isNone) = false)
    (h : wpAny M A (evalArgs (.type T) true args keywords) (fun a s₁ => wpAny M A (call (.type T) (first ++ a.pos) a.kw) Q E s₁) E s) :
    wpAny M A (callWith pos (.type T) first args keywords) Q E s := by
  unfold callWith
  refine wpAny_bind (wpAny_holding (wpAny_mono h (fun a s₁ h₁ => wpAny_bind (wpAny_standAt ?_)) fun _ _ x => x))
  simp only [hplain, hkw, Bool.or_false]
  refine wpAny_bind (wpAny_pure ?_)
  exact wpAny_bind (wpAny_mono h₁ (fun r s₂ hr => wpAny_bind (wpAny_holding (wpAny_point (wpAny_pure hr)))) fun _ _ x => x)
theorem callWith_tkw {M : Model} {A : Around} {E : Value → Shared → Prop} {s : Shared} {env : Env} {pos : Pos} {T : String} {e : Expr} {rest : List Expr} {kws : List Keyword} {Q : Value → Shared → Prop}
    (h : wpAny M A (spliced (backTo pos (starEach (e :: rest) env))) (fun vs s₁ => wpAny M A (evalAll ((backToKw pos (keywordEach kws env)).map (·.2)))
      (fun kvs s₂ => wpAny M A (call (.type T) vs (((backToKw pos (keywordEach kws env)).filterMap (·.1)).zip kvs)) Q E s₂) E s₁) E s)
    (he : backTo pos (starEach (e :: rest) env) = (false, eval e env) :: backTo pos (starEach rest env))
    (hplain : (backTo pos (starEach (e :: rest) env)).any (·.1) = false)
    (hall : (backToKw pos (keywordEach kws env)).all (·.1.isSome) = true)
    (hkw : (backToKw pos (keywordEach kws env)).any (·.1.isNone) = false) :
    wpAny M A (callWith pos (.type T) [] (backTo pos (starEach (e :: rest) env)) (backToKw pos (keywordEach kws env))) Q E s := by
  refine callWith_type_kw hplain hkw ?_
  rw [he] at h ⊢
  exact evalArgs_kwB hall h
def iEnumS1 (ta tk : TA) : TI := fun σ H R => ta σ H fun vs H1 => tk σ H1 fun zs H2 => ∃ x k, vs = [.str x] ∧ zs = [.int k] ∧ (-(2 ^ 63) ≤ k ∧ k < 2 ^ 63) ∧ R (Itse x k) H2
theorem pi_enumS1 {e : Expr} {kws : List Keyword} {ta tk : TA} {p pos tpos : Pos} {elts : List Expr} {kk : Nat} (hg : Gl X "enumerate") (hm : X.mg "enumerate" = none) (ha : PA X [e] ta) (hk : PK X kws tk)
    (he : backTo pos (starEach [e] X.env) = (false, eval e X.env) :: backTo pos (starEach [] X.env) := by rfl) (hpl : (backTo pos (starEach [e] X.env)).any (·.1) = false := by rfl)
    (hall : (backToKw pos (keywordEach kws X.env)).all (·.1.isSome) = true := by rfl) (hnone : (backToKw pos (keywordEach kws X.env)).any (·.1.isNone) = false := by rfl) (hks : (backToKw pos (keywordEach kws X.env)).filterMap (·.1) = [Str.ofString "start"] := by rfl) :
    PI X (.Tuple elts kk tpos) (.Call (.Name "enumerate" p) [e] kws pos) (iEnumS1 ta tk) := by
  refine ⟨fun pins s σ H R I h => ?_⟩
  refine wpAny_Call_Name_kw (ld_blt I hg hm boot_enumerate ?_)
  refine callWith_tkw (thn (ha.run pos pins s σ H _ I h) fun us s1 ⟨vs, H1, I1, r1, q1⟩ => thn (hk.run pos pins s1 σ H1 _ I1 q1) fun ws s2 ⟨zs, H2, I2, r2, x, k, ex, ek, hb, q⟩ => ?_) he hpl hall hnone
  subst ex ek
  rw [hks]
  cases r1 with
  | cons r rr =>
    cases rr
    cases r2 with
    | cons r' rr' =>
      cases rr'
      obtain ⟨t, rfl⟩ := r
      obtain ⟨t', rfl⟩ := r'
      show wpAny _ _ (call (.type "enumerate") [.str x t] [(Str.ofString "start", .int k t')]) _ _ _
      refine enum_begins_start (begins_text x t) trivial hb.1 hb.2 fun h' hen hit hsz hkp => wpAny_pyIter_enum hen ?_
      have I3 : Inv X pins σ H2 { s2 with heap := h' } := I2.kept (t' := s2.toks) hkp
      have hen0 : IsEnum h' (s2.heap.objs.size + 1) s2.heap.objs.size (k + ((0 : Nat) : Int)) .none := by
        rw [show k + ((0 : Nat) : Int) = k by omega]; exact hen
      refine ⟨s2.heap.objs.size + 1, [s2.heap.objs.size + 1, s2.heap.objs.size], _, _, H2, rfl, I3, turn_enumS x t k (s2.heap.objs.size + 1) s2.heap.objs.size, ⟨Nat.zero_le _, ⟨⟨.none, hen0⟩, ⟨_, hit, rfl, rfl⟩⟩, Nat.succ_ne_self _⟩, fun b hb => ?_, q⟩
      have e' : b = s2.heap.objs.size + 1 ∨ b = s2.heap.objs.size := by simpa using hb
      have hle : s2.heap.objs.size ≤ b := by
        rcases e' with z | z
        · rw [z]; exact Nat.le_add_right _ _
        · rw [z]; exact Nat.le_refl _
      exact I2.fpOk hle (I2.hok.fresh hle)
/-! ### methods called by keywords -/
variable {C f : Addr} {k n : Nat} {fd : FuncData} {ps ks : List Str} {sp : Sp} {m : Str} {p pos apos : Pos} {e o : Expr} {es : List Expr} {kws : List Keyword} {ta : TE} {t tk : TA} {g : List Value → List Value → List Value} {gV : List V → List V → List V}
/-- a promise whose def binds n values and the keywords ks -/
structure PRk (P : Program) (w : World) (K : PySem.W.Frag) (mg : Str → Option Value) (base : Heap) (k : Nat) (f : Addr) (ps : List Str) (sp : Sp) (n : Nat) (ks : List Str) (gV : List V → List V → List V) : Prop where
  ok : ∃ fd g, FnOk P w K mg base CX0 k f fd ps sp ∧ KBn K fd ps n ks g gV
  kp : PySem.W.keepIn K (.ref f) = true
def tMethK (C : Addr) (m : Str) (n j : Nat) (sp : Sp) (gV : List V → List V → List V) (ta : TE) (t tk : TA) : TE := fun σ H Q => ta σ H fun x H1 => ∃ a dx fs, x = .ref a ∧ H1 a = some (.ins C dx fs) ∧ fs.lookup m = none ∧
  t σ H1 fun vs H2 => tk σ H2 fun zs H3 => vs.length + 1 = n ∧ zs.length = j ∧ sp (gV (.ref a :: vs) zs) H3 Q E0
theorem pe_methKP {pl : Sem Bool} (he : PE X o ta) (c : Cls X.K C) (hm : Meth X.K C m f) (G : PRk X.prog X.w X.K X.mg X.base k f ps sp n ks gV) (hr : Room k X.A) (ha : PA X (e :: es) t) (hkw : PK X kws tk)
    (hall : (backToKw pos (keywordEach kws X.env)).all (·.1.isSome) = true := by rfl) (hks : (backToKw pos (keywordEach kws X.env)).filterMap (·.1) = ks := by rfl)
    (hst : starEach (e :: es) X.env = (false, eval e X.env) :: starEach es X.env := by rfl) (hpl : ((backTo pos (starEach (e :: es) X.env)).any (·.1) || (backToKw pos (keywordEach kws X.env)).any (·.1.isNone)) = false := by rfl)
    (ht : eval (.Call (.Attribute o m apos) (e :: es) kws pos) X.env = (do
      let ov ← eval o X.env
      standAt apos.atName
      let (f, first) ← holding [ov] (getMethod ov m pl)
      callWith pos f first (backTo pos (starEach (e :: es) X.env)) (backToKw pos (keywordEach kws X.env))) := by rfl) :
    PE X (.Call (.Attribute o m apos) (e :: es) kws pos) (tMethK C m n ks.length sp gV ta t tk) := by
  obtain ⟨fd, g, F, hb⟩ := G.ok
  refine ⟨fun pins s σ H Q I h => ?_⟩
  refine PySem.W.methodCall_KW (pl := pl) (thn (he.run pins s σ H _ I h) fun u s1 ⟨x, H1, I1, rx, a, dx, fs, ex, ea, l, q⟩ => ?_) ht
  subst ex
  obtain rfl : u = Value.ref a := rx
  refine getmeth_ok I1 ea c hm l ?_
  refine PySem.W.callWith_KW (first := [.ref a]) (h₀ := X.base) I.ok.mod.kin hm.kp hall (thn (ha.run pos pins s1 σ H1 _ I1 q) fun us s2 ⟨vs, H2, I2, r, q2⟩ => ?_) hpl hst
  refine thn (hkw.run pos pins s2 σ H2 _ I2 q2) fun ws s3 ⟨zs, H3, I3, rz, l1, l2, q3⟩ => ⟨I3.kIn, ?_⟩
  rw [hks]
  exact run_fnN (us := .ref a :: us) (vs := .ref a :: vs) F hr hb pass0 I3 (.cons rfl r) rz (by simpa using l1) l2 q3
theorem pe_methKP0 {pl : Sem Bool} (he : PE X o ta) (c : Cls X.K C) (hm : Meth X.K C m f) (G : PRk X.prog X.w X.K X.mg X.base k f ps sp n ks gV) (hr : Room k X.A) (hkw : PK X kws tk)
    (hall : (backToKw pos (keywordEach kws X.env)).all (·.1.isSome) = true := by rfl) (hks : (backToKw pos (keywordEach kws X.env)).filterMap (·.1) = ks := by rfl)
    (hpl : ((backTo pos (starEach [] X.env)).any (·.1) || (backToKw pos (keywordEach kws X.env)).any (·.1.isNone)) = false := by rfl)
    (ht : eval (.Call (.Attribute o m apos) [] kws pos) X.env = (do
      let ov ← eval o X.env
      standAt apos.atName
      let (f, first) ← holding [ov] (getMethod ov m pl)
      callWith pos f first (backTo pos (starEach [] X.env)) (backToKw pos (keywordEach kws X.env))) := by rfl) :
    PE X (.Call (.Attribute o m apos) [] kws pos) (tMethK C m n ks.length sp gV ta tNil tk) := by
  obtain ⟨fd, g, F, hb⟩ := G.ok
  refine ⟨fun pins s σ H Q I h => ?_⟩
  refine PySem.W.methodCall_KW (pl := pl) (thn (he.run pins s σ H _ I h) fun u s1 ⟨x, H1, I1, rx, a, dx, fs, ex, ea, l, q⟩ => ?_) ht
  subst ex
  obtain rfl : u = Value.ref a := rx
  refine getmeth_ok I1 ea c hm l ?_
  refine PySem.W.callWith_KW0 (first := [.ref a]) (h₀ := X.base) I.ok.mod.kin hm.kp hall ?_ hpl
  refine thn (hkw.run pos pins s1 σ H1 _ I1 q) fun ws s3 ⟨zs, H3, I3, rz, l1, l2, q3⟩ => ⟨I3.kIn, ?_⟩
  rw [hks]
  exact run_fnN (us := [.ref a]) (vs := [.ref a]) F hr hb pass0 I3 (.cons rfl .nil) rz (by simpa using l1) l2 q3
/-- C(k = v, ..) -/
theorem pe_makeKP {x : Str} (M : Mk X.K C f) (G : PRk X.prog X.w X.K X.mg X.base k f ps sp 1 ks gV) (hr : Room (k + 1) X.A) (hg : Gl X x) (hm : X.mg x = some (.ref C)) (hkw : PK X kws tk)
    (hall : (backToKw pos (keywordEach kws X.env)).all (·.1.isSome) = true := by rfl) (hks : (backToKw pos (keywordEach kws X.env)).filterMap (·.1) = ks := by rfl) (hdb : (x == ("__debug__" : Str)) = false := by decide)
    (hpl : ((backTo pos (starEach [] X.env)).any (·.1) || (backToKw pos (keywordEach kws X.env)).any (·.1.isNone)) = false := by rfl) :
    PE X (.Call (.Name x p) [] kws pos) (tMakeK C 0 ks.length sp gV E0 tNil tk) := by
  obtain ⟨fd, g, F, hb⟩ := G.ok
  exact pe_makeK0 M F hr hg hm hb pass0 hkw hall hks hdb hpl
end

section
variable {X : Cx}
/-! ### d.setdefault(k, v), the keys tuples -/
def tDSetdT (td ty tx : TE) : TE := fun σ H Q => td σ H fun x H1 => ∃ a, x = .ref a ∧ IsD H1 a ∧ ty σ H1 fun y H2 => tx σ H2 fun z H3 => ∃ (kvs : List (List Key × V)) (k : List Key) (b : Addr), H3 a = some (.dT kvs) ∧ y = .ref b ∧ H3 b = some (.tup (k.map kV)) ∧ kvs.length < sizeLine ∧
  (∀ v, valV kvs k = some v → Q v H3) ∧ (valV kvs k = none → Q z (upd H3 a (.dT (putK kvs k z))))
theorem d_setdT {pins : List (Addr × Obj)} {σ : L2.St} {H : Hp} {s : Shared} {a b : Addr} {r : Value} {d : V} {k : List Key} {A : Around} {E : Value → Shared → Prop} {kvs : List (List Key × V)} {Q : Value → Shared → Prop} (hu : A.units + 1 < cLine) (I : Inv X pins σ H s) (e : H a = some (.dT kvs)) (eb : H b = some (.tup (k.map kV))) (rd : RelV d r) (hl : kvs.length < sizeLine)
    (h1 : ∀ v, valV kvs k = some v → ∀ (w' : Value) (s' : Shared), Inv X pins σ H s' → RelV v w' → Q w' s') (h2 : valV kvs k = none → ∀ (w' : Value) (s' : Shared), Inv X pins σ (upd H a (.dT (putK kvs k d))) s' → RelV d w' → Q w' s') :
    wpAny (model X.prog X.w) A (call (.builtin "dict.setdefault") [.ref a, .ref b, r]) Q E s := by
  obtain ⟨z, hd, xs, rel, dd⟩ := dt_of I.hok e
  have hz : xs.length ≤ sizeLine := by rw [← Paired.length rel]; exact z
  have hl2 : (putK kvs k d).length ≤ sizeLine := by have := length_putK kvs k d; omega
  refine call_setdefault_heap (hsz := hz) (tupleKind_room_in1 hu) (key_of I.hok eb) hd dd (fun p hp => ?_) fun hn h' dd' hs => ?_
  · have q := rel.val k
    rw [hp] at q
    cases q0 : valV kvs k with
    | none =>
      rw [q0] at q
      exact (show False from q).elim
    | some v0 =>
      rw [q0] at q
      exact h1 v0 q0 _ _ (I.tok _) q
  · have q := rel.val k
    rw [hn] at q
    cases q0 : valV kvs k with
    | some v0 =>
      rw [q0] at q
      exact (show False from q).elim
    | none =>
      obtain ⟨q, es, ep, hq, g2, g3, g4, _, g5⟩ := dd'
      refine h2 q0 _ _ (d_write I (by rw [e]; exact True.intro) hs ⟨q, hq⟩ ⟨hl2, hd, _, (rel.put k eb rd).keeps fun c ys ec => ?_, q, es, ep, hq, g2, g3, g4, g5⟩) rd
      rw [upd_ne (ne_of ec e (fun z => nomatch z))]
      exact ec
theorem pe_dsetdT {o e f : Expr} {td ty tx : TE} {apos cpos : Pos} (hu : X.A.units + 1 < cLine) (ho : PE X o td) (he : PE X e ty) (hf : PE X f tx) (m : M2 X o "setdefault" apos e f cpos) : PE X (.Call (.Attribute o "setdefault" apos) [e, f] [] cpos) (tDSetdT td ty tx) := by
  refine ⟨fun pins s σ H Q I h => ?_⟩
  refine wpAny_Call_method m.base m.few m.line PySem.F.plainAttrs_dict PySem.F.slot_dict_setdefault PySem.F.type_dict_setdefault (thn (ho.run pins s σ H _ I h) fun u s1 ⟨x, H1, I1, rx, a, ex, d, q1⟩ => ?_)
  subst ex
  obtain rfl : u = Value.ref a := rx
  obtain ⟨t1, t2, _⟩ := isD_at I1 d
  refine ⟨t1, t2, ?_⟩
  rw [m.trees]
  refine Calls.callWith_builtin rfl (Calls.evalArgs_plain (Calls.spliced_cons (thn (he.run pins s1 σ H1 _ I1 q1) fun iv s2 ⟨y, H2, I2, ry, q2⟩ =>
    Calls.spliced_cons (thn (hf.run pins s2 σ H2 _ I2 q2) fun fv s3 ⟨z, H3, I3, rz, kvs, k, b, ea, ey, eb, hl, q3, q4⟩ => Calls.spliced_nil ?_))))
  subst ey
  obtain rfl : iv = Value.ref b := ry
  exact d_setdT hu I3 ea eb rz hl (fun v hv w' s4 I4 rw' => ⟨v, _, I4, rw', q3 v hv⟩) fun hn w' s4 I4 rw' => ⟨z, _, I4, rw', q4 hn⟩
/-! ### sorted(d) of a dict with int keys, any number of them -/
theorem call_sortedDIn (hcalm : X.calm = true) : CallR X (.builtin "sorted") (fun xs H Q => ∃ (a : Addr) (kvs : List (Key × V)) (ks : List Int), xs = [.ref a] ∧ Rd H a (.dK kvs) ∧ kvs.map (·.1) = ks.map Sum.inl ∧
    ∀ (ys : List Int) (p : Addr), ys.Perm ks → ys.Pairwise (· ≤ ·) → H p = none → Q (.ref p) (upd H p (.lst (ys.map V.int)))) := by
  intro pins s σ H xs us Q I r q
  obtain ⟨a, kvs, ks, ex, hd, hks, q⟩ := q
  subst ex
  obtain ⟨u, eu, rx⟩ := vals1 r
  subst eu
  cases rx
  obtain ⟨z, lo, vs, rel, dd⟩ := dk_rd I.hok hd
  obtain ⟨ep, hat⟩ := dd.dictAt
  have hkeys : vs.map (·.1) = ks.map Sum.inl := rel.keys.symm.trans hks
  have hl : vs.length = ks.length := by
    have e := congrArg List.length hkeys
    rw [List.length_map, List.length_map] at e
    exact e
  have h16 : vs.length ≤ sizeLine := by rw [← rel.length]; exact z
  refine Calls.call_function_entry PyProof.Rows.kind_sorted PyProof.Rows.plain_sorted PyProof.Rows.entry_sorted (PyProof.Rows.args_sorted1 _) ?_
  unfold Builtin.«sorted»
  refine wpAny_bind (m := checkCount "sorted" 1 1 _) (wpAny_pure ?_)
  refine wpAny_bind (PySem.W.kdu_collect (A := X.A.in1) (PySem.W.kdl_dict (knd := mixKind X.prog X.w) (kvs := vs) (ep := ep) lo) (I.ok.hd hcalm) hat h16 fun h' tk acc hk hacc => ?_)
  have hal : acc.toList.length = ks.length := by rw [Array.length_toList, hacc.1, hl]
  have hS : IntsAre acc.toList ks := ints_each hal fun j v e => by
    obtain ⟨k, x, e1, e2⟩ := hacc.2 j v (by rw [← Array.getElem?_toList]; exact e)
    have e3 : (vs.map (·.1))[j]? = some k := by rw [List.getElem?_map, e1]; rfl
    rw [hkeys, List.getElem?_map] at e3
    cases e4 : ks[j]? with
    | none => rw [e4] at e3; cases e3
    | some y =>
      rw [e4] at e3
      have e5 : Sum.inl y = k := Option.some.inj e3
      subst e5
      rcases keyIs_shape (show keyIs (Sum.inl y) v = true from e2) with ⟨i, t, ek, ev⟩ | ⟨z, t, ek, ev⟩
      · cases ek
        exact ⟨y, t, rfl, ev⟩
      · cases ek
  have I1 : Inv X pins σ H { s with heap := h', toks := tk } := I.kept hk
  refine wpAny_bind (wpAny_newList ?_ (by rw [hal, ← hl]; exact h16))
  have hoL : (h'.push (seqObj "list" acc.toList.toArray 0)).get? h'.objs.size = some (seqObj "list" acc.toList.toArray 0) := Heap.get?_push_size _ rfl
  show wpAny _ _ _ _ _ { s with heap := h'.push (seqObj "list" acc.toList.toArray 0), toks := tk }
  refine wpAny_bind (wpAny_holding (wpAny_call_entry PyProof.Rows.slot_list_sort ⟨_, hoL, rfl⟩ PyProof.Rows.entry_list_sort
    (SrtO.list_sort_ord (s := { s with heap := h'.push (seqObj "list" acc.toList.toArray 0), toks := tk }) SrtO.swo_int hoL (by rw [hal, ← hl]; exact h16) (fun h2 => SrtO.ints_sortable hS h2) fun out g1 g2 => ⟨_, rfl, ?_⟩) (PyProof.Rows.args_list_sort _)))
  obtain ⟨k1, k2, k3⟩ := SrtO.ints_out hS g1 g2
  obtain ⟨e', he'⟩ := PyProof.Rows.sortedHeap_at (vs := acc.toList) (out := out.toArray) hoL
  have hlen : ((out.map SrtO.iv).map V.int).length ≤ sizeLine := by
    rw [List.length_map, k2.length_eq, ← hl]
    exact h16
  refine wpAny_pure ⟨_, rfl, .ref h'.objs.size, upd H h'.objs.size (.lst ((out.map SrtO.iv).map V.int)), I1.laid (t' := tk) (fun b u e => ?_) (Nat.le_refl _)
    (show ObjOk X.prog X.w _ _ _ (.lst ((out.map SrtO.iv).map V.int)) from ⟨hlen, out, e', vals_of_ints k1, he'⟩), rfl, q _ _ k2 k3 (I1.hok.fresh (Nat.le_refl _))⟩
  have hb : b < h'.objs.size := Heap.lt_size e
  rw [PyProof.Rows.sortedHeap_old (Nat.ne_of_lt hb) (by rw [size_push']; exact Nat.lt_succ_of_lt hb)]
  exact Heap.get?_push_of_some _ e
/-! ### == [], == () -/
def Fl (K : PySem.W.Frag) (H : Hp) (v : V) : Prop := ∃ d, Dp K H v d ∧ d.canLay0 = true ∧ d.depth ≤ 3
theorem Fl.all {K : PySem.W.Frag} {H : Hp} : ∀ {xs : List V}, (∀ v ∈ xs, Fl K H v) → ∃ ds, DpAll K H xs ds ∧ PyData.canLayAll0 ds = true ∧ PyData.depthAll ds ≤ 3 ∧ ds.isEmpty = xs.isEmpty
  | [], _ => ⟨[], .nil, rfl, Nat.zero_le _, rfl⟩
  | v :: vs, h => by
    obtain ⟨d, h1, h2, h3⟩ := h v List.mem_cons_self
    obtain ⟨ds, g1, g2, g3, _⟩ := Fl.all (xs := vs) fun u hu => h u (List.mem_cons_of_mem _ hu)
    refine ⟨d :: ds, .cons h1 g1, by simp [PyData.canLayAll0, h2, g2], ?_, rfl⟩
    simp only [PyData.depthAll]
    omega
end
section
variable {X : Cx}
def rNil (K : PySem.W.Frag) (k : Bool) : R2 := fun x y H Q => ∃ a b xs, x = .ref a ∧ y = .ref b ∧ ((SqL K H a xs ∧ SqL K H b []) ∨ (SqT K H a xs ∧ SqT K H b [])) ∧ (∀ v ∈ xs, Fl K H v) ∧ Q (.bl (if k then xs.isEmpty else !xs.isEmpty)) H
theorem nil_shaped (k : Bool) : SeqAt.shaped (if k then .list [] else .tuple []) = true := by cases k <;> rfl
theorem eqvAll_nil (ds : List PyData) : PyData.eqvAll ds [] = ds.isEmpty := by cases ds <;> simp [PyData.eqvAll]
theorem op_eqNil (hu : X.A.units + 64 < cLine) : OpR X (compareOp .Eq) (rNil X.K true) := by
  intro pins s σ H x y v u Q I rx ry h
  obtain ⟨a, b, xs, rfl, rfl, hs, hf, q⟩ := h
  obtain ⟨ds, h1, h2, h3, h4⟩ := Fl.all hf
  have q : Q (.bl xs.isEmpty) H := q
  rcases hs with ⟨s1, s2⟩ | ⟨s1, s2⟩
  · refine op_eqD hu pins s σ H _ _ v u Q I rx ry ⟨.list ds, .list [], .lst s1 h1, .lst s2 .nil, ?_, by rfl, ?_⟩
    · have e1 : PyData.depthAll ds + 1 ≤ 64 := by omega
      simp [SeqAt.shaped, PyData.canLay0, PyData.depth, h2]
      omega
    · simp only [PyData.eqv, eqvAll_nil, h4]
      exact q
  · refine op_eqD hu pins s σ H _ _ v u Q I rx ry ⟨.tuple ds, .tuple [], .tup s1 h1, .tup s2 .nil, ?_, by rfl, ?_⟩
    · have e1 : PyData.depthAll ds + 1 ≤ 64 := by omega
      simp [SeqAt.shaped, PyData.canLay0, PyData.depth, h2]
      omega
    · simp only [PyData.eqv, eqvAll_nil, h4]
      exact q
theorem op_neNil (hu : X.A.units + 64 < cLine) : OpR X (compareOp .NotEq) (rNil X.K false) := by
  intro pins s σ H x y v u Q I rx ry h
  obtain ⟨a, b, xs, rfl, rfl, hs, hf, q⟩ := h
  obtain ⟨ds, h1, h2, h3, h4⟩ := Fl.all hf
  have q : Q (.bl (!xs.isEmpty)) H := q
  rcases hs with ⟨s1, s2⟩ | ⟨s1, s2⟩
  · refine op_neD hu pins s σ H _ _ v u Q I rx ry ⟨.list ds, .list [], .lst s1 h1, .lst s2 .nil, ?_, by rfl, ?_⟩
    · have e1 : PyData.depthAll ds + 1 ≤ 64 := by omega
      simp [SeqAt.shaped, PyData.canLay0, PyData.depth, h2]
      omega
    · simp only [PyData.eqv, eqvAll_nil, h4]
      exact q
  · refine op_neD hu pins s σ H _ _ v u Q I rx ry ⟨.tuple ds, .tuple [], .tup s1 h1, .tup s2 .nil, ?_, by rfl, ?_⟩
    · have e1 : PyData.depthAll ds + 1 ≤ 64 := by omega
      simp [SeqAt.shaped, PyData.canLay0, PyData.depth, h2]
      omega
    · simp only [PyData.eqv, eqvAll_nil, h4]
      exact q
theorem Fl.int {K : PySem.W.Frag} {H : Hp} (i : Int) : Fl K H (.int i) := ⟨_, .int i, rfl, by simp [PyData.depth]⟩
theorem strOk_of {x : Str} (h : ∀ c ∈ x.cps.toList, c < 1114112) : PyData.strOk x = true := by
  unfold PyData.strOk
  rw [Array.all_eq_true']
  intro c hc
  exact decide_eq_true (h c (Array.mem_toList_iff.mpr hc))
theorem Fl.str {K : PySem.W.Frag} {H : Hp} (x : Str) (h : ∀ c ∈ x.cps.toList, c < 1114112) : Fl K H (.str x) := ⟨_, .str x, strOk_of h, by simp [PyData.depth]⟩
/-- a tuple of ints and texts -/
theorem Fl.tup {K : PySem.W.Frag} {H : Hp} {a : Addr} {xs : List V} (h : SqT K H a xs) (hf : ∀ v ∈ xs, (∃ i, v = .int i) ∨ ∃ x : Str, v = .str x ∧ ∀ c ∈ x.cps.toList, c < 1114112) : Fl K H (.ref a) := by
  have key : ∀ ys : List V, (∀ v ∈ ys, (∃ i, v = .int i) ∨ ∃ x : Str, v = .str x ∧ ∀ c ∈ x.cps.toList, c < 1114112) → ∃ ds, DpAll K H ys ds ∧ PyData.canLayAll0 ds = true ∧ PyData.depthAll ds ≤ 1 := by
    intro ys
    induction ys with
    | nil => intro _; exact ⟨[], .nil, rfl, by simp [PyData.depthAll]⟩
    | cons v vs ih =>
      intro hv
      obtain ⟨ds, g1, g2, g3⟩ := ih fun u hu => hv u (List.mem_cons_of_mem _ hu)
      rcases hv v List.mem_cons_self with ⟨i, rfl⟩ | ⟨x, rfl, hx⟩
      · exact ⟨.int i :: ds, .cons (.int i) g1, by simp [PyData.canLayAll0, PyData.canLay0, g2], by simp only [PyData.depthAll, PyData.depth]; omega⟩
      · exact ⟨.str x :: ds, .cons (.str x) g1, by simp [PyData.canLayAll0, PyData.canLay0, g2, strOk_of hx], by simp only [PyData.depthAll, PyData.depth]; omega⟩
  obtain ⟨ds, g1, g2, g3⟩ := key xs hf
  exact ⟨.tuple ds, .tup h g1, by simp only [PyData.canLay0, g2], by simp only [PyData.depth]; omega⟩
/-! ### dict(t) of a written dict with text keys and ints -/
theorem dict_of_K {P : Program} {w : World} {K : PySem.W.Frag} {h : Heap} (KX : K.In h) {a : Addr} {ks : List Str} {is : List Int} (hd : He.dicW K a = some (He.keysIn w.params ks)) (hi : intsB K a is = true) (nd : ks.Nodup) :
    (a == sysModules) = false ∧ ∃ vs, L2.KV ((ks.zip is).map fun p => ((Sum.inr p.1 : Key), V.int p.2)) vs ∧ h.DictOf (mixKind P w) a vs := by
  obtain ⟨es, n, D⟩ := He.dicW_ok (w := w) hd
  refine ⟨D.low, ?_⟩
  have lk := D.at_
  unfold He.dicW at hd
  unfold intsB at hi
  rw [lk] at hd hi
  have hi2 : es.toList.map intOf = is.map some := of_decide_eq_true hi
  have hd2 : es.toList.map He.keyOf = He.keysIn w.params ks := by
    have z : (match decide ("dict" = "dict") && ((#[] : Array (Option Value)).isEmpty && !(a == sysModules)) with
      | true => some (es.toList.map He.keyOf)
      | false => none) = some (He.keysIn w.params ks) := hd
    have lo := D.low
    rw [lo] at z
    exact Option.some.inj z
  have key : ∀ (l : List DictEntry) (ks : List Str) (is : List Int), l.map intOf = is.map some → l.map He.keyOf = He.keysIn w.params ks →
      ∃ vs : List (Key × Value), L2.KV ((ks.zip is).map fun p => ((Sum.inr p.1 : Key), V.int p.2)) vs ∧ Pairs (mixKind P w) l vs ∧ vs.map (·.1) = ks.map Sum.inr ∧ ∀ e ∈ l, ∃ k, (mixKind P w).is k e.key = true ∧ e.hash = (mixKind P w).hash k := by
    intro l
    induction l with
    | nil =>
      intro ks is h1 h2
      cases ks with
      | nil => exact ⟨[], .nil, .nil, rfl, fun e he => by cases he⟩
      | cons k ks => cases h2
    | cons e r ih =>
      intro ks is h1 h2
      cases ks with
      | nil => cases h2
      | cons k ks =>
        cases is with
        | nil => cases h1
        | cons i is =>
          have a1 : intOf e = some i ∧ r.map intOf = is.map some := by simpa using h1
          have a2 : He.keyOf e = some (k, PyData.keyHash w.params k) ∧ r.map He.keyOf = He.keysIn w.params ks := by simpa [He.keysIn] using h2
          obtain ⟨vs, g1, g2, g3, g4⟩ := ih ks is a1.2 a2.2
          obtain ⟨eh, ek, ev⟩ := e
          obtain ⟨t, rfl⟩ : ∃ t, ev = .int i t := by
            have z := a1.1
            unfold intOf at z
            cases ev with
            | int j t => exact ⟨t, by simpa using z⟩
            | _ => cases z
          obtain ⟨t2, rfl, rfl⟩ : ∃ t, ek = .str k t ∧ eh = PyData.keyHash w.params k := by
            have z := a2.1
            unfold He.keyOf at z
            cases ek with
            | str j t =>
              have z2 : j = k ∧ eh = PyData.keyHash w.params k := by simpa using z
              exact ⟨t, by rw [z2.1], z2.2⟩
            | _ => cases z
          refine ⟨(Sum.inr k, .int i t) :: vs, .cons ⟨rfl, t, rfl⟩ g1, .cons (keyIs_str k t2) rfl g2, by simp [g3], fun e he => ?_⟩
          rcases List.mem_cons.mp he with rfl | he
          · exact ⟨Sum.inr k, keyIs_str k t2, rfl⟩
          · exact g4 e he
  obtain ⟨vs, g1, g2, g3, g4⟩ := key es.toList ks is hi2 hd2
  refine ⟨vs, g1, _, es, n, KX _ _ lk, ⟨rfl, rfl, rfl⟩, rfl, fun e he => g4 e (by simpa using he), g2, ?_⟩
  rw [g3]
  exact List.Pairwise.map _ (fun a b hab h => hab (Sum.inr.inj h)) nd
theorem call_dictK {w : World} {a : Addr} {ks : List Str} {is : List Int} (hw : X.w = w) (hd : He.dicW X.K a = some (He.keysIn w.params ks)) (hi : intsB X.K a is = true) (nd : ks.Nodup) (hl : ks.length ≤ 15) :
    CallR X (.type "dict") (fun xs H Q => xs = [.ref a] ∧ ∀ p, H p = none → Q (.ref p) (upd H p (.dK ((ks.zip is).map fun p => ((Sum.inr p.1 : Key), V.int p.2))))) := by
  intro pins s σ H xs us Q I r q
  obtain ⟨ex, q⟩ := q
  subst ex hw
  obtain ⟨u, eu, rx⟩ := vals1 r
  subst eu
  cases rx
  obtain ⟨lo, vs, rel, dd⟩ := dict_of_K (P := X.prog) I.kIn hd hi nd
  have z : ((ks.zip is).map fun p => ((Sum.inr p.1 : Key), V.int p.2)).length ≤ sizeLine := by
    rw [List.length_map, List.length_zip, sizeLine_eq]; omega
  refine kt_call_dict lo dd (by rw [← rel.length]; exact z) fun h' d' hs => ?_
  have hm : (s.heap.objs.size == sysModules) = false := beq_eq_false_iff_ne.mpr (Nat.ne_of_gt I.big)
  exact ⟨.ref s.heap.objs.size, upd H s.heap.objs.size (.dK _), I.laid (t' := s.toks) (fun b u e => (hs.2 b (Nat.ne_of_lt (Heap.lt_size e))).trans (Heap.get?_push_of_some _ e)) (Nat.le_refl _)
    (show ObjOk X.prog X.w _ _ _ (.dK _) from ⟨z, hm, vs, rel, d'⟩), rfl, q _ (I.hok.fresh (Nat.le_refl _))⟩
end

section
variable {X : Cx} {K : PySem.W.Frag} {o e : Expr} {es : List Expr} {to : TE} {t : TA} {name : Str} {pos apos cpos : Pos} {T id : String} {r : V → List V → Hp → VK → Prop}
/-! rules whose reading names K itself, for blocks -/
theorem pe_bmk (hK : X.K = K) (pa : PlainAttrs T) (slot : Slot T name id) (hty : typeOf (.builtin id) = pure (.type "method_descriptor")) (hm : MtR X id r) (ho : PE X o to) (ha : PA X (e :: es) t)
    (hbase : attributeBase o name X.env (eval o X.env) = eval o X.env := by rfl)
    (hfew : ((backTo cpos (starEach (e :: es) X.env)).all (fun x => !x.1) && (backToKw cpos (keywordEach [] X.env)).all (fun x => x.1.isSome)
      && decide ((e :: es).length + ([] : List Keyword).length + (if ([] : List Keyword).isEmpty then 0 else 1) < 30)) = true := by rfl)
    (hline : (apos.endLine == cpos.line) = true := by rfl) (hs : starEach (e :: es) X.env = (false, eval e X.env) :: starEach es X.env := by rfl) (hplain : (backTo cpos (starEach es X.env)).any (·.1) = false := by rfl) :
    PE X (.Call (.Attribute o name apos) (e :: es) [] cpos) (tBM K T r to t) := by
  subst hK
  exact pe_bm pa slot hty hm ho ha hbase hfew hline hs hplain
theorem pe_fldk {ta : TE} {f : Str} (hK : X.K = K) (he : PE X e ta) (hb : attributeBase e f X.env (eval e X.env) = eval e X.env := by rfl) : PE X (.Attribute e f pos) (tFld K ta f) := by
  subst hK
  exact pe_fld he hb
theorem ix_tupk (hK : X.K = K) : IxR X (rIxT K) := by
  subst hK
  exact ix_tup
theorem ix_listk (hK : X.K = K) : IxR X (rIxL K) := by
  subst hK
  exact ix_list
end

section
variable {P : Program} {w : World} {K : PySem.W.Frag} {mg : Str → Option Value} {base : Heap}
/-- a def with keyword-only parameters, all given -/
theorem TX.promK (T : TX P w K mg base) (d : He.DefD) (hd : d ∈ fn) {N ps ks : List Str} {k n : Nat} {sp : Sp} (hk : d.dfl = []) (hk2 : d.kws K ≠ []) (S : FnScope N ps d.scope) (len : ∀ vs H Q E, sp vs H Q E → vs.length = ps.length)
    (hb : ∀ (D : Addr) (doc pm : Value) (an : Option Addr) (cdv ct : Value) (us ws : List Value), us.length = n → ws.length = ks.length → bindArgs (PySem.W.fnOf d.name d.qual d.params d.body d.scope .none (.ref D) doc pm an cdv ct) ⟨us, ks.zip ws⟩ = pure (ps.zip (us ++ ws)))
    (hbody : ∀ (cdv : Value) (A : Around) (outer : List Env) (s : Shared) (H : Hp) (vs : List V) (Q : VK) (E : XK), Room k (A.deeper (envOfC d.qual d.scope s.heap.objs.size (He.fAd K d.at_) cdv)) → sp vs H Q E →
      ∃ t, PSs (cxOf CX0 P w K mg base N d.qual d.scope (He.fAd K d.at_) cdv A outer s H E).nox d.body t ∧ t { nx := fun _ H' => Q .non H', rt := Q } (start N vs) H) :
    PRk P w K mg base (k + 1) (He.fAd K d.at_) ps sp n ks (fun vs zs => vs ++ zs) := by
  obtain ⟨fd, F⟩ := T.t.d.defs hd
  have e1 : d.dvs K = [] := by unfold He.DefD.dvs; rw [hk]; rfl
  rw [e1] at F
  obtain ⟨mv, B⟩ := F.kbinds0 (ps := ps) n ks [] (fun us _ ws => us ++ ws) hk2 (by intro q hq; cases hq) (fun r1 _ r3 => r1.append r3) fun D doc pm an cdv ct us mv ws l1 l2 l3 => by
    cases mv with
    | nil => exact hb D doc pm an cdv ct us ws l1 l3
    | cons _ _ => cases l2
  exact ⟨⟨fd, _, F.ok S len fun cdv A outer s H vs Q E hr h => by
    obtain ⟨t, h1, h2⟩ := hbody cdv A outer s H vs Q E hr h
    exact ⟨t, PSs.nox h1, h2⟩, B⟩, F.kp⟩
end

/-! ### the head: the top by a kernel run, its facts by names -/
abbrev R : PySem.W.OpenRow := PySem.W.OpenLaw.row PySem.Challenge.rw_roadbundle_k40_whole_what_writers_say
abbrev hk : PySem.W.Hook := He.hookX 5 fa fn ts tf ex
def ob (s : PySem.W.SharedT) : He.AlX := He.obsX 5 fa fn ts tf ex (HandSHeadRun.getT s)
theorem ob_eq (s : PySem.W.SharedT) : ob s = hk.obs s.abs := He.obsX_eq (HandSHeadRun.getT_eq s)
set_option maxHeartbeats 0 in
theorem runF (w : World) : HandSHeadRun.RunEq R (PySem.W.view R.prog [49]) hk ob 6000 loose (w.withFollow "special-get-raises" false) := by
  intro os
  kernel_rfl
set_option maxHeartbeats 0 in
theorem runT (w : World) : HandSHeadRun.RunEq R (PySem.W.view R.prog [49]) hk ob 6000 loose (w.withFollow "special-get-raises" true) := by
  intro os
  kernel_rfl
theorem run (w : World) : HandSHeadRun.RunEq R (PySem.W.view R.prog [49]) hk ob 6000 loose w := PySem.W.byRow2 "special-get-raises" runF runT w

/-! ### texts by their signs; pieces -/
/-- a text of these signs -/
abbrev S (l : List Nat) : Str := ⟨l.toArray⟩
abbrev tx (l : List Nat) : V := .str (S l)
theorem S_len (l : List Nat) : (S l).length = l.length := by
  show l.toArray.size = l.length
  rw [List.size_toArray]
theorem S_list (l : List Nat) : (S l).cps.toList = l := rfl
theorem S_app (a b : List Nat) : S a ++ S b = S (a ++ b) := by
  show (⟨a.toArray ++ b.toArray⟩ : Str) = ⟨(a ++ b).toArray⟩
  rw [List.append_toArray]
theorem S_inj {a b : List Nat} (h : S a = S b) : a = b := by
  have e : (S a).cps.toList = (S b).cps.toList := by rw [h]
  exact e
theorem S_of (z : Str) : S z.cps.toList = z := by
  show (⟨z.cps.toList.toArray⟩ : Str) = z
  rw [Array.toArray_toList]
theorem tx_inj {a b : List Nat} (h : tx a = tx b) : a = b := S_inj (V.str.inj h)
theorem tx_eq (a b : List Nat) : decide (tx a = tx b) = decide (a = b) := by
  by_cases h : a = b
  · rw [decide_eq_true h, h]; exact decide_eq_true rfl
  · rw [decide_eq_false h]; exact decide_eq_false fun e => h (tx_inj e)
theorem line5 {n : Nat} (h : n ≤ 100000) : n ≤ sizeLine := by rw [sizeLine_eq]; omega
theorem line5' {n : Nat} (h : n ≤ 100000) : n < sizeLine := by rw [sizeLine_eq]; omega
/-- z[lo:hi] by natural numbers -/
theorem cut_to (l : List Nat) (m : Nat) : cutS (S l) none (some (m : Int)) = S (l.take m) := by
  unfold cutS
  rw [S_len, HT.sIx_none, HT.sIx_nat]
  show (⟨((l.drop 0).take (min m l.length - 0)).toArray⟩ : Str) = _
  rw [List.drop_zero, Nat.sub_zero]
  congr 2
  by_cases h : m ≤ l.length
  · rw [Nat.min_eq_left h]
  · rw [Nat.min_eq_right (by omega), List.take_of_length_le (by omega), List.take_of_length_le (by omega)]
theorem cut_from (l : List Nat) (m : Nat) : cutS (S l) (some (m : Int)) none = S (l.drop m) := by
  unfold cutS
  rw [S_len, HT.sIx_none, HT.sIx_nat]
  show (⟨((l.drop (min m l.length)).take (l.length - min m l.length)).toArray⟩ : Str) = _
  congr 2
  by_cases h : m ≤ l.length
  · rw [Nat.min_eq_left h, List.take_of_length_le (by rw [List.length_drop]; omega)]
  · rw [Nat.min_eq_right (by omega), List.drop_of_length_le (by omega), List.drop_of_length_le (by omega)]
    simp
theorem cut_both (l : List Nat) (i j : Nat) : cutS (S l) (some (i : Int)) (some (j : Int)) = S ((l.drop i).take (j - i)) := by
  unfold cutS
  rw [S_len, HT.sIx_nat, HT.sIx_nat]
  show (⟨((l.drop (min i l.length)).take (min j l.length - min i l.length)).toArray⟩ : Str) = _
  congr 2
  by_cases h : i ≤ l.length
  · rw [Nat.min_eq_left h]
    by_cases h2 : j ≤ l.length
    · rw [Nat.min_eq_left h2]
    · rw [Nat.min_eq_right (by omega), List.take_of_length_le (by rw [List.length_drop]; omega), List.take_of_length_le (by rw [List.length_drop]; omega)]
  · rw [Nat.min_eq_right (show l.length ≤ i by omega), List.drop_of_length_le (Nat.le_refl _), List.drop_of_length_le (show l.length ≤ i by omega)]
    simp
/-- small letters alone -/
def Lets (l : List Nat) : Prop := ∀ c ∈ l, 97 ≤ c ∧ c ≤ 122
theorem Lets.app {a b : List Nat} (h1 : Lets a) (h2 : Lets b) : Lets (a ++ b) := fun c hc => by
  rcases List.mem_append.mp hc with h | h
  · exact h1 c h
  · exact h2 c h
theorem Lets.take {a : List Nat} (h : Lets a) (n : Nat) : Lets (a.take n) := fun c hc => h c (List.mem_of_mem_take hc)
theorem Lets.drop {a : List Nat} (h : Lets a) (n : Nat) : Lets (a.drop n) := fun c hc => h c (List.mem_of_mem_drop hc)
theorem Lets.small {a : List Nat} (h : Lets a) : ∀ c ∈ (S a).cps.toList, c < 1114112 := fun c hc => Nat.lt_of_le_of_lt (h c hc).2 (by decide)
/-- signs of what was written, from first on -/
def Sub (W : List Nat) (first : Nat) (l : List Nat) : Prop := first + l.length ≤ W.length ∧ l = (W.drop first).take l.length
theorem Sub.app {W : List Nat} {f : Nat} {l : List Nat} (h : Sub W f l) (W' : List Nat) : Sub (W ++ W') f l := by
  obtain ⟨h1, h2⟩ := h
  refine ⟨by rw [List.length_append]; omega, ?_⟩
  rw [List.drop_append_of_le_length (by omega), List.take_append_of_le_length (by rw [List.length_drop]; omega)]
  exact h2
theorem Sub.take {W : List Nat} {f : Nat} {l : List Nat} (h : Sub W f l) (m : Nat) : Sub W f (l.take m) := by
  obtain ⟨h1, h2⟩ := h
  refine ⟨by rw [List.length_take]; omega, ?_⟩
  rw [List.length_take]
  conv => lhs; rw [h2]
  rw [List.take_take]
theorem Sub.drop {W : List Nat} {f : Nat} {l : List Nat} (h : Sub W f l) (m : Nat) (hm : m ≤ l.length) : Sub W (f + m) (l.drop m) := by
  obtain ⟨h1, h2⟩ := h
  refine ⟨by rw [List.length_drop]; omega, ?_⟩
  rw [List.length_drop]
  conv => lhs; rw [h2]
  rw [List.drop_take, List.drop_drop]
theorem Sub.lets {W : List Nat} {f : Nat} {l : List Nat} (h : Sub W f l) (hW : Lets W) : Lets l := by
  rw [h.2]
  exact (hW.drop f).take _
theorem Sub.get {W : List Nat} {f : Nat} {l : List Nat} (h : Sub W f l) {i : Nat} (hi : i < l.length) : l[i]? = W[f + i]? := by
  obtain ⟨h1, h2⟩ := h
  have e : l[i]? = ((W.drop f).take l.length)[i]? := by rw [← h2]
  rw [e, List.getElem?_take_of_lt hi, List.getElem?_drop]
theorem Sub.of_take {W : List Nat} (f n : Nat) (h : f ≤ W.length) : Sub W f ((W.drop f).take n) := by
  refine ⟨by rw [List.length_take, List.length_drop]; omega, ?_⟩
  rw [List.length_take, List.length_drop]
  by_cases h2 : n ≤ W.length - f
  · rw [Nat.min_eq_left h2]
  · rw [Nat.min_eq_right (by omega), List.take_of_length_le (by rw [List.length_drop]; omega), List.take_of_length_le (by rw [List.length_drop]; omega)]
theorem Sub.snoc {W : List Nat} {f : Nat} {l : List Nat} {c : Nat} (h : Sub W f l) (hc : W[f + l.length]? = some c) : Sub W f (l ++ [c]) := by
  obtain ⟨h1, h2⟩ := h
  have hlt : f + l.length < W.length := by
    cases Nat.lt_or_ge (f + l.length) W.length with
    | inl h => exact h
    | inr h => rw [List.getElem?_eq_none h] at hc; cases hc
  refine ⟨by rw [List.length_append]; simp only [List.length_singleton]; omega, ?_⟩
  rw [List.length_append, List.length_singleton, List.take_add_one, ← h2, List.getElem?_drop, hc]
  rfl
theorem Sub.one {W : List Nat} {f c : Nat} (hc : W[f]? = some c) : Sub W f [c] := by
  have h0 : Sub W f [] := by
    refine ⟨?_, rfl⟩
    cases Nat.lt_or_ge f W.length with
    | inl h => simp; omega
    | inr h => rw [List.getElem?_eq_none h] at hc; cases hc
  exact h0.snoc (by simpa using hc)
/-- a piece as a value: a tuple, or None -/
def POpt (H : Hp) (v : V) : Option (Int × List Nat) → Prop
  | none => v = .non
  | some (f, l) => ∃ a, v = .ref a ∧ H a = some (.tup [.int f, tx l])
theorem POpt.same {H H' : Hp} (e : Same H H') {v : V} {o : Option (Int × List Nat)} (h : POpt H v o) : POpt H' v o := by
  cases o with
  | none => exact h
  | some p =>
    obtain ⟨a, h1, h2⟩ := h
    exact ⟨a, h1, e _ _ h2⟩
/-- how many signs of a piece are ahead of a number -/
def cutM (f : Int) (l : List Nat) (n : Int) : Nat := min (n - f).toNat l.length
def cutA (f : Int) (l : List Nat) (n : Int) : Option (Int × List Nat) := if 0 < cutM f l n then some (f, l.take (cutM f l n)) else none
def cutB (f : Int) (l : List Nat) (n : Int) : Option (Int × List Nat) := if cutM f l n < l.length then some (f + (cutM f l n : Nat), l.drop (cutM f l n)) else none
theorem Same.upd {H : Hp} {p : Addr} {o : HO} (h : H p = none) : Same H (upd H p o) := fun b u e => by rw [upd_ne (ne_of_none e h)]; exact e
/-- all that stood stands, but at F -/
def Kp (F : List Addr) (H H' : Hp) : Prop := ∀ b o, b ∉ F → H b = some o → H' b = some o
theorem Kp.of {F : List Addr} {H H' : Hp} (e : Same H H') : Kp F H H' := fun b o _ h => e b o h
theorem Kp.same {H H' : Hp} (e : Kp [] H H') : Same H H' := fun b o h => e b o (by simp) h
theorem Kp.refl (F : List Addr) (H : Hp) : Kp F H H := fun _ _ _ h => h
theorem Kp.trans {F : List Addr} {H H1 H2 : Hp} (a : Kp F H H1) (b : Kp F H1 H2) : Kp F H H2 := fun c o h e => b c o h (a c o h e)
theorem Kp.mono {F G : List Addr} {H H' : Hp} (a : Kp F H H') (h : ∀ b ∈ F, b ∈ G) : Kp G H H' := fun c o n e => a c o (fun m => n (h c m)) e
theorem Kp.upd {F : List Addr} {H : Hp} {p : Addr} {o : HO} (h : p ∈ F) : Kp F H (upd H p o) := fun b u n e => by rw [upd_ne (fun z => n (by rw [z]; exact h))]; exact e
/-- tuples stay whatever is written, if what is written was none -/
theorem Kp.at {F : List Addr} {H H' : Hp} (a : Kp F H H') {b : Addr} {o : HO} (n : b ∉ F) (e : H b = some o) : H' b = some o := a b o n e
/-- a pool of digits -/
def PoolAt (H : Hp) (p : Addr) : Prop := ∃ c s : Int, H p = some (.lst [.int c, .int s]) ∧ 0 ≤ s ∧ s < 2147483647
theorem PoolAt.keep {H H' : Hp} {p : Addr} {F : List Addr} (h : PoolAt H p) (k : Kp F H H') (n : p ∉ F) : PoolAt H' p := by
  obtain ⟨c, s, h1, h2⟩ := h
  exact ⟨c, s, k p _ n h1, h2⟩

section
variable {P : Program} {w : World} {K : PySem.W.Frag} {mg : Str → Option Value} {base : Heap}
/-! ### is_whole, is_from, is_truth: of ints, of truths -/
def sp_is_whole : Sp := fun vs H Q _ => ∃ i : Int, vs = [.int i] ∧ Q (.bl true) H
theorem sc_is_whole : FnScope ["thing"] ["thing"] (defScope s_is_whole) := ⟨rfl, rfl, rfl, by decide +kernel, rfl, by decide +kernel, by decide +kernel⟩
theorem ok_is_whole (T : TX P w K mg base) : PR P w K mg base 1 (He.ga K "is_whole") ["thing"] sp_is_whole := by
  refine T.prom d_is_whole (List.mem_of_getElem? (i := 3) (by rfl)) ⟨rfl, rfl⟩ sc_is_whole (fun vs H Q E h => ?_) (fun _ _ _ _ _ _ us hl => match us, hl with | [_], _ => rfl) (fun cdv A outer s H vs Q E hr h => ?_)
  · obtain ⟨i, rfl, _⟩ := h
    rfl
  · have hu := hu_of hr
    obtain ⟨i, rfl, k⟩ := h
    refine ⟨_, (pss_one (ps_ret (pe_and (pe_callB call_isB (by rfl) T.f_isinstance (by decide +kernel) (pa_cons (pv 0) (pa_cons (pe_bty (n := "int") rfl T.f_int (by decide +kernel)) pa_nil))) (pe_one (pe_not (pe_callB call_isB (by rfl) T.f_isinstance (by decide +kernel) (pa_cons (pv 0) (pa_cons (pe_bty (n := "bool") rfl T.f_bool (by decide +kernel)) pa_nil)))))))), ?_⟩
    refine ⟨_, rfl, _, _, _, true, rfl, .base (.int i), (by decide +kernel), ?_⟩
    refine ⟨_, rfl, iteT ?_⟩
    refine ⟨_, rfl, _, _, _, false, rfl, .base (.int i), (by decide +kernel), _, rfl, ?_⟩
    exact k
def sp_is_from : Sp := fun vs H Q _ => ∃ i j : Int, vs = [.int i, .int j] ∧ Q (.bl (decide (j ≤ i))) H
theorem sc_is_from : FnScope ["thing", "least"] ["thing", "least"] (defScope s_is_from) := ⟨rfl, rfl, rfl, by decide +kernel, rfl, by decide +kernel, by decide +kernel⟩
theorem ok_is_from (T : TX P w K mg base) : PR P w K mg base 2 (He.ga K "is_from") ["thing", "least"] sp_is_from := by
  have G_is_whole := ok_is_whole T
  refine T.prom d_is_from (List.mem_of_getElem? (i := 4) (by rfl)) ⟨rfl, rfl⟩ sc_is_from (fun vs H Q E h => ?_) (fun _ _ _ _ _ _ us hl => match us, hl with | [_, _], _ => rfl) (fun cdv A outer s H vs Q E hr h => ?_)
  · obtain ⟨i, j, rfl, _⟩ := h
    rfl
  · have hu := hu_of hr
    obtain ⟨i, j, rfl, k⟩ := h
    refine ⟨_, (pss_one (ps_ret (pe_and (pe_callP G_is_whole (hr.mono (by decide)) rfl T.g_is_whole (pa_cons (pv 0) pa_nil)) (pe_one (pe_cmpR op_ge (pv 0) (pv 1) (nomark _)))))), ?_⟩
    refine ⟨_, rfl, i, rfl, _, rfl, iteT ?_⟩
    refine ⟨_, rfl, _, rfl, _, _, rfl, rfl, ?_⟩
    exact k
def sp_is_truth : Sp := fun vs H Q _ => ∃ i : Bool, vs = [.bl i] ∧ Q (.bl true) H
theorem sc_is_truth : FnScope ["thing"] ["thing"] (defScope s_is_truth) := ⟨rfl, rfl, rfl, by decide +kernel, rfl, by decide +kernel, by decide +kernel⟩
theorem ok_is_truth (T : TX P w K mg base) : PR P w K mg base 1 (He.ga K "is_truth") ["thing"] sp_is_truth := by
  refine T.prom d_is_truth (List.mem_of_getElem? (i := 10) (by rfl)) ⟨rfl, rfl⟩ sc_is_truth (fun vs H Q E h => ?_) (fun _ _ _ _ _ _ us hl => match us, hl with | [_], _ => rfl) (fun cdv A outer s H vs Q E hr h => ?_)
  · obtain ⟨i, rfl, _⟩ := h
    rfl
  · have hu := hu_of hr
    obtain ⟨i, rfl, k⟩ := h
    refine ⟨_, (pss_one (ps_ret (pe_callB call_isB (by rfl) T.f_isinstance (by decide +kernel) (pa_cons (pv 0) (pa_cons (pe_bty (n := "bool") rfl T.f_bool (by decide +kernel)) pa_nil))))), ?_⟩
    refine ⟨_, rfl, _, _, _, true, rfl, .base (.bl i), (by decide +kernel), ?_⟩
    exact k
end

section
variable {P : Program} {w : World} {K : PySem.W.Frag} {mg : Str → Option Value} {base : Heap}
def sp_cut_at (K : PySem.W.Frag) : Sp := fun vs H Q _ => ∃ (a : Addr) (n f : Int) (l : List Nat), vs = [.ref a, .int n] ∧ SqT K H a [.int f, tx l] ∧ l.length ≤ 100000 ∧
  ∀ (p : Addr) (H' : Hp) (va vb : V), Same H H' → H p = none → H' p = some (.tup [va, vb]) → POpt H' va (cutA f l n) → POpt H' vb (cutB f l n) → Q (.ref p) H'
theorem sc_cut_at : FnScope ["piece", "number", "many", "ahead", "first", "signs"] ["piece", "number"] (defScope s_cut_at) := ⟨rfl, rfl, rfl, by decide +kernel, rfl, by decide +kernel, by decide +kernel⟩
theorem ok_cut_at (T : TX P w K mg base) : PR P w K mg base 1 (He.ga K "cut_at") ["piece", "number"] (sp_cut_at K) := by
  refine T.prom d_cut_at (List.mem_of_getElem? (i := 9) (by rfl)) ⟨rfl, rfl⟩ sc_cut_at (fun vs H Q E h => ?_) (fun _ _ _ _ _ _ us hl => match us, hl with | [_, _], _ => rfl) (fun cdv A outer s H vs Q E hr h => ?_)
  · obtain ⟨_, _, _, _, rfl, _⟩ := h
    rfl
  · have hu := hu_of hr
    obtain ⟨a, n, f, l, rfl, hS, hl, k⟩ := h
    refine ⟨_, (pss_cons (ps_asg (pv 0) (pg_tup rfl (pgs_cons (pg_name (i := 4) sc_cut_at.nd rfl (by first | exact Or.inl rfl | exact Or.inr rfl)) (pgs_cons (pg_name (i := 5) sc_cut_at.nd rfl (by first | exact Or.inl rfl | exact Or.inr rfl)) pgs_nil))))
      (pss_cons (ps_set (i := 2) sc_cut_at.nd rfl (by first | exact Or.inl rfl | exact Or.inr rfl) (pe_callB (call_min2 rfl) (by rfl) T.f_min (by decide +kernel) (pa_cons (pe_callB (call_max2 rfl) (by rfl) T.f_max (by decide +kernel) (pa_cons (pe_op op_sub (pv 1) (pv 4)) (pa_cons pe_int pa_nil))) (pa_cons (pe_callB call_len (by rfl) T.f_len (by decide +kernel) (pa_cons (pv 5) pa_nil)) pa_nil))))
      (pss_cons (ps_set (i := 3) sc_cut_at.nd rfl (by first | exact Or.inl rfl | exact Or.inr rfl) (pe_ifExp (pt_cmpR op_gt (pv 2) pe_int (nomark _)) (pe_tup (pa_cons (pv 4) (pa_cons (pe_slice sl_str (pv 5) po_none (po_some (pv 2))) pa_nil))) pe_non))
      (pss_one (ps_ret (pe_tup (pa_cons (pv 3) (pa_cons (pe_ifExp (pt_cmpR op_lt (pv 2) (pe_callB call_len (by rfl) T.f_len (by decide +kernel) (pa_cons (pv 5) pa_nil)) (nomark _)) (pe_tup (pa_cons (pe_op op_add (pv 4) (pv 2)) (pa_cons (pe_slice sl_str (pv 5) (po_some (pv 2)) po_none) pa_nil))) pe_non) pa_nil)))))))), ?_⟩
    refine ⟨_, rfl, a, _, rfl, hS, rfl, _, _, rfl, _, _, rfl, rfl, ?_⟩
    refine ⟨_, rfl, _, rfl, _, _, rfl, rfl, _, _, rfl, _, rfl, _, _, rfl, ⟨line5 (by rw [S_len]; exact hl), rfl⟩, _, _, rfl, ?_⟩
    have em : (if ((S l).length : Int) < (if (0 : Int) > n - f then 0 else n - f) then ((S l).length : Int) else (if (0 : Int) > n - f then 0 else n - f)) = ((cutM f l n : Nat) : Int) := by
      rw [S_len]; unfold cutM; split <;> split at * <;> omega
    rw [em]
    have hm : cutM f l n ≤ l.length := by unfold cutM; omega
    -- ahead
    have fin : ∀ (va : V) (H1 : Hp), Same H H1 → POpt H1 va (cutA f l n) →
        tRet (tTup (tCons (tVar 3) (tCons (tIf (tTest (tOp (rI0 fun i j => V.bl (decide (i < j))) (tVar 2) (tCB (fun xs H Q => ∃ x n, xs = [x] ∧ LenV K x H n ∧ Q (.int n) H) (tCons (tVar 5) tNil))))
          (tTup (tCons (tOp (rI0 fun i j => V.int (i + j)) (tVar 4) (tVar 2)) (tCons (tSl rSlS (tVar 5) (tPart (tVar 2)) tNoPart) tNil))) (tC .non)) tNil)))
          { nx := fun _ H' => Q .non H', rt := Q } [some (.ref a), some (.int n), some (.int (cutM f l n : Nat)), some va, some (.int f), some (tx l)] H1 := by
      intro va H1 s1 pa
      refine ⟨_, rfl, _, rfl, _, rfl, _, _, rfl, ⟨line5 (by rw [S_len]; exact hl), rfl⟩, _, _, rfl, rfl, _, rfl, ?_⟩
      have fin2 : ∀ (vb : V) (H2 : Hp), Same H1 H2 → POpt H2 vb (cutB f l n) → ∀ p, H2 p = none → Q (.ref p) (upd H2 p (.tup [va, vb])) := by
        intro vb H2 s2 pb p hp
        have s3 : Same H2 (upd H2 p (.tup [va, vb])) := Same.upd hp
        exact k p _ va vb ((s1.trans s2).trans s3) ((s1.trans s2).free hp) upd_same ((pa.same s2).same s3) (pb.same s3)
      by_cases h : cutM f l n < l.length
      · have e2 : decide (((cutM f l n : Nat) : Int) < ((S l).length : Int)) = true := decide_eq_true (by rw [S_len]; omega)
        rw [e2]
        refine iteT ⟨_, rfl, _, rfl, _, _, rfl, rfl, _, rfl, _, rfl, _, rfl, _, rfl, line5 (by rw [S_len]; exact hl), line5 (by show 2 ≤ _; decide), fun q hq => ?_⟩
        rw [cut_from]
        have eB : cutB f l n = some (f + (cutM f l n : Nat), l.drop (cutM f l n)) := if_pos h
        exact ⟨line5 (by show 2 ≤ _; decide), fin2 _ _ (Same.upd hq) (by rw [eB]; exact ⟨q, rfl, upd_same⟩)⟩
      · have e2 : decide (((cutM f l n : Nat) : Int) < ((S l).length : Int)) = false := decide_eq_false (by rw [S_len]; omega)
        rw [e2]
        have eB : cutB f l n = none := if_neg h
        exact iteF ⟨line5 (by show 2 ≤ _; decide), fin2 _ _ (Same.refl _) (by rw [eB]; exact rfl)⟩
    refine ⟨_, rfl, _, _, rfl, rfl, _, rfl, ?_⟩
    by_cases h : 0 < cutM f l n
    · have e2 : decide ((0 : Int) < ((cutM f l n : Nat) : Int)) = true := decide_eq_true (by omega)
      rw [e2]
      refine iteT ⟨_, rfl, _, rfl, _, rfl, _, rfl, _, rfl, line5 (by rw [S_len]; exact hl), line5 (by show 2 ≤ _; decide), fun q hq => ?_⟩
      rw [cut_to]
      have eA : cutA f l n = some (f, l.take (cutM f l n)) := if_pos h
      exact fin _ _ (Same.upd hq) (by rw [eA]; exact ⟨q, rfl, upd_same⟩)
    · have e2 : decide ((0 : Int) < ((cutM f l n : Nat) : Int)) = false := decide_eq_false (by omega)
      rw [e2]
      have eA : cutA f l n = none := if_neg h
      exact iteF (fin _ _ (Same.refl _) (by rw [eA]; exact rfl))
end

section
variable {P : Program} {w : World} {K : PySem.W.Frag} {mg : Str → Option Value} {base : Heap}
def sp_law_take : Sp := fun vs H Q _ => ∃ (p : Addr) (m : Int), vs = [.ref p, .int m] ∧ PoolAt H p ∧ (0 < m ∧ m ≤ 1000000) ∧
  ∀ (r : Int) (H' : Hp), 0 ≤ r → r < m → PoolAt H' p → Kp [p] H H' → Q (.int r) H'
theorem sc_law_take : FnScope ["_law_pool_here", "_law_many", "_law_digit"] ["_law_pool_here", "_law_many"] (defScope s_law_take) := ⟨rfl, rfl, rfl, by decide +kernel, rfl, by decide +kernel, by decide +kernel⟩
theorem ok_law_take (T : TX P w K mg base) : PR P w K mg base 1 (He.ga K "_law_take") ["_law_pool_here", "_law_many"] sp_law_take := by
  refine T.prom d_law_take (List.mem_of_getElem? (i := 57) (by rfl)) ⟨rfl, rfl⟩ sc_law_take (fun vs H Q E h => ?_) (fun _ _ _ _ _ _ us hl => match us, hl with | [_, _], _ => rfl) (fun cdv A outer s H vs Q E hr h => ?_)
  · obtain ⟨_, _, rfl, _⟩ := h
    rfl
  · have hu := hu_of hr
    obtain ⟨p, m, rfl, ⟨c, sd, hp, hs⟩, hm, k⟩ := h
    have ix0 : ∀ H1 : Hp, ∀ x y : Int, H1 p = some (.lst [.int x, .int y]) → ∀ Q' : VK, Q' (.int x) H1 → ∃ q xs i v, (V.ref p) = .ref q ∧ (V.int 0) = .int i ∧ SqL K H1 q xs ∧ atI xs i = some v ∧ Q' v H1 :=
      fun H1 x y h1 Q' q => ⟨p, _, 0, _, rfl, rfl, SqL.of h1, rfl, q⟩
    refine ⟨_, (pss_cons (ps_if (pt_cmpR op_gt (pe_ix ix_list (pv 0) pe_int (fun _ _ => rfl)) pe_int (nomark _))
        (pss_cons (ps_set (i := 2) sc_law_take.nd rfl (by first | exact Or.inl rfl | exact Or.inr rfl) (pe_op op_mod (pe_ix ix_list (pv 0) pe_int (fun _ _ => rfl)) (pv 1)))
        (pss_cons (ps_asg (pe_op op_fdiv (pe_ix ix_list (pv 0) pe_int (fun _ _ => rfl)) (pv 1)) (pg_sub (pv 0) pe_int set_list))
        (pss_one (ps_ret (pv 2)))))
        pss_nil)
      (pss_cons (ps_asg (pe_op op_mod (pe_op op_add (pe_op op_mul (pe_ix ix_list (pv 0) pe_int (fun _ _ => rfl)) pe_int) pe_int) pe_int) (pg_sub (pv 0) pe_int set_list))
      (pss_one (ps_ret (pe_op op_mod (pe_op op_fdiv (pe_op op_mod (pe_op op_mul (pe_ix ix_list (pv 0) pe_int (fun _ _ => rfl)) (pe_ix ix_list (pv 0) pe_int (fun _ _ => rfl))) pe_int) pe_int) (pv 1)))))), ?_⟩
    refine ⟨_, rfl, p, _, 0, _, rfl, rfl, SqL.of hp, rfl, _, _, rfl, rfl, _, rfl, ?_⟩
    by_cases hc : (0 : Int) < c
    · rw [decide_eq_true hc]
      refine iteT ?_
      refine ⟨_, rfl, p, _, 0, _, rfl, rfl, SqL.of hp, rfl, _, rfl, _, _, rfl, rfl, hm.1, ?_⟩
      refine ⟨_, rfl, p, _, 0, _, rfl, rfl, SqL.of hp, rfl, _, rfl, _, _, rfl, rfl, ⟨hm.1, by omega⟩, ?_⟩
      refine ⟨_, rfl, p, _, 0, 0, rfl, rfl, hp, rfl, _, rfl, ?_⟩
      exact k (c % m) _ (Int.emod_nonneg _ (by omega)) (Int.emod_lt_of_pos _ hm.1) ⟨c / m, sd, upd_same, hs⟩ (Kp.upd (by simp))
    · rw [decide_eq_false hc]
      refine iteF ?_
      refine ⟨_, rfl, p, _, 1, _, rfl, rfl, SqL.of hp, rfl, _, _, rfl, rfl, .inl ⟨by omega, by omega⟩, _, _, rfl, rfl, _, _, rfl, rfl, (by show (0 : Int) < 2147483647; decide), ?_⟩
      refine ⟨_, rfl, p, _, 1, 1, rfl, rfl, hp, rfl, ?_⟩
      have b1 : 0 ≤ (sd * 48271 + 11) % 2147483647 := Int.emod_nonneg _ (by decide)
      have b2 : (sd * 48271 + 11) % 2147483647 < 2147483647 := Int.emod_lt_of_pos _ (by decide)
      have hp2 : (upd H p (.lst [.int c, .int ((sd * 48271 + 11) % 2147483647)])) p = some (.lst [.int c, .int ((sd * 48271 + 11) % 2147483647)]) := upd_same
      refine ⟨_, rfl, p, _, 1, _, rfl, rfl, SqL.of hp2, rfl, _, rfl, p, _, 1, _, rfl, rfl, SqL.of hp2, rfl, _, _, rfl, rfl, .inl ⟨by omega, by omega⟩, _, _, rfl, rfl, (by show (0 : Int) < 2147483629; decide), _, _, rfl, rfl, ⟨by decide, by decide⟩, _, rfl, _, _, rfl, rfl, hm.1, ?_⟩
      exact k _ _ (Int.emod_nonneg _ (by omega)) (Int.emod_lt_of_pos _ hm.1) ⟨c, _, hp2, b1, b2⟩ (Kp.upd (by simp))
def sp_law_pool (K : PySem.W.Frag) : Sp := fun vs H Q _ => ∃ (a : Addr) (k : Int) (ns : List Int), vs = [.ref a, .int k] ∧ SqL K H a (ns.map V.int) ∧ ns.length ≤ 63 ∧ (0 ≤ k ∧ k ≤ 100) ∧
  ∀ (p : Addr) (H' : Hp), Same H H' → H p = none → PoolAt H' p → Q (.ref p) H'
theorem sc_law_pool : FnScope ["_law_script", "_law_k", "_law_cell", "_law_seed"] ["_law_script", "_law_k"] (defScope s_law_pool) := ⟨rfl, rfl, rfl, by decide +kernel, rfl, by decide +kernel, by decide +kernel⟩
theorem ok_law_pool (T : TX P w K mg base) : PR P w K mg base 1 (He.ga K "_law_pool") ["_law_script", "_law_k"] (sp_law_pool K) := by
  refine T.prom d_law_pool (List.mem_of_getElem? (i := 56) (by rfl)) ⟨rfl, rfl⟩ sc_law_pool (fun vs H Q E h => ?_) (fun _ _ _ _ _ _ us hl => match us, hl with | [_, _], _ => rfl) (fun cdv A outer s H vs Q E hr h => ?_)
  · obtain ⟨_, _, _, rfl, _⟩ := h
    rfl
  · have hu := hu_of hr
    obtain ⟨a, j, ns, rfl, hS, hl, hj, k⟩ := h
    refine ⟨_, (pss_cons (ps_set (i := 2) sc_law_pool.nd rfl (by first | exact Or.inl rfl | exact Or.inr rfl) pe_int)
      (pss_cons (ps_if (pt_cmpR op_lt (pv 1) (pe_callB call_len (by rfl) T.f_len (by decide +kernel) (pa_cons (pv 0) pa_nil)) (nomark _))
        (pss_one (ps_set (i := 2) sc_law_pool.nd rfl (by first | exact Or.inl rfl | exact Or.inr rfl) (pe_ix ix_list (pv 0) (pv 1) (fun _ _ => rfl))))
        pss_nil)
      (pss_cons (ps_set (i := 3) sc_law_pool.nd rfl (by first | exact Or.inl rfl | exact Or.inr rfl) (pe_op op_mod (pe_op op_pow (pe_op op_add (pe_op op_add (pe_op op_mod (pv 2) pe_int) (pe_op op_mul (pe_op op_mul pe_int (pv 1)) (pv 1))) pe_int) pe_int) pe_int))
      (pss_cons (ps_if (pt_cmpR op_lt (pv 2) (pe_op op_pow pe_int pe_int) (nomark _))
        (pss_one (ps_set (i := 2) sc_law_pool.nd rfl (by first | exact Or.inl rfl | exact Or.inr rfl) pe_int))
        pss_nil)
      (pss_one (ps_ret (pe_lst (pa_cons (pv 2) (pa_cons (pv 3) pa_nil))))))))), ?_⟩
    have rest : ∀ c : Int, ∀ D : Ends, D.rt = Q → tSeq (tAsg (tOp (rI (fun _ j => 0 < j) fun i j => .int (i % j)) (tOp (rI CPow fun i j => .int (i ^ j.toNat)) (tOp (rI0 fun i j => .int (i + j)) (tOp (rI0 fun i j => .int (i + j)) (tOp (rI (fun _ j => 0 < j) fun i j => .int (i % j)) (tVar 2) (tC (.int 2147483629)))
        (tOp (rI CMul fun i j => .int (i * j)) (tOp (rI CMul fun i j => .int (i * j)) (tC (.int 104729)) (tVar 1)) (tVar 1))) (tC (.int 17))) (tC (.int 3))) (tC (.int 2147483647))) (gName 3))
        (tSeq (tIfS (tTest (tOp (rI0 fun i j => .bl (decide (i < j))) (tVar 2) (tOp (rI CPow fun i j => .int (i ^ j.toNat)) (tC (.int 10)) (tC (.int 18))))) (tAsg (tC (.int 0)) (gName 2)) tNext)
        (tRet (tLst (tCons (tVar 2) (tCons (tVar 3) tNil))))) D [some (.ref a), some (.int j), some (.int c), none] H := by
      intro c D hD
      have b0 : 0 ≤ c % 2147483629 := Int.emod_nonneg _ (by decide)
      have b1 : c % 2147483629 < 2147483629 := Int.emod_lt_of_pos _ (by decide)
      have b2 : 0 ≤ 104729 * j * j := Int.mul_nonneg (by omega) hj.1
      have b3 : 104729 * j * j ≤ 104729 * 100 * 100 := Int.le_trans (Int.mul_le_mul_of_nonneg_left hj.2 (by omega)) (Int.mul_le_mul_of_nonneg_right (by omega) (by decide))
      refine ⟨_, rfl, _, _, rfl, rfl, (by show (0 : Int) < 2147483629; decide), _, rfl, _, _, rfl, rfl, .inl ⟨by decide, by decide⟩, _, rfl, _, _, rfl, rfl, .inr ⟨by omega, by omega⟩, _, _, rfl, rfl, _, _, rfl, rfl, _, _, rfl, rfl, ⟨by decide, by decide, by omega⟩, _, _, rfl, rfl, (by show (0 : Int) < 2147483647; decide), ?_⟩
      have fin : ∀ c' : Int, tRet (tLst (tCons (tVar 2) (tCons (tVar 3) tNil))) D [some (.ref a), some (.int j), some (.int c'), some (.int ((c % 2147483629 + 104729 * j * j + 17) ^ (3 : Int).toNat % 2147483647))] H := by
        intro c'
        refine ⟨_, rfl, _, rfl, line5 (by show 2 ≤ _; decide), fun p hp => ?_⟩
        rw [hD]
        exact k p _ (Same.upd hp) hp ⟨c', _, upd_same, Int.emod_nonneg _ (by decide), Int.emod_lt_of_pos _ (by decide)⟩
      refine ⟨_, rfl, _, _, rfl, rfl, ⟨by decide, by decide, by decide⟩, _, _, rfl, rfl, _, rfl, ?_⟩
      exact ite2 (fun _ => fin 0) (fun _ => fin c)
    refine ⟨_, rfl, _, rfl, _, _, rfl, .inl ⟨_, hS, rfl⟩, _, _, rfl, rfl, _, rfl, ?_⟩
    refine ite2 (fun hlt => ?_) (fun _ => rest 0 _ rfl)
    have hlt2 : j < ((ns.map V.int).length : Int) := of_decide_eq_true hlt
    rw [List.length_map] at hlt2
    have hj2 : j.toNat < ns.length := by omega
    refine ⟨_, rfl, _, rfl, a, _, j, .int ns[j.toNat], rfl, rfl, hS, ?_, ?_⟩
    · have e : atI (ns.map V.int) ((j.toNat : Nat) : Int) = some (.int ns[j.toNat]) := atI_nat (by rw [List.getElem?_map, List.getElem?_eq_getElem hj2]; rfl)
      rw [show ((j.toNat : Nat) : Int) = j by omega] at e
      exact e
    · exact rest _ _ rfl
end

theorem ift {A B : Prop} {b : Bool} [inst : Decidable (b = true)] (hb : b = true) (h : A) : if b = true then A else B := by rw [if_pos hb]; exact h
theorem iffF {A B : Prop} {b : Bool} [inst : Decidable (b = true)] (hb : b = false) (h : B) : if b = true then A else B := by rw [if_neg (by rw [hb]; decide)]; exact h
theorem yes_go {σ : L2.St} {H : Hp} {f g : Hp → Prop} (h : f H) : tYes σ H (fun b H3 => if b = true then f H3 else g H3) := by
  show if true = true then f H else g H
  rw [if_pos rfl]
  exact h
/-! ### loops and comprehensions over what goes n turns -/
section
variable {J : It} {n : Nat} {g : TG} {tt : TT} {te tk tv : TE} {tb : TS} {vs : List Nat} {σ : L2.St} {H H1 : Hp} {Dl : Addr} {D : Ends} {Qd : Hp → Prop}
theorem lc_by (Pv : Nat → Hp → Prop) (hgo : ∀ i H, Pv i H → i < n → J.go i H) (hst : ∀ H, Pv n H → J.stop n H) (h0 : Pv 0 (upd H1 Dl (.lst [])))
    (hs : ∀ i x H H', i < n → Pv i H → J.yld i H x H' → g x (wipe σ vs) H' fun σ2 H2 => wipe σ2 vs = wipe σ vs ∧ tt σ2 H2 fun b H3 =>
      if b = true then te σ2 H3 fun y H4 => ∃ acc, H4 Dl = some (.lst acc) ∧ acc.length < sizeLine ∧ Pv (i + 1) (upd H4 Dl (.lst (acc ++ [y]))) else Pv (i + 1) H3) (hd : ∀ H, Pv n H → Qd H) :
    ∃ W : Nat → Nat → Hp → Prop, (∃ m, W 0 m (upd H1 Dl (.lst []))) ∧ ∀ i m H, W i m H →
      (J.stop i H ∧ Qd H) ∨ (J.go i H ∧ ∃ Nx : Hp → Prop, (∀ H', Nx H' → ∃ m', m' < m ∧ W (i + 1) m' H') ∧ ∀ x H', J.yld i H x H' → g x (wipe σ vs) H' fun σ2 H2 => wipe σ2 vs = wipe σ vs ∧ tt σ2 H2 fun b H3 =>
        if b = true then te σ2 H3 fun y H4 => ∃ acc, H4 Dl = some (.lst acc) ∧ acc.length < sizeLine ∧ Nx (upd H4 Dl (.lst (acc ++ [y]))) else Nx H3) := by
  refine ⟨fun i m H => m = n - i ∧ i ≤ n ∧ Pv i H, ⟨n, by simp, Nat.zero_le _, h0⟩, ?_⟩
  rintro i m H ⟨rfl, hi, p⟩
  by_cases hlt : i < n
  · refine .inr ⟨hgo i H p hlt, Pv (i + 1), fun H' p' => ⟨n - (i + 1), by omega, rfl, hlt, p'⟩, fun x H' y => hs i x H H' hlt p y⟩
  · have e : i = n := by omega
    subst e
    exact .inl ⟨hst H p, hd H p⟩
theorem dc_by (Pv : Nat → Hp → Prop) (hgo : ∀ i H, Pv i H → i < n → J.go i H) (hst : ∀ H, Pv n H → J.stop n H) (h0 : Pv 0 (upd H1 Dl (.dK [])))
    (hs : ∀ i x H H', i < n → Pv i H → J.yld i H x H' → g x (wipe σ vs) H' fun σ2 H2 => wipe σ2 vs = wipe σ vs ∧ tt σ2 H2 fun b H3 =>
      if b = true then tk σ2 H3 fun y H4 => tv σ2 H4 fun z H5 => ∃ kvs k, y = kV k ∧ H5 Dl = some (.dK kvs) ∧ kvs.length < sizeLine ∧ Pv (i + 1) (upd H5 Dl (.dK (putK kvs k z))) else Pv (i + 1) H3) (hd : ∀ H, Pv n H → Qd H) :
    ∃ W : Nat → Nat → Hp → Prop, (∃ m, W 0 m (upd H1 Dl (.dK []))) ∧ ∀ i m H, W i m H →
      (J.stop i H ∧ Qd H) ∨ (J.go i H ∧ ∃ Nx : Hp → Prop, (∀ H', Nx H' → ∃ m', m' < m ∧ W (i + 1) m' H') ∧ ∀ x H', J.yld i H x H' → g x (wipe σ vs) H' fun σ2 H2 => wipe σ2 vs = wipe σ vs ∧ tt σ2 H2 fun b H3 =>
        if b = true then tk σ2 H3 fun y H4 => tv σ2 H4 fun z H5 => ∃ kvs k, y = kV k ∧ H5 Dl = some (.dK kvs) ∧ kvs.length < sizeLine ∧ Nx (upd H5 Dl (.dK (putK kvs k z))) else Nx H3) := by
  refine ⟨fun i m H => m = n - i ∧ i ≤ n ∧ Pv i H, ⟨n, by simp, Nat.zero_le _, h0⟩, ?_⟩
  rintro i m H ⟨rfl, hi, p⟩
  by_cases hlt : i < n
  · refine .inr ⟨hgo i H p hlt, Pv (i + 1), fun H' p' => ⟨n - (i + 1), by omega, rfl, hlt, p'⟩, fun x H' y => hs i x H H' hlt p y⟩
  · have e : i = n := by omega
    subst e
    exact .inl ⟨hst H p, hd H p⟩
theorem for_by (Pv : Nat → L2.St → Hp → Prop) (hgo : ∀ i σ H, Pv i σ H → i < n → J.go i H) (hst : ∀ σ H, Pv n σ H → J.stop n H) (h0 : Pv 0 σ H)
    (hs : ∀ i x σ H H', i < n → Pv i σ H → J.yld i H x H' → g x σ H' fun σ2 H2 => tb { D with nx := Pv (i + 1), ct := Pv (i + 1), bk := D.nx } σ2 H2) (hd : ∀ σ H, Pv n σ H → D.nx σ H) :
    ∃ W : Nat → Nat → L2.St → Hp → Prop, (∃ m, W 0 m σ H) ∧ ∀ i m σ H, W i m σ H →
      (J.stop i H ∧ D.nx σ H) ∨ (J.go i H ∧ ∃ N : L2.St → Hp → Prop, (∀ σ' H', N σ' H' → ∃ m', m' < m ∧ W (i + 1) m' σ' H') ∧ ∀ x H', J.yld i H x H' → g x σ H' fun σ2 H2 => tb { D with nx := N, ct := N, bk := D.nx } σ2 H2) := by
  refine ⟨fun i m σ H => m = n - i ∧ i ≤ n ∧ Pv i σ H, ⟨n, by simp, Nat.zero_le _, h0⟩, ?_⟩
  rintro i m σ H ⟨rfl, hi, p⟩
  by_cases hlt : i < n
  · refine .inr ⟨hgo i σ H p hlt, Pv (i + 1), fun σ' H' p' => ⟨n - (i + 1), by omega, rfl, hlt, p'⟩, fun x H' y => hs i x σ H H' hlt p y⟩
  · have e : i = n := by omega
    subst e
    exact .inl ⟨hst σ H p, hd σ H p⟩
end
/-! ### the sum of signs -/
def term (l : List Nat) (i : Nat) : Int := ((i : Int) + 1) * (1 + ((l.getD i 97 : Nat) - 97 : Int))
def wn (l : List Nat) (i : Nat) : Int := ((List.range i).map (term l)).sum
def wsum (l : List Nat) : Int := wn l l.length
theorem wn_succ (l : List Nat) (i : Nat) : wn l (i + 1) = wn l i + term l i := by
  unfold wn
  rw [List.range_succ, List.map_append, List.sum_append]
  simp
theorem letters_index : ∀ i, i < 26 → Builtin.Str.occurrences ("abcdefghijklmnopqrstuvwxyz" : Str) ⟨#[97 + i]⟩ 0 ("abcdefghijklmnopqrstuvwxyz" : Str).length 1 = [i] := by decide +kernel
theorem letter_at {c : Nat} (h : 97 ≤ c ∧ c ≤ 122) : Builtin.Str.occurrences ("abcdefghijklmnopqrstuvwxyz" : Str) ⟨#[c]⟩ 0 ("abcdefghijklmnopqrstuvwxyz" : Str).length 1 = [c - 97] := by
  have e := letters_index (c - 97) (by omega)
  rw [show 97 + (c - 97) = c by omega] at e
  exact e
theorem letters_codes : ("abcdefghijklmnopqrstuvwxyz" : Str).cps.toList = [97, 98, 99, 100, 101, 102, 103, 104, 105, 106, 107, 108, 109, 110, 111, 112, 113, 114, 115, 116, 117, 118, 119, 120, 121, 122] := by decide +kernel
theorem letter_in {c : Nat} (h : 97 ≤ c ∧ c ≤ 122) : decide (c ∈ ("abcdefghijklmnopqrstuvwxyz" : Str).cps.toList) = true := by
  rw [letters_codes]
  refine decide_eq_true ?_
  have : c = 97 ∨ c = 98 ∨ c = 99 ∨ c = 100 ∨ c = 101 ∨ c = 102 ∨ c = 103 ∨ c = 104 ∨ c = 105 ∨ c = 106 ∨ c = 107 ∨ c = 108 ∨ c = 109 ∨ c = 110 ∨ c = 111 ∨ c = 112 ∨ c = 113 ∨ c = 114 ∨ c = 115 ∨ c = 116 ∨ c = 117 ∨ c = 118 ∨ c = 119 ∨ c = 120 ∨ c = 121 ∨ c = 122 := by omega
  simp only [List.mem_cons, List.not_mem_nil, or_false]
  exact this
theorem get_S (l : List Nat) (i : Nat) : (S l).cps[i]? = l[i]? := by
  show l.toArray[i]? = l[i]?
  rw [List.getElem?_toArray]
theorem size_S (l : List Nat) : (S l).cps.size = l.length := by
  show l.toArray.size = l.length
  rw [List.size_toArray]
theorem Lets.at {l : List Nat} (h : Lets l) {i c : Nat} (e : l[i]? = some c) : 97 ≤ c ∧ c ≤ 122 := h c (List.mem_of_getElem? e)
theorem term_at {l : List Nat} {i c : Nat} (e : l[i]? = some c) : term l i = ((i : Int) + 1) * (1 + ((c : Int) - 97)) := by
  unfold term
  rw [List.getD_eq_getElem?_getD, e]
  rfl

section
variable {P : Program} {w : World} {K : PySem.W.Frag} {mg : Str → Option Value} {base : Heap}
def sp_law_weight : Sp := fun vs H Q _ => ∃ l : List Nat, vs = [tx l] ∧ Lets l ∧ l.length ≤ 100000 ∧ ∀ H', Same H H' → Q (.int (wsum l)) H'
theorem sc_law_weight : FnScope ["_law_text_here", "_law_found", "_law_at", "_law_letter"] ["_law_text_here"] (defScope s_law_weight) := ⟨rfl, rfl, rfl, by decide +kernel, rfl, by decide +kernel, by decide +kernel⟩
theorem ok_law_weight (T : TX P w K mg base) : PR P w K mg base 1 (He.ga K "_law_weight") ["_law_text_here"] sp_law_weight := by
  refine T.prom d_law_weight (List.mem_of_getElem? (i := 59) (by rfl)) ⟨rfl, rfl⟩ sc_law_weight (fun vs H Q E h => ?_) (fun _ _ _ _ _ _ us hl => match us, hl with | [_], _ => rfl) (fun cdv A outer s H vs Q E hr h => ?_)
  · obtain ⟨_, rfl, _⟩ := h
    rfl
  · have hu := hu_of hr
    obtain ⟨l, rfl, hL, hl, k⟩ := h
    refine ⟨_, (pss_cons (ps_set (i := 1) sc_law_weight.nd rfl (by first | exact Or.inl rfl | exact Or.inr rfl) pe_int)
      (pss_cons (ps_for PassesOwn.never rfl (pi_enumS (by rfl) T.f_enumerate (pa_cons (pv 0) pa_nil)) (pg_tup rfl (pgs_cons (pg_name (i := 2) sc_law_weight.nd rfl (by first | exact Or.inl rfl | exact Or.inr rfl)) (pgs_cons (pg_name (i := 3) sc_law_weight.nd rfl (by first | exact Or.inl rfl | exact Or.inr rfl)) pgs_nil)))
        (pss_one (ps_set (i := 1) sc_law_weight.nd rfl (by first | exact Or.inl rfl | exact Or.inr rfl) (pe_op op_add (pv 1) (pe_op op_mul (pe_op op_add (pv 2) pe_int) (pe_op op_add pe_int (pe_bm PySem.F.plainAttrs_str PySem.F.slot_str_index PySem.F.type_str_index mt_sindex pe_str (pa_cons (pv 3) pa_nil))))))))
      (pss_one (ps_ret (pv 1))))), ?_⟩
    refine ⟨_, rfl, S l, rfl, for_by (n := l.length) (fun i σ H2 => ∃ a b, σ = [some (tx l), some (.int (wn l i)), a, b] ∧ Same H H2) (fun i σ H _ hi => ?_) (fun σ H _ => ?_) ⟨none, none, rfl, Same.refl _⟩ ?_ ?_⟩
    · show i < (S l).cps.size
      rw [size_S]; exact hi
    · show (S l).cps.size ≤ l.length
      rw [size_S]; exact Nat.le_refl _
    · rintro i x σ H1 H2 hi ⟨a, b, rfl, s1⟩ ⟨q, c, rfl, hq, rfl, hc⟩
      rw [get_S] at hc
      have hlc := hL.at hc
      refine ⟨q, _, rfl, SqT.of upd_same, rfl, _, _, rfl, _, _, rfl, rfl, ?_⟩
      refine ⟨_, rfl, _, rfl, _, _, rfl, rfl, rfl, _, rfl, _, _, _, _, rfl, rfl, letter_at hlc, _, _, rfl, rfl, _, _, rfl, rfl, .inl ⟨by omega, by omega⟩, _, _, rfl, rfl, ?_⟩
      refine ⟨some (.int (0 + (i : Int))), some (.str ⟨#[c]⟩), ?_, s1.trans (Same.upd hq)⟩
      have e1 : wn l i + (0 + (i : Int) + 1) * (1 + ((c - 97 : Nat) : Int)) = wn l (i + 1) := by
        rw [wn_succ, term_at hc, show ((c - 97 : Nat) : Int) = (c : Int) - 97 by omega, show (0 : Int) + (i : Int) + 1 = (i : Int) + 1 by omega]
      rw [← e1]
      rfl
    · rintro σ H2 ⟨a, b, rfl, s1⟩
      exact ⟨_, rfl, k _ s1⟩
def sp_sum_of : Sp := fun vs H Q _ => ∃ l : List Nat, vs = [tx l] ∧ Lets l ∧ l.length ≤ 100000 ∧ ∀ H', Same H H' → Q (.int (wsum l)) H'
theorem sc_sum_of : FnScope ["signs", "place", "sign"] ["signs"] (defScope s_sum_of) := ⟨rfl, rfl, rfl, by decide +kernel, rfl, by decide +kernel, by decide +kernel⟩
theorem ok_sum_of (T : TX P w K mg base) : PR P w K mg base 1 (He.ga K "sum_of") ["signs"] sp_sum_of := by
  refine T.prom d_sum_of (List.mem_of_getElem? (i := 7) (by rfl)) ⟨rfl, rfl⟩ sc_sum_of (fun vs H Q E h => ?_) (fun _ _ _ _ _ _ us hl => match us, hl with | [_], _ => rfl) (fun cdv A outer s H vs Q E hr h => ?_)
  · obtain ⟨_, rfl, _⟩ := h
    rfl
  · have hu := hu_of hr
    obtain ⟨l, rfl, hL, hl, k⟩ := h
    refine ⟨_, (pss_one (ps_ret (pe_callB (cr_sum rfl) (by rfl) T.f_sum (by decide +kernel) (pa_cons (pe_lc (own := [("place", 1), ("sign", 2)]) (g := gTup K 2 (gCons (gName 1) (gCons (gName 2) (gNil)))) rfl sc_sum_of.nd (pi_enumS1 (by rfl) T.f_enumerate (pa_cons (pv 0) pa_nil) (pk_cons pe_int pk_nil)) (blkOk_by (N := ["signs", "place", "sign"]) (sc := defScope s_sum_of) (by decide +kernel)) (fun _ _ _ _ _ => (pg_tup rfl (pgs_cons (pg_name (i := 1) sc_sum_of.nd rfl (by first | exact Or.inl rfl | exact Or.inr rfl)) (pgs_cons (pg_name (i := 2) sc_sum_of.nd rfl (by first | exact Or.inl rfl | exact Or.inr rfl)) pgs_nil)))) (fun _ _ _ _ _ => pts_nil) (fun _ _ _ _ _ => (pe_op op_mul (pv 1) (pe_op op_add pe_int (pe_bmk (K := K) (by rfl) PySem.F.plainAttrs_str PySem.F.slot_str_index PySem.F.type_str_index mt_sindex (pe_gstr (by rfl) (by exact T.c_LETTERS)) (pa_cons (pv 2) pa_nil)))))) pa_nil)))), ?_⟩
    refine ⟨_, rfl, S l, 1, rfl, rfl, ⟨by decide, by decide⟩, fun D hD => lc_by (n := l.length) (fun i H2 => ∃ H3, Same H H3 ∧ H3 D = none ∧ ∃ H4, H2 = H4 ∧ (∀ b o, b ≠ D → H3 b = some o → H4 b = some o) ∧ H4 D = some (.lst ((List.range i).map fun j => V.int (term l j)))) (fun i H _ hi => ?_) (fun H _ => ?_) ?_ ?_ ?_⟩
    · show i < (S l).cps.size
      rw [size_S]; exact hi
    · show (S l).cps.size ≤ l.length
      rw [size_S]; exact Nat.le_refl _
    · exact ⟨H, Same.refl _, hD, _, rfl, fun b o hb e => by rw [upd_ne hb]; exact e, upd_same⟩
    · rintro i x H1 H2 hi ⟨H3, s1, hD3, H4, rfl, s2, hd⟩ ⟨q, c, rfl, hq, rfl, hc⟩
      rw [get_S] at hc
      have hlc := hL.at hc
      have qD : D ≠ q := ne_of_none hd hq
      refine ⟨q, _, rfl, SqT.of upd_same, rfl, _, _, rfl, _, _, rfl, rfl, rfl, ?_⟩
      refine yes_go ?_
      refine ⟨_, rfl, rfl, _, rfl, _, _, _, _, rfl, rfl, letter_at hlc, _, _, rfl, rfl, _, _, rfl, rfl, .inl ⟨by omega, by omega⟩, _, (by rw [upd_ne qD]; exact hd), (by rw [List.length_map, List.length_range]; exact line5' (by omega)), H3, s1, hD3, _, rfl, fun b o hb e => ?_, ?_⟩
      · rw [upd_ne hb]
        have h4 := s2 b o hb e
        rw [upd_ne (ne_of_none h4 hq)]
        exact h4
      · rw [upd_same, List.range_succ, List.map_append]
        have e1 : (1 + (i : Int)) * (1 + ((c - 97 : Nat) : Int)) = term l i := by
          rw [term_at hc, show ((c - 97 : Nat) : Int) = (c : Int) - 97 by omega, Int.add_comm 1 (i : Int)]
        show some (HO.lst (_ ++ [V.int ((1 + (i : Int)) * (1 + ((c - 97 : Nat) : Int)))])) = _
        rw [e1]
        rfl
    · rintro H2 ⟨H3, s1, hD3, H4, rfl, s2, hd⟩
      refine ⟨D, (List.range l.length).map (term l), rfl, SqL.of (by rw [hd, List.map_map]; rfl), ?_⟩
      exact k _ fun b o e => s2 b o (fun z => by rw [z, hD] at e; cases e) (s1 b o e)
def sp_is_signs : Sp := fun vs H Q _ => ∃ l : List Nat, vs = [tx l] ∧ Lets l ∧ l.length ≤ 100000 ∧ ∀ H', Same H H' → Q (.bl true) H'
theorem sc_is_signs : FnScope ["thing", "sign"] ["thing"] (defScope s_is_signs) := ⟨rfl, rfl, rfl, by decide +kernel, rfl, by decide +kernel, by decide +kernel⟩
theorem ok_is_signs (T : TX P w K mg base) : PR P w K mg base 1 (He.ga K "is_signs") ["thing"] sp_is_signs := by
  refine T.prom d_is_signs (List.mem_of_getElem? (i := 5) (by rfl)) ⟨rfl, rfl⟩ sc_is_signs (fun vs H Q E h => ?_) (fun _ _ _ _ _ _ us hl => match us, hl with | [_], _ => rfl) (fun cdv A outer s H vs Q E hr h => ?_)
  · obtain ⟨_, rfl, _⟩ := h
    rfl
  · have hu := hu_of hr
    obtain ⟨l, rfl, hL, hl, k⟩ := h
    refine ⟨_, (pss_one (ps_ret (pe_and (pe_callB call_isB (by rfl) T.f_isinstance (by decide +kernel) (pa_cons (pv 0) (pa_cons (pe_bty (n := "str") rfl T.f_str (by decide +kernel)) pa_nil))) (pe_one (pe_callB (cr_all rfl) (by rfl) T.f_all (by decide +kernel) (pa_cons (pe_lc (own := [("sign", 1)]) (g := gName 1) rfl sc_is_signs.nd (pi_str (pv 0)) (blkOk_by (N := ["thing", "sign"]) (sc := defScope s_is_signs) (by decide +kernel)) (fun _ _ _ _ _ => (pg_name (i := 1) sc_is_signs.nd rfl (by first | exact Or.inl rfl | exact Or.inr rfl))) (fun _ _ _ _ _ => pts_nil) (fun _ _ _ _ _ => (pe_cmpR op_in_sign (pv 1) (pe_gstr (by rfl) (by exact T.c_LETTERS)) (by rfl)))) pa_nil)))))), ?_⟩
    refine ⟨_, rfl, _, _, _, true, rfl, .base (.str _), (by decide +kernel), _, rfl, iteT ?_⟩
    refine ⟨_, rfl, S l, rfl, fun D hD => lc_by (n := l.length) (fun i H2 => (∀ b o, b ≠ D → H b = some o → H2 b = some o) ∧ H2 D = some (.lst ((List.replicate i true).map V.bl))) (fun i H _ hi => ?_) (fun H _ => ?_) ?_ ?_ ?_⟩
    · show i < (S l).cps.size
      rw [size_S]; exact hi
    · show (S l).cps.size ≤ l.length
      rw [size_S]; exact Nat.le_refl _
    · exact ⟨fun b o hb e => by rw [upd_ne hb]; exact e, upd_same⟩
    · rintro i x H1 H2 hi ⟨s1, hd⟩ ⟨rfl, c, hc, rfl⟩
      rw [get_S] at hc
      have hlc := hL.at hc
      refine ⟨rfl, ?_⟩
      refine yes_go ?_
      refine ⟨_, rfl, c, _, rfl, rfl, _, hd, (by rw [List.length_map, List.length_replicate]; exact line5' (by omega)), fun b o hb e => (by rw [upd_ne hb]; exact s1 b o hb e), ?_⟩
      rw [upd_same, letter_in hlc, List.replicate_succ', List.map_append]
      rfl
    · rintro H2 ⟨s1, hd⟩
      refine ⟨D, List.replicate l.length true, rfl, SqL.of hd, ?_⟩
      have e1 : (List.replicate l.length true).all id = true := by
        rw [List.all_eq_true]
        intro x hx
        exact (List.mem_replicate.mp hx).2
      rw [e1]
      exact k _ fun b o e => s1 b o (fun z => by rw [z, hD] at e; cases e) e
def sp_is_word : Sp := fun vs H Q _ => ∃ l : List Nat, vs = [tx l] ∧ Lets l ∧ (1 ≤ l.length ∧ l.length ≤ 8) ∧ ∀ H', Same H H' → Q (.bl true) H'
theorem sc_is_word : FnScope ["thing"] ["thing"] (defScope s_is_word) := ⟨rfl, rfl, rfl, by decide +kernel, rfl, by decide +kernel, by decide +kernel⟩
theorem ok_is_word (T : TX P w K mg base) : PR P w K mg base 2 (He.ga K "is_word") ["thing"] sp_is_word := by
  have G_is_signs := ok_is_signs T
  refine T.prom d_is_word (List.mem_of_getElem? (i := 6) (by rfl)) ⟨rfl, rfl⟩ sc_is_word (fun vs H Q E h => ?_) (fun _ _ _ _ _ _ us hl => match us, hl with | [_], _ => rfl) (fun cdv A outer s H vs Q E hr h => ?_)
  · obtain ⟨_, rfl, _⟩ := h
    rfl
  · have hu := hu_of hr
    obtain ⟨l, rfl, hL, hl, k⟩ := h
    refine ⟨_, (pss_one (ps_ret (pe_and (pe_callP G_is_signs (hr.mono (by decide)) rfl T.g_is_signs (pa_cons (pv 0) pa_nil)) (pe_one (pe_chain op_le op_le pe_int (pe_callB call_len (by rfl) T.f_len (by decide +kernel) (pa_cons (pv 0) pa_nil)) (pe_gint rfl T.c_LONGEST)))))), ?_⟩
    refine ⟨_, rfl, l, rfl, hL, by omega, fun H1 s1 => ⟨_, rfl, iteT ?_⟩⟩
    refine ⟨_, rfl, _, _, rfl, ⟨line5 (by rw [S_len]; omega), rfl⟩, _, _, rfl, rfl, _, rfl, ?_⟩
    rw [S_len, decide_eq_true (show (1 : Int) ≤ (l.length : Int) by omega)]
    refine iteT ⟨_, _, rfl, rfl, ?_⟩
    show Q (V.bl (decide ((l.length : Int) ≤ 8))) H1
    rw [decide_eq_true (show ((l.length : Nat) : Int) ≤ 8 by omega)]
    exact k _ s1
end

/-! ### a text that the law draws; is_row, is_answer -/
theorem join_signs (ys : List Nat) : Txt.join ("" : Str) (ys.map fun c => (⟨#[c]⟩ : Str)) = S ys := by
  refine TL.ext_tl ?_
  rw [TL.join_eq, TL.tl_join]
  induction ys with
  | nil => rfl
  | cons c r ih =>
    cases r with
    | nil => rfl
    | cons d r =>
      show [c] ++ ([] ++ TL.joinL [] _) = _
      have e : TL.joinL (TL.tl ("" : Str)) (((d :: r).map fun c => (⟨#[c]⟩ : Str)).map TL.tl) = TL.tl (S (d :: r)) := ih
      show [c] ++ ([] ++ TL.joinL (TL.tl ("" : Str)) (((d :: r).map fun c => (⟨#[c]⟩ : Str)).map TL.tl)) = TL.tl (S (c :: d :: r))
      rw [e]
      rfl
theorem txt_at0 : ∀ i, i < 32 → (match atI ("abcxyzabcdefghijklmnopqrstuvwxyz" : Str).cps.toList ((i : Nat) : Int) with | some c => decide (97 ≤ c ∧ c ≤ 122) | none => false) = true := by decide +kernel
theorem txt_at {i : Int} (h0 : 0 ≤ i) (h1 : i < 32) : ∃ c, atI ("abcxyzabcdefghijklmnopqrstuvwxyz" : Str).cps.toList i = some c ∧ 97 ≤ c ∧ c ≤ 122 := by
  have h := txt_at0 i.toNat (by omega)
  rw [show ((i.toNat : Nat) : Int) = i by omega] at h
  cases e : atI ("abcxyzabcdefghijklmnopqrstuvwxyz" : Str).cps.toList i with
  | none => rw [e] at h; cases h
  | some c => rw [e] at h; exact ⟨c, rfl, of_decide_eq_true h⟩
section
variable {P : Program} {w : World} {K : PySem.W.Frag} {mg : Str → Option Value} {base : Heap}
theorem TX.dANS (T : TX P w K mg base) : He.dicW K (He.ga K "ANSWERS") = some (He.keysIn w.params ["call", "sure", "meddled"]) := by
  have e : ts.map (fun t => He.dicW K (t.1 K)) = ts.map fun t => some (He.keysIn w.params t.2) := congrArg (fun z : He.AlT => z.2) T.t
  exact (List.cons.inj e).1
theorem TX.iANS (T : TX P w K mg base) : intsB K (He.ga K "ANSWERS") [2, 7, 2] = true := by
  have e := T.more
  unfold ex at e
  rw [Bool.and_eq_true, Bool.and_eq_true] at e
  exact e.2.2
theorem TX.tMODES (T : TX P w K mg base) (H : Hp) : SqT K H (He.ga K "MODES") [.str "none", .str "led", .str "plain"] := by
  have e := T.more
  unfold ex at e
  rw [Bool.and_eq_true, Bool.and_eq_true] at e
  exact He.tupB_ok e.2.1 H
theorem TX.tRULES (T : TX P w K mg base) (H : Hp) : SqT K H (He.ga K "RULES") [.str "first", .str "few", .str "turns"] := by
  have e := T.more
  unfold ex at e
  rw [Bool.and_eq_true, Bool.and_eq_true] at e
  exact He.tupB_ok e.1 H
def sp_law_text : Sp := fun vs H Q _ => ∃ (p : Addr) (m : Int), vs = [.ref p, .int m] ∧ PoolAt H p ∧ (0 < m ∧ m ≤ 1000) ∧
  ∀ (l : List Nat) (H' : Hp), Lets l → 1 ≤ l.length → (l.length : Int) ≤ m → PoolAt H' p → Kp [p] H H' → Q (tx l) H'
theorem sc_law_text : FnScope ["_law_pool_here", "_law_most", "_law_letters", "_law_turn"] ["_law_pool_here", "_law_most"] (defScope s_law_text) := ⟨rfl, rfl, rfl, by decide +kernel, rfl, by decide +kernel, by decide +kernel⟩
theorem ok_law_text (T : TX P w K mg base) : PR P w K mg base 2 (He.ga K "_law_text") ["_law_pool_here", "_law_most"] sp_law_text := by
  have G_law_take := ok_law_take T
  refine T.prom d_law_text (List.mem_of_getElem? (i := 58) (by rfl)) ⟨rfl, rfl⟩ sc_law_text (fun vs H Q E h => ?_) (fun _ _ _ _ _ _ us hl => match us, hl with | [_, _], _ => rfl) (fun cdv A outer s H vs Q E hr h => ?_)
  · obtain ⟨_, _, rfl, _⟩ := h
    rfl
  · have hu := hu_of hr
    obtain ⟨p, m, rfl, hp, hm, k⟩ := h
    refine ⟨_, (pss_cons (ps_set (i := 2) sc_law_text.nd rfl (by first | exact Or.inl rfl | exact Or.inr rfl) pe_str)
      (pss_one (ps_ret (pe_join pe_str (pe_lc (own := [("_law_turn", 3)]) (g := gName 3) rfl sc_law_text.nd (pi_range1 rfl T.f_range (pa_cons (pe_op op_add pe_int (pe_callP G_law_take (hr.mono (by decide)) rfl T.g_law_take (pa_cons (pv 0) (pa_cons (pv 1) pa_nil)))) pa_nil)) (blkOk_by (N := ["_law_pool_here", "_law_most", "_law_letters", "_law_turn"]) (sc := defScope s_law_text) (by decide +kernel)) (fun _ _ _ _ _ => (pg_name (i := 3) sc_law_text.nd rfl (by first | exact Or.inl rfl | exact Or.inr rfl))) (fun _ _ _ _ _ => pts_nil) (fun _ _ _ _ _ => (pe_ix ix_str (pv 2) (pe_callP (by exact G_law_take) (by exact hr.mono (by decide)) (by rfl) (by exact T.g_law_take) (pa_cons (pv 0) (pa_cons pe_int pa_nil))) (fun _ _ => rfl)))))))), ?_⟩
    refine ⟨⟨_, rfl⟩, _, rfl, _, rfl, p, m, rfl, hp, by omega, fun r H1 h0 h1 hp1 k1 => ⟨_, _, rfl, rfl, _, rfl, by omega, by omega, fun D hD => lc_by (n := (1 + r).toNat) (fun i H2 => ∃ ys : List Nat, Lets ys ∧ ys.length = i ∧ PoolAt H2 p ∧ (∀ b o, b ≠ D → b ≠ p → H1 b = some o → H2 b = some o) ∧ H2 D = some (.lst (ys.map fun c => .str ⟨#[c]⟩))) (fun i H _ hi => hi) (fun H _ => Nat.le_refl _) ?_ ?_ ?_⟩⟩
    · have hDp : p ≠ D := by
        obtain ⟨c, s, e, _⟩ := hp1
        exact ne_of_none e hD
      exact ⟨[], (by intro c hc; cases hc), rfl, hp1.keep (Kp.upd (F := [D]) (by simp)) (by simpa using hDp), fun b o hb _ e => by rw [upd_ne hb]; exact e, upd_same⟩
    · rintro i x H2 H3 hi ⟨ys, hL, hlen, hp2, s2, hd⟩ ⟨rfl, rfl⟩
      refine ⟨rfl, ?_⟩
      refine yes_go ?_
      refine ⟨_, rfl, _, rfl, p, 32, rfl, hp2, ⟨by decide, by decide⟩, fun r2 H4 g0 g1 hp4 k4 => ?_⟩
      obtain ⟨c, hc, hc2⟩ := txt_at g0 g1
      have hDp : D ≠ p := by
        obtain ⟨c, s, e, _⟩ := hp2
        intro z
        rw [z, e] at hd
        cases ys with
        | nil => cases hd
        | cons a b => cases hd
      have hd4 := k4 D _ (by simpa using hDp) hd
      refine ⟨_, r2, c, rfl, rfl, (by decide), hc, _, hd4, (by rw [List.length_map]; exact line5' (by omega)), ys ++ [c], hL.app (by intro d hd; rw [List.mem_singleton.mp hd]; exact hc2), (by rw [List.length_append, hlen]; rfl), hp4.keep (Kp.upd (F := [D]) (by simp)) (by simpa using hDp.symm), fun b o hb hb2 e => ?_, ?_⟩
      · rw [upd_ne hb]
        exact k4 b o (by simpa using hb2) (s2 b o hb hb2 e)
      · rw [upd_same, List.map_append]
        rfl
    · rintro H2 ⟨ys, hL, hlen, hp2, s2, hd⟩
      refine ⟨_, D, ys.map fun c => (⟨#[c]⟩ : Str), rfl, rfl, .inl (SqL.of (by rw [hd, List.map_map]; rfl)), ?_, ?_⟩
      · rw [List.map_map, List.length_map]
        have e : (ys.map ((fun x : Str => x.length) ∘ fun c => (⟨#[c]⟩ : Str))) = ys.map fun _ => 1 := rfl
        rw [e, List.map_const', List.sum_replicate_nat]
        show ys.length * 1 + ys.length * 0 ≤ _
        omega
      · rw [join_signs]
        refine k ys H2 hL (by omega) (by omega) hp2 (k1.trans fun b o hb e => s2 b o (fun z => ?_) (by simpa using hb) e)
        rw [z, hD] at e
        cases e
/-- what is_row is asked about: a tuple that begins with a word and a name -/
def sp_is_row : Sp := fun vs H Q _ => ∃ (a d : Addr) (word : Str) (l : List Nat) (rest : List V) (kvs : List (Key × V)), vs = [.ref a, .ref d] ∧ H a = some (.tup (.str word :: tx l :: rest)) ∧ Lets l ∧ (1 ≤ l.length ∧ l.length ≤ 8) ∧ rest.length ≤ 100 ∧
  H d = some (.dK kvs) ∧ valV kvs (.inr word) = some (.int (rest.length + 2 : Nat)) ∧ ∀ H', Same H H' → Q (.bl true) H'
theorem sc_is_row : FnScope ["thing", "sizes"] ["thing", "sizes"] (defScope s_is_row) := ⟨rfl, rfl, rfl, by decide +kernel, rfl, by decide +kernel, by decide +kernel⟩
theorem ok_is_row (T : TX P w K mg base) : PR P w K mg base 3 (He.ga K "is_row") ["thing", "sizes"] sp_is_row := by
  have G_is_word := ok_is_word T
  refine T.prom d_is_row (List.mem_of_getElem? (i := 11) (by rfl)) ⟨rfl, rfl⟩ sc_is_row (fun vs H Q E h => ?_) (fun _ _ _ _ _ _ us hl => match us, hl with | [_, _], _ => rfl) (fun cdv A outer s H vs Q E hr h => ?_)
  · obtain ⟨_, _, _, _, _, _, rfl, _⟩ := h
    rfl
  · have hu := hu_of hr
    obtain ⟨a, d, word, l, rest, kvs, rfl, hS, hL, hl, hrs, hd, hv, k⟩ := h
    refine ⟨_, (pss_cons (ps_if (PW.pt (pw_or (pt_not (pt_val (pe_callB call_isB (by rfl) T.f_isinstance (by decide +kernel) (pa_cons (pv 0) (pa_cons (pe_bty (n := "tuple") rfl T.f_tuple (by decide +kernel)) pa_nil))))) (pw_or (pt_cmpR op_lt (pe_callB call_len (by rfl) T.f_len (by decide +kernel) (pa_cons (pv 0) pa_nil)) pe_int (nomark _)) (pw_or1 (pt_not (pt_val (pe_callB call_isB (by rfl) T.f_isinstance (by decide +kernel) (pa_cons (pe_ix ix_tup (pv 0) pe_int (fun _ _ => rfl)) (pa_cons (pe_bty (n := "str") rfl T.f_str (by decide +kernel)) pa_nil)))))))))
        (pss_one (ps_ret pe_bl))
        pss_nil)
      (pss_one (ps_ret (pe_and (pe_cmpR op_eq (pe_dget1 hu (pv 1) (pe_ix ix_tup (pv 0) pe_int (fun _ _ => rfl)) ⟨rfl, rfl, rfl, rfl⟩) (pe_callB call_len (by rfl) T.f_len (by decide +kernel) (pa_cons (pv 0) pa_nil)) (nomark _)) (pe_one (pe_callP G_is_word (hr.mono (by decide)) rfl T.g_is_word (pa_cons (pe_ix ix_tup (pv 0) pe_int (fun _ _ => rfl)) pa_nil))))))), ?_⟩
    have ln : ((.str word :: tx l :: rest : List V).length : Int) = ((rest.length + 2 : Nat) : Int) := rfl
    refine ⟨_, rfl, _, _, _, true, rfl, .base (.tup hS), (by decide +kernel), _, rfl, iteF ?_⟩
    refine ⟨_, rfl, _, _, rfl, .inr ⟨_, SqT.of hS, rfl⟩, _, _, rfl, rfl, _, rfl, ?_⟩
    rw [decide_eq_false (show ¬ ((.str word :: tx l :: rest : List V).length : Int) < 2 by rw [ln]; omega)]
    refine iteF ?_
    refine ⟨_, rfl, a, _, 0, .str word, rfl, rfl, SqT.of hS, atI_nat (j := 0) rfl, _, _, _, true, rfl, .base (.str _), (by decide +kernel), _, rfl, iteF ?_⟩
    refine ⟨_, rfl, d, rfl, .inl ⟨_, .inl hd⟩, _, rfl, a, _, 0, .str word, rfl, rfl, SqT.of hS, atI_nat (j := 0) rfl, _, .inl ⟨kvs, .inr word, .inl hd, rfl, rfl⟩, ?_⟩
    rw [hv]
    refine ⟨_, rfl, _, _, rfl, .inr ⟨_, SqT.of hS, rfl⟩, rfl, _, rfl, ?_⟩
    rw [ln]
    refine ift (decide_eq_true rfl) ⟨_, rfl, a, _, 1, tx l, rfl, rfl, SqT.of hS, atI_nat (j := 1) rfl, l, rfl, hL, hl, k⟩
/-- a letter that may be asked about -/
def Ans (H : Hp) (a : Addr) : Prop := ∃ (word : Str) (name : List Nat), (Lets name ∧ 1 ≤ name.length ∧ name.length ≤ 8) ∧ (((word = "call" ∨ word = "meddled") ∧ H a = some (.tup [.str word, tx name])) ∨
  (word = "sure" ∧ ∃ (own known room : Int) (mode : Str) (over : Bool), 0 ≤ own ∧ 0 ≤ known ∧ 0 ≤ room ∧ (mode = "none" ∨ mode = "led" ∨ mode = "plain") ∧ H a = some (.tup [.str word, tx name, .int own, .int known, .int room, .str mode, .bl over])))
def sp_is_answer : Sp := fun vs H Q _ => ∃ a : Addr, vs = [.ref a] ∧ Ans H a ∧ ∀ H', Same H H' → Q (.bl true) H'
theorem sc_is_answer : FnScope ["thing", "word", "road", "mode", "over", "rest", "numbers", "one"] ["thing"] (defScope s_is_answer) := ⟨rfl, rfl, rfl, by decide +kernel, rfl, by decide +kernel, by decide +kernel⟩
theorem ok_is_answer (T : TX P w K mg base) : PR P w K mg base 4 (He.ga K "is_answer") ["thing"] sp_is_answer := by
  have G_is_from := ok_is_from T
  have G_is_row := ok_is_row T
  have G_is_truth := ok_is_truth T
  refine T.prom d_is_answer (List.mem_of_getElem? (i := 12) (by rfl)) ⟨rfl, rfl⟩ sc_is_answer (fun vs H Q E h => ?_) (fun _ _ _ _ _ _ us hl => match us, hl with | [_], _ => rfl) (fun cdv A outer s H vs Q E hr h => ?_)
  · obtain ⟨_, rfl, _⟩ := h
    rfl
  · have hu := hu_of hr
    obtain ⟨a, rfl, ⟨word, name, hn, hA⟩, k⟩ := h
    refine ⟨_, (pss_cons (ps_if (pt_not (pt_val (pe_callP G_is_row (hr.mono (by decide)) rfl T.g_is_row (pa_cons (pv 0) (pa_cons (pe_callTy (call_dictK rfl T.dANS T.iANS (by decide) (by decide)) (by rfl) T.f_dict (by decide +kernel) (pa_cons (pe_gref rfl T.g_ANSWERS) pa_nil)) pa_nil)))))
        (pss_one (ps_ret pe_bl))
        pss_nil)
      (pss_cons (ps_asg (pv 0) (pg_starT rfl (pgs_cons (pg_name (i := 1) sc_is_answer.nd rfl (by first | exact Or.inl rfl | exact Or.inr rfl)) (pgs_cons (pg_name (i := 2) sc_is_answer.nd rfl (by first | exact Or.inl rfl | exact Or.inr rfl)) (pgs_star (pg_name (i := 5) sc_is_answer.nd rfl (by first | exact Or.inl rfl | exact Or.inr rfl)) pgs_nil)))))
      (pss_cons (ps_if (pt_cmpR op_ne (pv 1) pe_str (nomark _))
        (pss_one (ps_ret pe_bl))
        pss_nil)
      (pss_cons (ps_asg (pv 5) (pg_starL rfl (pgs_star (pg_name (i := 6) sc_is_answer.nd rfl (by first | exact Or.inl rfl | exact Or.inr rfl)) (pgs_cons (pg_name (i := 3) sc_is_answer.nd rfl (by first | exact Or.inl rfl | exact Or.inr rfl)) (pgs_cons (pg_name (i := 4) sc_is_answer.nd rfl (by first | exact Or.inl rfl | exact Or.inr rfl)) pgs_nil)))))
      (pss_one (ps_ret (pe_and (pe_callB (cr_all rfl) (by rfl) T.f_all (by decide +kernel) (pa_cons (pe_lc (own := [("one", 7)]) (g := gName 7) rfl sc_is_answer.nd (pi_list (pv 6)) (blkOk_by (N := ["thing", "word", "road", "mode", "over", "rest", "numbers", "one"]) (sc := defScope s_is_answer) (by decide +kernel)) (fun _ _ _ _ _ => (pg_name (i := 7) sc_is_answer.nd rfl (by first | exact Or.inl rfl | exact Or.inr rfl))) (fun _ _ _ _ _ => pts_nil) (fun _ _ _ _ _ => (pe_callP (by exact G_is_from) (by exact hr.mono (by decide)) (by rfl) (by exact T.g_is_from) (pa_cons (pv 7) (pa_cons pe_int pa_nil))))) pa_nil)) (pe_and (pe_callB call_isB (by rfl) T.f_isinstance (by decide +kernel) (pa_cons (pv 3) (pa_cons (pe_bty (n := "str") rfl T.f_str (by decide +kernel)) pa_nil))) (pe_and (pe_cmpR op_in_seq (pv 3) (pe_gref rfl T.g_MODES) (by rfl)) (pe_one (pe_callP G_is_truth (hr.mono (by decide)) rfl T.g_is_truth (pa_cons (pv 4) pa_nil)))))))))))), ?_⟩
    refine ⟨_, rfl, rfl, fun d hd => ?_⟩
    have had : d ≠ a := by
      rintro rfl
      rcases hA with ⟨_, e⟩ | ⟨_, _, _, _, _, _, _, _, _, _, e⟩ <;> rw [hd] at e <;> cases e
    have sd : Same H (upd H d (.dK ((["call", "sure", "meddled"].zip [(2 : Int), 7, 2]).map fun p => ((Sum.inr p.1 : Key), V.int p.2)))) := Same.upd hd
    rcases hA with ⟨hw, e⟩ | ⟨rfl, own, known, room, mode, over, h1, h2, h3, hm, e⟩
    · have hv : valV ((["call", "sure", "meddled"].zip [(2 : Int), 7, 2]).map fun p => ((Sum.inr p.1 : Key), V.int p.2)) (.inr word) = some (.int (([] : List V).length + 2 : Nat)) := by
        rcases hw with rfl | rfl <;> decide +kernel
      refine ⟨a, d, word, name, [], _, rfl, sd _ _ e, hn.1, hn.2, (by decide), upd_same, hv, fun H1 s1 => ⟨_, rfl, iteF ?_⟩⟩
      refine ⟨_, rfl, a, _, rfl, SqT.of (s1 _ _ (sd _ _ e)), ⟨(by show (2 : Nat) < 3; decide), (by show (3 : Nat) ≤ 3; decide), (by show (2 : Nat) ≤ 16384; decide)⟩, fun p hp => ?_⟩
      refine ⟨_, _, rfl, _, _, rfl, _, _, rfl, rfl, _, rfl, rfl, _, rfl, ?_⟩
      have ne : (!decide (V.str word = V.str "sure")) = true := by
        rcases hw with rfl | rfl <;> decide +kernel
      rw [ne]
      exact iteT (k _ ((sd.trans s1).trans (Same.upd hp)))
    · refine ⟨a, d, "sure", name, [.int own, .int known, .int room, .str mode, .bl over], _, rfl, sd _ _ e, hn.1, hn.2, (by show (5 : Nat) ≤ 100; decide), upd_same, (by show valV _ _ = some (V.int ((7 : Nat) : Int)); decide +kernel), fun H1 s1 => ⟨_, rfl, iteF ?_⟩⟩
      refine ⟨_, rfl, a, _, rfl, SqT.of (s1 _ _ (sd _ _ e)), ⟨(by show (2 : Nat) < 3; decide), (by show (3 : Nat) ≤ 8; decide), (by show (7 : Nat) ≤ 16384; decide)⟩, fun p hp => ?_⟩
      refine ⟨_, _, rfl, _, _, rfl, _, _, rfl, rfl, _, rfl, rfl, _, rfl, ?_⟩
      have ne : (!decide (V.str "sure" = V.str "sure")) = false := by decide +kernel
      rw [ne]
      refine iteF ?_
      refine ⟨_, rfl, p, _, rfl, SqL.of upd_same, ⟨(by show (0 : Nat) < 3; decide), (by show (3 : Nat) ≤ 6; decide), (by show (5 : Nat) ≤ 16384; decide)⟩, fun q hq => ?_⟩
      refine ⟨_, _, rfl, _, _, rfl, _, _, rfl, rfl, ?_⟩
      have hq2 := Same.upd (o := HO.lst ((([V.int own, .int known, .int room, .str mode, .bl over].drop 0).take (5 + 1 - 3)))) hq
      have hqv : SqL K (upd (upd H1 p (.lst [.int own, .int known, .int room, .str mode, .bl over])) q (.lst [.int own, .int known, .int room])) q [.int own, .int known, .int room] := SqL.of upd_same
      have hn3 : ∀ i, i < 3 → ∃ z : Int, 0 ≤ z ∧ ([V.int own, .int known, .int room])[i]? = some (.int z) := by
        intro i hi
        match i, hi with
        | 0, _ => exact ⟨own, h1, rfl⟩
        | 1, _ => exact ⟨known, h2, rfl⟩
        | 2, _ => exact ⟨room, h3, rfl⟩
      refine ⟨_, rfl, q, rfl, ⟨_, hqv⟩, fun D hD => lc_by (n := 3) (fun i H2 => (∀ b o, b ≠ D → (upd (upd H1 p (.lst [.int own, .int known, .int room, .str mode, .bl over])) q (.lst [.int own, .int known, .int room])) b = some o → H2 b = some o) ∧ H2 D = some (.lst ((List.replicate i true).map V.bl))) (fun i H2 h _ => ?_) (fun H2 h => ?_) ?_ ?_ ?_⟩
      · obtain ⟨z, _, ez⟩ := hn3 i (by assumption)
        exact ⟨_, _, SqL.of (h.1 q _ (fun e => by rw [e, upd_same] at hD; cases hD) upd_same), ez⟩
      · exact ⟨_, SqL.of (h.1 q _ (fun e => by rw [e, upd_same] at hD; cases hD) upd_same), Nat.le_refl _⟩
      · exact ⟨fun b o hb e => by rw [upd_ne hb]; exact e, upd_same⟩
      · rintro i x H2 H3 hi ⟨s2, hd2⟩ ⟨rfl, hx⟩
        obtain ⟨z, hz, ez⟩ := hn3 i hi
        have ex := hx _ (SqL.of (s2 q _ (fun e => by rw [e, upd_same] at hD; cases hD) upd_same))
        rw [ez] at ex
        obtain rfl := Option.some.inj ex
        refine ⟨rfl, ?_⟩
        refine yes_go ?_
        refine ⟨_, rfl, z, 0, rfl, _, hd2, (by rw [List.length_map, List.length_replicate]; exact line5' (by omega)), fun b o hb e => (by rw [upd_ne hb]; exact s2 b o hb e), ?_⟩
        rw [upd_same, decide_eq_true hz, List.replicate_succ', List.map_append]
        rfl
      · rintro H2 ⟨s2, hd2⟩
        refine ⟨D, List.replicate 3 true, rfl, SqL.of hd2, _, rfl, iteT ?_⟩
        refine ⟨_, rfl, _, _, _, true, rfl, .base (.str mode), (by decide +kernel), _, rfl, iteT ?_⟩
        refine ⟨_, rfl, He.ga K "MODES", _, rfl, .inr (T.tMODES H2), rfl, rfl, ?_⟩
        have im : inV (.str mode) [.str "none", .str "led", .str "plain"] = true := by
          rcases hm with rfl | rfl | rfl <;> decide +kernel
        refine ⟨true, (by show V.bl (inV (.str mode) [.str "none", .str "led", .str "plain"]) = _; rw [im]), iteT ⟨_, rfl, over, rfl, ?_⟩⟩
        refine k _ fun b o eb => ?_
        have e2 : (upd (upd H1 p (.lst [.int own, .int known, .int room, .str mode, .bl over])) q (.lst [.int own, .int known, .int room])) b = some o := Same.upd hq b o (Same.upd hp b o (s1 b o (sd b o eb)))
        exact s2 b o (fun z => by rw [z] at e2; have e3 := hD.symm.trans e2; cases e3) e2
end

/-! ### pieces; joined -/
structure Pc where
  a : Addr
  f : Nat
  l : List Nat
def PcAt (W : List Nat) (H : Hp) (e : Pc) : Prop := H e.a = some (.tup [.int e.f, tx e.l]) ∧ Sub W e.f e.l
theorem PcAt.same {W : List Nat} {H H' : Hp} {e : Pc} (h : PcAt W H e) (s : Same H H') : PcAt W H' e := ⟨s _ _ h.1, h.2⟩
theorem PcAt.keep {W : List Nat} {H H' : Hp} {e : Pc} {F : List Addr} (h : PcAt W H e) (s : Kp F H H') (n : e.a ∉ F) : PcAt W H' e := ⟨s _ _ n h.1, h.2⟩
def pv_ (e : Pc) : V := .ref e.a
/-- what joined knows: numbers of signs, each with its sign -/
def dkv (ds : List (Nat × Nat)) : List (Key × V) := ds.map fun p => (.inl (p.1 : Int), .str ⟨#[p.2]⟩)
def Kn (W : List Nat) (ds : List (Nat × Nat)) : Prop := (∀ p ∈ ds, W[p.1]? = some p.2) ∧ (ds.map (·.1)).Nodup
theorem dkv_keys (ds : List (Nat × Nat)) : (dkv ds).map (·.1) = (ds.map fun p => (p.1 : Int)).map Sum.inl := by
  unfold dkv
  rw [List.map_map, List.map_map]
  rfl
theorem dkv_none {ds : List (Nat × Nat)} {n : Nat} (h : valV (dkv ds) (.inl (n : Int)) = none) : n ∉ ds.map (·.1) := by
  intro hm
  obtain ⟨p, hp, rfl⟩ := List.mem_map.mp hm
  exact valV_not h (List.mem_map.mpr ⟨_, List.mem_map.mpr ⟨p, hp, rfl⟩, rfl⟩)
theorem dkv_some {W : List Nat} {ds : List (Nat × Nat)} (hk : Kn W ds) {n c : Nat} (h : (n, c) ∈ ds) : valV (dkv ds) (.inl (n : Int)) = some (.str ⟨#[c]⟩) := by
  have nd : ((dkv ds).map (·.1)).Nodup := by
    rw [dkv_keys, List.map_map]
    have e : (ds.map (Sum.inl ∘ fun p => (p.1 : Int)) : List Key) = (ds.map (·.1)).map fun (n : Nat) => (Sum.inl (n : Int) : Key) := by rw [List.map_map]; rfl
    rw [e]
    exact List.Pairwise.map _ (fun a b hab z => hab (by have := Sum.inl.inj z; omega)) hk.2
  exact val_nodup nd (.inl (n : Int), .str ⟨#[c]⟩) (List.mem_map.mpr ⟨_, h, rfl⟩)
theorem Kn.put {W : List Nat} {ds : List (Nat × Nat)} (h : Kn W ds) {n c : Nat} (hn : valV (dkv ds) (.inl (n : Int)) = none) (hc : W[n]? = some c) : Kn W (ds ++ [(n, c)]) ∧ putK (dkv ds) (.inl (n : Int)) (.str ⟨#[c]⟩) = dkv (ds ++ [(n, c)]) := by
  refine ⟨⟨fun p hp => ?_, ?_⟩, ?_⟩
  · rcases List.mem_append.mp hp with hp | hp
    · exact h.1 p hp
    · rw [List.mem_singleton.mp hp]
      exact hc
  · rw [List.map_append]
    refine List.nodup_append.mpr ⟨h.2, by simp, fun a ha b hb => ?_⟩
    have : b = n := by simpa using hb
    subst this
    intro z
    subst z
    exact dkv_none hn ha
  · rw [putK_new _ hn]
    unfold dkv
    rw [List.map_append]
    rfl
theorem nd_len : ∀ (n : Nat) (l : List Nat), l.Nodup → (∀ x ∈ l, x < n) → l.length ≤ n
  | 0, [], _, _ => Nat.le_refl _
  | 0, a :: _, _, h => absurd (h a List.mem_cons_self) (Nat.not_lt_zero _)
  | n + 1, l, nd, h => by
    have h1 := nd_len n (l.erase n) (nd.erase n) fun x hx => by
      have h2 := (List.Nodup.mem_erase_iff nd).mp hx
      have h3 := h x h2.2
      have h4 := h2.1
      omega
    have h5 : l.length ≤ (l.erase n).length + 1 := by
      rw [List.length_erase]
      split <;> omega
    omega
theorem Kn.len {W : List Nat} {ds : List (Nat × Nat)} (h : Kn W ds) : ds.length ≤ W.length := by
  have h1 := nd_len W.length (ds.map (·.1)) h.2 fun n hn => by
    obtain ⟨p, hp, rfl⟩ := List.mem_map.mp hn
    cases Nat.lt_or_ge p.1 W.length with
    | inl z => exact z
    | inr z =>
      have e := h.1 p hp
      rw [List.getElem?_eq_none z] at e
      cases e
  rw [List.length_map] at h1
  exact h1
theorem Same.updN {H H1 : Hp} {p : Addr} {o : HO} (s : Same H H1) (h : H p = none) : Same H (L2.upd H1 p o) := fun b u e => by rw [upd_ne (ne_of_none e h)]; exact s b u e
theorem PcAt.upd {W : List Nat} {H : Hp} {e : Pc} {p : Addr} {xs : List V} {o : HO} (h : PcAt W H e) (hp : H p = some (.lst xs)) : PcAt W (L2.upd H p o) e := ⟨by rw [upd_ne (ne_of h.1 hp (fun z => nomatch z))]; exact h.1, h.2⟩
theorem PcAt.updD {W : List Nat} {H : Hp} {e : Pc} {p : Addr} {xs : List (Key × V)} {o : HO} (h : PcAt W H e) (hp : H p = some (.dK xs)) : PcAt W (L2.upd H p o) e := ⟨by rw [upd_ne (ne_of h.1 hp (fun z => nomatch z))]; exact h.1, h.2⟩
theorem Rd.same {H H' : Hp} {a : Addr} {u : HO} (h : Rd H a u) (s : Same H H') : Rd H' a u := h.imp (s _ _) fun ⟨o, e⟩ => ⟨o, s _ _ e⟩
theorem SqL.same {K : PySem.W.Frag} {H H' : Hp} {a : Addr} {xs : List V} (h : SqL K H a xs) (s : Same H H') : SqL K H' a xs := h.imp (fun r => Rd.same r s) id
theorem SqT.same {K : PySem.W.Frag} {H H' : Hp} {a : Addr} {xs : List V} (h : SqT K H a xs) (s : Same H H') : SqT K H' a xs := h.imp (fun r => Rd.same r s) id
/-- ascending, none twice: what is ahead of a number by one stands just ahead -/
theorem just_ahead {ys : List Int} {i : Nat} {x : Int} (hs : ys.Pairwise (· ≤ ·)) (hn : ys.Nodup) (hx : ys[i]? = some x) (hm : x - 1 ∈ ys) : 0 < i ∧ ys[i - 1]? = some (x - 1) := by
  obtain ⟨j, hj⟩ := List.mem_iff_getElem?.mp hm
  have hil : i < ys.length := by
    cases Nat.lt_or_ge i ys.length with
    | inl z => exact z
    | inr z => rw [List.getElem?_eq_none z] at hx; cases hx
  have hjl : j < ys.length := by
    cases Nat.lt_or_ge j ys.length with
    | inl z => exact z
    | inr z => rw [List.getElem?_eq_none z] at hj; cases hj
  have ex : ys[i] = x := by rw [List.getElem?_eq_getElem hil] at hx; exact Option.some.inj hx
  have ej : ys[j] = x - 1 := by rw [List.getElem?_eq_getElem hjl] at hj; exact Option.some.inj hj
  have pw := List.pairwise_iff_getElem.mp hs
  have pn := List.pairwise_iff_getElem.mp hn
  have hji : j < i := by
    rcases Nat.lt_trichotomy j i with z | z | z
    · exact z
    · subst z; omega
    · have := pw i j hil hjl z
      omega
  have h1l : i - 1 < ys.length := by omega
  refine ⟨by omega, ?_⟩
  have a1 := pw (i - 1) i h1l hil (by omega)
  have a2 := pn (i - 1) i h1l hil (by omega)
  have a3 : ys[j] ≤ ys[i - 1] := by
    rcases Nat.lt_trichotomy j (i - 1) with z | z | z
    · exact pw j (i - 1) hjl h1l z
    · subst z; exact Int.le_refl _
    · omega
  rw [List.getElem?_eq_getElem h1l]
  have : ys[i - 1] = x - 1 := by omega
  rw [this]
section
variable {P : Program} {w : World} {K : PySem.W.Frag} {mg : Str → Option Value} {base : Heap}
def sp_joined (K : PySem.W.Frag) : Sp := fun vs H Q _ => ∃ (a : Addr) (es : List Pc) (W : List Nat), vs = [.ref a] ∧ SqL K H a (es.map pv_) ∧ (∀ e ∈ es, PcAt W H e) ∧ W.length ≤ 100000 ∧
  ∀ (r : Addr) (es' : List Pc) (H' : Hp), Same H H' → H r = none → H' r = some (.lst (es'.map pv_)) → (∀ e ∈ es', PcAt W H' e) → es'.length ≤ W.length → Q (.ref r) H'
theorem sc_joined : FnScope ["pieces", "known", "found", "number", "first", "signs", "place", "sign"] ["pieces"] (defScope s_joined) := ⟨rfl, rfl, rfl, by decide +kernel, rfl, by decide +kernel, by decide +kernel⟩
theorem ok_joined (T : TX P w K mg base) : PR P w K mg base 1 (He.ga K "joined") ["pieces"] (sp_joined K) := by
  refine T.prom d_joined (List.mem_of_getElem? (i := 8) (by rfl)) ⟨rfl, rfl⟩ sc_joined (fun vs H Q E h => ?_) (fun _ _ _ _ _ _ us hl => match us, hl with | [_], _ => rfl) (fun cdv A outer s H vs Q E hr h => ?_)
  · obtain ⟨_, _, _, rfl, _⟩ := h
    rfl
  · have hu := hu_of hr
    obtain ⟨a, es, W, rfl, hS, hes, hW, k⟩ := h
    refine ⟨_, (pss_cons (ps_set (i := 1) sc_joined.nd rfl (by first | exact Or.inl rfl | exact Or.inr rfl) pe_dnewK)
      (pss_cons (ps_for PassesOwn.never rfl (pi_list (pv 0)) (pg_tup rfl (pgs_cons (pg_name (i := 4) sc_joined.nd rfl (by first | exact Or.inl rfl | exact Or.inr rfl)) (pgs_cons (pg_name (i := 5) sc_joined.nd rfl (by first | exact Or.inl rfl | exact Or.inr rfl)) pgs_nil)))
        (pss_one (ps_for PassesOwn.never rfl (pi_enumS (by rfl) T.f_enumerate (pa_cons (pv 5) pa_nil)) (pg_tup rfl (pgs_cons (pg_name (i := 6) sc_joined.nd rfl (by first | exact Or.inl rfl | exact Or.inr rfl)) (pgs_cons (pg_name (i := 7) sc_joined.nd rfl (by first | exact Or.inl rfl | exact Or.inr rfl)) pgs_nil)))
          (pss_one (ps_expr (pe_dsetd (pv 1) (pe_op op_add (pv 4) (pv 6)) (pv 7) ⟨rfl, rfl, rfl, rfl⟩))))))
      (pss_cons (ps_set (i := 2) sc_joined.nd rfl (by first | exact Or.inl rfl | exact Or.inr rfl) (pe_lst pa_nil))
      (pss_cons (ps_for PassesOwn.never rfl (pi_list (pe_callB (call_sortedDIn rfl) (by rfl) T.f_sorted (by decide +kernel) (pa_cons (pv 1) pa_nil))) (pg_name (i := 3) sc_joined.nd rfl (by first | exact Or.inl rfl | exact Or.inr rfl))
        (pss_one (ps_if (pt_cmp (pc_din hu (pe_op op_sub (pv 3) pe_int) (pv 1)))
          (pss_cons (ps_asg (pe_bm0 PySem.F.plainAttrs_list PySem.F.slot_list_pop PySem.F.type_list_pop mt_pop (pv 2)) (pg_tup rfl (pgs_cons (pg_name (i := 4) sc_joined.nd rfl (by first | exact Or.inl rfl | exact Or.inr rfl)) (pgs_cons (pg_name (i := 5) sc_joined.nd rfl (by first | exact Or.inl rfl | exact Or.inr rfl)) pgs_nil))))
          (pss_one (ps_expr (pe_bm PySem.F.plainAttrs_list PySem.F.slot_list_append PySem.F.type_list_append mt_append (pv 2) (pa_cons (pe_tup (pa_cons (pv 4) (pa_cons (pe_op op_add_str (pv 5) (pe_dget hu (pv 1) (pv 3) (fun _ _ => rfl))) pa_nil))) pa_nil)))))
          (pss_one (ps_expr (pe_bm PySem.F.plainAttrs_list PySem.F.slot_list_append PySem.F.type_list_append mt_append (pv 2) (pa_cons (pe_tup (pa_cons (pv 3) (pa_cons (pe_dget hu (pv 1) (pv 3) (fun _ _ => rfl)) pa_nil))) pa_nil)))))))
      (pss_one (ps_ret (pv 2))))))), ?_⟩
    refine fun d hd => ?_
    have hda : ∀ {b : Addr} {o : HO}, H b = some o → b ≠ d := fun e => ne_of_none e hd
    have sd : Same H (upd H d (.dK [])) := Same.upd hd
    refine ⟨_, rfl, a, rfl, ⟨_, SqL.same hS sd⟩, for_by (n := es.length) (fun i σ H2 => ∃ x4 x5 x6 x7 ds, σ = [some (.ref a), some (.ref d), none, none, x4, x5, x6, x7] ∧ Kn W ds ∧ H2 d = some (.dK (dkv ds)) ∧ Same H H2) (fun i σ H2 h hi => ?_) (fun σ H2 h => ?_) ⟨none, none, none, none, [], rfl, ⟨(by intro p hp; cases hp), .nil⟩, upd_same, sd⟩ ?_ ?_⟩
    · obtain ⟨_, _, _, _, _, _, _, _, s⟩ := h
      exact ⟨_, _, SqL.same hS s, List.getElem?_eq_getElem (by rw [List.length_map]; exact hi)⟩
    · obtain ⟨_, _, _, _, _, _, _, _, s⟩ := h
      exact ⟨_, SqL.same hS s, by rw [List.length_map]; exact Nat.le_refl _⟩
    · rintro i x σ H1 H2 hi ⟨x4, x5, x6, x7, ds, rfl, hk, hd1, s1⟩ ⟨rfl, hx⟩
      have ex := hx _ (SqL.same hS s1)
      rw [List.getElem?_map, List.getElem?_eq_getElem hi] at ex
      obtain rfl := Option.some.inj ex
      have hp := (hes _ (List.getElem_mem hi)).same s1
      refine ⟨es[i].a, _, rfl, SqT.of hp.1, rfl, _, _, rfl, _, _, rfl, rfl, ?_⟩
      refine ⟨_, rfl, S es[i].l, rfl, for_by (n := es[i].l.length) (fun j σ H2 => ∃ x6 x7 ds, σ = [some (.ref a), some (.ref d), none, none, some (.int es[i].f), some (tx es[i].l), x6, x7] ∧ Kn W ds ∧ H2 d = some (.dK (dkv ds)) ∧ Same H H2) (fun j σ H2 h hj => ?_) (fun σ H2 h => ?_) ⟨x6, x7, ds, rfl, hk, hd1, s1⟩ ?_ ?_⟩
      · show j < (S es[i].l).cps.size
        rw [size_S]; exact hj
      · show (S es[i].l).cps.size ≤ es[i].l.length
        rw [size_S]; exact Nat.le_refl _
      · rintro j y σ H3 H4 hj ⟨y6, y7, ds2, rfl, hk2, hd2, s2⟩ ⟨q, c, rfl, hq, rfl, hc⟩
        rw [get_S] at hc
        have hqd : d ≠ q := ne_of_none hd2 hq
        have hd3 : (upd H3 q (.tup [.int (0 + (j : Nat)), .str ⟨#[c]⟩])) d = some (.dK (dkv ds2)) := by rw [upd_ne hqd]; exact hd2
        have s3 : Same H (upd H3 q (.tup [.int (0 + (j : Nat)), .str ⟨#[c]⟩])) := s2.trans (Same.upd hq)
        refine ⟨q, _, rfl, SqT.of upd_same, rfl, _, _, rfl, _, _, rfl, rfl, ?_⟩
        have hwc : W[es[i].f + j]? = some c := by rw [← hp.2.get hj]; exact hc
        refine ⟨_, rfl, d, rfl, .inl ⟨_, .inl hd3⟩, _, rfl, _, rfl, _, _, rfl, rfl, _, rfl, dkv ds2, .inl ((es[i].f + j : Nat) : Int), hd3, ?_, ?_, fun v hv => ?_, fun hn => ?_⟩
        · show V.int _ = V.int _
          congr 1
          omega
        · have := hk2.len
          unfold dkv
          rw [List.length_map]
          exact line5' (by omega)
        · exact ⟨_, _, ds2, rfl, hk2, hd3, s3⟩
        · obtain ⟨g1, g2⟩ := hk2.put hn hwc
          exact ⟨_, _, ds2 ++ [(es[i].f + j, c)], rfl, g1, (by rw [upd_same]; show some (HO.dK (putK _ _ _)) = _; rw [g2]), Same.updN s3 hd⟩
      · rintro σ H3 ⟨y6, y7, ds2, rfl, hk2, hd2, s2⟩
        exact ⟨_, _, _, _, ds2, rfl, hk2, hd2, s2⟩
    · rintro σ H1 ⟨x4, x5, x6, x7, ds, rfl, hk, hd1, s1⟩
      refine ⟨line5 (by decide), fun fo hfo => ?_⟩
      have hfo0 := s1.free hfo
      have hfd : fo ≠ d := fun z => by rw [z, hd1] at hfo; cases hfo
      have hd2 : (upd H1 fo (.lst [])) d = some (.dK (dkv ds)) := by rw [upd_ne hfd.symm]; exact hd1
      refine ⟨_, rfl, d, dkv ds, ds.map fun p => (p.1 : Int), rfl, .inl hd2, dkv_keys ds, fun ys p hperm hsort hp => ?_⟩
      have hpd : p ≠ d := fun z => by rw [z, hd2] at hp; cases hp
      have hpf : p ≠ fo := fun z => by rw [z, upd_same] at hp; cases hp
      have hp0 : H p = none := by
        have : H1 p = none := by rw [upd_ne hpf] at hp; exact hp
        exact s1.free this
      have hlen : ys.length = ds.length := by rw [hperm.length_eq, List.length_map]
      have hnd : ys.Nodup := by
        refine (hperm.nodup_iff).mpr ?_
        have e : (ds.map fun p => (p.1 : Int)) = (ds.map (·.1)).map fun (n : Nat) => (n : Int) := by rw [List.map_map]; rfl
        rw [e]
        exact List.Pairwise.map _ (fun a b hab z => hab (by omega)) hk.2
      refine ⟨p, rfl, ⟨_, SqL.of upd_same⟩, for_by (n := ys.length) (fun i σ H2 => ∃ x3 x4 x5 x6 x7 es', σ = [some (.ref a), some (.ref d), some (.ref fo), x3, x4, x5, x6, x7] ∧ H2 d = some (.dK (dkv ds)) ∧ H2 p = some (.lst (ys.map V.int)) ∧ H2 fo = some (.lst (es'.map pv_)) ∧
        (∀ e ∈ es', PcAt W H2 e) ∧ es'.length ≤ i ∧ (0 < i → ∃ b e, es' = b ++ [e] ∧ ys[i - 1]? = some (((e.f + e.l.length : Nat) : Int) - 1)) ∧ Same H H2) (fun i σ H2 h hi => ?_) (fun σ H2 h => ?_) ?_ ?_ ?_⟩
      · obtain ⟨_, _, _, _, _, _, _, _, h, _⟩ := h
        exact ⟨_, _, SqL.of h, List.getElem?_eq_getElem (by rw [List.length_map]; exact hi)⟩
      · obtain ⟨_, _, _, _, _, _, _, _, h, _⟩ := h
        exact ⟨_, SqL.of h, by rw [List.length_map]; exact Nat.le_refl _⟩
      · exact ⟨none, x4, x5, x6, x7, [], rfl, (by rw [upd_ne hpd.symm]; exact hd2), upd_same, (by rw [upd_ne hpf.symm, upd_same]; rfl), (by intro e he; cases he), Nat.le_refl _, (fun z => absurd z (Nat.lt_irrefl _)), Same.updN (s1.trans (Same.upd hfo)) hp0⟩
      · rintro i x σ H2 H3 hi ⟨x3, x4, x5, x6, x7, es', rfl, hd3, hp3, hf3, he3, hl3, hlast, s3⟩ ⟨rfl, hx⟩
        have ex := hx _ (SqL.of hp3)
        rw [List.getElem?_map, List.getElem?_eq_getElem hi] at ex
        obtain rfl := Option.some.inj ex
        have hmem : ys[i] ∈ ds.map fun p => (p.1 : Int) := hperm.mem_iff.mp (List.getElem_mem hi)
        obtain ⟨⟨n, c⟩, hnc, en⟩ := List.mem_map.mp hmem
        have hnc2 : W[n]? = some c := hk.1 _ hnc
        have hval := dkv_some hk hnc
        have en2 : ((n : Nat) : Int) = ys[i] := en
        rw [← en2]
        have key : ∀ (H4 : Hp) (b : List Pc) (q : Addr) (f : Nat) (l : List Nat), H4 d = some (.dK (dkv ds)) → H4 p = some (.lst (ys.map V.int)) → H4 fo = some (.lst (b.map pv_)) → (∀ e ∈ b, PcAt W H4 e) → b.length ≤ i → Same H H4 → H4 q = none → Sub W f l → f + l.length = n + 1 →
            (L2.upd (L2.upd H4 q (.tup [.int f, tx l])) fo (.lst (b.map pv_ ++ [.ref q]))) d = some (.dK (dkv ds)) ∧ (L2.upd (L2.upd H4 q (.tup [.int f, tx l])) fo (.lst (b.map pv_ ++ [.ref q]))) p = some (.lst (ys.map V.int)) ∧ (L2.upd (L2.upd H4 q (.tup [.int f, tx l])) fo (.lst (b.map pv_ ++ [.ref q]))) fo = some (.lst ((b ++ [Pc.mk q f l]).map pv_)) ∧
            (∀ e ∈ b ++ [Pc.mk q f l], PcAt W (L2.upd (L2.upd H4 q (.tup [.int f, tx l])) fo (.lst (b.map pv_ ++ [.ref q]))) e) ∧ (b ++ [Pc.mk q f l]).length ≤ i + 1 ∧ (0 < i + 1 → ∃ b' e, b ++ [Pc.mk q f l] = b' ++ [e] ∧ ys[i + 1 - 1]? = some (((e.f + e.l.length : Nat) : Int) - 1)) ∧ Same H (L2.upd (L2.upd H4 q (.tup [.int f, tx l])) fo (.lst (b.map pv_ ++ [.ref q]))) := by
          intro H4 b q f l g1 g2 g3 g4 g5 g6 gq gs gl
          have q1 : d ≠ q := ne_of_none g1 gq
          have q2 : p ≠ q := ne_of_none g2 gq
          have q3 : fo ≠ q := ne_of_none g3 gq
          have e3 : (L2.upd H4 q (.tup [.int f, tx l])) fo = some (.lst (b.map pv_)) := by rw [upd_ne q3]; exact g3
          refine ⟨by rw [upd_ne hfd.symm, upd_ne q1]; exact g1, by rw [upd_ne hpf, upd_ne q2]; exact g2, by rw [upd_same, List.map_append]; rfl, fun e he => ?_, by rw [List.length_append]; simp only [List.length_singleton]; omega, fun _ => ⟨b, _, rfl, ?_⟩, Same.updN (g6.trans (Same.upd gq)) hfo0⟩
          · rcases List.mem_append.mp he with he | he
            · exact ((g4 e he).same (Same.upd gq)).upd e3
            · rw [List.mem_singleton.mp he]
              exact PcAt.upd (W := W) (e := Pc.mk q f l) ⟨upd_same, gs⟩ e3
          · rw [Nat.add_sub_cancel, List.getElem?_eq_getElem hi, ← en2]
            show some ((n : Nat) : Int) = some (((f + l.length : Nat) : Int) - 1)
            rw [gl]
            congr 1
            omega
        refine ⟨_, rfl, _, _, rfl, rfl, _, rfl, d, _, rfl, .inl ⟨dkv ds, .inl ((n : Int) - 1), .inl hd3, rfl, rfl⟩, _, rfl, ?_⟩
        cases hv : valV (dkv ds) (.inl ((n : Int) - 1)) with
        | some v =>
          refine iteT ?_
          have hm1 : ((n : Int) - 1) ∈ ys := by
            have := valV_in hv
            rw [dkv_keys] at this
            obtain ⟨z, hz, ez⟩ := List.mem_map.mp this
            rw [← Sum.inl.inj ez]
            exact hperm.mem_iff.mpr hz
          have hin : ys[i]? = some (n : Int) := by rw [List.getElem?_eq_getElem hi, ← en2]
          obtain ⟨i0, hprev⟩ := just_ahead hsort hnd hin hm1
          obtain ⟨b, e, rfl, hl9⟩ := hlast i0
          rw [hprev] at hl9
          have hend : e.f + e.l.length = n := by
            have := Option.some.inj hl9
            omega
          have hpe := he3 e (by simp)
          have hbl : b.length ≤ i := by rw [List.length_append] at hl3; simp only [List.length_singleton] at hl3; omega
          refine ⟨_, rfl, .inl ⟨rfl, _, SqL.of hf3⟩, fo, _, .ref e.a, rfl, rfl, hf3, ?_, ?_⟩
          · rw [List.map_append, List.length_append]
            simp [pv_]
          have edl : (((b ++ [e]).map pv_).dropLast) = b.map pv_ := by rw [List.map_append]; exact List.dropLast_concat
          rw [edl]
          have hf4 : (L2.upd H3 fo (.lst (b.map pv_))) fo = some (.lst (b.map pv_)) := upd_same
          have hd4 : (L2.upd H3 fo (.lst (b.map pv_))) d = some (.dK (dkv ds)) := by rw [upd_ne hfd.symm]; exact hd3
          have hp4 : (L2.upd H3 fo (.lst (b.map pv_))) p = some (.lst (ys.map V.int)) := by rw [upd_ne hpf]; exact hp3
          have hpe4 := hpe.upd (o := .lst (b.map pv_)) hf3
          refine ⟨e.a, _, rfl, SqT.of hpe4.1, rfl, _, _, rfl, _, _, rfl, rfl, ?_⟩
          refine ⟨_, rfl, .inl ⟨rfl, _, SqL.of hf4⟩, _, rfl, _, rfl, _, rfl, _, rfl, d, _, rfl, .inl ⟨dkv ds, .inl (n : Int), .inl hd4, rfl, hval.symm⟩, ?_⟩
          refine ⟨_, _, rfl, rfl, ?_, ?_⟩
          · rw [S_len]
            have := hpe.2.1
            show e.l.length + 1 ≤ sizeLine
            exact line5' (by omega)
          refine ⟨line5 (by show 2 ≤ _; decide), fun q hq => ?_⟩
          have hq3 : fo ≠ q := ne_of_none hf4 hq
          refine ⟨fo, b.map pv_, _, rfl, rfl, (by rw [upd_ne hq3]; exact hf4), (by rw [List.length_map]; exact line5' (by have := hk.len; omega)), ?_⟩
          have r := key (L2.upd H3 fo (.lst (b.map pv_))) b q e.f (e.l ++ [c]) hd4 hp4 hf4 (fun e' he' => (he3 e' (by simp [he'])).upd hf3) hbl (Same.updN s3 hfo0) hq (hpe.2.snoc (by rw [hend]; exact hnc2)) (by rw [List.length_append]; simp only [List.length_singleton]; omega)
          rw [show tx (e.l ++ [c]) = V.str (S e.l ++ ⟨#[c]⟩) from congrArg V.str (S_app e.l [c]).symm] at r
          exact ⟨_, _, _, _, _, _, rfl, r⟩
        | none =>
          refine iteF ?_
          refine ⟨_, rfl, .inl ⟨rfl, _, SqL.of hf3⟩, _, rfl, _, rfl, _, rfl, d, _, rfl, .inl ⟨dkv ds, .inl (n : Int), .inl hd3, rfl, hval.symm⟩, ?_⟩
          refine ⟨line5 (by show 2 ≤ _; decide), fun q hq => ?_⟩
          have hq3 : fo ≠ q := ne_of_none hf3 hq
          refine ⟨fo, es'.map pv_, _, rfl, rfl, (by rw [upd_ne hq3]; exact hf3), (by rw [List.length_map]; exact line5' (by have := hk.len; omega)), ?_⟩
          have r := key H3 es' q n [c] hd3 hp3 hf3 he3 hl3 s3 hq (Sub.one hnc2) rfl
          exact ⟨_, _, _, _, _, _, rfl, r⟩
      · rintro σ H2 ⟨x3, x4, x5, x6, x7, es', rfl, hd3, hp3, hf3, he3, hl3, hlast, s3⟩
        refine ⟨_, rfl, ?_⟩
        exact k fo es' H2 s3 hfo0 hf3 he3 (by have := hk.len; omega)
end

/-! ### a letter's record; a road with its way; a writer -/
structure Ent where
  la : Addr
  pa : Addr
  own : Nat
  first : Nat
  l : List Nat
structure Rw where
  name : List Nat
  r : Addr
  wy : Addr
  la : Addr
  pa : Addr
  base : Int
  txt : List Nat
  ents : List Ent
  sure : Int
  age : Int
  st : Str
  spare : Bool
  put : Bool
structure Wr where
  p : Addr
  dr : Addr
  la : Addr
  rule : Str
  W : List Nat
  known : Int
  limit : Int
  mode : Str
  roads : List Rw
  first : Option (List Nat)
  last : Option (List Nat)
  next : Nat
  anew : List Pc
def oV : Option (List Nat) → V
  | none => .non
  | some l => tx l
def Rw.laid (d : Rw) : Int := (d.txt.length : Nat)
def wayF (d : Rw) : List (Str × V) := [("own_road", tx d.name), ("own_base", .int d.base), ("own_lays", .ref d.la), ("own_pieces", .ref d.pa), ("own_laid", .int d.laid), ("own_sure", .int d.sure), ("own_age", .int d.age)]
theorem lenWay (d : Rw) : (wayF d).length < 1000 := by show 7 < 1000; decide
theorem lkWay_own_road (d : Rw) : (wayF d).lookup ("own_road" : Str) = some (tx d.name : V) := by kernel_rfl
theorem lkWay_own_base (d : Rw) : (wayF d).lookup ("own_base" : Str) = some (.int d.base : V) := by kernel_rfl
theorem ptWay_own_base (d : Rw) (z : Int) : putF ("own_base" : Str) (.int z : V) (wayF d) = wayF { d with base := z } := by kernel_rfl
theorem lkWay_own_lays (d : Rw) : (wayF d).lookup ("own_lays" : Str) = some (.ref d.la : V) := by kernel_rfl
theorem ptWay_own_lays (d : Rw) (z : Addr) : putF ("own_lays" : Str) (.ref z : V) (wayF d) = wayF { d with la := z } := by kernel_rfl
theorem lkWay_own_pieces (d : Rw) : (wayF d).lookup ("own_pieces" : Str) = some (.ref d.pa : V) := by kernel_rfl
theorem ptWay_own_pieces (d : Rw) (z : Addr) : putF ("own_pieces" : Str) (.ref z : V) (wayF d) = wayF { d with pa := z } := by kernel_rfl
theorem lkWay_own_laid (d : Rw) : (wayF d).lookup ("own_laid" : Str) = some (.int d.laid : V) := by kernel_rfl
theorem lkWay_own_sure (d : Rw) : (wayF d).lookup ("own_sure" : Str) = some (.int d.sure : V) := by kernel_rfl
theorem ptWay_own_sure (d : Rw) (z : Int) : putF ("own_sure" : Str) (.int z : V) (wayF d) = wayF { d with sure := z } := by kernel_rfl
theorem lkWay_own_age (d : Rw) : (wayF d).lookup ("own_age" : Str) = some (.int d.age : V) := by kernel_rfl
theorem ptWay_own_age (d : Rw) (z : Int) : putF ("own_age" : Str) (.int z : V) (wayF d) = wayF { d with age := z } := by kernel_rfl
theorem noWay_lay (d : Rw) : (wayF d).lookup ("lay" : Str) = none := by kernel_rfl
theorem noWay_letter (d : Rw) : (wayF d).lookup ("letter" : Str) = none := by kernel_rfl
theorem noWay_hear (d : Rw) : (wayF d).lookup ("hear" : Str) = none := by kernel_rfl
theorem noWay_tick (d : Rw) : (wayF d).lookup ("tick" : Str) = none := by kernel_rfl
theorem noWay_pieces (d : Rw) : (wayF d).lookup ("pieces" : Str) = none := by kernel_rfl
theorem noWay_first_letter (d : Rw) : (wayF d).lookup ("first_letter" : Str) = none := by kernel_rfl
theorem noWay_fits (d : Rw) : (wayF d).lookup ("fits" : Str) = none := by kernel_rfl
theorem noWay_laid (d : Rw) : (wayF d).lookup ("laid" : Str) = none := by kernel_rfl
theorem noWay_sure (d : Rw) : (wayF d).lookup ("sure" : Str) = none := by kernel_rfl
theorem noWay_unsure (d : Rw) : (wayF d).lookup ("unsure" : Str) = none := by kernel_rfl
theorem noWay_age (d : Rw) : (wayF d).lookup ("age" : Str) = none := by kernel_rfl
theorem noWay_is_still (d : Rw) : (wayF d).lookup ("is_still" : Str) = none := by kernel_rfl
theorem noWay_called (d : Rw) : (wayF d).lookup ("called" : Str) = none := by kernel_rfl
theorem noWay_base (d : Rw) : (wayF d).lookup ("base" : Str) = none := by kernel_rfl
theorem noWay_twin (d : Rw) : (wayF d).lookup ("twin" : Str) = none := by kernel_rfl
def roadF (d : Rw) : List (Str × V) := [("own_way", .ref d.wy), ("own_state", .str d.st), ("own_spare", .bl d.spare), ("was_put", .bl d.put)]
theorem lenRoad (d : Rw) : (roadF d).length < 1000 := by show 4 < 1000; decide
theorem lkRoad_own_way (d : Rw) : (roadF d).lookup ("own_way" : Str) = some (.ref d.wy : V) := by kernel_rfl
theorem lkRoad_own_state (d : Rw) : (roadF d).lookup ("own_state" : Str) = some (.str d.st : V) := by kernel_rfl
theorem ptRoad_own_state (d : Rw) (z : Str) : putF ("own_state" : Str) (.str z : V) (roadF d) = roadF { d with st := z } := by kernel_rfl
theorem lkRoad_own_spare (d : Rw) : (roadF d).lookup ("own_spare" : Str) = some (.bl d.spare : V) := by kernel_rfl
theorem ptRoad_own_spare (d : Rw) (z : Bool) : putF ("own_spare" : Str) (.bl z : V) (roadF d) = roadF { d with spare := z } := by kernel_rfl
theorem lkRoad_was_put (d : Rw) : (roadF d).lookup ("was_put" : Str) = some (.bl d.put : V) := by kernel_rfl
theorem ptRoad_was_put (d : Rw) (z : Bool) : putF ("was_put" : Str) (.bl z : V) (roadF d) = roadF { d with put := z } := by kernel_rfl
theorem noRoad_other (d : Rw) : (roadF d).lookup ("other" : Str) = none := by kernel_rfl
def wrF (d : Wr) : List (Str × V) := [("own_rule", .str d.rule), ("own_signs", tx d.W), ("was_ended", .bl false), ("own_known", .int d.known), ("own_limit", .int d.limit), ("own_mode", .str d.mode), ("was_over", .bl false), ("own_roads", .ref d.dr), ("first_road", oV d.first), ("last_road", oV d.last), ("own_next", .int d.next), ("own_anew", .ref d.la)]
theorem lenWriter (d : Wr) : (wrF d).length < 1000 := by show 12 < 1000; decide
theorem lkWriter_own_rule (d : Wr) : (wrF d).lookup ("own_rule" : Str) = some (.str d.rule : V) := by kernel_rfl
theorem lkWriter_own_signs (d : Wr) : (wrF d).lookup ("own_signs" : Str) = some (tx d.W : V) := by kernel_rfl
theorem ptWriter_own_signs (d : Wr) (z : List Nat) : putF ("own_signs" : Str) (tx z : V) (wrF d) = wrF { d with W := z } := by kernel_rfl
theorem lkWriter_was_ended (d : Wr) : (wrF d).lookup ("was_ended" : Str) = some (.bl false : V) := by kernel_rfl
theorem lkWriter_own_known (d : Wr) : (wrF d).lookup ("own_known" : Str) = some (.int d.known : V) := by kernel_rfl
theorem ptWriter_own_known (d : Wr) (z : Int) : putF ("own_known" : Str) (.int z : V) (wrF d) = wrF { d with known := z } := by kernel_rfl
theorem lkWriter_own_limit (d : Wr) : (wrF d).lookup ("own_limit" : Str) = some (.int d.limit : V) := by kernel_rfl
theorem ptWriter_own_limit (d : Wr) (z : Int) : putF ("own_limit" : Str) (.int z : V) (wrF d) = wrF { d with limit := z } := by kernel_rfl
theorem lkWriter_own_mode (d : Wr) : (wrF d).lookup ("own_mode" : Str) = some (.str d.mode : V) := by kernel_rfl
theorem ptWriter_own_mode (d : Wr) (z : Str) : putF ("own_mode" : Str) (.str z : V) (wrF d) = wrF { d with mode := z } := by kernel_rfl
theorem lkWriter_was_over (d : Wr) : (wrF d).lookup ("was_over" : Str) = some (.bl false : V) := by kernel_rfl
theorem lkWriter_own_roads (d : Wr) : (wrF d).lookup ("own_roads" : Str) = some (.ref d.dr : V) := by kernel_rfl
theorem lkWriter_first_road (d : Wr) : (wrF d).lookup ("first_road" : Str) = some (oV d.first : V) := by kernel_rfl
theorem ptWriter_first_road (d : Wr) (z : Option (List Nat)) : putF ("first_road" : Str) (oV z : V) (wrF d) = wrF { d with first := z } := by kernel_rfl
theorem lkWriter_last_road (d : Wr) : (wrF d).lookup ("last_road" : Str) = some (oV d.last : V) := by kernel_rfl
theorem ptWriter_last_road (d : Wr) (z : Option (List Nat)) : putF ("last_road" : Str) (oV z : V) (wrF d) = wrF { d with last := z } := by kernel_rfl
theorem lkWriter_own_next (d : Wr) : (wrF d).lookup ("own_next" : Str) = some (.int d.next : V) := by kernel_rfl
theorem ptWriter_own_next (d : Wr) (z : Nat) : putF ("own_next" : Str) (.int z : V) (wrF d) = wrF { d with next := z } := by kernel_rfl
theorem lkWriter_own_anew (d : Wr) : (wrF d).lookup ("own_anew" : Str) = some (.ref d.la : V) := by kernel_rfl
theorem ptWriter_own_anew (d : Wr) (z : Addr) : putF ("own_anew" : Str) (.ref z : V) (wrF d) = wrF { d with la := z } := by kernel_rfl
theorem noWriter_write (d : Wr) : (wrF d).lookup ("write" : Str) = none := by kernel_rfl
theorem noWriter_end (d : Wr) : (wrF d).lookup ("end" : Str) = none := by kernel_rfl
theorem noWriter_begin (d : Wr) : (wrF d).lookup ("begin" : Str) = none := by kernel_rfl
theorem noWriter_road_at (d : Wr) : (wrF d).lookup ("road_at" : Str) = none := by kernel_rfl
theorem noWriter_spare (d : Wr) : (wrF d).lookup ("spare" : Str) = none := by kernel_rfl
theorem noWriter_go (d : Wr) : (wrF d).lookup ("go" : Str) = none := by kernel_rfl
theorem noWriter_let_go (d : Wr) : (wrF d).lookup ("let_go" : Str) = none := by kernel_rfl
theorem noWriter_put_anew (d : Wr) : (wrF d).lookup ("put_anew" : Str) = none := by kernel_rfl
theorem noWriter_drop_known (d : Wr) : (wrF d).lookup ("drop_known" : Str) = none := by kernel_rfl
theorem noWriter_next_piece (d : Wr) : (wrF d).lookup ("next_piece" : Str) = none := by kernel_rfl
theorem noWriter_usable (d : Wr) : (wrF d).lookup ("usable" : Str) = none := by kernel_rfl
theorem noWriter_road_for (d : Wr) : (wrF d).lookup ("road_for" : Str) = none := by kernel_rfl
theorem noWriter_send (d : Wr) : (wrF d).lookup ("send" : Str) = none := by kernel_rfl
theorem noWriter_take (d : Wr) : (wrF d).lookup ("take" : Str) = none := by kernel_rfl
theorem noWriter_on_call (d : Wr) : (wrF d).lookup ("on_call" : Str) = none := by kernel_rfl
theorem noWriter_on_sure (d : Wr) : (wrF d).lookup ("on_sure" : Str) = none := by kernel_rfl
theorem noWriter_hear_mode (d : Wr) : (wrF d).lookup ("hear_mode" : Str) = none := by kernel_rfl
theorem noWriter_has_all_laid (d : Wr) : (wrF d).lookup ("has_all_laid" : Str) = none := by kernel_rfl
theorem noWriter_tick_letters (d : Wr) : (wrF d).lookup ("tick_letters" : Str) = none := by kernel_rfl
theorem noWriter_look_at_still (d : Wr) : (wrF d).lookup ("look_at_still" : Str) = none := by kernel_rfl
theorem noWriter_tick (d : Wr) : (wrF d).lookup ("tick" : Str) = none := by kernel_rfl
theorem noWriter_written (d : Wr) : (wrF d).lookup ("written" : Str) = none := by kernel_rfl
theorem noWriter_kept (d : Wr) : (wrF d).lookup ("kept" : Str) = none := by kernel_rfl
theorem noWriter_known (d : Wr) : (wrF d).lookup ("known" : Str) = none := by kernel_rfl
theorem noWriter_limit (d : Wr) : (wrF d).lookup ("limit" : Str) = none := by kernel_rfl
theorem noWriter_mode (d : Wr) : (wrF d).lookup ("mode" : Str) = none := by kernel_rfl
theorem noWriter_roads (d : Wr) : (wrF d).lookup ("roads" : Str) = none := by kernel_rfl
theorem noWriter_anew (d : Wr) : (wrF d).lookup ("anew" : Str) = none := by kernel_rfl
theorem noWriter_is_over (d : Wr) : (wrF d).lookup ("is_over" : Str) = none := by kernel_rfl
theorem noWriter_has_ended (d : Wr) : (wrF d).lookup ("has_ended" : Str) = none := by kernel_rfl
theorem noWriter_twin (d : Wr) : (wrF d).lookup ("twin" : Str) = none := by kernel_rfl
theorem ptWay_laid (d : Rw) (z : List Nat) : putF ("own_laid" : Str) (.int (z.length : Nat)) (wayF d) = wayF { d with txt := z } := by kernel_rfl
theorem ptWriter_same_over (d : Wr) : putF ("was_over" : Str) (.bl false) (wrF d) = wrF d := by kernel_rfl
/-- e.f, where e's record stands -/
theorem fldR {K : PySem.W.Frag} {a C dx : Addr} {fs : List (Str × V)} {f : Str} {v : V} {H : Hp} {Q : VK} (h : H a = some (.ins C dx fs)) (c : Cls K C) (n : NoAttr K C f) (l : fs.lookup f = some v) (q : Q v H) :
    ∃ a' C dx fs v', V.ref a = .ref a' ∧ H a' = some (.ins C dx fs) ∧ Cls K C ∧ NoAttr K C f ∧ fs.lookup f = some v' ∧ Q v' H := ⟨a, C, dx, fs, v, rfl, h, c, n, l, q⟩
theorem fldW {K : PySem.W.Frag} {a C dx : Addr} {fs fs' : List (Str × V)} {f : Str} {v : V} {H : Hp} {N : Hp → Prop} (h : H a = some (.ins C dx fs)) (c : Cls K C) (n : NoAttr K C f) (hl : fs.length < 1000) (e : putF f v fs = fs') (q : N (upd H a (.ins C dx fs'))) :
    ∃ a' C dx fs, V.ref a = .ref a' ∧ H a' = some (.ins C dx fs) ∧ Cls K C ∧ NoAttr K C f ∧ fs.length < 1000 ∧ N (upd H a' (.ins C dx (putF f v fs))) := ⟨a, C, dx, fs, rfl, h, c, n, hl, by rw [e]; exact q⟩
theorem methR {a C dx : Addr} {fs : List (Str × V)} {m : Str} {H : Hp} {N : Prop} (h : H a = some (.ins C dx fs)) (l : fs.lookup m = none) (q : N) :
    ∃ a' dx fs, V.ref a = .ref a' ∧ H a' = some (.ins C dx fs) ∧ fs.lookup m = none ∧ N := ⟨a, dx, fs, rfl, h, l, q⟩

/-! ### Way -/
/-- what is never written: a tuple, a code object -/
def Imm : HO → Prop
  | .tup _ => True
  | .ext _ => True
  | _ => False
/-- all that stood stands, but at F; what is never written stands wherever it is -/
def Fr (F : List Addr) (H H' : Hp) : Prop := ∀ b o, (b ∉ F ∨ Imm o) → H b = some o → H' b = some o
theorem Fr.of {H H' : Hp} (F : List Addr) (s : Same H H') : Fr F H H' := fun b o _ e => s b o e
theorem Fr.refl (F : List Addr) (H : Hp) : Fr F H H := fun _ _ _ e => e
theorem Fr.trans {F : List Addr} {H H1 H2 : Hp} (a : Fr F H H1) (b : Fr F H1 H2) : Fr F H H2 := fun c o h e => b c o h (a c o h e)
theorem Fr.mono {F G : List Addr} {H H' : Hp} (a : Fr F H H') (h : ∀ b ∈ F, b ∈ G) : Fr G H H' := fun c o n e => a c o (n.imp (fun z m => z (h c m)) id) e
theorem Fr.at {F : List Addr} {H H' : Hp} (a : Fr F H H') {b : Addr} {o : HO} (n : b ∉ F) (e : H b = some o) : H' b = some o := a b o (.inl n) e
theorem Fr.tup {F : List Addr} {H H' : Hp} (a : Fr F H H') {b : Addr} {xs : List V} (e : H b = some (.tup xs)) : H' b = some (.tup xs) := a b _ (.inr True.intro) e
theorem Fr.put {F : List Addr} {H : Hp} {p : Addr} {u o : HO} (hp : p ∈ F) (e : H p = some u) (n : ¬ Imm u) : Fr F H (upd H p o) := by
  intro b x h eb
  by_cases z : b = p
  · subst z
    rw [e] at eb
    obtain rfl := Option.some.inj eb
    rcases h with h | h
    · exact absurd hp h
    · exact absurd h n
  · rw [upd_ne z]
    exact eb
theorem Fr.putL {F : List Addr} {H : Hp} {p : Addr} {ys : List V} {o : HO} (hp : p ∈ F) (e : H p = some (.lst ys)) : Fr F H (L2.upd H p o) := Fr.put hp e id
theorem Fr.putI {F : List Addr} {H : Hp} {p C dx : Addr} {fs : List (Str × V)} {o : HO} (hp : p ∈ F) (e : H p = some (.ins C dx fs)) : Fr F H (L2.upd H p o) := Fr.put hp e id
theorem Fr.putD {F : List Addr} {H : Hp} {p : Addr} {ys : List (Key × V)} {o : HO} (hp : p ∈ F) (e : H p = some (.dK ys)) : Fr F H (L2.upd H p o) := Fr.put hp e id
theorem Fr.putT {F : List Addr} {H : Hp} {p : Addr} {ys : List (List Key × V)} {o : HO} (hp : p ∈ F) (e : H p = some (.dT ys)) : Fr F H (L2.upd H p o) := Fr.put hp e id
theorem Fr.new {F : List Addr} {H H1 : Hp} {p : Addr} {o : HO} (a : Fr F H H1) (e : H1 p = none) : Fr F H (L2.upd H1 p o) := a.trans (Fr.of F (Same.upd e))
theorem Fr.ofKp {F : List Addr} {H H' : Hp} (a : Kp F H H') (n : ∀ b ∈ F, ∀ o, H b = some o → ¬ Imm o) : Fr F H H' := by
  intro b o h e
  by_cases z : b ∈ F
  · rcases h with h | h
    · exact absurd z h
    · exact absurd h (n b z o e)
  · exact a b o z e
/-- what is none later was none before -/
theorem Fr.free {F : List Addr} {H H' : Hp} (a : Fr F H H') {b : Addr} (n : b ∉ F) (e : H' b = none) : H b = none := by
  cases h : H b with
  | none => rfl
  | some o => rw [a.at n h] at e; cases e
/-- the table of by_rule's code -/
def PT (K : PySem.W.Frag) : Addr := (He.cT K ("by_rule", none)).2
def TabsB (K : PySem.W.Frag) (H : Hp) : Prop := LamX.Tabs [(PT K, "by_rule.<locals>.<lambda>")] H
theorem TabsB.fr {K : PySem.W.Frag} {F : List Addr} {H H' : Hp} (h : TabsB K H) (a : Fr F H H') (n : PT K ∉ F) : TabsB K H' := by
  intro p hp
  obtain ⟨ps, h1, h2, h3⟩ := h p hp
  rw [List.mem_singleton.mp hp] at h1 h3 ⊢
  exact ⟨ps, a.at n h1, h2, fun pos cv hc => by
    obtain ⟨c, e1, e2⟩ := h3 pos cv hc
    exact ⟨c, e1, a c _ (.inr True.intro) e2⟩⟩
theorem TabsB.tbl {K : PySem.W.Frag} {H : Hp} (h : TabsB K H) : ∃ ps, H (PT K) = some (.tbl ps) := by
  obtain ⟨ps, h1, _⟩ := h _ (List.mem_singleton.mpr rfl)
  exact ⟨ps, h1⟩
def EntH (H : Hp) (e : Ent) : Prop := H e.la = some (.tup [.int e.own, .int e.first, .int (e.l.length : Nat), .int (wsum e.l)]) ∧ H e.pa = some (.tup [.int e.first, tx e.l])
theorem EntH.fr {F : List Addr} {H H' : Hp} {e : Ent} (h : EntH H e) (a : Fr F H H') : EntH H' e := ⟨a.tup h.1, a.tup h.2⟩
structure WayH (K : PySem.W.Frag) (H : Hp) (d : Rw) : Prop where
  o : ∃ dx, H d.wy = some (.ins (He.ga K "Way") dx (wayF d))
  ls : H d.la = some (.lst (d.ents.map fun e => .ref e.la))
  ps : H d.pa = some (.lst (d.ents.map fun e => .ref e.pa))
  ne : d.la ≠ d.pa
  en : ∀ e ∈ d.ents, EntH H e
theorem WayH.fr {K : PySem.W.Frag} {F : List Addr} {H H' : Hp} {d : Rw} (h : WayH K H d) (a : Fr F H H') (n : ∀ b ∈ F, b ≠ d.wy ∧ b ≠ d.la ∧ b ≠ d.pa) : WayH K H' d := by
  obtain ⟨dx, e⟩ := h.o
  exact ⟨⟨dx, a.at (fun z => (n _ z).1 rfl) e⟩, a.at (fun z => (n _ z).2.1 rfl) h.ls, a.at (fun z => (n _ z).2.2 rfl) h.ps, h.ne, fun x hx => (h.en x hx).fr a⟩
theorem WayH.same {K : PySem.W.Frag} {H H' : Hp} {d : Rw} (h : WayH K H d) (s : Same H H') : WayH K H' d := h.fr (Fr.of [] s) (by intro b hb; cases hb)
/-- what an attribute of the way becomes -/
theorem WayH.set {K : PySem.W.Frag} {H : Hp} {d d' : Rw} {dx : Addr} (h : WayH K H d) (e1 : d'.wy = d.wy) (e2 : d'.la = d.la) (e3 : d'.pa = d.pa) (e4 : d'.ents = d.ents) : WayH K (upd H d.wy (.ins (He.ga K "Way") dx (wayF d'))) d' := by
  obtain ⟨dx0, e⟩ := h.o
  have f : Fr [d.wy] H (upd H d.wy (.ins (He.ga K "Way") dx (wayF d'))) := Fr.putI (by simp) e
  refine ⟨⟨dx, by rw [e1]; exact upd_same⟩, ?_, ?_, by rw [e2, e3]; exact h.ne, ?_⟩
  · rw [e2, e4]
    rw [upd_ne (ne_of h.ls e (fun z => nomatch z))]
    exact h.ls
  · rw [e3, e4]
    rw [upd_ne (ne_of h.ps e (fun z => nomatch z))]
    exact h.ps
  · rw [e4]
    exact fun x hx => (h.en x hx).fr f
/-- a letter of signs -/
def LetH (H : Hp) (t : Addr) (d : Rw) (e : Ent) (bare : Bool) : Prop := ∃ u, H t = some (.tup [.str "signs", tx d.name, .int (d.base + e.own), tx e.l, .ref u]) ∧ H u = some (.tup (if bare = true then [] else [.ref e.la]))
section
variable {P : Program} {w : World} {K : PySem.W.Frag} {mg : Str → Option Value} {base : Heap}
def sp_Way_sure (K : PySem.W.Frag) : Sp := fun vs H Q _ => ∃ d : Rw, vs = [.ref d.wy] ∧ WayH K H d ∧ Q (.int d.sure) H
theorem sc_Way_sure : FnScope ["self"] ["self"] (defScope s_Way_sure) := ⟨rfl, rfl, rfl, by decide +kernel, rfl, by decide +kernel, by decide +kernel⟩
theorem ok_Way_sure (T : TX P w K mg base) : PR P w K mg base 1 (He.ma K (He.ga K "Way") "sure") ["self"] (sp_Way_sure K) := by
  refine T.prom d_Way_sure (List.mem_of_getElem? (i := 21) (by rfl)) ⟨rfl, rfl⟩ sc_Way_sure (fun vs H Q E h => ?_) (fun _ _ _ _ _ _ us hl => match us, hl with | [_], _ => rfl) (fun cdv A outer s H vs Q E hr h => ?_)
  · obtain ⟨_, rfl, _⟩ := h
    rfl
  · have hu := hu_of hr
    obtain ⟨d, rfl, ⟨⟨dx, ho⟩, hls, hps, hne, hen⟩, k⟩ := h
    refine ⟨_, (pss_one (ps_ret (pe_fld (pv 0) rfl))), ?_⟩
    exact ⟨_, rfl, _, _, _, _, _, rfl, ho, T.cl_Way, T.n_Way_own_sure, lkWay_own_sure (d), k⟩
def sp_Way_base (K : PySem.W.Frag) : Sp := fun vs H Q _ => ∃ d : Rw, vs = [.ref d.wy] ∧ WayH K H d ∧ Q (.int d.base) H
theorem sc_Way_base : FnScope ["self"] ["self"] (defScope s_Way_base) := ⟨rfl, rfl, rfl, by decide +kernel, rfl, by decide +kernel, by decide +kernel⟩
theorem ok_Way_base (T : TX P w K mg base) : PR P w K mg base 1 (He.ma K (He.ga K "Way") "base") ["self"] (sp_Way_base K) := by
  refine T.prom d_Way_base (List.mem_of_getElem? (i := 25) (by rfl)) ⟨rfl, rfl⟩ sc_Way_base (fun vs H Q E h => ?_) (fun _ _ _ _ _ _ us hl => match us, hl with | [_], _ => rfl) (fun cdv A outer s H vs Q E hr h => ?_)
  · obtain ⟨_, rfl, _⟩ := h
    rfl
  · have hu := hu_of hr
    obtain ⟨d, rfl, ⟨⟨dx, ho⟩, hls, hps, hne, hen⟩, k⟩ := h
    refine ⟨_, (pss_one (ps_ret (pe_fld (pv 0) rfl))), ?_⟩
    exact ⟨_, rfl, _, _, _, _, _, rfl, ho, T.cl_Way, T.n_Way_own_base, lkWay_own_base (d), k⟩
def sp_Way_unsure (K : PySem.W.Frag) : Sp := fun vs H Q _ => ∃ d : Rw, vs = [.ref d.wy] ∧ WayH K H d ∧ Q (.int (d.laid - d.sure)) H
theorem sc_Way_unsure : FnScope ["self"] ["self"] (defScope s_Way_unsure) := ⟨rfl, rfl, rfl, by decide +kernel, rfl, by decide +kernel, by decide +kernel⟩
theorem ok_Way_unsure (T : TX P w K mg base) : PR P w K mg base 1 (He.ma K (He.ga K "Way") "unsure") ["self"] (sp_Way_unsure K) := by
  refine T.prom d_Way_unsure (List.mem_of_getElem? (i := 22) (by rfl)) ⟨rfl, rfl⟩ sc_Way_unsure (fun vs H Q E h => ?_) (fun _ _ _ _ _ _ us hl => match us, hl with | [_], _ => rfl) (fun cdv A outer s H vs Q E hr h => ?_)
  · obtain ⟨_, rfl, _⟩ := h
    rfl
  · have hu := hu_of hr
    obtain ⟨d, rfl, ⟨⟨dx, ho⟩, hls, hps, hne, hen⟩, k⟩ := h
    refine ⟨_, (pss_one (ps_ret (pe_op op_sub (pe_fld (pv 0) rfl) (pe_fld (pv 0) rfl)))), ?_⟩
    exact ⟨_, rfl, _, _, _, _, _, rfl, ho, T.cl_Way, T.n_Way_own_laid, lkWay_own_laid (d), _, rfl, _, _, _, _, _, rfl, ho, T.cl_Way, T.n_Way_own_sure, lkWay_own_sure (d), _, _, rfl, rfl, k⟩
def sp_Way_is_still (K : PySem.W.Frag) : Sp := fun vs H Q _ => ∃ d : Rw, vs = [.ref d.wy] ∧ WayH K H d ∧ ∀ b : Bool, Q (.bl b) H
theorem sc_Way_is_still : FnScope ["self"] ["self"] (defScope s_Way_is_still) := ⟨rfl, rfl, rfl, by decide +kernel, rfl, by decide +kernel, by decide +kernel⟩
theorem ok_Way_is_still (T : TX P w K mg base) : PR P w K mg base 1 (He.ma K (He.ga K "Way") "is_still") ["self"] (sp_Way_is_still K) := by
  refine T.prom d_Way_is_still (List.mem_of_getElem? (i := 23) (by rfl)) ⟨rfl, rfl⟩ sc_Way_is_still (fun vs H Q E h => ?_) (fun _ _ _ _ _ _ us hl => match us, hl with | [_], _ => rfl) (fun cdv A outer s H vs Q E hr h => ?_)
  · obtain ⟨_, rfl, _⟩ := h
    rfl
  · have hu := hu_of hr
    obtain ⟨d, rfl, ⟨⟨dx, ho⟩, hls, hps, hne, hen⟩, k⟩ := h
    refine ⟨_, (pss_one (ps_ret (pe_cmpR op_ge (pe_fld (pv 0) rfl) (pe_gint rfl T.c_STALL) (nomark _)))), ?_⟩
    exact ⟨_, rfl, _, _, _, _, _, rfl, ho, T.cl_Way, T.n_Way_own_age, lkWay_own_age (d), _, _, rfl, rfl, k _⟩
def sp_Way_hear (K : PySem.W.Frag) : Sp := fun vs H Q _ => ∃ (d : Rw) (own : Int), vs = [.ref d.wy, .int own] ∧ WayH K H d ∧
  ∀ (s a : Int) H', WayH K H' { d with sure := s, age := a } → Fr [d.wy] H H' → (s = d.sure ∨ (s = own ∧ d.sure < own ∧ own ≤ d.laid)) → Q .non H'
theorem sc_Way_hear : FnScope ["self", "own"] ["self", "own"] (defScope s_Way_hear) := ⟨rfl, rfl, rfl, by decide +kernel, rfl, by decide +kernel, by decide +kernel⟩
theorem ok_Way_hear (T : TX P w K mg base) : PR P w K mg base 1 (He.ma K (He.ga K "Way") "hear") ["self", "own"] (sp_Way_hear K) := by
  refine T.prom d_Way_hear (List.mem_of_getElem? (i := 16) (by rfl)) ⟨rfl, rfl⟩ sc_Way_hear (fun vs H Q E h => ?_) (fun _ _ _ _ _ _ us hl => match us, hl with | [_, _], _ => rfl) (fun cdv A outer s H vs Q E hr h => ?_)
  · obtain ⟨_, _, rfl, _⟩ := h
    rfl
  · have hu := hu_of hr
    obtain ⟨d, own, rfl, hw, k⟩ := h
    refine ⟨_, (pss_one (ps_if (pt_chain op_lt op_le (pe_fld (pv 0) rfl) (pv 1) (pe_fld (pv 0) rfl))
        (pss_cons (ps_fld (pv 0) (pv 1) rfl)
        (pss_one (ps_fld (pv 0) pe_int rfl)))
        pss_nil)), ?_⟩
    obtain ⟨dx, ho⟩ := hw.o
    refine ⟨_, rfl, _, _, _, _, _, rfl, ho, T.cl_Way, T.n_Way_own_sure, lkWay_own_sure (d), _, rfl, _, _, rfl, rfl, ?_⟩
    have same : { d with sure := d.sure, age := d.age } = d := rfl
    refine ⟨_, rfl, ite2 (fun h1 => ⟨_, rfl, _, _, _, _, _, rfl, ho, T.cl_Way, T.n_Way_own_laid, lkWay_own_laid (d), _, _, rfl, rfl, _, rfl, ite2 (fun h2 => ?_) (fun _ => ?_)⟩) (fun _ => ?_)⟩
    · have hw1 : WayH K (upd H d.wy (.ins (He.ga K "Way") dx (wayF { d with sure := own }))) { d with sure := own } := hw.set rfl rfl rfl rfl
      refine ⟨_, rfl, _, rfl, _, _, _, _, rfl, ho, T.cl_Way, T.n_Way_own_sure, lenWay (d), ?_⟩
      rw [ptWay_own_sure]
      refine ⟨_, rfl, _, _, _, _, rfl, upd_same, T.cl_Way, T.n_Way_own_age, lenWay ({ d with sure := own }), ?_⟩
      rw [ptWay_own_age { d with sure := own }]
      exact k own 0 _ (hw1.set rfl rfl rfl rfl) ((Fr.putI (by simp) ho).trans (Fr.putI (by simp) upd_same)) (.inr ⟨rfl, of_decide_eq_true h1, of_decide_eq_true h2⟩)
    · exact k d.sure d.age H hw (Fr.refl _ _) (.inl rfl)
    · exact ⟨false, rfl, iteF (k d.sure d.age H hw (Fr.refl _ _) (.inl rfl))⟩
def sp_Way_tick (K : PySem.W.Frag) : Sp := fun vs H Q _ => ∃ d : Rw, vs = [.ref d.wy] ∧ WayH K H d ∧ ∀ (a : Int) H', WayH K H' { d with age := a } → Fr [d.wy] H H' → Q .non H'
theorem sc_Way_tick : FnScope ["self"] ["self"] (defScope s_Way_tick) := ⟨rfl, rfl, rfl, by decide +kernel, rfl, by decide +kernel, by decide +kernel⟩
theorem ok_Way_tick (T : TX P w K mg base) : PR P w K mg base 2 (He.ma K (He.ga K "Way") "tick") ["self"] (sp_Way_tick K) := by
  have G_Way_unsure := ok_Way_unsure T
  refine T.prom d_Way_tick (List.mem_of_getElem? (i := 17) (by rfl)) ⟨rfl, rfl⟩ sc_Way_tick (fun vs H Q E h => ?_) (fun _ _ _ _ _ _ us hl => match us, hl with | [_], _ => rfl) (fun cdv A outer s H vs Q E hr h => ?_)
  · obtain ⟨_, rfl, _⟩ := h
    rfl
  · have hu := hu_of hr
    obtain ⟨d, rfl, hw, k⟩ := h
    refine ⟨_, (pss_one (ps_fld (pv 0) (pe_ifExp (pt_cmpR op_eq (pe_methP0 (pv 0) T.cl_Way T.m_Way_unsure G_Way_unsure (hr.mono (by decide))) pe_int (nomark _)) pe_int (pe_op op_add (pe_fld (pv 0) rfl) pe_int)) rfl)), ?_⟩
    obtain ⟨dx, ho⟩ := hw.o
    have fin : ∀ a : Int, Q .non (upd H d.wy (.ins (He.ga K "Way") dx (wayF { d with age := a }))) := fun a => k a _ (hw.set rfl rfl rfl rfl) (Fr.putI (by simp) ho)
    refine ⟨_, rfl, _, _, _, rfl, ho, noWay_unsure (d), d, rfl, hw, rfl, _, rfl, ?_⟩
    refine ite2 (fun _ => ⟨_, rfl, _, _, _, _, rfl, ho, T.cl_Way, T.n_Way_own_age, lenWay (d), ?_⟩) (fun _ => ⟨_, rfl, _, _, _, _, _, rfl, ho, T.cl_Way, T.n_Way_own_age, lkWay_own_age (d), _, _, rfl, rfl, _, rfl, _, _, _, _, rfl, ho, T.cl_Way, T.n_Way_own_age, lenWay (d), ?_⟩)
    · rw [ptWay_own_age]
      exact fin _
    · rw [ptWay_own_age]
      exact fin _
def sp_Way_init (K : PySem.W.Frag) : Sp := fun vs H Q _ => ∃ (p dx : Addr) (name : List Nat) (base : Int), vs = [.ref p, tx name, .int base] ∧ H p = some (.ins (He.ga K "Way") dx []) ∧ Lets name ∧ (1 ≤ name.length ∧ name.length ≤ 8) ∧ (0 ≤ base ∧ base ≤ 9999) ∧
  ∀ (la pa : Addr) H', WayH K H' ⟨name, p, p, la, pa, base, [], [], 0, 0, "", false, false⟩ → Fr [p] H H' → H la = none → H pa = none → Q .non H'
theorem sc_Way_init : FnScope ["self", "road", "base"] ["self", "road", "base"] (defScope s_Way_init) := ⟨rfl, rfl, rfl, by decide +kernel, rfl, by decide +kernel, by decide +kernel⟩
theorem ok_Way_init (T : TX P w K mg base) : PR P w K mg base 3 (He.ma K (He.ga K "Way") "__init__") ["self", "road", "base"] (sp_Way_init K) := by
  have G_is_whole := ok_is_whole T
  have G_is_word := ok_is_word T
  refine T.prom d_Way_init (List.mem_of_getElem? (i := 13) (by rfl)) ⟨rfl, rfl⟩ sc_Way_init (fun vs H Q E h => ?_) (fun _ _ _ _ _ _ us hl => match us, hl with | [_, _, _], _ => rfl) (fun cdv A outer s H vs Q E hr h => ?_)
  · obtain ⟨_, _, _, _, rfl, _⟩ := h
    rfl
  · have hu := hu_of hr
    obtain ⟨p, dx, name, b, rfl, hp, hL, hl, hb, k⟩ := h
    refine ⟨_, (pss_cons (ps_if (pt_not (pt_val (pe_callP G_is_word (hr.mono (by decide)) rfl T.g_is_word (pa_cons (pv 1) pa_nil))))
        pss_never
        pss_nil)
      (pss_cons (ps_if (PW.pt (pw_or (pt_not (pt_val (pe_callP G_is_whole (hr.mono (by decide)) rfl T.g_is_whole (pa_cons (pv 2) pa_nil)))) (pw_or1 (pt_not (pt_chain op_le op_le pe_int (pv 2) (pe_gint rfl T.c_MOST_BASE))))))
        pss_never
        pss_nil)
      (pss_cons (ps_fld (pv 0) (pv 1) rfl)
      (pss_cons (ps_fld (pv 0) (pv 2) rfl)
      (pss_cons (ps_fld (pv 0) (pe_lst pa_nil) rfl)
      (pss_cons (ps_fld (pv 0) (pe_lst pa_nil) rfl)
      (pss_cons (ps_fld (pv 0) pe_int rfl)
      (pss_cons (ps_fld (pv 0) pe_int rfl)
      (pss_one (ps_fld (pv 0) pe_int rfl)))))))))), ?_⟩
    refine ⟨_, rfl, name, rfl, hL, hl, fun H1 s1 => ⟨_, rfl, iteF ?_⟩⟩
    refine ⟨_, rfl, b, rfl, _, rfl, iteF ?_⟩
    refine ⟨_, rfl, _, _, rfl, rfl, _, rfl, ?_⟩
    rw [decide_eq_true hb.1]
    refine iteT ⟨_, _, rfl, rfl, _, rfl, ?_⟩
    rw [decide_eq_true hb.2]
    refine iteF ?_
    have hp1 := s1 _ _ hp
    refine ⟨_, rfl, _, rfl, _, _, _, _, rfl, hp1, T.cl_Way, T.n_Way_own_road, (by decide), ?_⟩
    refine ⟨_, rfl, _, rfl, _, _, _, _, rfl, upd_same, T.cl_Way, T.n_Way_own_base, (by show 1 < 1000; decide), ?_⟩
    refine ⟨line5 (by decide), fun la hla => ⟨_, rfl, _, _, _, _, rfl, (by rw [upd_ne (ne_of_none upd_same hla)]; exact upd_same), T.cl_Way, T.n_Way_own_lays, (by show 2 < 1000; decide), ?_⟩⟩
    refine ⟨line5 (by decide), fun pa hpa => ⟨_, rfl, _, _, _, _, rfl, (by rw [upd_ne (ne_of_none upd_same hpa)]; exact upd_same), T.cl_Way, T.n_Way_own_pieces, (by show 3 < 1000; decide), ?_⟩⟩
    refine ⟨_, rfl, _, _, _, _, rfl, upd_same, T.cl_Way, T.n_Way_own_laid, (by show 4 < 1000; decide), ?_⟩
    refine ⟨_, rfl, _, _, _, _, rfl, upd_same, T.cl_Way, T.n_Way_own_sure, (by show 5 < 1000; decide), ?_⟩
    refine ⟨_, rfl, _, _, _, _, rfl, upd_same, T.cl_Way, T.n_Way_own_age, (by show 6 < 1000; decide), ?_⟩
    have hlp : la ≠ p := fun z => by rw [z, upd_same] at hla; cases hla
    have hpp : pa ≠ p := fun z => by rw [z, upd_same] at hpa; cases hpa
    have hpl : pa ≠ la := fun z => by rw [z, upd_ne hlp, upd_same] at hpa; cases hpa
    have hla0 : H la = none := s1.free (by rw [upd_ne hlp, upd_ne hlp] at hla; exact hla)
    have hpa0 : H pa = none := s1.free (by rw [upd_ne hpp, upd_ne hpl, upd_ne hpp, upd_ne hpp] at hpa; exact hpa)
    refine k la pa _ ⟨⟨dx, ?_⟩, ?_, ?_, hpl.symm, by intro e he; cases he⟩ ?_ hla0 hpa0
    · rw [upd_same]
      kernel_rfl
    · simp [upd, hlp, hpl.symm]
    · simp [upd, hpp, hpl]
    · intro c o h e
      by_cases z : c = p
      · subst z
        rw [hp] at e
        obtain rfl := Option.some.inj e
        rcases h with h | h
        · exact absurd (by simp) h
        · exact h.elim
      · have c1 : c ≠ la := ne_of_none e hla0
        have c2 : c ≠ pa := ne_of_none e hpa0
        simp [upd, z, c1, c2, s1 c o e]
end

/-! ### Way: lay, letter, pieces, first_letter; Road -/
def layD (d : Rw) (t q : Addr) (f : Nat) (l : List Nat) : Rw := { d with txt := d.txt ++ l, ents := d.ents ++ [⟨t, q, d.txt.length, f, l⟩] }
structure Pn where
  a : Addr
  i : Nat
  e : Ent
theorem getI {α : Type} {xs : List α} {i : Nat} {v : α} (h : xs[i]? = some v) : i < xs.length := by
  cases Nat.lt_or_ge i xs.length with
  | inl z => exact z
  | inr z => rw [List.getElem?_eq_none z] at h; cases h
section
variable {P : Program} {w : World} {K : PySem.W.Frag} {mg : Str → Option Value} {base : Heap}
def sp_Way_lay (K : PySem.W.Frag) : Sp := fun vs H Q _ => ∃ (d : Rw) (q : Addr) (f : Nat) (l : List Nat), vs = [.ref d.wy, .ref q] ∧ WayH K H d ∧ H q = some (.tup [.int f, tx l]) ∧ Lets l ∧ l.length ≤ 1000 ∧ d.ents.length ≤ 10000 ∧
  ∀ (t : Addr) H', WayH K H' (layD d t q f l) → Fr [d.wy, d.la, d.pa] H H' → H t = none → Q (.ref t) H'
theorem sc_Way_lay : FnScope ["self", "piece", "found", "first", "signs"] ["self", "piece"] (defScope s_Way_lay) := ⟨rfl, rfl, rfl, by decide +kernel, rfl, by decide +kernel, by decide +kernel⟩
theorem ok_Way_lay (T : TX P w K mg base) : PR P w K mg base 2 (He.ma K (He.ga K "Way") "lay") ["self", "piece"] (sp_Way_lay K) := by
  have G_sum_of := ok_sum_of T
  refine T.prom d_Way_lay (List.mem_of_getElem? (i := 14) (by rfl)) ⟨rfl, rfl⟩ sc_Way_lay (fun vs H Q E h => ?_) (fun _ _ _ _ _ _ us hl => match us, hl with | [_, _], _ => rfl) (fun cdv A outer s H vs Q E hr h => ?_)
  · obtain ⟨_, _, _, _, rfl, _⟩ := h
    rfl
  · have hu := hu_of hr
    obtain ⟨d, q, f, l, rfl, hw, hq, hL, hl, hn, k⟩ := h
    refine ⟨_, (pss_cons (ps_asg (pv 1) (pg_tup rfl (pgs_cons (pg_name (i := 3) sc_Way_lay.nd rfl (by first | exact Or.inl rfl | exact Or.inr rfl)) (pgs_cons (pg_name (i := 4) sc_Way_lay.nd rfl (by first | exact Or.inl rfl | exact Or.inr rfl)) pgs_nil))))
      (pss_cons (ps_set (i := 2) sc_Way_lay.nd rfl (by first | exact Or.inl rfl | exact Or.inr rfl) (pe_tup (pa_cons (pe_fld (pv 0) rfl) (pa_cons (pv 3) (pa_cons (pe_callB call_len (by rfl) T.f_len (by decide +kernel) (pa_cons (pv 4) pa_nil)) (pa_cons (pe_callP G_sum_of (hr.mono (by decide)) rfl T.g_sum_of (pa_cons (pv 4) pa_nil)) pa_nil))))))
      (pss_cons (ps_expr (pe_bm PySem.F.plainAttrs_list PySem.F.slot_list_append PySem.F.type_list_append mt_append (pe_fld (pv 0) rfl) (pa_cons (pv 2) pa_nil)))
      (pss_cons (ps_expr (pe_bm PySem.F.plainAttrs_list PySem.F.slot_list_append PySem.F.type_list_append mt_append (pe_fld (pv 0) rfl) (pa_cons (pv 1) pa_nil)))
      (pss_cons (ps_fldaug (pv 0) (pe_callB call_len (by rfl) T.f_len (by decide +kernel) (pa_cons (pv 4) pa_nil)) in_add)
      (pss_one (ps_ret (pv 2)))))))), ?_⟩
    obtain ⟨dx, ho⟩ := hw.o
    refine ⟨_, rfl, q, _, rfl, SqT.of hq, rfl, _, _, rfl, _, _, rfl, rfl, ?_⟩
    refine ⟨_, rfl, _, _, _, _, _, rfl, ho, T.cl_Way, T.n_Way_own_laid, lkWay_own_laid (d), _, rfl, _, rfl, _, _, rfl, ⟨line5 (by rw [S_len]; omega), rfl⟩, _, rfl, l, rfl, hL, by omega, fun H1 s1 => ⟨line5 (by show 4 ≤ _; decide), fun t ht => ?_⟩⟩
    have ho1 := s1 _ _ ho
    have hls1 := s1 _ _ hw.ls
    have hps1 := s1 _ _ hw.ps
    have lw : d.la ≠ d.wy := ne_of hls1 ho1 (fun z => nomatch z)
    have pw : d.pa ≠ d.wy := ne_of hps1 ho1 (fun z => nomatch z)
    have tw : t ≠ d.wy := (ne_of_none ho1 ht).symm
    have tl : t ≠ d.la := (ne_of_none hls1 ht).symm
    have tp : t ≠ d.pa := (ne_of_none hps1 ht).symm
    rw [S_len]
    have ho2 : (upd H1 t (.tup [.int d.laid, .int f, .int (l.length : Nat), .int (wsum l)])) d.wy = some (.ins (He.ga K "Way") dx (wayF d)) := by rw [upd_ne tw.symm]; exact ho1
    refine ⟨_, rfl, _, _, _, _, _, rfl, ho2, T.cl_Way, T.n_Way_own_lays, lkWay_own_lays (d), .inl ⟨rfl, _, SqL.of (by rw [upd_ne tl.symm]; exact hls1)⟩, _, rfl, d.la, _, _, rfl, rfl, (by rw [upd_ne tl.symm]; exact hls1), (by rw [List.length_map]; exact line5' (by omega)), ?_⟩
    have ho3 : (upd (upd H1 t (.tup [.int d.laid, .int f, .int (l.length : Nat), .int (wsum l)])) d.la (.lst (d.ents.map (fun e => .ref e.la) ++ [.ref t]))) d.wy = some (.ins (He.ga K "Way") dx (wayF d)) := by rw [upd_ne lw.symm]; exact ho2
    have hps3 : (upd (upd H1 t (.tup [.int d.laid, .int f, .int (l.length : Nat), .int (wsum l)])) d.la (.lst (d.ents.map (fun e => .ref e.la) ++ [.ref t]))) d.pa = some (.lst (d.ents.map fun e => .ref e.pa)) := by rw [upd_ne hw.ne.symm, upd_ne tp.symm]; exact hps1
    refine ⟨_, rfl, _, _, _, _, _, rfl, ho3, T.cl_Way, T.n_Way_own_pieces, lkWay_own_pieces (d), .inl ⟨rfl, _, SqL.of hps3⟩, _, rfl, d.pa, _, _, rfl, rfl, hps3, (by rw [List.length_map]; exact line5' (by omega)), ?_⟩
    have ho4 : (upd (upd (upd H1 t (.tup [.int d.laid, .int f, .int (l.length : Nat), .int (wsum l)])) d.la (.lst (d.ents.map (fun e => .ref e.la) ++ [.ref t]))) d.pa (.lst (d.ents.map (fun e => .ref e.pa) ++ [.ref q]))) d.wy = some (.ins (He.ga K "Way") dx (wayF d)) := by rw [upd_ne pw.symm]; exact ho3
    refine ⟨_, rfl, _, _, _, _, _, rfl, ho4, T.cl_Way, T.n_Way_own_laid, lkWay_own_laid (d), _, rfl, _, _, rfl, ⟨line5 (by rw [S_len]; omega), rfl⟩, _, _, rfl, rfl, dx, _, ho4, lenWay d, ?_⟩
    rw [S_len, show (d.laid + ((l.length : Nat) : Int)) = (((d.txt ++ l).length : Nat) : Int) by rw [List.length_append]; unfold Rw.laid; omega, ptWay_laid]
    refine ⟨_, rfl, k t _ ?_ ?_ (s1.free ht)⟩
    · have hq1 := s1 _ _ hq
      have f1 : Fr [d.wy, d.la, d.pa] H1 (upd (upd (upd (upd H1 t (.tup [.int d.laid, .int f, .int (l.length : Nat), .int (wsum l)])) d.la (.lst (d.ents.map (fun e => .ref e.la) ++ [.ref t]))) d.pa (.lst (d.ents.map (fun e => .ref e.pa) ++ [.ref q]))) d.wy (.ins (He.ga K "Way") dx (wayF { d with txt := d.txt ++ l }))) :=
        ((((Fr.of _ (Same.upd ht))).trans (Fr.putL (ys := d.ents.map fun e => .ref e.la) (by simp) (by rw [upd_ne tl.symm]; exact hls1))).trans (Fr.putL (by simp) hps3)).trans (Fr.putI (by simp) ho4)
      refine ⟨⟨dx, upd_same⟩, ?_, ?_, hw.ne, fun e he => ?_⟩
      · rw [show (layD d t q f l).la = d.la from rfl, upd_ne lw, upd_ne hw.ne, upd_same]
        simp [layD]
      · rw [show (layD d t q f l).pa = d.pa from rfl, upd_ne pw, upd_same]
        simp [layD]
      · rcases List.mem_append.mp (show e ∈ d.ents ++ [_] from he) with he | he
        · exact ((hw.en e he).fr (Fr.of [d.wy, d.la, d.pa] s1)).fr f1
        · rw [List.mem_singleton.mp he]
          refine ⟨?_, f1.tup hq1⟩
          show _ = some (HO.tup [.int ((d.txt.length : Nat) : Int), .int f, .int (l.length : Nat), .int (wsum l)])
          rw [upd_ne tw, upd_ne tp, upd_ne tl, upd_same]
          rfl
    · exact ((((Fr.of _ (s1.trans (Same.upd ht)))).trans (Fr.putL (ys := d.ents.map fun e => .ref e.la) (by simp) (by rw [upd_ne tl.symm]; exact hls1))).trans (Fr.putL (by simp) hps3)).trans (Fr.putI (by simp) ho4)
def sp_Way_letter (K : PySem.W.Frag) : Sp := fun vs H Q _ => ∃ (d : Rw) (i : Nat) (bare : Bool) (e : Ent), vs = [.ref d.wy, .int i, .bl bare] ∧ WayH K H d ∧ d.ents[i]? = some e ∧
  ∀ (t : Addr) H', Same H H' → H t = none → LetH H' t d e bare → Q (.ref t) H'
theorem sc_Way_letter : FnScope ["self", "number", "bare", "lay", "signs"] ["self", "number", "bare"] (defScope s_Way_letter) := ⟨rfl, rfl, rfl, by decide +kernel, rfl, by decide +kernel, by decide +kernel⟩
theorem ok_Way_letter (T : TX P w K mg base) : PRk P w K mg base 2 (He.ma K (He.ga K "Way") "letter") ["self", "number", "bare"] (sp_Way_letter K) 2 ["bare"] (fun vs zs => vs ++ zs) := by
  have G_is_whole := ok_is_whole T
  refine T.promK (n := 2) (ks := ["bare"]) d_Way_letter (List.mem_of_getElem? (i := 15) (by rfl)) rfl (List.cons_ne_nil _ _) sc_Way_letter (fun vs H Q E h => ?_) (fun _ _ _ _ _ _ us ws h1 h2 => match us, ws, h1, h2 with | [_, _], [_], _, _ => rfl) (fun cdv A outer s H vs Q E hr h => ?_)
  · obtain ⟨_, _, _, _, rfl, _⟩ := h
    rfl
  · have hu := hu_of hr
    obtain ⟨d, i, bare, e, rfl, hw, he, k⟩ := h
    refine ⟨_, (pss_cons (ps_if (PW.pt (pw_or (pt_not (pt_val (pe_callP G_is_whole (hr.mono (by decide)) rfl T.g_is_whole (pa_cons (pv 1) pa_nil)))) (pw_or1 (pt_not (pt_chain op_le op_lt pe_int (pv 1) (pe_callB call_len (by rfl) T.f_len (by decide +kernel) (pa_cons (pe_fld (pv 0) rfl) pa_nil)))))))
        pss_never
        pss_nil)
      (pss_cons (ps_set (i := 3) sc_Way_letter.nd rfl (by first | exact Or.inl rfl | exact Or.inr rfl) (pe_ix ix_list (pe_fld (pv 0) rfl) (pv 1) (fun _ _ => rfl)))
      (pss_cons (ps_set (i := 4) sc_Way_letter.nd rfl (by first | exact Or.inl rfl | exact Or.inr rfl) (pe_ix ix_tup (pe_ix ix_list (pe_fld (pv 0) rfl) (pv 1) (fun _ _ => rfl)) pe_int (fun _ _ => rfl)))
      (pss_one (ps_ret (pe_tup (pa_cons pe_str (pa_cons (pe_fld (pv 0) rfl) (pa_cons (pe_op op_add (pe_fld (pv 0) rfl) (pe_ix ix_tup (pv 3) pe_int (fun _ _ => rfl))) (pa_cons (pv 4) (pa_cons (pe_ifExp (pt_val (pv 2)) (pe_tup pa_nil) (pe_tup (pa_cons (pv 3) pa_nil))) pa_nil))))))))))), ?_⟩
    obtain ⟨dx, ho⟩ := hw.o
    have hi := getI he
    have hem := hw.en e (List.mem_of_getElem? he)
    refine ⟨_, rfl, (i : Int), rfl, _, rfl, iteF ?_⟩
    refine ⟨_, rfl, _, _, rfl, rfl, _, rfl, ?_⟩
    rw [decide_eq_true (show (0 : Int) ≤ (i : Int) by omega)]
    refine iteT ⟨_, rfl, _, _, _, _, _, rfl, ho, T.cl_Way, T.n_Way_own_lays, lkWay_own_lays (d), _, _, rfl, .inl ⟨_, SqL.of hw.ls, rfl⟩, _, _, rfl, rfl, _, rfl, ?_⟩
    rw [List.length_map, decide_eq_true (show (i : Int) < ((d.ents.length : Nat) : Int) by omega)]
    refine iteF ?_
    have a1 : atI (d.ents.map fun e => V.ref e.la) (i : Int) = some (.ref e.la) := atI_nat (by rw [List.getElem?_map, he]; rfl)
    have a2 : atI (d.ents.map fun e => V.ref e.pa) (i : Int) = some (.ref e.pa) := atI_nat (by rw [List.getElem?_map, he]; rfl)
    refine ⟨_, rfl, _, _, _, _, _, rfl, ho, T.cl_Way, T.n_Way_own_lays, lkWay_own_lays (d), _, rfl, d.la, _, i, _, rfl, rfl, SqL.of hw.ls, a1, ?_⟩
    refine ⟨_, rfl, _, _, _, _, _, rfl, ho, T.cl_Way, T.n_Way_own_pieces, lkWay_own_pieces (d), _, rfl, d.pa, _, i, _, rfl, rfl, SqL.of hw.ps, a2, e.pa, _, 1, tx e.l, rfl, rfl, SqT.of hem.2, rfl, ?_⟩
    refine ⟨_, rfl, _, _, _, _, _, rfl, ho, T.cl_Way, T.n_Way_own_road, lkWay_own_road (d), _, rfl, _, _, _, _, _, rfl, ho, T.cl_Way, T.n_Way_own_base, lkWay_own_base (d), _, rfl, e.la, _, 0, .int e.own, rfl, rfl, SqT.of hem.1, rfl, _, _, rfl, rfl, _, rfl, _, rfl, bare, rfl, ?_⟩
    have fin : ∀ (xs : List V) (u : Addr), xs = (if bare = true then [] else [.ref e.la]) → H u = none → ∀ t, (upd H u (.tup xs)) t = none → Q (.ref t) (upd (upd H u (.tup xs)) t (.tup [.str "signs", tx d.name, .int (d.base + e.own), tx e.l, .ref u])) := by
      intro xs u ex hu t ht
      refine k t _ ((Same.upd hu).trans (Same.upd ht)) ((Same.upd hu).free ht) ⟨u, upd_same, ?_⟩
      rw [upd_ne (ne_of_none upd_same ht), upd_same, ex]
    cases bare with
    | true => exact iteT ⟨line5 (by decide), fun u hu => ⟨line5 (by show 5 ≤ _; decide), fun t ht => fin [] u rfl hu t ht⟩⟩
    | false => exact iteF ⟨_, rfl, line5 (by show 1 ≤ _; decide), fun u hu => ⟨line5 (by show 5 ≤ _; decide), fun t ht => fin [.ref e.la] u rfl hu t ht⟩⟩
def sp_Way_pieces (K : PySem.W.Frag) : Sp := fun vs H Q _ => ∃ d : Rw, vs = [.ref d.wy] ∧ WayH K H d ∧ d.ents.length ≤ 10000 ∧
  ∀ (r : Addr) (ts : List Pn) H', Same H H' → H r = none → H' r = some (.lst (ts.map fun t => .ref t.a)) → (∀ t ∈ ts, H' t.a = some (.tup [.int t.i, .ref t.e.pa]) ∧ d.ents[t.i]? = some t.e) → ts.length ≤ d.ents.length → Q (.ref r) H'
theorem sc_Way_pieces : FnScope ["self", "found", "number", "own", "first", "many", "weight"] ["self"] (defScope s_Way_pieces) := ⟨rfl, rfl, rfl, by decide +kernel, rfl, by decide +kernel, by decide +kernel⟩
theorem ok_Way_pieces (T : TX P w K mg base) : PR P w K mg base 1 (He.ma K (He.ga K "Way") "pieces") ["self"] (sp_Way_pieces K) := by
  refine T.prom d_Way_pieces (List.mem_of_getElem? (i := 18) (by rfl)) ⟨rfl, rfl⟩ sc_Way_pieces (fun vs H Q E h => ?_) (fun _ _ _ _ _ _ us hl => match us, hl with | [_], _ => rfl) (fun cdv A outer s H vs Q E hr h => ?_)
  · obtain ⟨_, rfl, _⟩ := h
    rfl
  · have hu := hu_of hr
    obtain ⟨d, rfl, hw, hn, k⟩ := h
    refine ⟨_, (pss_cons (ps_set (i := 1) sc_Way_pieces.nd rfl (by first | exact Or.inl rfl | exact Or.inr rfl) (pe_lst pa_nil))
      (pss_cons (ps_for PassesOwn.never rfl (pi_enum (by rfl) T.f_enumerate (pa_cons (pe_fld (pv 0) rfl) pa_nil)) (pg_tup rfl (pgs_cons (pg_name (i := 2) sc_Way_pieces.nd rfl (by first | exact Or.inl rfl | exact Or.inr rfl)) (pgs_cons (pg_tup rfl (pgs_cons (pg_name (i := 3) sc_Way_pieces.nd rfl (by first | exact Or.inl rfl | exact Or.inr rfl)) (pgs_cons (pg_name (i := 4) sc_Way_pieces.nd rfl (by first | exact Or.inl rfl | exact Or.inr rfl)) (pgs_cons (pg_name (i := 5) sc_Way_pieces.nd rfl (by first | exact Or.inl rfl | exact Or.inr rfl)) (pgs_cons (pg_name (i := 6) sc_Way_pieces.nd rfl (by first | exact Or.inl rfl | exact Or.inr rfl)) pgs_nil))))) pgs_nil)))
        (pss_one (ps_if (pt_cmpR op_gt (pe_op op_add (pv 3) (pv 5)) (pe_fld (pv 0) rfl) (nomark _))
          (pss_one (ps_expr (pe_bm PySem.F.plainAttrs_list PySem.F.slot_list_append PySem.F.type_list_append mt_append (pv 1) (pa_cons (pe_tup (pa_cons (pv 2) (pa_cons (pe_ix ix_list (pe_fld (pv 0) rfl) (pv 2) (fun _ _ => rfl)) pa_nil))) pa_nil))))
          pss_nil)))
      (pss_one (ps_ret (pv 1))))), ?_⟩
    obtain ⟨dx, ho⟩ := hw.o
    refine ⟨line5 (by decide), fun r hr0 => ?_⟩
    have s0 : Same H (upd H r (.lst [])) := Same.upd hr0
    refine ⟨_, rfl, _, _, _, _, _, rfl, s0 _ _ ho, T.cl_Way, T.n_Way_own_lays, lkWay_own_lays (d), d.la, _, rfl, SqL.of (s0 _ _ hw.ls), for_by (n := d.ents.length) (fun i σ H2 => ∃ x2 x3 x4 x5 x6 ts, σ = [some (.ref d.wy), some (.ref r), x2, x3, x4, x5, x6] ∧ Same H H2 ∧ H2 r = some (.lst (ts.map fun t : Pn => .ref t.a)) ∧ (∀ t ∈ ts, H2 t.a = some (.tup [.int t.i, .ref t.e.pa]) ∧ d.ents[t.i]? = some t.e) ∧ ts.length ≤ i) (fun i σ H2 h hi => ?_) (fun σ H2 h => ?_) ⟨none, none, none, none, none, [], rfl, s0, upd_same, (by intro t ht; cases ht), Nat.le_refl _⟩ ?_ ?_⟩
    · obtain ⟨_, _, _, _, _, _, _, s, _⟩ := h
      exact ⟨_, _, SqL.of (s _ _ hw.ls), List.getElem?_eq_getElem (by rw [List.length_map]; exact hi)⟩
    · obtain ⟨_, _, _, _, _, _, _, s, _⟩ := h
      exact ⟨_, SqL.of (s _ _ hw.ls), by rw [List.length_map]; exact Nat.le_refl _⟩
    · rintro i x σ H1 H2 hi ⟨x2, x3, x4, x5, x6, ts, rfl, s1, hr1, hts, hlen⟩ ⟨q, y, rfl, hq, rfl, hy⟩
      have ey := hy _ (SqL.of (s1 _ _ hw.ls))
      rw [List.getElem?_map, List.getElem?_eq_getElem hi] at ey
      obtain rfl := Option.some.inj ey
      have hem := hw.en _ (List.getElem_mem hi)
      have s2 : Same H (upd H1 q (.tup [.int (i : Nat), .ref (d.ents[i]).la])) := s1.trans (Same.upd hq)
      refine ⟨q, _, rfl, SqT.of upd_same, rfl, _, _, rfl, _, _, rfl, (d.ents[i]).la, _, rfl, SqT.of (s2 _ _ hem.1), rfl, _, _, rfl, _, _, rfl, _, _, rfl, _, _, rfl, rfl, rfl, ?_⟩
      refine ⟨_, rfl, _, rfl, _, _, rfl, rfl, _, rfl, _, _, _, _, _, rfl, s2 _ _ ho, T.cl_Way, T.n_Way_own_sure, lkWay_own_sure (d), _, _, rfl, rfl, _, rfl, ?_⟩
      have hr2 : (upd H1 q (.tup [.int (i : Nat), .ref (d.ents[i]).la])) r = some (.lst (ts.map fun t : Pn => .ref t.a)) := by rw [upd_ne (ne_of_none hr1 hq)]; exact hr1
      have keepT : ∀ t ∈ ts, (upd H1 q (.tup [.int (i : Nat), .ref (d.ents[i]).la])) t.a = some (.tup [.int t.i, .ref t.e.pa]) ∧ d.ents[t.i]? = some t.e := fun t ht => ⟨Same.upd hq _ _ (hts t ht).1, (hts t ht).2⟩
      refine ite2 (fun _ => ?_) (fun _ => ⟨_, _, _, _, _, ts, rfl, s2, hr2, keepT, by omega⟩)
      have a2 : atI (d.ents.map fun e => V.ref e.pa) (i : Int) = some (.ref (d.ents[i]).pa) := atI_nat (by rw [List.getElem?_map, List.getElem?_eq_getElem hi]; rfl)
      refine ⟨_, rfl, .inl ⟨rfl, _, SqL.of hr2⟩, _, rfl, _, rfl, _, _, _, _, _, rfl, s2 _ _ ho, T.cl_Way, T.n_Way_own_pieces, lkWay_own_pieces (d), _, rfl, d.pa, _, i, _, rfl, rfl, SqL.of (s2 _ _ hw.ps), a2, line5 (by show 2 ≤ _; decide), fun z hz => ?_⟩
      have hr3 : (upd (upd H1 q (.tup [.int (i : Nat), .ref (d.ents[i]).la])) z (.tup [.int (i : Nat), .ref (d.ents[i]).pa])) r = some (.lst (ts.map fun t : Pn => .ref t.a)) := by rw [upd_ne (ne_of_none hr2 hz)]; exact hr2
      refine ⟨r, _, _, rfl, rfl, hr3, (by rw [List.length_map]; exact line5' (by omega)), ?_⟩
      refine ⟨_, _, _, _, _, ts ++ [⟨z, i, d.ents[i]⟩], rfl, Same.updN (s2.trans (Same.upd hz)) hr0, (by rw [upd_same, List.map_append]; rfl), fun t ht => ?_, (by rw [List.length_append]; simp only [List.length_singleton]; omega)⟩
      rcases List.mem_append.mp ht with ht | ht
      · obtain ⟨g1, g2⟩ := keepT t ht
        have g3 := Same.upd (o := .tup [.int (i : Nat), .ref (d.ents[i]).pa]) hz _ _ g1
        exact ⟨by rw [upd_ne (ne_of g3 hr3 (fun z => nomatch z))]; exact g3, g2⟩
      · rw [List.mem_singleton.mp ht]
        exact ⟨by rw [upd_ne (ne_of upd_same hr3 (fun z => nomatch z)), upd_same], List.getElem?_eq_getElem hi⟩
    · rintro σ H2 ⟨x2, x3, x4, x5, x6, ts, rfl, s1, hr1, hts, hlen⟩
      exact ⟨_, rfl, k r ts H2 s1 hr0 hr1 hts hlen⟩
def sp_Way_first_letter (K : PySem.W.Frag) : Sp := fun vs H Q _ => ∃ (d : Rw) (bare : Bool), vs = [.ref d.wy, .bl bare] ∧ WayH K H d ∧ d.ents.length ≤ 10000 ∧ (∀ H', Same H H' → Q .non H') ∧
  ∀ (t : Addr) (e : Ent) H', Same H H' → H t = none → e ∈ d.ents → LetH H' t d e bare → Q (.ref t) H'
theorem sc_Way_first_letter : FnScope ["self", "bare", "number", "piece"] ["self", "bare"] (defScope s_Way_first_letter) := ⟨rfl, rfl, rfl, by decide +kernel, rfl, by decide +kernel, by decide +kernel⟩
theorem ok_Way_first_letter (T : TX P w K mg base) : PRk P w K mg base 3 (He.ma K (He.ga K "Way") "first_letter") ["self", "bare"] (sp_Way_first_letter K) 1 ["bare"] (fun vs zs => vs ++ zs) := by
  have G_Way_letter := ok_Way_letter T
  have G_Way_pieces := ok_Way_pieces T
  refine T.promK (n := 1) (ks := ["bare"]) d_Way_first_letter (List.mem_of_getElem? (i := 19) (by rfl)) rfl (List.cons_ne_nil _ _) sc_Way_first_letter (fun vs H Q E h => ?_) (fun _ _ _ _ _ _ us ws h1 h2 => match us, ws, h1, h2 with | [_], [_], _, _ => rfl) (fun cdv A outer s H vs Q E hr h => ?_)
  · obtain ⟨_, _, rfl, _⟩ := h
    rfl
  · have hu := hu_of hr
    obtain ⟨d, bare, rfl, hw, hn, k0, k1⟩ := h
    refine ⟨_, (pss_cons (ps_for PassesOwn.never rfl (pi_list (pe_methP0 (pv 0) T.cl_Way T.m_Way_pieces G_Way_pieces (hr.mono (by decide)))) (pg_tup rfl (pgs_cons (pg_name (i := 2) sc_Way_first_letter.nd rfl (by first | exact Or.inl rfl | exact Or.inr rfl)) (pgs_cons (pg_name (i := 3) sc_Way_first_letter.nd rfl (by first | exact Or.inl rfl | exact Or.inr rfl)) pgs_nil)))
        (pss_one (ps_ret (pe_methKP (pv 0) T.cl_Way T.m_Way_letter G_Way_letter (hr.mono (by decide)) (pa_cons (pv 2) pa_nil) (pk_cons (pv 1) pk_nil)))))
      (pss_one (ps_ret pe_non))), ?_⟩
    obtain ⟨dx, ho⟩ := hw.o
    refine ⟨_, rfl, _, _, _, rfl, ho, noWay_pieces (d), d, rfl, hw, hn, fun r ts H1 s1 hr hr1 hts hlen => ⟨r, rfl, ⟨_, SqL.of hr1⟩, for_by (n := ts.length) (fun i σ H2 => i = 0 ∧ H2 = H1 ∧ σ = [some (.ref d.wy), some (.bl bare), none, none]) (fun i σ H2 h hi => ?_) (fun σ H2 h => ?_) ⟨rfl, rfl, rfl⟩ ?_ ?_⟩⟩
    · obtain ⟨_, rfl, _⟩ := h
      exact ⟨_, _, SqL.of hr1, List.getElem?_eq_getElem (by rw [List.length_map]; exact hi)⟩
    · obtain ⟨_, rfl, _⟩ := h
      exact ⟨_, SqL.of hr1, by rw [List.length_map]; exact Nat.le_refl _⟩
    · rintro i x σ H2 H3 hi ⟨rfl, rfl, rfl⟩ ⟨rfl, hx⟩
      have ex := hx _ (SqL.of hr1)
      rw [List.getElem?_map, List.getElem?_eq_getElem hi] at ex
      obtain rfl := Option.some.inj ex
      obtain ⟨g1, g2⟩ := hts _ (List.getElem_mem hi)
      refine ⟨(ts[0]).a, _, rfl, SqT.of g1, rfl, _, _, rfl, _, _, rfl, rfl, ?_⟩
      refine ⟨_, rfl, _, _, _, rfl, s1 _ _ ho, noWay_letter d, _, rfl, _, rfl, rfl, rfl, d, (ts[0]).i, bare, (ts[0]).e, rfl, hw.same s1, g2, fun t H4 s4 ht hL => ?_⟩
      exact k1 t _ H4 (s1.trans s4) (s1.free ht) (List.mem_of_getElem? g2) hL
    · rintro σ H2 ⟨_, rfl, rfl⟩
      exact k0 _ s1
def sp_Road_init (K : PySem.W.Frag) : Sp := fun vs H Q _ => ∃ (p dx wy : Addr), vs = [.ref p, .ref wy] ∧ H p = some (.ins (He.ga K "Road") dx []) ∧
  ∀ H', H' p = some (.ins (He.ga K "Road") dx [("own_way", .ref wy), ("own_state", .str "asked"), ("own_spare", .bl false), ("was_put", .bl false)]) → Fr [p] H H' → Q .non H'
theorem sc_Road_init : FnScope ["self", "way"] ["self", "way"] (defScope s_Road_init) := ⟨rfl, rfl, rfl, by decide +kernel, rfl, by decide +kernel, by decide +kernel⟩
theorem ok_Road_init (T : TX P w K mg base) : PR P w K mg base 1 (He.ma K (He.ga K "Road") "__init__") ["self", "way"] (sp_Road_init K) := by
  refine T.prom d_Road_init (List.mem_of_getElem? (i := 26) (by rfl)) ⟨rfl, rfl⟩ sc_Road_init (fun vs H Q E h => ?_) (fun _ _ _ _ _ _ us hl => match us, hl with | [_, _], _ => rfl) (fun cdv A outer s H vs Q E hr h => ?_)
  · obtain ⟨_, _, _, rfl, _⟩ := h
    rfl
  · have hu := hu_of hr
    obtain ⟨p, dx, wy, rfl, hp, k⟩ := h
    refine ⟨_, (pss_cons (ps_fld (pv 0) (pv 1) rfl)
      (pss_cons (ps_fld (pv 0) pe_str rfl)
      (pss_cons (ps_fld (pv 0) pe_bl rfl)
      (pss_one (ps_fld (pv 0) pe_bl rfl))))), ?_⟩
    refine ⟨_, rfl, _, rfl, _, _, _, _, rfl, hp, T.cl_Road, T.n_Road_own_way, (by decide), ?_⟩
    refine ⟨_, rfl, _, _, _, _, rfl, upd_same, T.cl_Road, T.n_Road_own_state, (by show 1 < 1000; decide), ?_⟩
    refine ⟨_, rfl, _, _, _, _, rfl, upd_same, T.cl_Road, T.n_Road_own_spare, (by show 2 < 1000; decide), ?_⟩
    refine ⟨_, rfl, _, _, _, _, rfl, upd_same, T.cl_Road, T.n_Road_was_put, (by show 3 < 1000; decide), ?_⟩
    rw [upd_upd, upd_upd, upd_upd]
    refine k _ (by rw [upd_same]; kernel_rfl) (Fr.putI (by simp) hp)
end

/-! ### a writer on the heap -/
def rdK (rs : List Rw) : List (Key × V) := rs.map fun d => (.inr (S d.name), .ref d.r)
theorem rdK_keys (rs : List Rw) : (rdK rs).map (·.1) = (rs.map fun d => S d.name).map Sum.inr := by
  unfold rdK
  rw [List.map_map, List.map_map]
  rfl
theorem rdK_some {rs : List Rw} (nd : (rs.map (·.name)).Nodup) {d : Rw} (h : d ∈ rs) : valV (rdK rs) (.inr (S d.name)) = some (.ref d.r) := by
  have nk : ((rdK rs).map (·.1)).Nodup := by
    have e : (rdK rs).map (·.1) = (rs.map (·.name)).map fun n => (Sum.inr (S n) : Key) := by
      unfold rdK
      rw [List.map_map, List.map_map]
      rfl
    rw [e]
    exact List.Pairwise.map _ (fun a b hab z => hab (S_inj (Sum.inr.inj z))) nd
  exact val_nodup nk (.inr (S d.name), .ref d.r) (List.mem_map.mpr ⟨d, h, rfl⟩)
theorem rdK_get {rs : List Rw} {n : List Nat} {v : V} (h : valV (rdK rs) (.inr (S n)) = some v) : ∃ d ∈ rs, d.name = n := by
  have h1 := valV_in h
  rw [rdK_keys] at h1
  obtain ⟨z, hz, ez⟩ := List.mem_map.mp h1
  obtain ⟨d, hd, rfl⟩ := List.mem_map.mp hz
  exact ⟨d, hd, S_inj (Sum.inr.inj ez)⟩
theorem rdK_none {rs : List Rw} {n : List Nat} (h : ∀ d ∈ rs, d.name ≠ n) : valV (rdK rs) (.inr (S n)) = none := by
  cases e : valV (rdK rs) (.inr (S n)) with
  | none => rfl
  | some v =>
    obtain ⟨d, hd, en⟩ := rdK_get e
    exact absurd en (h d hd)
theorem rdK_mid {a b : List Rw} {d d' : Rw} (h1 : d'.name = d.name) (h2 : d'.r = d.r) : rdK (a ++ d' :: b) = rdK (a ++ d :: b) := by
  unfold rdK
  rw [List.map_append, List.map_append, List.map_cons, List.map_cons, h1, h2]
def rf (d : Rw) : List Addr := [d.r, d.wy, d.la, d.pa]
def foot (x : Wr) : List Addr := x.p :: x.dr :: x.roads.flatMap rf
structure RdH (K : PySem.W.Frag) (H : Hp) (d : Rw) : Prop where
  w : WayH K H d
  r : ∃ dx, H d.r = some (.ins (He.ga K "Road") dx (roadF d))
theorem RdH.fr {K : PySem.W.Frag} {F : List Addr} {H H' : Hp} {d : Rw} (h : RdH K H d) (a : Fr F H H') (n : ∀ c ∈ F, c ∉ rf d) : RdH K H' d := by
  obtain ⟨dx, e⟩ := h.r
  exact ⟨h.w.fr a fun c hc => ⟨fun z => n c hc (by simp [rf, z]), fun z => n c hc (by simp [rf, z]), fun z => n c hc (by simp [rf, z])⟩, ⟨dx, a.at (fun z => n _ z (by simp [rf])) e⟩⟩
structure WrR (K : PySem.W.Frag) (H : Hp) (x : Wr) : Prop where
  o : ∃ dx, H x.p = some (.ins (He.ga K "Writer") dx (wrF x))
  la : H x.la = some (.lst (x.anew.map pv_))
  an : ∀ e ∈ x.anew, PcAt x.W H e
  rd : ∀ d ∈ x.roads, RdH K H d
  nd : (x.la :: foot x).Nodup
structure WrH (K : PySem.W.Frag) (H : Hp) (x : Wr) : Prop extends WrR K H x where
  dr : H x.dr = some (.dK (rdK x.roads))
theorem PcAt.fr {W : List Nat} {F : List Addr} {H H' : Hp} {e : Pc} (h : PcAt W H e) (a : Fr F H H') : PcAt W H' e := ⟨a.tup h.1, h.2⟩
theorem nd_split {x : Wr} {a b : List Rw} {d : Rw} (nd : (x.la :: foot x).Nodup) (h : x.roads = a ++ d :: b) : (∀ c ∈ rf d, c ≠ x.la ∧ c ≠ x.p ∧ c ≠ x.dr) ∧ (∀ d2, d2 ∈ a ∨ d2 ∈ b → ∀ c ∈ rf d, c ∉ rf d2) ∧ (rf d).Nodup := by
  unfold foot at nd
  rw [h, List.flatMap_append, List.flatMap_cons] at nd
  obtain ⟨n1, nd⟩ := List.nodup_cons.mp nd
  obtain ⟨n2, nd⟩ := List.nodup_cons.mp nd
  obtain ⟨n3, nd⟩ := List.nodup_cons.mp nd
  obtain ⟨_, nd2, na⟩ := List.nodup_append.mp nd
  obtain ⟨nd3, _, nb⟩ := List.nodup_append.mp nd2
  refine ⟨fun c hc => ⟨fun z => n1 ?_, fun z => n2 ?_, fun z => n3 ?_⟩, fun d2 hd c hc hc2 => ?_, nd3⟩
  · simp [← z, hc]
  · simp [← z, hc]
  · simp [← z, hc]
  · rcases hd with hd | hd
    · exact na c (List.mem_flatMap.mpr ⟨d2, hd, hc2⟩) c (by simp [hc]) rfl
    · exact nb c hc c (List.mem_flatMap.mpr ⟨d2, hd, hc2⟩) rfl
theorem nd_base {x : Wr} (nd : (x.la :: foot x).Nodup) : x.la ≠ x.p ∧ x.la ≠ x.dr ∧ x.p ≠ x.dr ∧ ∀ d ∈ x.roads, ∀ c ∈ rf d, c ≠ x.la ∧ c ≠ x.p ∧ c ≠ x.dr := by
  unfold foot at nd
  obtain ⟨n1, nd⟩ := List.nodup_cons.mp nd
  obtain ⟨n2, nd⟩ := List.nodup_cons.mp nd
  obtain ⟨n3, nd⟩ := List.nodup_cons.mp nd
  refine ⟨fun z => n1 (by simp [z]), fun z => n1 (by simp [z]), fun z => n2 (by simp [z]), fun d hd c hc => ⟨fun z => n1 ?_, fun z => n2 ?_, fun z => n3 ?_⟩⟩
  · rw [← z]; exact List.mem_cons_of_mem _ (List.mem_cons_of_mem _ (List.mem_flatMap.mpr ⟨d, hd, hc⟩))
  · rw [← z]; exact List.mem_cons_of_mem _ (List.mem_flatMap.mpr ⟨d, hd, hc⟩)
  · rw [← z]; exact List.mem_flatMap.mpr ⟨d, hd, hc⟩
/-- where nothing of the writer is written -/
theorem WrR.fr {K : PySem.W.Frag} {F : List Addr} {H H' : Hp} {x : Wr} (h : WrR K H x) (a : Fr F H H') (n : ∀ c ∈ F, c ∉ x.la :: foot x) : WrR K H' x := by
  obtain ⟨dx, e⟩ := h.o
  refine ⟨⟨dx, a.at (fun z => n _ z (by simp [foot])) e⟩, a.at (fun z => n _ z (by simp)) h.la, fun p hp => (h.an p hp).fr a, fun d hd => (h.rd d hd).fr a fun c hc hr => n c hc ?_, h.nd⟩
  unfold foot
  exact List.mem_cons_of_mem _ (List.mem_cons_of_mem _ (List.mem_cons_of_mem _ (List.mem_flatMap.mpr ⟨d, hd, hr⟩)))
theorem WrH.fr {K : PySem.W.Frag} {F : List Addr} {H H' : Hp} {x : Wr} (h : WrH K H x) (a : Fr F H H') (n : ∀ c ∈ F, c ∉ x.la :: foot x) : WrH K H' x := ⟨h.toWrR.fr a n, a.at (fun z => n _ z (by simp [foot])) h.dr⟩
theorem WrR.same {K : PySem.W.Frag} {H H' : Hp} {x : Wr} (h : WrR K H x) (s : Same H H') : WrR K H' x := h.fr (Fr.of [] s) (by intro b hb; cases hb)
theorem WrH.same {K : PySem.W.Frag} {H H' : Hp} {x : Wr} (h : WrH K H x) (s : Same H H') : WrH K H' x := h.fr (Fr.of [] s) (by intro b hb; cases hb)
/-- one road's records are written -/
theorem WrR.road {K : PySem.W.Frag} {F : List Addr} {H H' : Hp} {x : Wr} {a b : List Rw} {d d' : Rw} (h : WrR K H x) (hx : x.roads = a ++ d :: b) (f : Fr F H H') (hF : ∀ c ∈ F, c ∈ rf d) (hd : RdH K H' d') (h3 : rf d' = rf d) : WrR K H' { x with roads := a ++ d' :: b } := by
  obtain ⟨s1, s2, _⟩ := nd_split h.nd hx
  obtain ⟨dx, e⟩ := h.o
  refine ⟨⟨dx, f.at (fun z => (s1 _ (hF _ z)).2.1 rfl) e⟩, f.at (fun z => (s1 _ (hF _ z)).1 rfl) h.la, fun p hp => (h.an p hp).fr f, fun d2 hd2 => ?_, ?_⟩
  · rcases List.mem_append.mp hd2 with h2 | h2
    · exact (h.rd d2 (by rw [hx]; simp [h2])).fr f fun c hc hr => s2 d2 (.inl h2) c (hF c hc) hr
    · rcases List.mem_cons.mp h2 with rfl | h2
      · exact hd
      · exact (h.rd d2 (by rw [hx]; simp [h2])).fr f fun c hc hr => s2 d2 (.inr h2) c (hF c hc) hr
  · have e1 : (a ++ d' :: b).flatMap rf = x.roads.flatMap rf := by rw [hx, List.flatMap_append, List.flatMap_append, List.flatMap_cons, List.flatMap_cons, h3]
    have nd := h.nd
    unfold foot at nd ⊢
    show (x.la :: x.p :: x.dr :: (a ++ d' :: b).flatMap rf).Nodup
    rw [e1]
    exact nd
theorem WrH.road {K : PySem.W.Frag} {F : List Addr} {H H' : Hp} {x : Wr} {a b : List Rw} {d d' : Rw} (h : WrH K H x) (hx : x.roads = a ++ d :: b) (f : Fr F H H') (hF : ∀ c ∈ F, c ∈ rf d) (hd : RdH K H' d') (h3 : rf d' = rf d) (h4 : d'.name = d.name) : WrH K H' { x with roads := a ++ d' :: b } := by
  obtain ⟨s1, _, _⟩ := nd_split h.nd hx
  refine ⟨h.toWrR.road hx f hF hd h3, ?_⟩
  show H' x.dr = some (.dK (rdK (a ++ d' :: b)))
  rw [rdK_mid h4 (List.cons.inj h3).1, ← hx]
  exact f.at (fun z => (s1 _ (hF _ z)).2.2 rfl) h.dr
/-- an attribute of a Road is written -/
theorem RdH.set {K : PySem.W.Frag} {H : Hp} {d d' : Rw} {dx : Addr} (h : RdH K H d) (nd : (rf d).Nodup) (hr : d'.r = d.r) (hw : ∀ H, WayH K H d → WayH K H d') : RdH K (upd H d.r (.ins (He.ga K "Road") dx (roadF d'))) d' := by
  obtain ⟨dx0, e⟩ := h.r
  obtain ⟨dy, ew⟩ := h.w.o
  have f : Fr [d.r] H (upd H d.r (.ins (He.ga K "Road") dx (roadF d'))) := Fr.putI (by simp) e
  refine ⟨?_, ⟨dx, by rw [hr]; exact upd_same⟩⟩
  exact hw _ (h.w.fr f fun c hc => by
    rw [List.mem_singleton.mp hc]
    exact ⟨fun z => (List.nodup_cons.mp nd).1 (by simp [z]), ne_of e h.w.ls (fun z => nomatch z), ne_of e h.w.ps (fun z => nomatch z)⟩)
/-- the writer's own record is written -/
theorem WrR.self {K : PySem.W.Frag} {H H' : Hp} {x x' : Wr} (h : WrR K H x) (f : Fr [x.p] H H') (o : ∃ dx, H' x.p = some (.ins (He.ga K "Writer") dx (wrF x'))) (e1 : x'.p = x.p) (e2 : x'.dr = x.dr) (e3 : x'.roads = x.roads)
    (hl : H' x'.la = some (.lst (x'.anew.map pv_))) (ha : ∀ e ∈ x'.anew, PcAt x'.W H' e) (hn : x'.la ∉ foot x) : WrR K H' x' := by
  have nb := nd_base h.nd
  have ef : foot x' = foot x := by unfold foot; rw [e1, e2, e3]
  refine ⟨by rw [e1]; exact o, hl, ha, fun d hd => ?_, ?_⟩
  · rw [e3] at hd
    exact (h.rd d hd).fr f fun c hc hr => (nb.2.2.2 d hd c hr).2.1 (List.mem_singleton.mp hc)
  · rw [ef]
    exact List.nodup_cons.mpr ⟨hn, (List.nodup_cons.mp h.nd).2⟩
theorem WrH.self {K : PySem.W.Frag} {H H' : Hp} {x x' : Wr} (h : WrH K H x) (f : Fr [x.p] H H') (o : ∃ dx, H' x.p = some (.ins (He.ga K "Writer") dx (wrF x'))) (e1 : x'.p = x.p) (e2 : x'.dr = x.dr) (e3 : x'.roads = x.roads)
    (hl : H' x'.la = some (.lst (x'.anew.map pv_))) (ha : ∀ e ∈ x'.anew, PcAt x'.W H' e) (hn : x'.la ∉ foot x) : WrH K H' x' := by
  have nb := nd_base h.nd
  refine ⟨h.toWrR.self f o e1 e2 e3 hl ha hn, ?_⟩
  rw [e2, e3]
  exact f.at (fun z => nb.2.2.1 (List.mem_singleton.mp z).symm) h.dr
/-- the same, the pieces anew as they were -/
theorem WrH.self0 {K : PySem.W.Frag} {H : Hp} {x x' : Wr} {dx : Addr} (h : WrH K H x) (e1 : x'.p = x.p) (e2 : x'.dr = x.dr) (e3 : x'.roads = x.roads) (e4 : x'.la = x.la) (e5 : x'.anew = x.anew) (e6 : x'.W = x.W) : WrH K (upd H x.p (.ins (He.ga K "Writer") dx (wrF x'))) x' := by
  obtain ⟨dx0, o⟩ := h.o
  have nb := nd_base h.nd
  have f : Fr [x.p] H (upd H x.p (.ins (He.ga K "Writer") dx (wrF x'))) := Fr.putI (by simp) o
  refine h.self f ⟨dx, upd_same⟩ e1 e2 e3 ?_ ?_ (by rw [e4]; exact (List.nodup_cons.mp h.nd).1)
  · rw [e4, e5, upd_ne nb.1]
    exact h.la
  · rw [e5, e6]
    exact fun e he => (h.an e he).fr f
/-- sizes and what a writer's values are -/
structure WrB (x : Wr) : Prop where
  W : x.W.length ≤ 50000
  lets : Lets x.W
  ents : ∀ d ∈ x.roads, d.ents.length ≤ 10000
  name : ∀ d ∈ x.roads, Lets d.name ∧ 1 ≤ d.name.length ∧ d.name.length ≤ 8
  nd : (x.roads.map (·.name)).Nodup
  anew : x.anew.length ≤ 50000
  few : x.roads.length < 64
  sub : ∀ d ∈ x.roads, ∀ e ∈ d.ents, Sub x.W e.first e.l
theorem in_addStr {X : Cx} : InOp X .Add (fun x y H Q => ∃ i j, x = .str i ∧ y = .str j ∧ i.length + j.length ≤ sizeLine ∧ Q (.str (i ++ j)) H) := fun pins s σ H x y u v Q I rx ry h => iop_add_str pins s σ H x y u v Q I rx ry h

/-! ### Writer: small methods -/
section
variable {P : Program} {w : World} {K : PySem.W.Frag} {mg : Str → Option Value} {base : Heap}
def sp_Writer_written (K : PySem.W.Frag) : Sp := fun vs H Q _ => ∃ x : Wr, vs = [.ref x.p] ∧ WrH K H x ∧ Q (tx x.W) H
theorem sc_Writer_written : FnScope ["self"] ["self"] (defScope s_Writer_written) := ⟨rfl, rfl, rfl, by decide +kernel, rfl, by decide +kernel, by decide +kernel⟩
theorem ok_Writer_written (T : TX P w K mg base) : PR P w K mg base 1 (He.ma K (He.ga K "Writer") "written") ["self"] (sp_Writer_written K) := by
  refine T.prom d_Writer_written (List.mem_of_getElem? (i := 49) (by rfl)) ⟨rfl, rfl⟩ sc_Writer_written (fun vs H Q E h => ?_) (fun _ _ _ _ _ _ us hl => match us, hl with | [_], _ => rfl) (fun cdv A outer s H vs Q E hr h => ?_)
  · obtain ⟨_, rfl, _⟩ := h
    rfl
  · have hu := hu_of hr
    obtain ⟨x, rfl, hx, k⟩ := h
    refine ⟨_, (pss_one (ps_ret (pe_fld (pv 0) rfl))), ?_⟩
    obtain ⟨dx, ho⟩ := hx.o
    exact ⟨_, rfl, _, _, _, _, _, rfl, ho, T.cl_Writer, T.n_Writer_own_signs, lkWriter_own_signs (x), k⟩
def sp_Writer_known (K : PySem.W.Frag) : Sp := fun vs H Q _ => ∃ x : Wr, vs = [.ref x.p] ∧ WrH K H x ∧ Q (.int x.known) H
theorem sc_Writer_known : FnScope ["self"] ["self"] (defScope s_Writer_known) := ⟨rfl, rfl, rfl, by decide +kernel, rfl, by decide +kernel, by decide +kernel⟩
theorem ok_Writer_known (T : TX P w K mg base) : PR P w K mg base 1 (He.ma K (He.ga K "Writer") "known") ["self"] (sp_Writer_known K) := by
  refine T.prom d_Writer_known (List.mem_of_getElem? (i := 51) (by rfl)) ⟨rfl, rfl⟩ sc_Writer_known (fun vs H Q E h => ?_) (fun _ _ _ _ _ _ us hl => match us, hl with | [_], _ => rfl) (fun cdv A outer s H vs Q E hr h => ?_)
  · obtain ⟨_, rfl, _⟩ := h
    rfl
  · have hu := hu_of hr
    obtain ⟨x, rfl, hx, k⟩ := h
    refine ⟨_, (pss_one (ps_ret (pe_fld (pv 0) rfl))), ?_⟩
    obtain ⟨dx, ho⟩ := hx.o
    exact ⟨_, rfl, _, _, _, _, _, rfl, ho, T.cl_Writer, T.n_Writer_own_known, lkWriter_own_known (x), k⟩
def sp_Writer_limit (K : PySem.W.Frag) : Sp := fun vs H Q _ => ∃ x : Wr, vs = [.ref x.p] ∧ WrH K H x ∧ Q (.int x.limit) H
theorem sc_Writer_limit : FnScope ["self"] ["self"] (defScope s_Writer_limit) := ⟨rfl, rfl, rfl, by decide +kernel, rfl, by decide +kernel, by decide +kernel⟩
theorem ok_Writer_limit (T : TX P w K mg base) : PR P w K mg base 1 (He.ma K (He.ga K "Writer") "limit") ["self"] (sp_Writer_limit K) := by
  refine T.prom d_Writer_limit (List.mem_of_getElem? (i := 52) (by rfl)) ⟨rfl, rfl⟩ sc_Writer_limit (fun vs H Q E h => ?_) (fun _ _ _ _ _ _ us hl => match us, hl with | [_], _ => rfl) (fun cdv A outer s H vs Q E hr h => ?_)
  · obtain ⟨_, rfl, _⟩ := h
    rfl
  · have hu := hu_of hr
    obtain ⟨x, rfl, hx, k⟩ := h
    refine ⟨_, (pss_one (ps_ret (pe_fld (pv 0) rfl))), ?_⟩
    obtain ⟨dx, ho⟩ := hx.o
    exact ⟨_, rfl, _, _, _, _, _, rfl, ho, T.cl_Writer, T.n_Writer_own_limit, lkWriter_own_limit (x), k⟩
def sp_Writer_mode (K : PySem.W.Frag) : Sp := fun vs H Q _ => ∃ x : Wr, vs = [.ref x.p] ∧ WrH K H x ∧ Q (.str x.mode) H
theorem sc_Writer_mode : FnScope ["self"] ["self"] (defScope s_Writer_mode) := ⟨rfl, rfl, rfl, by decide +kernel, rfl, by decide +kernel, by decide +kernel⟩
theorem ok_Writer_mode (T : TX P w K mg base) : PR P w K mg base 1 (He.ma K (He.ga K "Writer") "mode") ["self"] (sp_Writer_mode K) := by
  refine T.prom d_Writer_mode (List.mem_of_getElem? (i := 53) (by rfl)) ⟨rfl, rfl⟩ sc_Writer_mode (fun vs H Q E h => ?_) (fun _ _ _ _ _ _ us hl => match us, hl with | [_], _ => rfl) (fun cdv A outer s H vs Q E hr h => ?_)
  · obtain ⟨_, rfl, _⟩ := h
    rfl
  · have hu := hu_of hr
    obtain ⟨x, rfl, hx, k⟩ := h
    refine ⟨_, (pss_one (ps_ret (pe_fld (pv 0) rfl))), ?_⟩
    obtain ⟨dx, ho⟩ := hx.o
    exact ⟨_, rfl, _, _, _, _, _, rfl, ho, T.cl_Writer, T.n_Writer_own_mode, lkWriter_own_mode (x), k⟩
def sp_Writer_kept (K : PySem.W.Frag) : Sp := fun vs H Q _ => ∃ x : Wr, vs = [.ref x.p] ∧ WrH K H x ∧ WrB x ∧ Q (.str (cutS (S x.W) (some x.known) none)) H
theorem sc_Writer_kept : FnScope ["self"] ["self"] (defScope s_Writer_kept) := ⟨rfl, rfl, rfl, by decide +kernel, rfl, by decide +kernel, by decide +kernel⟩
theorem ok_Writer_kept (T : TX P w K mg base) : PR P w K mg base 1 (He.ma K (He.ga K "Writer") "kept") ["self"] (sp_Writer_kept K) := by
  refine T.prom d_Writer_kept (List.mem_of_getElem? (i := 50) (by rfl)) ⟨rfl, rfl⟩ sc_Writer_kept (fun vs H Q E h => ?_) (fun _ _ _ _ _ _ us hl => match us, hl with | [_], _ => rfl) (fun cdv A outer s H vs Q E hr h => ?_)
  · obtain ⟨_, rfl, _⟩ := h
    rfl
  · have hu := hu_of hr
    obtain ⟨x, rfl, hx, hb, k⟩ := h
    refine ⟨_, (pss_one (ps_ret (pe_slice sl_str (pe_fld (pv 0) rfl) (po_some (pe_fld (pv 0) rfl)) po_none))), ?_⟩
    obtain ⟨dx, ho⟩ := hx.o
    refine ⟨_, rfl, _, _, _, _, _, rfl, ho, T.cl_Writer, T.n_Writer_own_signs, lkWriter_own_signs (x), _, rfl, _, _, _, _, _, rfl, ho, T.cl_Writer, T.n_Writer_own_known, lkWriter_own_known (x), _, rfl, _, rfl, line5 (by rw [S_len]; have := hb.W; omega), ?_⟩
    exact k
def sp_Writer_write (K : PySem.W.Frag) : Sp := fun vs H Q _ => ∃ (x : Wr) (l : List Nat), vs = [.ref x.p, tx l] ∧ WrH K H x ∧ WrB x ∧ Lets l ∧ l.length ≤ 1000 ∧
  ∀ H', WrH K H' { x with W := x.W ++ l } → Fr [x.p] H H' → Q .non H'
theorem sc_Writer_write : FnScope ["self", "signs"] ["self", "signs"] (defScope s_Writer_write) := ⟨rfl, rfl, rfl, by decide +kernel, rfl, by decide +kernel, by decide +kernel⟩
theorem ok_Writer_write (T : TX P w K mg base) : PR P w K mg base 2 (He.ma K (He.ga K "Writer") "write") ["self", "signs"] (sp_Writer_write K) := by
  have G_is_signs := ok_is_signs T
  refine T.prom d_Writer_write (List.mem_of_getElem? (i := 28) (by rfl)) ⟨rfl, rfl⟩ sc_Writer_write (fun vs H Q E h => ?_) (fun _ _ _ _ _ _ us hl => match us, hl with | [_, _], _ => rfl) (fun cdv A outer s H vs Q E hr h => ?_)
  · obtain ⟨_, _, rfl, _⟩ := h
    rfl
  · have hu := hu_of hr
    obtain ⟨x, l, rfl, hx, hb, hL, hl, k⟩ := h
    refine ⟨_, (pss_cons (ps_if (pt_not (pt_val (pe_callP G_is_signs (hr.mono (by decide)) rfl T.g_is_signs (pa_cons (pv 1) pa_nil))))
        pss_never
        pss_nil)
      (pss_cons (ps_if (pt_val (pe_fld (pv 0) rfl))
        pss_never
        pss_nil)
      (pss_one (ps_fldaug (pv 0) (pv 1) in_addStr)))), ?_⟩
    obtain ⟨dx, ho⟩ := hx.o
    refine ⟨_, rfl, l, rfl, hL, by omega, fun H1 s1 => ⟨_, rfl, iteF ?_⟩⟩
    have ho1 := s1 _ _ ho
    refine ⟨_, rfl, _, _, _, _, _, rfl, ho1, T.cl_Writer, T.n_Writer_was_ended, lkWriter_was_ended (x), _, rfl, iteF ?_⟩
    refine ⟨_, rfl, _, _, _, _, _, rfl, ho1, T.cl_Writer, T.n_Writer_own_signs, lkWriter_own_signs (x), _, rfl, _, _, rfl, rfl, (by rw [S_len, S_len]; have := hb.W; exact line5 (by omega)), dx, _, ho1, lenWriter x, ?_⟩
    rw [S_app, ptWriter_own_signs]
    have nb := nd_base hx.nd
    have f : Fr [x.p] H (upd H1 x.p (.ins (He.ga K "Writer") dx (wrF { x with W := x.W ++ l }))) := (Fr.of _ s1).trans (Fr.putI (by simp) ho1)
    exact k _ (hx.self f ⟨dx, upd_same⟩ rfl rfl rfl (f.at (fun z => nb.1 (List.mem_singleton.mp z)) hx.la) (fun e he => ⟨f.tup (hx.an e he).1, (hx.an e he).2.app l⟩) (List.nodup_cons.mp hx.nd).1) f
def sp_Writer_road_at (K : PySem.W.Frag) : Sp := fun vs H Q _ => ∃ (x : Wr) (d : Rw), vs = [.ref x.p, tx d.name] ∧ WrH K H x ∧ WrB x ∧ d ∈ x.roads ∧ d.st ≠ "gone" ∧ Q (.ref d.r) H
theorem sc_Writer_road_at : FnScope ["self", "road"] ["self", "road"] (defScope s_Writer_road_at) := ⟨rfl, rfl, rfl, by decide +kernel, rfl, by decide +kernel, by decide +kernel⟩
theorem ok_Writer_road_at (T : TX P w K mg base) : PR P w K mg base 1 (He.ma K (He.ga K "Writer") "road_at") ["self", "road"] (sp_Writer_road_at K) := by
  refine T.prom d_Writer_road_at (List.mem_of_getElem? (i := 31) (by rfl)) ⟨rfl, rfl⟩ sc_Writer_road_at (fun vs H Q E h => ?_) (fun _ _ _ _ _ _ us hl => match us, hl with | [_, _], _ => rfl) (fun cdv A outer s H vs Q E hr h => ?_)
  · obtain ⟨_, _, rfl, _⟩ := h
    rfl
  · have hu := hu_of hr
    obtain ⟨x, d, rfl, hx, hb, hd, hg, k⟩ := h
    refine ⟨_, (pss_cons (ps_if (PW.pt (pw_or (pt_not (pt_val (pe_callB call_isB (by rfl) T.f_isinstance (by decide +kernel) (pa_cons (pv 1) (pa_cons (pe_bty (n := "str") rfl T.f_str (by decide +kernel)) pa_nil))))) (pw_or (pt_cmp (pc_dnotin hu (pv 1) (pe_fld (pv 0) rfl))) (pw_or1 (pt_cmpR op_eq (pe_fld (pe_dget hu (pe_fld (pv 0) rfl) (pv 1) (fun _ _ => rfl)) rfl) pe_str (nomark _))))))
        pss_never
        pss_nil)
      (pss_one (ps_ret (pe_dget hu (pe_fld (pv 0) rfl) (pv 1) (fun _ _ => rfl))))), ?_⟩
    obtain ⟨dx, ho⟩ := hx.o
    obtain ⟨dy, hr2⟩ := (hx.rd d hd).r
    have hv := rdK_some hb.nd hd
    have dg : DGet H x.dr (tx d.name) (some (.ref d.r)) := .inl ⟨_, .inr (S d.name), .inl hx.dr, rfl, hv.symm⟩
    refine ⟨_, rfl, _, _, _, true, rfl, .base (.str _), (by decide +kernel), _, rfl, iteF ?_⟩
    refine ⟨_, rfl, _, rfl, _, _, _, _, _, rfl, ho, T.cl_Writer, T.n_Writer_own_roads, lkWriter_own_roads (x), x.dr, _, rfl, dg, _, rfl, iteF ?_⟩
    refine ⟨_, rfl, _, _, _, _, _, rfl, ho, T.cl_Writer, T.n_Writer_own_roads, lkWriter_own_roads (x), _, rfl, x.dr, _, rfl, dg, _, _, _, _, _, rfl, hr2, T.cl_Road, T.n_Road_own_state, lkRoad_own_state d, rfl, _, rfl, ?_⟩
    rw [decide_eq_false (show ¬ (V.str d.st = V.str "gone") from fun z => hg (V.str.inj z))]
    refine iteF ?_
    exact ⟨_, rfl, _, _, _, _, _, rfl, ho, T.cl_Writer, T.n_Writer_own_roads, lkWriter_own_roads (x), _, rfl, x.dr, _, rfl, dg, k⟩
def sp_Writer_spare (K : PySem.W.Frag) : Sp := fun vs H Q _ => ∃ (x : Wr) (a b : List Rw) (d : Rw) (s : Bool), vs = [.ref x.p, tx d.name, .bl s] ∧ WrH K H x ∧ WrB x ∧ x.roads = a ++ d :: b ∧ d.st ≠ "gone" ∧
  ∀ (r t : Addr) H', WrH K H' { x with roads := a ++ { d with spare := s } :: b } → Fr (foot x) H H' → H r = none → H' r = some (.lst [.ref t]) → H' t = some (.tup [.str "spare", tx d.name, .bl s]) → Q (.ref r) H'
theorem sc_Writer_spare : FnScope ["self", "road", "truth", "found"] ["self", "road", "truth"] (defScope s_Writer_spare) := ⟨rfl, rfl, rfl, by decide +kernel, rfl, by decide +kernel, by decide +kernel⟩
theorem ok_Writer_spare (T : TX P w K mg base) : PR P w K mg base 2 (He.ma K (He.ga K "Writer") "spare") ["self", "road", "truth"] (sp_Writer_spare K) := by
  have G_Writer_road_at := ok_Writer_road_at T
  refine T.prom d_Writer_spare (List.mem_of_getElem? (i := 32) (by rfl)) ⟨rfl, rfl⟩ sc_Writer_spare (fun vs H Q E h => ?_) (fun _ _ _ _ _ _ us hl => match us, hl with | [_, _, _], _ => rfl) (fun cdv A outer s H vs Q E hr h => ?_)
  · obtain ⟨_, _, _, _, _, rfl, _⟩ := h
    rfl
  · have hu := hu_of hr
    obtain ⟨x, a, b, d, s, rfl, hx, hb, ha, hg, k⟩ := h
    refine ⟨_, (pss_cons (ps_set (i := 3) sc_Writer_spare.nd rfl (by first | exact Or.inl rfl | exact Or.inr rfl) (pe_methP (pv 0) T.cl_Writer T.m_Writer_road_at G_Writer_road_at (hr.mono (by decide)) (pa_cons (pv 1) pa_nil)))
      (pss_cons (ps_fld (pv 3) (pv 2) rfl)
      (pss_one (ps_ret (pe_lst (pa_cons (pe_tup (pa_cons pe_str (pa_cons (pv 1) (pa_cons (pv 2) pa_nil)))) pa_nil)))))), ?_⟩
    obtain ⟨dx, ho⟩ := hx.o
    have hd : d ∈ x.roads := by rw [ha]; simp
    obtain ⟨dy, hr2⟩ := (hx.rd d hd).r
    have hdf : ∀ c ∈ [d.r], c ∈ rf d := by simp [rf]
    have hdf2 : ∀ c ∈ rf d, c ∈ foot x := fun c hc => by
      unfold foot
      exact List.mem_cons_of_mem _ (List.mem_cons_of_mem _ (List.mem_flatMap.mpr ⟨d, hd, hc⟩))
    refine ⟨_, rfl, _, _, _, rfl, ho, noWriter_road_at (x), _, rfl, x, d, rfl, hx, hb, hd, hg, ?_⟩
    refine ⟨_, rfl, _, rfl, _, _, _, _, rfl, hr2, T.cl_Road, T.n_Road_own_spare, lenRoad (d), ?_⟩
    rw [ptRoad_own_spare]
    have f1 : Fr [d.r] H (upd H d.r (.ins (He.ga K "Road") dy (roadF { d with spare := s }))) := Fr.putI (by simp) hr2
    have h1 := hx.road ha f1 hdf ((hx.rd d hd).set (d' := { d with spare := s }) (nd_split hx.nd ha).2.2 rfl fun H h => ⟨h.o, h.ls, h.ps, h.ne, h.en⟩) rfl rfl
    refine ⟨_, rfl, _, rfl, line5 (by show 3 ≤ _; decide), fun t ht => ⟨line5 (by show 1 ≤ _; decide), fun r hr1 => ?_⟩⟩
    have s2 := (Same.upd (o := .tup [.str "spare", tx d.name, .bl s]) ht).trans (Same.upd (o := .lst [.ref t]) hr1)
    refine k r t _ (h1.same s2) ((f1.mono fun c hc => hdf2 c (hdf c hc)).trans (Fr.of _ s2)) ?_ upd_same (by rw [upd_ne (ne_of_none upd_same hr1)]; exact upd_same)
    have h3 := (Same.upd (o := .tup [.str "spare", tx d.name, .bl s]) ht).free hr1
    by_cases z : r = d.r
    · rw [z, upd_same] at h3; cases h3
    · rw [upd_ne z] at h3; exact h3
end

/-! ### Writer: pieces anew -/
def oP : Option Pc → V
  | none => .non
  | some e => .ref e.a
theorem cutB_pc {W : List Nat} {H : Hp} {v : V} {f : Nat} {l : List Nat} {n : Int} (h : POpt H v (cutB f l n)) (s : Sub W f l) : ∃ q : Option Pc, v = oP q ∧ ∀ e, q = some e → PcAt W H e := by
  unfold cutB at h
  have hm : cutM f l n ≤ l.length := by unfold cutM; omega
  by_cases z : cutM f l n < l.length
  · rw [if_pos z] at h
    obtain ⟨a, h1, h2⟩ := h
    refine ⟨some ⟨a, f + cutM f l n, l.drop (cutM f l n)⟩, h1, fun e he => ?_⟩
    obtain rfl := Option.some.inj he
    exact ⟨by rw [h2]; rfl, s.drop _ hm⟩
  · rw [if_neg z] at h
    exact ⟨none, h, fun e he => by cases he⟩
theorem cutA_pc {W : List Nat} {H : Hp} {v : V} {f : Nat} {l : List Nat} {n : Int} (h : POpt H v (cutA f l n)) (s : Sub W f l) : ∃ q : Option Pc, v = oP q ∧ ∀ e, q = some e → PcAt W H e ∧ e.f = f ∧ 0 < e.l.length ∧ (e.l.length : Int) ≤ n - f ∧ e.l.length ≤ l.length := by
  unfold cutA at h
  have hm : cutM f l n ≤ l.length := by unfold cutM; omega
  by_cases z : 0 < cutM f l n
  · rw [if_pos z] at h
    obtain ⟨a, h1, h2⟩ := h
    refine ⟨some ⟨a, f, l.take (cutM f l n)⟩, h1, fun e he => ?_⟩
    obtain rfl := Option.some.inj he
    refine ⟨⟨h2, s.take _⟩, rfl, ?_, ?_, ?_⟩
    · show 0 < (l.take _).length
      rw [List.length_take]; omega
    · show (((l.take _).length : Nat) : Int) ≤ _
      rw [List.length_take]
      unfold cutM at z ⊢
      omega
    · show (l.take _).length ≤ _
      rw [List.length_take]; omega
  · rw [if_neg z] at h
    exact ⟨none, h, fun e he => by cases he⟩
theorem WrB.road {x : Wr} {a b : List Rw} {d d' : Rw} (h : WrB x) (hx : x.roads = a ++ d :: b) (e1 : d'.ents = d.ents) (e2 : d'.name = d.name) : WrB { x with roads := a ++ d' :: b } := by
  have hd : d ∈ x.roads := by rw [hx]; simp
  have hm : ∀ d2 ∈ a ++ d' :: b, d2 = d' ∨ d2 ∈ x.roads := by
    intro d2 h2
    rcases List.mem_append.mp h2 with h2 | h2
    · exact .inr (by rw [hx]; simp [h2])
    · rcases List.mem_cons.mp h2 with rfl | h2
      · exact .inl rfl
      · exact .inr (by rw [hx]; simp [h2])
  refine ⟨h.W, h.lets, fun d2 h2 => ?_, fun d2 h2 => ?_, ?_, h.anew, ?_, fun d2 h2 => ?_⟩
  · rcases hm d2 h2 with rfl | h3
    · rw [e1]; exact h.ents d hd
    · exact h.ents d2 h3
  · rcases hm d2 h2 with rfl | h3
    · rw [e2]; exact h.name d hd
    · exact h.name d2 h3
  · have nd := h.nd
    rw [hx, List.map_append, List.map_cons] at nd
    show ((a ++ d' :: b).map (·.name)).Nodup
    rw [List.map_append, List.map_cons, e2]
    exact nd
  · have := h.few
    rw [hx] at this
    show (a ++ d' :: b).length < 64
    simp at this ⊢
    omega
  · rcases hm d2 h2 with rfl | h3
    · rw [e1]; exact h.sub d hd
    · exact h.sub d2 h3
theorem rf_foot {x : Wr} {d : Rw} (hd : d ∈ x.roads) : ∀ c ∈ rf d, c ∈ foot x := fun c hc => by
  unfold foot
  exact List.mem_cons_of_mem _ (List.mem_cons_of_mem _ (List.mem_flatMap.mpr ⟨d, hd, hc⟩))
theorem not_foot {K : PySem.W.Frag} {H : Hp} {x : Wr} (h : WrH K H x) {p : Addr} (e : H p = none) : p ∉ foot x := by
  intro hp
  unfold foot at hp
  rcases List.mem_cons.mp hp with rfl | hp
  · obtain ⟨dx, o⟩ := h.o
    rw [o] at e; cases e
  · rcases List.mem_cons.mp hp with rfl | hp
    · rw [h.dr] at e; cases e
    · obtain ⟨d, hd, hc⟩ := List.mem_flatMap.mp hp
      have hr := h.rd d hd
      obtain ⟨d1, o1⟩ := hr.r
      obtain ⟨d2, o2⟩ := hr.w.o
      have hc2 : p = d.r ∨ p = d.wy ∨ p = d.la ∨ p = d.pa := by simpa [rf] using hc
      rcases hc2 with rfl | rfl | rfl | rfl
      · rw [o1] at e; cases e
      · rw [o2] at e; cases e
      · rw [hr.w.ls] at e; cases e
      · rw [hr.w.ps] at e; cases e
section
variable {P : Program} {w : World} {K : PySem.W.Frag} {mg : Str → Option Value} {base : Heap}
def sp_Writer_drop_known (K : PySem.W.Frag) : Sp := fun vs H Q _ => ∃ x : Wr, vs = [.ref x.p] ∧ WrH K H x ∧ x.W.length ≤ 50000 ∧ x.anew.length ≤ 100000 ∧
  ∀ (la : Addr) (es : List Pc) H', WrH K H' { x with la := la, anew := es } → Fr [x.p] H H' → es.length ≤ x.anew.length → H la = none → Q .non H'
theorem sc_Writer_drop_known : FnScope ["self", "some", "piece"] ["self"] (defScope s_Writer_drop_known) := ⟨rfl, rfl, rfl, by decide +kernel, rfl, by decide +kernel, by decide +kernel⟩
theorem ok_Writer_drop_known (T : TX P w K mg base) : PR P w K mg base 2 (He.ma K (He.ga K "Writer") "drop_known") ["self"] (sp_Writer_drop_known K) := by
  have G_cut_at := ok_cut_at T
  refine T.prom d_Writer_drop_known (List.mem_of_getElem? (i := 36) (by rfl)) ⟨rfl, rfl⟩ sc_Writer_drop_known (fun vs H Q E h => ?_) (fun _ _ _ _ _ _ us hl => match us, hl with | [_], _ => rfl) (fun cdv A outer s H vs Q E hr h => ?_)
  · obtain ⟨_, rfl, _⟩ := h
    rfl
  · have hu := hu_of hr
    obtain ⟨x, rfl, hx, hW, hn, k⟩ := h
    refine ⟨_, (pss_cons (ps_setLc (i := 1) (y := "some") (own := [("piece", 2)]) (g := gName 2) rfl sc_Writer_drop_known.nd rfl rfl (sw_true rfl rfl rfl (by decide +kernel)) (pi_list (pe_fld (pv 0) rfl)) (blkOk_by (N := ["self", "some", "piece"]) (sc := defScope s_Writer_drop_known) (by decide +kernel)) (fun _ _ _ _ _ => (pg_name (i := 2) sc_Writer_drop_known.nd rfl (by first | exact Or.inl rfl | exact Or.inr rfl))) (fun _ _ _ _ _ => pts_nil) (fun _ _ _ _ _ => (pe_ix (ix_tupk (K := K) (by rfl)) (pe_callP (by exact G_cut_at) (by exact hr.mono (by decide)) (by rfl) (by exact T.g_cut_at) (pa_cons (pv 2) (pa_cons (pe_fldk (K := K) (by rfl) (pv 0) (by rfl)) pa_nil))) pe_int (fun _ _ => rfl))))
      (pss_one (ps_fld (pv 0) (pe_lc (own := [("piece", 2)]) (g := gName 2) rfl sc_Writer_drop_known.nd (pi_list (pv 1)) (blkOk_by (N := ["self", "some", "piece"]) (sc := defScope s_Writer_drop_known) (by decide +kernel)) (fun _ _ _ _ _ => (pg_name (i := 2) sc_Writer_drop_known.nd rfl (by first | exact Or.inl rfl | exact Or.inr rfl))) (fun _ _ _ _ _ => (pts_one (pt_cmpR op_notN (pv 2) pe_non (nomark _)))) (fun _ _ _ _ _ => (pv 2))) rfl))), ?_⟩
    obtain ⟨dx, ho⟩ := hx.o
    refine ⟨_, rfl, _, _, _, _, _, rfl, ho, T.cl_Writer, T.n_Writer_own_anew, lkWriter_own_anew (x), x.la, rfl, ⟨_, SqL.of hx.la⟩, fun D hD => lc_by (n := x.anew.length) (fun i H2 => ∃ qs : List (Option Pc), Same H H2 ∧ H2 D = some (.lst (qs.map oP)) ∧ qs.length = i ∧ ∀ e, some e ∈ qs → PcAt x.W H2 e) (fun i H2 h hi => ?_) (fun H2 h => ?_) ⟨[], Same.upd hD, upd_same, rfl, by intro e he; cases he⟩ ?_ ?_⟩
    · obtain ⟨_, s, _⟩ := h
      exact ⟨_, _, SqL.of (s _ _ hx.la), List.getElem?_eq_getElem (by rw [List.length_map]; exact hi)⟩
    · obtain ⟨_, s, _⟩ := h
      exact ⟨_, SqL.of (s _ _ hx.la), by rw [List.length_map]; exact Nat.le_refl _⟩
    · rintro i y H1 H2 hi ⟨qs, s1, hd1, hlen, hqs⟩ ⟨rfl, hy⟩
      have ey := hy _ (SqL.of (s1 _ _ hx.la))
      rw [List.getElem?_map, List.getElem?_eq_getElem hi] at ey
      obtain rfl := Option.some.inj ey
      have hp := (hx.an _ (List.getElem_mem hi)).same s1
      refine ⟨rfl, ?_⟩
      refine yes_go ?_
      have ho1 := s1 _ _ ho
      refine ⟨_, rfl, _, rfl, _, _, _, _, _, rfl, ho1, T.cl_Writer, T.n_Writer_own_known, lkWriter_own_known (x), (x.anew[i]).a, x.known, (x.anew[i]).f, (x.anew[i]).l, rfl, SqT.of hp.1, (by have := hp.2.1; omega), fun p H3 va vb s3 hp0 hp3 hA hB => ?_⟩
      obtain ⟨q, rfl, hq⟩ := cutB_pc hB hp.2
      refine ⟨p, _, 1, oP q, rfl, rfl, SqT.of hp3, rfl, _, s3 _ _ hd1, (by rw [List.length_map]; exact line5' (by omega)), qs ++ [q], Same.updN (s1.trans s3) hD, (by rw [upd_same, List.map_append]; rfl), (by rw [List.length_append, hlen]; rfl), fun e he => ?_⟩
      rcases List.mem_append.mp he with he | he
      · exact ((hqs e he).same s3).upd (s3 _ _ hd1)
      · exact (hq e (List.mem_singleton.mp he).symm).upd (s3 _ _ hd1)
    · rintro H1 ⟨qs, s1, hd1, hlen, hqs⟩
      refine ⟨_, rfl, D, rfl, ⟨_, SqL.of hd1⟩, fun D2 hD2 => lc_by (n := qs.length) (fun i H2 => ∃ es : List Pc, Same H1 H2 ∧ H2 D2 = some (.lst (es.map pv_)) ∧ es.length ≤ i ∧ ∀ e ∈ es, PcAt x.W H2 e) (fun i H2 h hi => ?_) (fun H2 h => ?_) ⟨[], Same.upd hD2, upd_same, Nat.le_refl _, by intro e he; cases he⟩ ?_ ?_⟩
      · obtain ⟨_, s, _⟩ := h
        exact ⟨_, _, SqL.of (s _ _ hd1), List.getElem?_eq_getElem (by rw [List.length_map]; exact hi)⟩
      · obtain ⟨_, s, _⟩ := h
        exact ⟨_, SqL.of (s _ _ hd1), by rw [List.length_map]; exact Nat.le_refl _⟩
      · rintro i y H2 H3 hi ⟨es, s2, hd2, hle, hes⟩ ⟨rfl, hy⟩
        have ey := hy _ (SqL.of (s2 _ _ hd1))
        rw [List.getElem?_map, List.getElem?_eq_getElem hi] at ey
        obtain rfl := Option.some.inj ey
        refine ⟨rfl, _, rfl, rfl, _, rfl, ?_⟩
        cases hq : qs[i] with
        | none => exact iffF (by rfl) ⟨es, s2, hd2, by omega, hes⟩
        | some e =>
          refine ift (by rfl) ⟨_, rfl, _, hd2, (by rw [List.length_map]; exact line5' (by omega)), es ++ [e], Same.updN s2 hD2, (by rw [upd_same, List.map_append]; rfl), (by rw [List.length_append]; simp only [List.length_singleton]; omega), fun e' he => ?_⟩
          rcases List.mem_append.mp he with he | he
          · exact (hes e' he).upd hd2
          · rw [List.mem_singleton.mp he]
            exact ((hqs e (by rw [← hq]; exact List.getElem_mem hi)).same s2).upd hd2
      · rintro H2 ⟨es, s2, hd2, hle, hes⟩
        have s12 := s1.trans s2
        have ho2 := s12 _ _ ho
        have hD20 : H D2 = none := s1.free hD2
        refine ⟨_, rfl, _, _, _, _, rfl, ho2, T.cl_Writer, T.n_Writer_own_anew, lenWriter (x), ?_⟩
        rw [ptWriter_own_anew]
        have f : Fr [x.p] H (upd H2 x.p (.ins (He.ga K "Writer") dx (wrF { x with la := D2 }))) := (Fr.of _ s12).trans (Fr.putI (by simp) ho2)
        have hDp : D2 ≠ x.p := (ne_of_none ho hD20).symm
        exact k D2 es _ (hx.self f ⟨dx, upd_same⟩ rfl rfl rfl (by rw [upd_ne hDp]; exact hd2) (fun e he => (hes e he).fr (F := [x.p]) (Fr.putI (by simp) ho2)) (not_foot hx hD20)) f (by omega) hD20
def sp_Writer_put_anew (K : PySem.W.Frag) : Sp := fun vs H Q _ => ∃ (x : Wr) (a b : List Rw) (d : Rw), vs = [.ref x.p, .ref d.r] ∧ WrH K H x ∧ WrB x ∧ x.roads = a ++ d :: b ∧
  ∀ (la : Addr) (es : List Pc) H', WrH K H' { x with roads := a ++ { d with put := true } :: b, la := la, anew := es } → Fr (foot x) H H' → es.length ≤ 50000 → H la = none → Q .non H'
theorem sc_Writer_put_anew : FnScope ["self", "road", "number", "piece"] ["self", "road"] (defScope s_Writer_put_anew) := ⟨rfl, rfl, rfl, by decide +kernel, rfl, by decide +kernel, by decide +kernel⟩
theorem ok_Writer_put_anew (T : TX P w K mg base) : PR P w K mg base 3 (He.ma K (He.ga K "Writer") "put_anew") ["self", "road"] (sp_Writer_put_anew K) := by
  have G_Way_pieces := ok_Way_pieces T
  have G_Writer_drop_known := ok_Writer_drop_known T
  have G_joined := ok_joined T
  refine T.prom d_Writer_put_anew (List.mem_of_getElem? (i := 35) (by rfl)) ⟨rfl, rfl⟩ sc_Writer_put_anew (fun vs H Q E h => ?_) (fun _ _ _ _ _ _ us hl => match us, hl with | [_, _], _ => rfl) (fun cdv A outer s H vs Q E hr h => ?_)
  · obtain ⟨_, _, _, _, rfl, _⟩ := h
    rfl
  · have hu := hu_of hr
    obtain ⟨x, a, b, d, rfl, hx, hb, ha, k⟩ := h
    refine ⟨_, (pss_cons (ps_fld (pv 1) pe_bl rfl)
      (pss_cons (ps_fld (pv 0) (pe_callP G_joined (hr.mono (by decide)) rfl T.g_joined (pa_cons (pe_op op_cat (pe_fld (pv 0) rfl) (pe_lc (own := [("number", 2), ("piece", 3)]) (g := gTup K 2 (gCons (gName 2) (gCons (gName 3) (gNil)))) rfl sc_Writer_put_anew.nd (pi_list (pe_methP0 (pe_fld (pv 1) rfl) T.cl_Way T.m_Way_pieces G_Way_pieces (hr.mono (by decide)))) (blkOk_by (N := ["self", "road", "number", "piece"]) (sc := defScope s_Writer_put_anew) (by decide +kernel)) (fun _ _ _ _ _ => (pg_tup rfl (pgs_cons (pg_name (i := 2) sc_Writer_put_anew.nd rfl (by first | exact Or.inl rfl | exact Or.inr rfl)) (pgs_cons (pg_name (i := 3) sc_Writer_put_anew.nd rfl (by first | exact Or.inl rfl | exact Or.inr rfl)) pgs_nil)))) (fun _ _ _ _ _ => pts_nil) (fun _ _ _ _ _ => (pv 3)))) pa_nil)) rfl)
      (pss_one (ps_expr (pe_methP0 (pv 0) T.cl_Writer T.m_Writer_drop_known G_Writer_drop_known (hr.mono (by decide))))))), ?_⟩
    obtain ⟨dx, ho⟩ := hx.o
    have hd : d ∈ x.roads := by rw [ha]; simp
    obtain ⟨dy, hr2⟩ := (hx.rd d hd).r
    have hsub := hb.sub d hd
    refine ⟨_, rfl, _, _, _, _, rfl, hr2, T.cl_Road, T.n_Road_was_put, lenRoad (d), ?_⟩
    rw [ptRoad_was_put]
    have f1 : Fr [d.r] H (upd H d.r (.ins (He.ga K "Road") dy (roadF { d with put := true }))) := Fr.putI (by simp) hr2
    have h1 := hx.road ha f1 (by simp [rf]) ((hx.rd d hd).set (d' := { d with put := true }) (nd_split hx.nd ha).2.2 rfl fun H h => ⟨h.o, h.ls, h.ps, h.ne, h.en⟩) rfl rfl
    generalize (upd H d.r (.ins (He.ga K "Road") dy (roadF { d with put := true }))) = H1 at h1 f1
    have f1' : Fr (foot x) H H1 := f1.mono fun c hc => rf_foot hd c (by rw [List.mem_singleton.mp hc]; simp [rf])
    have h1' := h1
    obtain ⟨⟨dx1, ho1⟩, hla1, han1, hrd1, hnd1⟩ := h1'.toWrR
    have hd1 : RdH K H1 { d with put := true } := hrd1 _ (by show _ ∈ a ++ _ :: b; simp)
    obtain ⟨dy1, hr1⟩ := hd1.r
    obtain ⟨dw1, hw1⟩ := hd1.w.o
    have hne := hb.ents d hd
    refine ⟨_, rfl, _, _, _, _, _, rfl, ho1, T.cl_Writer, T.n_Writer_own_anew, lkWriter_own_anew ({ x with roads := a ++ { d with put := true } :: b }), _, rfl, _, _, _, _, _, rfl, hr1, T.cl_Road, T.n_Road_own_way, lkRoad_own_way ({ d with put := true }), _, _, _, rfl, hw1, noWay_pieces { d with put := true }, { d with put := true }, rfl, hd1.w, hne, fun r ts H2 s2 hr0 hr2 hts hlen => ⟨r, rfl, ⟨_, SqL.of hr2⟩, fun D hD => lc_by (n := ts.length) (fun i H3 => Same H2 H3 ∧ H3 D = some (.lst ((ts.take i).map fun t => .ref t.e.pa))) (fun i H3 h hi => ?_) (fun H3 h => ?_) ⟨Same.upd hD, upd_same⟩ ?_ ?_⟩⟩
    · exact ⟨_, _, SqL.of (h.1 _ _ hr2), List.getElem?_eq_getElem (by rw [List.length_map]; exact hi)⟩
    · exact ⟨_, SqL.of (h.1 _ _ hr2), by rw [List.length_map]; exact Nat.le_refl _⟩
    · rintro i y H3 H4 hi ⟨s3, hd3⟩ ⟨rfl, hy⟩
      have ey := hy _ (SqL.of (s3 _ _ hr2))
      rw [List.getElem?_map, List.getElem?_eq_getElem hi] at ey
      obtain rfl := Option.some.inj ey
      obtain ⟨g1, g2⟩ := hts _ (List.getElem_mem hi)
      have hlen2 : ts.length ≤ d.ents.length := hlen
      refine ⟨(ts[i]).a, _, rfl, SqT.of (s3 _ _ g1), rfl, _, _, rfl, _, _, rfl, rfl, rfl, ?_⟩
      refine yes_go ?_
      refine ⟨_, rfl, _, hd3, (by rw [List.length_map, List.length_take]; exact line5' (by omega)), Same.updN s3 hD, ?_⟩
      rw [upd_same, List.take_succ_eq_append_getElem hi, List.map_append]
      rfl
    · rintro H3 ⟨s3, hd3⟩
      rw [List.take_length] at hd3
      have hlen2 : ts.length ≤ d.ents.length := hlen
      have s23 := s2.trans s3
      have hla3 := s23 _ _ hla1
      have ean : (x.anew.map pv_).length ≤ 50000 := by rw [List.length_map]; exact hb.anew
      refine ⟨x.la, D, _, _, rfl, rfl, hla3, hd3, (by show (x.anew.map pv_).length + (ts.map fun t => V.ref t.e.pa).length ≤ _; rw [List.length_map, List.length_map]; have := hb.anew; exact line5 (by omega)), fun p hp => ?_⟩
      have s4 := s23.trans (Same.upd (o := .lst (x.anew.map pv_ ++ ts.map fun t => .ref t.e.pa)) hp)
      refine ⟨p, x.anew ++ ts.map fun t => Pc.mk t.e.pa t.e.first t.e.l, x.W, rfl, SqL.of ?_, fun e he => ?_, (by have := hb.W; omega), fun r2 es' H5 s5 hr5 hr5' hes' hle' => ?_⟩
      · rw [upd_same, List.map_append, List.map_map]
        rfl
      · rcases List.mem_append.mp he with he | he
        · exact (han1 e he).same s4
        · obtain ⟨t, ht, rfl⟩ := List.mem_map.mp he
          have hem := List.mem_of_getElem? (hts t ht).2
          exact ⟨s4 _ _ (hd1.w.en _ hem).2, hsub _ hem⟩
      · have s15 := s4.trans s5
        have ho5 := s15 _ _ ho1
        have hr21 : H1 r2 = none := s4.free hr5
        refine ⟨_, rfl, _, _, _, _, rfl, ho5, T.cl_Writer, T.n_Writer_own_anew, lenWriter ({ x with roads := a ++ { d with put := true } :: b }), ?_⟩
        rw [ptWriter_own_anew]
        have f : Fr [x.p] H1 (upd H5 x.p (.ins (He.ga K "Writer") dx1 (wrF { { x with roads := a ++ { d with put := true } :: b } with la := r2 }))) := (Fr.of _ s15).trans (Fr.putI (by simp) ho5)
        have hDp : r2 ≠ x.p := (ne_of_none ho1 hr21).symm
        have h5 : WrH K _ { { x with roads := a ++ { d with put := true } :: b } with la := r2, anew := es' } := h1.self f ⟨dx1, upd_same⟩ rfl rfl rfl (by rw [upd_ne hDp]; exact hr5') (fun e he => (hes' e he).fr (F := [x.p]) (Fr.putI (by simp) ho5)) (not_foot h1 hr21)
        obtain ⟨dx5, ho5'⟩ := h5.o
        refine ⟨_, rfl, _, _, _, rfl, ho5', noWriter_drop_known ({ { x with roads := a ++ { d with put := true } :: b } with la := r2, anew := es' }), { { x with roads := a ++ { d with put := true } :: b } with la := r2, anew := es' }, rfl, h5, hb.W, (by show es'.length ≤ _; have := hb.W; omega), fun la es H6 h6 f6 hle hla6 => ?_⟩
        have hpf : ∀ c ∈ [x.p], c ∈ foot x := fun c hc => by rw [List.mem_singleton.mp hc]; simp [foot]
        refine k la es H6 h6 (f1'.trans ((f.mono hpf).trans (f6.mono hpf))) ?_ ?_
        · have hle2 : es.length ≤ es'.length := hle
          have := hb.W
          omega
        · have l1 : la ∉ [x.p] := by
            intro z
            rw [List.mem_singleton.mp z] at hla6
            rw [ho5'] at hla6
            cases hla6
          have l2 : H1 la = none := f.free l1 hla6
          refine f1.free ?_ l2
          intro z
          rw [List.mem_singleton.mp z, hr1] at l2
          cases l2
def sp_Writer_let_go (K : PySem.W.Frag) : Sp := fun vs H Q _ => ∃ (x : Wr) (a b : List Rw) (d : Rw), vs = [.ref x.p, .ref d.r] ∧ WrH K H x ∧ WrB x ∧ x.roads = a ++ d :: b ∧
  ∀ (la : Addr) (es : List Pc) H', WrH K H' { x with roads := a ++ { d with st := "gone", put := true } :: b, la := la, anew := es } → Fr (foot x) H H' → es.length ≤ 50000 → H la = none → Q .non H'
theorem sc_Writer_let_go : FnScope ["self", "road"] ["self", "road"] (defScope s_Writer_let_go) := ⟨rfl, rfl, rfl, by decide +kernel, rfl, by decide +kernel, by decide +kernel⟩
theorem ok_Writer_let_go (T : TX P w K mg base) : PR P w K mg base 4 (He.ma K (He.ga K "Writer") "let_go") ["self", "road"] (sp_Writer_let_go K) := by
  have G_Writer_put_anew := ok_Writer_put_anew T
  refine T.prom d_Writer_let_go (List.mem_of_getElem? (i := 34) (by rfl)) ⟨rfl, rfl⟩ sc_Writer_let_go (fun vs H Q E h => ?_) (fun _ _ _ _ _ _ us hl => match us, hl with | [_, _], _ => rfl) (fun cdv A outer s H vs Q E hr h => ?_)
  · obtain ⟨_, _, _, _, rfl, _⟩ := h
    rfl
  · have hu := hu_of hr
    obtain ⟨x, a, b, d, rfl, hx, hb, ha, k⟩ := h
    refine ⟨_, (pss_cons (ps_fld (pv 1) pe_str rfl)
      (pss_one (ps_expr (pe_methP (pv 0) T.cl_Writer T.m_Writer_put_anew G_Writer_put_anew (hr.mono (by decide)) (pa_cons (pv 1) pa_nil))))), ?_⟩
    have hd : d ∈ x.roads := by rw [ha]; simp
    obtain ⟨dy, hr2⟩ := (hx.rd d hd).r
    refine ⟨_, rfl, _, _, _, _, rfl, hr2, T.cl_Road, T.n_Road_own_state, lenRoad (d), ?_⟩
    rw [ptRoad_own_state]
    have f1 : Fr [d.r] H (upd H d.r (.ins (He.ga K "Road") dy (roadF { d with st := "gone" }))) := Fr.putI (by simp) hr2
    have h1 := hx.road ha f1 (by simp [rf]) ((hx.rd d hd).set (d' := { d with st := "gone" }) (nd_split hx.nd ha).2.2 rfl fun H h => ⟨h.o, h.ls, h.ps, h.ne, h.en⟩) rfl rfl
    have f1' := f1.mono fun c hc => rf_foot hd c (by rw [List.mem_singleton.mp hc]; simp [rf])
    obtain ⟨dx1, ho1⟩ := h1.o
    have ef : foot { x with roads := a ++ { d with st := "gone" } :: b } = foot x := by
      unfold foot
      show x.p :: x.dr :: (a ++ { d with st := "gone" } :: b).flatMap rf = _
      rw [ha, List.flatMap_append, List.flatMap_append, List.flatMap_cons, List.flatMap_cons]
      rfl
    refine ⟨_, rfl, _, _, _, rfl, ho1, noWriter_put_anew { x with roads := a ++ { d with st := "gone" } :: b }, _, rfl, { x with roads := a ++ { d with st := "gone" } :: b }, a, b, { d with st := "gone" }, rfl, h1, hb.road ha rfl rfl, rfl, fun la es H' h' f' hle hla => ?_⟩
    rw [ef] at f'
    refine k la es H' h' (f1'.trans f') hle (f1.free ?_ hla)
    intro z
    rw [List.mem_singleton.mp z, upd_same] at hla
    cases hla
def sp_Writer_go (K : PySem.W.Frag) : Sp := fun vs H Q _ => ∃ (x : Wr) (a b : List Rw) (d : Rw), vs = [.ref x.p, tx d.name] ∧ WrH K H x ∧ WrB x ∧ x.roads = a ++ d :: b ∧ d.st ≠ "gone" ∧
  ∀ (la r t : Addr) (es : List Pc) H', WrH K H' { x with roads := a ++ { d with st := "gone", put := true } :: b, la := la, anew := es } → Fr (foot x) H H' → es.length ≤ 50000 → H la = none → H r = none → H' r = some (.lst [.ref t]) → H' t = some (.tup [.str "gone", tx d.name]) → Q (.ref r) H'
theorem sc_Writer_go : FnScope ["self", "road"] ["self", "road"] (defScope s_Writer_go) := ⟨rfl, rfl, rfl, by decide +kernel, rfl, by decide +kernel, by decide +kernel⟩
theorem ok_Writer_go (T : TX P w K mg base) : PR P w K mg base 5 (He.ma K (He.ga K "Writer") "go") ["self", "road"] (sp_Writer_go K) := by
  have G_Writer_let_go := ok_Writer_let_go T
  have G_Writer_road_at := ok_Writer_road_at T
  refine T.prom d_Writer_go (List.mem_of_getElem? (i := 33) (by rfl)) ⟨rfl, rfl⟩ sc_Writer_go (fun vs H Q E h => ?_) (fun _ _ _ _ _ _ us hl => match us, hl with | [_, _], _ => rfl) (fun cdv A outer s H vs Q E hr h => ?_)
  · obtain ⟨_, _, _, _, rfl, _⟩ := h
    rfl
  · have hu := hu_of hr
    obtain ⟨x, a, b, d, rfl, hx, hb, ha, hg, k⟩ := h
    refine ⟨_, (pss_cons (ps_expr (pe_methP (pv 0) T.cl_Writer T.m_Writer_let_go G_Writer_let_go (hr.mono (by decide)) (pa_cons (pe_methP (pv 0) T.cl_Writer T.m_Writer_road_at G_Writer_road_at (hr.mono (by decide)) (pa_cons (pv 1) pa_nil)) pa_nil)))
      (pss_one (ps_ret (pe_lst (pa_cons (pe_tup (pa_cons pe_str (pa_cons (pv 1) pa_nil))) pa_nil))))), ?_⟩
    obtain ⟨dx, ho⟩ := hx.o
    have hd : d ∈ x.roads := by rw [ha]; simp
    refine ⟨_, rfl, _, _, _, rfl, ho, noWriter_let_go (x), _, rfl, _, _, _, rfl, ho, noWriter_road_at (x), _, rfl, x, d, rfl, hx, hb, hd, hg, x, a, b, d, rfl, hx, hb, ha, fun la es H' h' f' hle hla => ?_⟩
    refine ⟨_, rfl, line5 (by show 2 ≤ _; decide), fun t ht => ⟨line5 (by show 1 ≤ _; decide), fun r hr1 => ?_⟩⟩
    have s2 := (Same.upd (o := .tup [.str "gone", tx d.name]) ht).trans (Same.upd (o := .lst [.ref t]) hr1)
    have hr0 := (Same.upd (o := .tup [.str "gone", tx d.name]) ht).free hr1
    refine k la r t es _ (h'.same s2) (f'.trans (Fr.of _ s2)) hle hla (f'.free ?_ hr0) upd_same (by rw [upd_ne (ne_of_none upd_same hr1)]; exact upd_same)
    have e : foot { x with roads := a ++ { d with st := "gone", put := true } :: b, la := la, anew := es } = foot x := by
      unfold foot
      show x.p :: x.dr :: (a ++ { d with st := "gone", put := true } :: b).flatMap rf = _
      rw [ha, List.flatMap_append, List.flatMap_append, List.flatMap_cons, List.flatMap_cons]
      rfl
    rw [← e]
    exact not_foot h' hr0
end

/-! ### Writer: made, begin -/
theorem Same.of_fr {F : List Addr} {H Hm H1 : Hp} (s : Same H Hm) (f : Fr F Hm H1) (n : ∀ c ∈ F, H c = none) : Same H H1 := fun b o e => f b o (.inl fun z => by rw [n b z] at e; cases e) (s b o e)
section
variable {P : Program} {w : World} {K : PySem.W.Frag} {mg : Str → Option Value} {base : Heap}
def sp_is_rule : Sp := fun vs H Q _ => ∃ z : Str, vs = [.str z] ∧ (z = "first" ∨ z = "few" ∨ z = "turns") ∧ Q (.bl true) H
theorem sc_is_rule : FnScope ["thing"] ["thing"] (defScope s_is_rule) := ⟨rfl, rfl, rfl, by decide +kernel, rfl, by decide +kernel, by decide +kernel⟩
theorem ok_is_rule (T : TX P w K mg base) : PR P w K mg base 1 (He.ga K "is_rule") ["thing"] sp_is_rule := by
  refine T.prom d_is_rule (List.mem_of_getElem? (i := 0) (by rfl)) ⟨rfl, rfl⟩ sc_is_rule (fun vs H Q E h => ?_) (fun _ _ _ _ _ _ us hl => match us, hl with | [_], _ => rfl) (fun cdv A outer s H vs Q E hr h => ?_)
  · obtain ⟨_, rfl, _⟩ := h
    rfl
  · have hu := hu_of hr
    obtain ⟨z, rfl, hz, k⟩ := h
    refine ⟨_, (pss_one (ps_ret (pe_and (pe_callB call_isB (by rfl) T.f_isinstance (by decide +kernel) (pa_cons (pv 0) (pa_cons (pe_bty (n := "str") rfl T.f_str (by decide +kernel)) pa_nil))) (pe_one (pe_cmpR op_in_seq (pv 0) (pe_gref rfl T.g_RULES) (by rfl)))))), ?_⟩
    refine ⟨_, rfl, _, _, _, true, rfl, .base (.str z), (by decide +kernel), _, rfl, iteT ?_⟩
    refine ⟨_, rfl, He.ga K "RULES", _, rfl, .inr (T.tRULES H), rfl, rfl, ?_⟩
    have im : inV (.str z) [.str "first", .str "few", .str "turns"] = true := by
      rcases hz with rfl | rfl | rfl <;> decide +kernel
    show Q (.bl (inV (.str z) [.str "first", .str "few", .str "turns"])) H
    rw [im]
    exact k
def sp_Writer_init (K : PySem.W.Frag) : Sp := fun vs H Q _ => ∃ (p dx : Addr) (z : Str), vs = [.ref p, .str z] ∧ H p = some (.ins (He.ga K "Writer") dx []) ∧ (z = "first" ∨ z = "few" ∨ z = "turns") ∧
  ∀ (dr la : Addr) H', WrH K H' ⟨p, dr, la, z, [], 0, 0, "none", [], none, none, 0, []⟩ → Fr [p] H H' → H dr = none → H la = none → Q .non H'
theorem sc_Writer_init : FnScope ["self", "rule"] ["self", "rule"] (defScope s_Writer_init) := ⟨rfl, rfl, rfl, by decide +kernel, rfl, by decide +kernel, by decide +kernel⟩
theorem ok_Writer_init (T : TX P w K mg base) : PRk P w K mg base 2 (He.ma K (He.ga K "Writer") "__init__") ["self", "rule"] (sp_Writer_init K) 1 ["rule"] (fun vs zs => vs ++ zs) := by
  have G_is_rule := ok_is_rule T
  refine T.promK (n := 1) (ks := ["rule"]) d_Writer_init (List.mem_of_getElem? (i := 27) (by rfl)) rfl (List.cons_ne_nil _ _) sc_Writer_init (fun vs H Q E h => ?_) (fun _ _ _ _ _ _ us ws h1 h2 => match us, ws, h1, h2 with | [_], [_], _, _ => rfl) (fun cdv A outer s H vs Q E hr h => ?_)
  · obtain ⟨_, _, _, rfl, _⟩ := h
    rfl
  · have hu := hu_of hr
    obtain ⟨p, dx, z, rfl, hp, hz, k⟩ := h
    refine ⟨_, (pss_cons (ps_if (pt_not (pt_val (pe_callP G_is_rule (hr.mono (by decide)) rfl T.g_is_rule (pa_cons (pv 1) pa_nil))))
        pss_never
        pss_nil)
      (pss_cons (ps_fld (pv 0) (pv 1) rfl)
      (pss_cons (ps_fld (pv 0) pe_str rfl)
      (pss_cons (ps_fld (pv 0) pe_bl rfl)
      (pss_cons (ps_fld (pv 0) pe_int rfl)
      (pss_cons (ps_fld (pv 0) pe_int rfl)
      (pss_cons (ps_fld (pv 0) pe_str rfl)
      (pss_cons (ps_fld (pv 0) pe_bl rfl)
      (pss_cons (ps_fld (pv 0) pe_dnewK rfl)
      (pss_cons (ps_fld (pv 0) pe_non rfl)
      (pss_cons (ps_fld (pv 0) pe_non rfl)
      (pss_cons (ps_fld (pv 0) pe_int rfl)
      (pss_one (ps_fld (pv 0) (pe_lst pa_nil) rfl)))))))))))))), ?_⟩
    refine ⟨_, rfl, z, rfl, hz, _, rfl, iteF ?_⟩
    refine ⟨_, rfl, _, rfl, _, _, _, _, rfl, hp, T.cl_Writer, T.n_Writer_own_rule, (by decide), ?_⟩
    refine ⟨_, rfl, _, _, _, _, rfl, upd_same, T.cl_Writer, T.n_Writer_own_signs, (by show 1 < 1000; decide), ?_⟩
    refine ⟨_, rfl, _, _, _, _, rfl, upd_same, T.cl_Writer, T.n_Writer_was_ended, (by show 2 < 1000; decide), ?_⟩
    refine ⟨_, rfl, _, _, _, _, rfl, upd_same, T.cl_Writer, T.n_Writer_own_known, (by show 3 < 1000; decide), ?_⟩
    refine ⟨_, rfl, _, _, _, _, rfl, upd_same, T.cl_Writer, T.n_Writer_own_limit, (by show 4 < 1000; decide), ?_⟩
    refine ⟨_, rfl, _, _, _, _, rfl, upd_same, T.cl_Writer, T.n_Writer_own_mode, (by show 5 < 1000; decide), ?_⟩
    refine ⟨_, rfl, _, _, _, _, rfl, upd_same, T.cl_Writer, T.n_Writer_was_over, (by show 6 < 1000; decide), ?_⟩
    refine fun dr hdr => ⟨_, rfl, _, _, _, _, rfl, (by rw [upd_ne (ne_of_none upd_same hdr)]; exact upd_same), T.cl_Writer, T.n_Writer_own_roads, (by show 7 < 1000; decide), ?_⟩
    refine ⟨_, rfl, _, _, _, _, rfl, upd_same, T.cl_Writer, T.n_Writer_first_road, (by show 8 < 1000; decide), ?_⟩
    refine ⟨_, rfl, _, _, _, _, rfl, upd_same, T.cl_Writer, T.n_Writer_last_road, (by show 9 < 1000; decide), ?_⟩
    refine ⟨_, rfl, _, _, _, _, rfl, upd_same, T.cl_Writer, T.n_Writer_own_next, (by show 10 < 1000; decide), ?_⟩
    refine ⟨line5 (by decide), fun la hla => ⟨_, rfl, _, _, _, _, rfl, (by rw [upd_ne (ne_of_none upd_same hla)]; exact upd_same), T.cl_Writer, T.n_Writer_own_anew, (by show 11 < 1000; decide), ?_⟩⟩
    have hdp : dr ≠ p := fun z => by rw [z, upd_same] at hdr; cases hdr
    have hlp : la ≠ p := fun z => by rw [z, upd_same] at hla; cases hla
    have hld : la ≠ dr := fun z => by
      rw [z] at hla
      simp [upd, hdp] at hla
    have hdr0 : H dr = none := by simpa [upd, hdp] using hdr
    have hla0 : H la = none := by simpa [upd, hlp, hld] using hla
    refine k dr la _ ⟨⟨⟨dx, ?_⟩, ?_, (by intro e he; cases he), (by intro e he; cases he), ?_⟩, ?_⟩ ?_ hdr0 hla0
    · rw [upd_same]
      kernel_rfl
    · simp [upd, hlp]
    · show [la, p, dr].Nodup
      simp [hlp, hld, hdp.symm]
    · show _ = some (HO.dK (rdK []))
      simp [upd, hdp, hld.symm, rdK]
    · intro c o h e
      by_cases z : c = p
      · subst z
        rw [hp] at e
        obtain rfl := Option.some.inj e
        rcases h with h | h
        · exact absurd (by simp) h
        · exact h.elim
      · have c1 : c ≠ la := ne_of_none e hla0
        have c2 : c ≠ dr := ne_of_none e hdr0
        simp [upd, z, c1, c2, e]
def sp_Writer_begin (K : PySem.W.Frag) : Sp := fun vs H Q _ => ∃ (x : Wr) (name : List Nat) (base : Int), vs = [.ref x.p, tx name, .int base] ∧ WrH K H x ∧ x.roads.length < 64 ∧ Lets name ∧ (1 ≤ name.length ∧ name.length ≤ 8) ∧ (0 ≤ base ∧ base ≤ 9999) ∧
  (∀ d ∈ x.roads, d.name ≠ name) ∧ (x.first = none ∨ x.mode = "led") ∧
  ∀ (d : Rw) (r t : Addr) H', d.name = name → d.base = base → d.txt = [] → d.ents = [] → d.sure = 0 → d.st = "asked" → WrH K H' { x with first := some (x.first.getD name), roads := x.roads ++ [d] } → Fr (foot x) H H' → (∀ c ∈ rf d, H c = none) →
    H r = none → H' r = some (.lst [.ref t]) → H' t = some (.tup [.str "join", tx name, .int base]) → Q (.ref r) H'
theorem sc_Writer_begin : FnScope ["self", "road", "base", "way"] ["self", "road", "base"] (defScope s_Writer_begin) := ⟨rfl, rfl, rfl, by decide +kernel, rfl, by decide +kernel, by decide +kernel⟩
theorem ok_Writer_begin (T : TX P w K mg base) : PR P w K mg base 5 (He.ma K (He.ga K "Writer") "begin") ["self", "road", "base"] (sp_Writer_begin K) := by
  have G_Road_init := ok_Road_init T
  have G_Way_init := ok_Way_init T
  refine T.prom d_Writer_begin (List.mem_of_getElem? (i := 30) (by rfl)) ⟨rfl, rfl⟩ sc_Writer_begin (fun vs H Q E h => ?_) (fun _ _ _ _ _ _ us hl => match us, hl with | [_, _, _], _ => rfl) (fun cdv A outer s H vs Q E hr h => ?_)
  · obtain ⟨_, _, _, rfl, _⟩ := h
    rfl
  · have hu := hu_of hr
    obtain ⟨x, name, b, rfl, hx, hfew, hL, hl, hb, hnew, hfirst, k⟩ := h
    refine ⟨_, (pss_cons (ps_if (PW.pt (pw_and (pt_val (pe_callB call_isB (by rfl) T.f_isinstance (by decide +kernel) (pa_cons (pv 1) (pa_cons (pe_bty (n := "str") rfl T.f_str (by decide +kernel)) pa_nil)))) (pw_and1 (pt_cmp (pc_din hu (pv 1) (pe_fld (pv 0) rfl))))))
        pss_never
        pss_nil)
      (pss_cons (ps_set (i := 3) sc_Writer_begin.nd rfl (by first | exact Or.inl rfl | exact Or.inr rfl) (pe_makeP T.mk_Way G_Way_init (hr.mono (by decide)) rfl T.g_Way (pa_cons (pv 1) (pa_cons (pv 2) pa_nil))))
      (pss_cons (ps_if (PW.pt (pw_and (pt_cmpR op_notN (pe_fld (pv 0) rfl) pe_non (nomark _)) (pw_and1 (pt_cmpR op_ne (pe_fld (pv 0) rfl) pe_str (nomark _)))))
        pss_never
        pss_nil)
      (pss_cons (ps_if (pt_cmpR op_isN (pe_fld (pv 0) rfl) pe_non (nomark _))
        (pss_one (ps_fld (pv 0) (pv 1) rfl))
        pss_nil)
      (pss_cons (ps_dput hu (pe_fld (pv 0) rfl) (pv 1) (pe_makeP T.mk_Road G_Road_init (hr.mono (by decide)) rfl T.g_Road (pa_cons (pv 3) pa_nil)) rfl)
      (pss_one (ps_ret (pe_lst (pa_cons (pe_tup (pa_cons pe_str (pa_cons (pv 1) (pa_cons (pv 2) pa_nil)))) pa_nil))))))))), ?_⟩
    obtain ⟨dx, ho⟩ := hx.o
    have hv := rdK_none hnew
    have dg : DGet H x.dr (tx name) none := .inl ⟨_, .inr (S name), .inl hx.dr, rfl, hv.symm⟩
    refine ⟨_, rfl, _, _, _, true, rfl, .base (.str _), (by decide +kernel), _, rfl, iteT ⟨_, rfl, _, rfl, _, _, _, _, _, rfl, ho, T.cl_Writer, T.n_Writer_own_roads, lkWriter_own_roads (x), x.dr, none, rfl, dg, _, rfl, iteF ?_⟩⟩
    refine ⟨_, rfl, _, rfl, fun wy dw hwy hdw hdwy => ?_⟩
    refine ⟨wy, dw, name, b, rfl, upd_same, hL, hl, hb, fun la pa H1 hw f1 hla hpa => ⟨rfl, ?_⟩⟩
    have sm : Same H (upd (upd H dw (.own wy)) wy (.ins (He.ga K "Way") dw [])) := (Same.upd hdw).trans (Same.upd (by rw [upd_ne hdwy.symm]; exact hwy))
    have s1 : Same H H1 := Same.of_fr sm f1 fun c hc => by rw [List.mem_singleton.mp hc]; exact hwy
    have hx1 := hx.same s1
    obtain ⟨dx1, ho1⟩ := hx1.o
    have hla0 : H la = none := sm.free hla
    have hpa0 : H pa = none := sm.free hpa
    have nb := nd_base hx.nd
    have nl : la ∉ foot x := not_foot hx hla0
    have np : pa ∉ foot x := not_foot hx hpa0
    have nw : wy ∉ foot x := not_foot hx hwy
    have hwyp : x.p ≠ wy := fun z => nw (by rw [← z]; simp [foot])
    have hlap : x.p ≠ la := fun z => nl (by rw [← z]; simp [foot])
    have hpap : x.p ≠ pa := fun z => np (by rw [← z]; simp [foot])
    rcases hcase : x.first with _ | fst
    all_goals first
      | (
        have lf : (wrF x).lookup ("first_road" : Str) = some (V.non) := by rw [lkWriter_first_road, hcase]; rfl
        refine ⟨_, rfl, _, _, _, _, _, rfl, ho1, T.cl_Writer, T.n_Writer_first_road, lf, rfl, _, rfl, iffF (by decide +kernel) (iteF ?_)⟩
        refine ⟨_, rfl, _, _, _, _, _, rfl, ho1, T.cl_Writer, T.n_Writer_first_road, lf, rfl, _, rfl, ift (by decide +kernel) ⟨_, rfl, _, rfl, _, _, _, _, rfl, ho1, T.cl_Writer, T.n_Writer_first_road, lenWriter (x), ?_⟩⟩
        have e1 : some name = some (x.first.getD name) := by rw [hcase]; rfl
        have hput : putF ("first_road" : Str) (tx name) (wrF x) = wrF { x with first := some (x.first.getD name) } := by
          rw [← e1]
          exact ptWriter_first_road x (some name)
        rw [hput]
        have hx2 : WrH K (upd H1 x.p (.ins (He.ga K "Writer") dx1 (wrF { x with first := some (x.first.getD name) }))) { x with first := some (x.first.getD name) } := hx1.self0 rfl rfl rfl rfl rfl rfl
        have f2 : Fr [x.p] H1 (upd H1 x.p (.ins (He.ga K "Writer") dx1 (wrF { x with first := some (x.first.getD name) }))) := Fr.putI (by simp) ho1
        show tSeq _ _ _ _ (upd H1 x.p (.ins (He.ga K "Writer") dx1 (wrF { x with first := some (x.first.getD name) })))
        generalize (upd H1 x.p (.ins (He.ga K "Writer") dx1 (wrF { x with first := some (x.first.getD name) }))) = H2 at hx2 f2 ⊢
        )
      | (
        have hled : x.mode = "led" := by
          rcases hfirst with h | h
          · rw [hcase] at h; cases h
          · exact h
        have lf : (wrF x).lookup ("first_road" : Str) = some (tx fst) := by rw [lkWriter_first_road, hcase]; rfl
        have lm : (wrF x).lookup ("own_mode" : Str) = some (V.str "led") := by rw [lkWriter_own_mode, hled]
        refine ⟨_, rfl, _, _, _, _, _, rfl, ho1, T.cl_Writer, T.n_Writer_first_road, lf, rfl, _, rfl, ift (by rfl) ⟨_, rfl, _, _, _, _, _, rfl, ho1, T.cl_Writer, T.n_Writer_own_mode, lm, rfl, _, rfl, iffF (by decide +kernel) ?_⟩⟩
        refine ⟨_, rfl, _, _, _, _, _, rfl, ho1, T.cl_Writer, T.n_Writer_first_road, lf, rfl, _, rfl, iffF (by rfl) ?_⟩
        have ex : { x with first := some (x.first.getD name) } = x := by
          cases x
          simp only at hcase
          subst hcase
          rfl
        have hx2 : WrH K H1 { x with first := some (x.first.getD name) } := by rw [ex]; exact hx1
        obtain ⟨H2, eH⟩ : ∃ H2, H2 = H1 := ⟨_, rfl⟩
        rw [← eH] at hx2
        have f2 : Fr [x.p] H1 H2 := by rw [eH]; exact Fr.refl _ _
        show tSeq _ _ _ _ H1
        rw [← eH]
        )
    all_goals
      have hw2 : WayH K H2 ⟨name, wy, wy, la, pa, b, [], [], 0, 0, "", false, false⟩ := hw.fr f2 fun c hc => by
        rw [List.mem_singleton.mp hc]
        exact ⟨hwyp, hlap, hpap⟩
      obtain ⟨dx2, ho2⟩ := hx2.o
      refine ⟨_, rfl, fun r dr2 hr hdr2 hne => ⟨r, dr2, wy, rfl, upd_same, fun H3 hr3 f3 => ⟨rfl, ?_⟩⟩⟩
      have sm2 : Same H2 (upd (upd H2 dr2 (.own r)) r (.ins (He.ga K "Road") dr2 [])) := (Same.upd hdr2).trans (Same.upd (by rw [upd_ne hne.symm]; exact hr))
      have s3 : Same H2 H3 := Same.of_fr sm2 f3 fun c hc => by rw [List.mem_singleton.mp hc]; exact hr
      have hx3 := hx2.same s3
      obtain ⟨dx3, ho3⟩ := hx3.o
      have hw3 := hw2.same s3
      have hlen : (rdK x.roads).length < sizeLine := by unfold rdK; rw [List.length_map]; exact line5' (by omega)
      have hx3dr : H3 x.dr = some (.dK (rdK x.roads)) := hx3.dr
      refine ⟨_, rfl, _, _, _, _, _, rfl, ho3, T.cl_Writer, T.n_Writer_own_roads, lkWriter_own_roads ({ x with first := some (x.first.getD name) }), _, rfl, x.dr, _, rfl, .k (k := .inr (S name)) hx3dr hlen, ?_⟩
      have eput : putK (rdK x.roads) (.inr (S name)) (.ref r) = rdK (x.roads ++ [⟨name, r, wy, la, pa, b, [], [], 0, 0, "asked", false, false⟩]) := by
        rw [putK_new _ hv]
        unfold rdK
        rw [List.map_append]
        rfl
      rw [eput]
      have hrx : r ∉ foot { x with first := some (x.first.getD name) } := not_foot hx2 hr
      have hr1 : H1 r = none := f2.free (fun z => hrx (by rw [List.mem_singleton.mp z]; simp [foot])) hr
      have hr0 : H r = none := s1.free hr1
      have f4 : Fr [x.dr] H3 (upd H3 x.dr (.dK (rdK (x.roads ++ [⟨name, r, wy, la, pa, b, [], [], 0, 0, "asked", false, false⟩])))) := Fr.putD (by simp) hx3.dr
      have hdr4 : (upd H3 x.dr (.dK (rdK (x.roads ++ [⟨name, r, wy, la, pa, b, [], [], 0, 0, "asked", false, false⟩])))) x.dr = some (.dK (rdK (x.roads ++ [⟨name, r, wy, la, pa, b, [], [], 0, 0, "asked", false, false⟩]))) := upd_same
      generalize (upd H3 x.dr (.dK (rdK (x.roads ++ [⟨name, r, wy, la, pa, b, [], [], 0, 0, "asked", false, false⟩])))) = H4 at f4 hdr4 ⊢
      have f34 : Fr (foot x) H H4 := by
        have g1 : Fr (foot x) H H1 := Fr.of _ s1
        have g2 : Fr (foot x) H1 H2 := f2.mono fun c hc => by rw [List.mem_singleton.mp hc]; simp [foot]
        have g3 : Fr (foot x) H2 H3 := Fr.of _ s3
        have g4 : Fr (foot x) H3 H4 := f4.mono fun c hc => by rw [List.mem_singleton.mp hc]; simp [foot]
        exact ((g1.trans g2).trans g3).trans g4
      have hfresh : ∀ c ∈ rf ⟨name, r, wy, la, pa, b, [], [], 0, 0, "asked", false, false⟩, H c = none := by
        intro c hc
        have hc2 : c = r ∨ c = wy ∨ c = la ∨ c = pa := by simpa [rf] using hc
        rcases hc2 with rfl | rfl | rfl | rfl <;> assumption
      obtain ⟨dw2, hwo2⟩ := hw2.o
      have hrw : r ≠ wy := (ne_of_none hwo2 hr).symm
      have hrl : r ≠ la := (ne_of_none hw2.ls hr).symm
      have hrp : r ≠ pa := (ne_of_none hw2.ps hr).symm
      have hwl : wy ≠ la := ne_of hwo2 hw2.ls (fun z => nomatch z)
      have hwp : wy ≠ pa := ne_of hwo2 hw2.ps (fun z => nomatch z)
      have hnf : ∀ c ∈ rf ⟨name, r, wy, la, pa, b, [], [], 0, 0, "asked", false, false⟩, c ∉ foot x := fun c hc => not_foot hx (hfresh c hc)
      have hdrf : ∀ c ∈ rf ⟨name, r, wy, la, pa, b, [], [], 0, 0, "asked", false, false⟩, c ≠ x.dr := fun c hc z => hnf c hc (by rw [z]; simp [foot])
      have h4 : WrH K H4 { x with first := some (x.first.getD name), roads := x.roads ++ [⟨name, r, wy, la, pa, b, [], [], 0, 0, "asked", false, false⟩] } := by
        refine ⟨⟨⟨dx3, f4.at (fun z => nb.2.2.1 (List.mem_singleton.mp z)) ho3⟩, f4.at (fun z => nb.2.1 (List.mem_singleton.mp z)) hx3.la, fun e he => (hx3.an e he).fr f4, fun d hd => ?_, ?_⟩, hdr4⟩
        · rcases List.mem_append.mp (show d ∈ x.roads ++ [_] from hd) with hd | hd
          · exact (hx3.rd d hd).fr f4 fun c hc hr => (nb.2.2.2 d hd c hr).2.2 (List.mem_singleton.mp hc)
          · rw [List.mem_singleton.mp hd]
            refine ⟨WayH.fr (F := [x.dr]) (H := H3) ⟨hw3.o, hw3.ls, hw3.ps, hw3.ne, hw3.en⟩ f4 fun c hc => ?_, ⟨dr2, f4.at (fun z => hdrf r (by simp [rf]) (List.mem_singleton.mp z)) hr3⟩⟩
            rw [List.mem_singleton.mp hc]
            exact ⟨fun z => hdrf wy (by simp [rf]) z.symm, fun z => hdrf la (by simp [rf]) z.symm, fun z => hdrf pa (by simp [rf]) z.symm⟩
        · show (x.la :: x.p :: x.dr :: (x.roads ++ [_]).flatMap rf).Nodup
          rw [List.flatMap_append]
          show ((x.la :: foot x) ++ (rf ⟨name, r, wy, la, pa, b, [], [], 0, 0, "asked", false, false⟩ ++ [])).Nodup
          rw [List.append_nil]
          refine List.nodup_append.mpr ⟨hx.nd, ?_, fun c hc e he z => ?_⟩
          · show [r, wy, la, pa].Nodup
            simp [hrw, hrl, hrp, hwl, hwp, show la ≠ pa from hw2.ne]
          · subst z
            rcases List.mem_cons.mp hc with rfl | hc
            · have := hfresh _ he
              rw [hx.la] at this
              cases this
            · exact hnf c he hc
      refine ⟨_, rfl, _, rfl, line5 (by show 3 ≤ _; decide), fun t ht => ⟨line5 (by show 1 ≤ _; decide), fun q hq => ?_⟩⟩
      have s5 := (Same.upd (o := .tup [.str "join", tx name, .int b]) ht).trans (Same.upd (o := .lst [.ref t]) hq)
      have hq4 := (Same.upd (o := .tup [.str "join", tx name, .int b]) ht).free hq
      refine k _ q t _ rfl rfl rfl rfl rfl rfl (h4.same s5) (f34.trans (Fr.of _ s5)) hfresh (f34.free (fun z => not_foot h4 hq4 ?_) hq4) upd_same (by rw [upd_ne (ne_of_none upd_same hq)]; exact upd_same)
      rcases List.mem_cons.mp z with z | z
      · rw [z]; simp [foot]
      · rcases List.mem_cons.mp z with z | z
        · rw [z]; simp [foot]
        · obtain ⟨d, hd, hc⟩ := List.mem_flatMap.mp z
          exact rf_foot (x := { x with first := some (x.first.getD name), roads := x.roads ++ [⟨name, r, wy, la, pa, b, [], [], 0, 0, "asked", false, false⟩] }) (by simp [hd]) q hc
end

/-! ### Writer: next_piece, usable -/
theorem WrR.lock {K : PySem.W.Frag} {H H' : Hp} {x : Wr} (h : WrR K H x) (a : Fr [x.dr] H H') : WrR K H' x := by
  have nb := nd_base h.nd
  obtain ⟨dx, e⟩ := h.o
  refine ⟨⟨dx, a.at (fun z => nb.2.2.1 (List.mem_singleton.mp z)) e⟩, a.at (fun z => nb.2.1 (List.mem_singleton.mp z)) h.la, fun p hp => (h.an p hp).fr a, fun d hd => (h.rd d hd).fr a fun c hc hr => (nb.2.2.2 d hd c hr).2.2 (List.mem_singleton.mp hc), h.nd⟩
theorem Pc.flat {K : PySem.W.Frag} {H : Hp} {W : List Nat} {es : List Pc} (h : ∀ e ∈ es, PcAt W H e) (hW : Lets W) : ∀ v ∈ es.map pv_, Fl K H v := by
  intro v hv
  obtain ⟨e, he, rfl⟩ := List.mem_map.mp hv
  refine Fl.tup (SqT.of (h e he).1) fun u hu => ?_
  have hu2 : u = .int e.f ∨ u = tx e.l := by simpa using hu
  rcases hu2 with rfl | rfl
  · exact .inl ⟨_, rfl⟩
  · exact .inr ⟨_, rfl, ((h e he).2.lets hW).small⟩
structure Us where
  d : Rw
  t : Addr
  b : Bool
def usK (us : List Us) : List (Key × V) := us.map fun u => (.inr (S u.d.name), .ref u.t)
section
variable {P : Program} {w : World} {K : PySem.W.Frag} {mg : Str → Option Value} {base : Heap}
def sp_Writer_next_piece (K : PySem.W.Frag) : Sp := fun vs H Q _ => ∃ x : Wr, vs = [.ref x.p] ∧ WrH K H x ∧ WrB x ∧ (∀ H', Same H H' → Q .non H') ∧
  ∀ (t : Addr) (e : Pc) (more : Bool) H', Same H H' → H' t = some (.tup [.ref e.a, .bl more]) → PcAt x.W H' e → 0 < e.l.length → e.l.length ≤ 8 → ((e.f : Int) + (e.l.length : Nat) ≤ x.limit) →
    ((more = true ∧ ∃ e0 rest, x.anew = e0 :: rest ∧ e.f = e0.f) ∨ (more = false ∧ x.anew = [] ∧ e.f = x.next)) → Q (.ref t) H'
theorem sc_Writer_next_piece : FnScope ["self", "piece", "first", "signs", "more"] ["self"] (defScope s_Writer_next_piece) := ⟨rfl, rfl, rfl, by decide +kernel, rfl, by decide +kernel, by decide +kernel⟩
theorem ok_Writer_next_piece (T : TX P w K mg base) : PR P w K mg base 2 (He.ma K (He.ga K "Writer") "next_piece") ["self"] (sp_Writer_next_piece K) := by
  have G_cut_at := ok_cut_at T
  refine T.prom d_Writer_next_piece (List.mem_of_getElem? (i := 37) (by rfl)) ⟨rfl, rfl⟩ sc_Writer_next_piece (fun vs H Q E h => ?_) (fun _ _ _ _ _ _ us hl => match us, hl with | [_], _ => rfl) (fun cdv A outer s H vs Q E hr h => ?_)
  · obtain ⟨_, rfl, _⟩ := h
    rfl
  · have hu := hu_of hr
    obtain ⟨x, rfl, hx, hb, k0, k1⟩ := h
    refine ⟨_, (pss_cons (ps_if (pt_cmpR (op_neNil hr.units) (pe_fld (pv 0) rfl) (pe_lst pa_nil) (nomark _))
        (pss_one (ps_par (i := 1) (j := 4) (by rfl) sc_Writer_next_piece.nd rfl rfl (by decide) rfl rfl (pa_cons (pe_ix ix_list (pe_fld (pv 0) rfl) pe_int (fun _ _ => rfl)) (pa_cons pe_bl pa_nil)) (by rfl)))
        (pss_cons (ps_set (i := 2) sc_Writer_next_piece.nd rfl (by first | exact Or.inl rfl | exact Or.inr rfl) (pe_fld (pv 0) rfl))
        (pss_cons (ps_set (i := 3) sc_Writer_next_piece.nd rfl (by first | exact Or.inl rfl | exact Or.inr rfl) (pe_slice sl_str (pe_fld (pv 0) rfl) (po_some (pv 2)) (po_some (pe_op op_add (pv 2) (pe_gint rfl T.c_PIECE)))))
        (pss_one (ps_asg (pe_ifExp (pt_cmpR op_ne (pv 3) pe_str (nomark _)) (pe_tup (pa_cons (pe_tup (pa_cons (pv 2) (pa_cons (pv 3) pa_nil))) (pa_cons pe_bl pa_nil))) (pe_tup (pa_cons pe_non (pa_cons pe_bl pa_nil)))) (pg_tup rfl (pgs_cons (pg_name (i := 1) sc_Writer_next_piece.nd rfl (by first | exact Or.inl rfl | exact Or.inr rfl)) (pgs_cons (pg_name (i := 4) sc_Writer_next_piece.nd rfl (by first | exact Or.inl rfl | exact Or.inr rfl)) pgs_nil))))))))
      (pss_cons (ps_if (pt_cmpR op_isN (pv 1) pe_non (nomark _))
        (pss_one (ps_ret pe_non))
        pss_nil)
      (pss_cons (ps_set (i := 1) sc_Writer_next_piece.nd rfl (by first | exact Or.inl rfl | exact Or.inr rfl) (pe_ix ix_tup (pe_callP G_cut_at (hr.mono (by decide)) rfl T.g_cut_at (pa_cons (pv 1) (pa_cons (pe_callB (call_min2 rfl) (by rfl) T.f_min (by decide +kernel) (pa_cons (pe_op op_add (pe_ix ix_tup (pv 1) pe_int (fun _ _ => rfl)) (pe_gint rfl T.c_PIECE)) (pa_cons (pe_fld (pv 0) rfl) pa_nil))) pa_nil))) pe_int (fun _ _ => rfl)))
      (pss_one (ps_ret (pe_ifExp (pt_cmpR op_isN (pv 1) pe_non (nomark _)) pe_non (pe_tup (pa_cons (pv 1) (pa_cons (pv 4) pa_nil))))))))), ?_⟩
    obtain ⟨dx, ho⟩ := hx.o
    refine ⟨_, rfl, _, _, _, _, _, rfl, ho, T.cl_Writer, T.n_Writer_own_anew, lkWriter_own_anew (x), line5 (by decide), fun nl hnl => ?_⟩
    have s1 : Same H (upd H nl (.lst [])) := Same.upd hnl
    have hx1 := hx.same s1
    have hn1 : SqL K (upd H nl (.lst [])) nl [] := SqL.of upd_same
    generalize (upd H nl (.lst [])) = H1 at s1 hx1 hn1 ⊢
    have ho1 := s1 _ _ ho
    refine ⟨x.la, nl, _, rfl, rfl, .inl ⟨SqL.of hx1.la, hn1⟩, Pc.flat hx1.an hb.lets, _, rfl, ?_⟩
    have hiso : (x.anew.map pv_).isEmpty = x.anew.isEmpty := by cases x.anew <;> rfl
    rw [hiso]
    cases hcase : x.anew with
    | nil =>
      refine iffF (by rfl) ?_
      refine ⟨_, rfl, _, _, _, _, _, rfl, ho1, T.cl_Writer, T.n_Writer_own_next, lkWriter_own_next (x), _, rfl, _, _, _, _, _, rfl, ho1, T.cl_Writer, T.n_Writer_own_signs, lkWriter_own_signs (x), _, rfl, _, rfl, _, rfl, _, _, rfl, rfl, _, rfl, _, rfl, line5 (by rw [S_len]; have := hb.W; omega), ?_⟩
      rw [show ((x.next : Int) + 8) = ((x.next + 8 : Nat) : Int) by omega, cut_both, show x.next + 8 - x.next = 8 by omega]
      by_cases hne : (x.W.drop x.next).take 8 = []
      · refine ⟨_, rfl, rfl, _, rfl, ?_⟩
        rw [hne]
        refine iffF (by decide +kernel) ⟨line5 (by show 2 ≤ _; decide), fun t ht => ?_⟩
        refine ⟨t, _, rfl, SqT.of upd_same, rfl, _, _, rfl, _, _, rfl, rfl, ?_⟩
        refine ⟨_, rfl, rfl, _, rfl, ift (by decide +kernel) ?_⟩
        exact k0 _ (s1.trans (Same.upd ht))
      · refine ⟨_, rfl, rfl, _, rfl, ?_⟩
        refine ift ?_ ?_
        · show (!decide (tx ((x.W.drop x.next).take 8) = tx [])) = true
          rw [tx_eq, decide_eq_false hne]
          rfl
        refine ⟨_, rfl, _, rfl, line5 (by show 2 ≤ _; decide), fun q hq => ⟨line5 (by show 2 ≤ _; decide), fun t ht => ?_⟩⟩
        have hnx : x.next ≤ x.W.length := by
          cases Nat.lt_or_ge x.W.length x.next with
          | inl z => exact absurd (by rw [List.drop_of_length_le (by omega)]; rfl) hne
          | inr z => exact z
        have hsub : Sub x.W x.next ((x.W.drop x.next).take 8) := Sub.of_take _ _ hnx
        have hl8 : ((x.W.drop x.next).take 8).length ≤ 8 := by rw [List.length_take]; omega
        generalize ((x.W.drop x.next).take 8) = l at hsub hl8 ht ⊢
        have hq2 : (upd (upd H1 q (.tup [.int x.next, tx l])) t (.tup [.ref q, .bl false])) q = some (.tup [.int x.next, tx l]) := by rw [upd_ne (ne_of_none upd_same ht)]; exact upd_same
        have s2 : Same H (upd (upd H1 q (.tup [.int x.next, tx l])) t (.tup [.ref q, .bl false])) := (s1.trans (Same.upd hq)).trans (Same.upd ht)
        have ht2 : (upd (upd H1 q (.tup [.int x.next, tx l])) t (.tup [.ref q, .bl false])) t = some (.tup [.ref q, .bl false]) := upd_same
        generalize (upd (upd H1 q (.tup [.int x.next, tx l])) t (.tup [.ref q, .bl false])) = H2 at s2 hq2 ht2 ⊢
        refine ⟨t, _, rfl, SqT.of ht2, rfl, _, _, rfl, _, _, rfl, rfl, ?_⟩
        refine ⟨_, rfl, rfl, _, rfl, iffF (by rfl) ?_⟩
        have ho2 := s2 _ _ ho
        refine ⟨_, rfl, _, rfl, q, _, 0, .int x.next, rfl, rfl, SqT.of hq2, rfl, _, _, rfl, rfl, _, rfl, _, _, _, _, _, rfl, ho2, T.cl_Writer, T.n_Writer_own_limit, lkWriter_own_limit (x), _, _, rfl, q, _, x.next, l, rfl, SqT.of hq2, by omega, fun p H3 va vb s3 hp0 hp3 hA hB => ?_⟩
        obtain ⟨qo, rfl, hqo⟩ := cutA_pc hA hsub
        refine ⟨p, _, 0, oP qo, rfl, rfl, SqT.of hp3, rfl, ?_⟩
        refine ⟨_, rfl, rfl, _, rfl, ?_⟩
        cases qo with
        | none => exact ift (by rfl) (k0 _ (s2.trans s3))
        | some e =>
          obtain ⟨g1, g2, g3, g4, g5⟩ := hqo e rfl
          refine iffF (by rfl) ⟨_, rfl, _, rfl, line5 (by show 2 ≤ _; decide), fun t2 ht2 => ?_⟩
          refine k1 t2 e false _ ((s2.trans s3).trans (Same.upd ht2)) upd_same (g1.same (Same.upd ht2)) g3 (by omega) ?_ (.inr ⟨rfl, hcase, g2⟩)
          rw [g2]
          split at g4 <;> omega
    | cons e0 rest =>
      refine ift (by rfl) ?_
      have hp := hx1.an e0 (by rw [hcase]; simp)
      have hl0 : e0.l.length ≤ 100000 := by have := hp.2.1; have := hb.W; omega
      have hat : atI (x.anew.map pv_) ((0 : Nat) : Int) = some (.ref e0.a) := atI_nat (by rw [hcase]; rfl)
      refine ⟨_, rfl, _, _, _, _, _, rfl, ho1, T.cl_Writer, T.n_Writer_own_anew, lkWriter_own_anew (x), x.la, _, 0, .ref e0.a, rfl, rfl, SqL.of hx1.la, hat, _, _, rfl, ?_⟩
      refine ⟨_, rfl, rfl, _, rfl, iffF (by rfl) ?_⟩
      refine ⟨_, rfl, _, rfl, e0.a, _, 0, .int e0.f, rfl, rfl, SqT.of hp.1, rfl, _, _, rfl, rfl, _, rfl, _, _, _, _, _, rfl, ho1, T.cl_Writer, T.n_Writer_own_limit, lkWriter_own_limit (x), _, _, rfl, e0.a, _, e0.f, e0.l, rfl, SqT.of hp.1, hl0, fun p H3 va vb s3 hp0 hp3 hA hB => ?_⟩
      obtain ⟨qo, rfl, hqo⟩ := cutA_pc hA hp.2
      refine ⟨p, _, 0, oP qo, rfl, rfl, SqT.of hp3, rfl, ?_⟩
      refine ⟨_, rfl, rfl, _, rfl, ?_⟩
      cases qo with
      | none => exact ift (by rfl) (k0 _ (s1.trans s3))
      | some e =>
        obtain ⟨g1, g2, g3, g4, g5⟩ := hqo e rfl
        refine iffF (by rfl) ⟨_, rfl, _, rfl, line5 (by show 2 ≤ _; decide), fun t2 ht2 => ?_⟩
        refine k1 t2 e true _ ((s1.trans s3).trans (Same.upd ht2)) upd_same (g1.same (Same.upd ht2)) g3 ?_ ?_ (.inl ⟨rfl, e0, rest, hcase, g2⟩)
        · split at g4 <;> omega
        · rw [g2]
          split at g4 <;> omega
end

/-! ### Writer: usable */ -/
def isUp (d : Rw) : Bool := decide (d.st = "up")
theorem usK_none {us : List Us} {n : List Nat} (h : ∀ u ∈ us, u.d.name ≠ n) : valV (usK us) (.inr (S n)) = none := by
  cases e : valV (usK us) (.inr (S n)) with
  | none => rfl
  | some v =>
    have h1 := valV_in e
    unfold usK at h1
    rw [List.map_map] at h1
    obtain ⟨u, hu, ez⟩ := List.mem_map.mp h1
    exact absurd (S_inj (Sum.inr.inj ez)) (h u hu)
theorem split_at {α : Type} {xs : List α} {i : Nat} (h : i < xs.length) : xs = xs.take i ++ xs[i] :: xs.drop (i + 1) := by
  rw [← List.drop_eq_getElem_cons h, List.take_append_drop]
theorem WrB.before {x : Wr} (h : WrB x) {i : Nat} (hi : i < x.roads.length) : ∀ d ∈ x.roads.take i, d.name ≠ (x.roads[i]).name := by
  have nd := h.nd
  rw [split_at hi, List.map_append, List.map_cons] at nd
  obtain ⟨_, _, h3⟩ := List.nodup_append.mp nd
  exact fun d hd => h3 _ (List.mem_map.mpr ⟨d, hd, rfl⟩) _ List.mem_cons_self
section
variable {P : Program} {w : World} {K : PySem.W.Frag} {mg : Str → Option Value} {base : Heap}
def sp_Writer_usable (K : PySem.W.Frag) : Sp := fun vs H Q _ => ∃ x : Wr, vs = [.ref x.p] ∧ WrH K H x ∧ WrB x ∧
  ∀ (r : Addr) (us : List Us) (H' : Hp), Same H H' → H r = none → H' r = some (.dK (usK us)) → us.map Us.d = x.roads.filter isUp → (∀ u ∈ us, H' u.t = some (.tup [.int (u.d.laid - u.d.sure), .bl u.d.spare, .bl u.b])) → Q (.ref r) H'
theorem sc_Writer_usable : FnScope ["self", "found", "name", "road"] ["self"] (defScope s_Writer_usable) := ⟨rfl, rfl, rfl, by decide +kernel, rfl, by decide +kernel, by decide +kernel⟩
theorem ok_Writer_usable (T : TX P w K mg base) : PR P w K mg base 2 (He.ma K (He.ga K "Writer") "usable") ["self"] (sp_Writer_usable K) := by
  have G_Way_is_still := ok_Way_is_still T
  have G_Way_unsure := ok_Way_unsure T
  refine T.prom d_Writer_usable (List.mem_of_getElem? (i := 38) (by rfl)) ⟨rfl, rfl⟩ sc_Writer_usable (fun vs H Q E h => ?_) (fun _ _ _ _ _ _ us hl => match us, hl with | [_], _ => rfl) (fun cdv A outer s H vs Q E hr h => ?_)
  · obtain ⟨_, rfl, _⟩ := h
    rfl
  · have hu := hu_of hr
    obtain ⟨x, rfl, hx, hb, k⟩ := h
    refine ⟨_, (pss_cons (ps_set (i := 1) sc_Writer_usable.nd rfl (by first | exact Or.inl rfl | exact Or.inr rfl) pe_dnewK)
      (pss_cons (ps_lock (ps_for PassesOwn.never rfl (pi_items (pe_fld (pv 0) rfl)) (pg_tup rfl (pgs_cons (pg_name (i := 2) sc_Writer_usable.nd rfl (by first | exact Or.inl rfl | exact Or.inr rfl)) (pgs_cons (pg_name (i := 3) sc_Writer_usable.nd rfl (by first | exact Or.inl rfl | exact Or.inr rfl)) pgs_nil)))
        (pss_one (ps_if (pt_cmpR op_eq (pe_fld (pv 3) rfl) pe_str (nomark _))
          (pss_one (ps_dput hu (pv 1) (pv 2) (pe_tup (pa_cons (pe_methP0 (pe_fld (pv 3) rfl) T.cl_Way T.m_Way_unsure G_Way_unsure (hr.mono (by decide))) (pa_cons (pe_fld (pv 3) rfl) (pa_cons (pe_methP0 (pe_fld (pv 3) rfl) T.cl_Way T.m_Way_is_still G_Way_is_still (hr.mono (by decide))) pa_nil)))) rfl))
          pss_nil))))
      (pss_one (ps_ret (pv 1))))), ?_⟩
    obtain ⟨dx, ho⟩ := hx.o
    refine fun r hr => ?_
    have s1 : Same H (upd H r (.dK [])) := Same.upd hr
    have hx1 := hx.same s1
    have hrd : x.dr ≠ r := ne_of_none hx.dr hr
    have hr1 : (upd H r (.dK [])) r = some (.dK []) := upd_same
    have hnr : ∀ c ∈ [r], c ∉ x.la :: foot x := by
      intro c hc z
      rw [List.mem_singleton.mp hc] at z
      rcases List.mem_cons.mp z with z | z
      · rw [z, hx.la] at hr; cases hr
      · exact not_foot hx hr z
    refine ⟨x.dr, _, hx1.dr, trivial, fun od => ?_⟩
    have fL : Fr [x.dr] (upd H r (.dK [])) (upd (upd H r (.dK [])) x.dr (.frz od (.dK (rdK x.roads)))) := Fr.putD (by simp) hx1.dr
    have hL := hx1.toWrR.lock fL
    have hdL : (upd (upd H r (.dK [])) x.dr (.frz od (.dK (rdK x.roads)))) x.dr = some (.frz od (.dK (rdK x.roads))) := upd_same
    have hrL : (upd (upd H r (.dK [])) x.dr (.frz od (.dK (rdK x.roads)))) r = some (.dK []) := by rw [upd_ne hrd.symm]; exact hr1
    have sL : ∀ b o, b ≠ x.dr → H b = some o → (upd (upd H r (.dK [])) x.dr (.frz od (.dK (rdK x.roads)))) b = some o := fun b o hb e => by rw [upd_ne hb]; exact s1 b o e
    generalize (upd (upd H r (.dK [])) x.dr (.frz od (.dK (rdK x.roads)))) = HL at fL hL hdL hrL sL ⊢
    obtain ⟨dxL, hoL⟩ := hL.o
    refine ⟨_, rfl, _, _, _, _, _, rfl, hoL, T.cl_Writer, T.n_Writer_own_roads, lkWriter_own_roads (x), x.dr, od, rdK x.roads, rfl, hdL, for_by (n := x.roads.length) (fun i σ H2 => ∃ x2 x3 us, σ = [some (.ref x.p), some (.ref r), x2, x3] ∧ Fr [r] HL H2 ∧ H2 r = some (.dK (usK us)) ∧ us.map Us.d = (x.roads.take i).filter isUp ∧ ∀ u ∈ us, H2 u.t = some (.tup [.int (u.d.laid - u.d.sure), .bl u.d.spare, .bl u.b])) (fun i σ H2 h hi => ?_) (fun σ H2 h => ?_) ⟨none, none, [], rfl, Fr.refl _ _, hrL, rfl, by intro u hu; cases hu⟩ ?_ ?_⟩
    · obtain ⟨_, _, _, _, f, _⟩ := h
      exact ⟨f.at (by simpa using hrd) hdL, by unfold rdK; rw [List.length_map]; exact hi⟩
    · obtain ⟨_, _, _, _, f, _⟩ := h
      exact ⟨f.at (by simpa using hrd) hdL, by unfold rdK; rw [List.length_map]; exact Nat.le_refl _⟩
    · rintro i y σ H2 H3 hi ⟨x2, x3, us, rfl, f2, hr2, hus, hut⟩ ⟨T2, ky, vy, ek, rfl, hT, rfl⟩
      unfold rdK at ek
      rw [List.getElem?_map, List.getElem?_eq_getElem hi] at ek
      obtain ⟨rfl, rfl⟩ := Prod.mk.inj (Option.some.inj ek)
      have hd : x.roads[i] ∈ x.roads := List.getElem_mem hi
      have hnm := hb.before hi
      have hst : x.roads.take (i + 1) = x.roads.take i ++ [x.roads[i]] := List.take_succ_eq_append_getElem hi
      generalize x.roads[i] = d at hd hnm hst hT ⊢
      have f3 : Fr [r] HL (upd H2 T2 (.tup [kV (.inr (S d.name)), .ref d.r])) := f2.new hT
      have hR3 := hL.fr f3 hnr
      have hr3 : (upd H2 T2 (.tup [kV (.inr (S d.name)), .ref d.r])) r = some (.dK (usK us)) := by rw [upd_ne (ne_of_none hr2 hT)]; exact hr2
      have ht3 : (upd H2 T2 (.tup [kV (.inr (S d.name)), .ref d.r])) T2 = some (.tup [.str (S d.name), .ref d.r]) := upd_same
      have hut3 : ∀ u ∈ us, (upd H2 T2 (.tup [kV (.inr (S d.name)), .ref d.r])) u.t = some (.tup [.int (u.d.laid - u.d.sure), .bl u.d.spare, .bl u.b]) := fun u hu => Same.upd hT _ _ (hut u hu)
      generalize (upd H2 T2 (.tup [kV (.inr (S d.name)), .ref d.r])) = H3 at f3 hR3 hr3 ht3 hut3 ⊢
      have hrd3 := hR3.rd d hd
      obtain ⟨dy, hrr⟩ := hrd3.r
      obtain ⟨dw, hwo⟩ := hrd3.w.o
      refine ⟨T2, _, rfl, SqT.of ht3, rfl, _, _, rfl, _, _, rfl, rfl, ?_⟩
      refine ⟨_, rfl, _, _, _, _, _, rfl, hrr, T.cl_Road, T.n_Road_own_state, lkRoad_own_state (d), rfl, _, rfl, ?_⟩
      have hlen : us.length ≤ i := by
        have e := congrArg List.length hus
        rw [List.length_map] at e
        have := List.length_filter_le isUp (x.roads.take i)
        rw [List.length_take] at this
        omega
      by_cases hup : d.st = "up"
      · refine ift (decide_eq_true (by rw [hup])) ?_
        refine ⟨_, rfl, _, _, _, _, _, rfl, hrr, T.cl_Road, T.n_Road_own_way, lkRoad_own_way (d), _, _, _, rfl, hwo, noWay_unsure d, d, rfl, hrd3.w, _, rfl, _, _, _, _, _, rfl, hrr, T.cl_Road, T.n_Road_own_spare, lkRoad_own_spare (d), _, rfl, _, _, _, _, _, rfl, hrr, T.cl_Road, T.n_Road_own_way, lkRoad_own_way (d), _, _, _, rfl, hwo, noWay_is_still d, d, rfl, hrd3.w, fun bst => ⟨line5 (by show 3 ≤ _; decide), fun z hz => ?_⟩⟩
        have hr4 : (upd H3 z (.tup [.int (d.laid - d.sure), .bl d.spare, .bl bst])) r = some (.dK (usK us)) := by rw [upd_ne (ne_of_none hr3 hz)]; exact hr3
        refine ⟨_, rfl, _, rfl, r, _, rfl, .k (k := .inr (S d.name)) hr4 (by unfold usK; rw [List.length_map]; have := hb.few; exact line5' (by omega)), ?_⟩
        have eput : putK (usK us) (.inr (S d.name)) (.ref z) = usK (us ++ [⟨d, z, bst⟩]) := by
          rw [putK_new _ (usK_none fun u hu => hnm _ ((List.mem_filter (p := isUp)).mp (by rw [← hus]; exact List.mem_map.mpr ⟨u, hu, rfl⟩)).1)]
          unfold usK
          rw [List.map_append]
          rfl
        rw [eput]
        have f4 : Fr [r] HL (upd H3 z (.tup [.int (d.laid - d.sure), .bl d.spare, .bl bst])) := f3.new hz
        refine ⟨_, _, us ++ [⟨d, z, bst⟩], rfl, f4.trans (Fr.putD (by simp) hr4), upd_same, ?_, fun u hu => ?_⟩
        · rw [hst, List.filter_append, List.map_append, hus]
          have : isUp d = true := decide_eq_true hup
          simp [this]
        · have g : (upd H3 z (.tup [.int (d.laid - d.sure), .bl d.spare, .bl bst])) u.t = some (.tup [.int (u.d.laid - u.d.sure), .bl u.d.spare, .bl u.b]) := by
            rcases List.mem_append.mp hu with hu | hu
            · exact Same.upd hz _ _ (hut3 u hu)
            · rw [List.mem_singleton.mp hu]
              exact upd_same
          rw [upd_ne (ne_of g hr4 (fun z => nomatch z))]
          exact g
      · refine iffF (decide_eq_false fun z => hup (V.str.inj z)) ⟨_, _, us, rfl, f3, hr3, ?_, hut3⟩
        rw [hst, List.filter_append, hus]
        have : isUp d = false := decide_eq_false hup
        simp [this]
    · rintro σ H2 ⟨x2, x3, us, rfl, f2, hr2, hus, hut⟩
      rw [List.take_length] at hus
      refine ⟨f2.at (by simpa using hrd) hdL, _, rfl, k r us _ (fun b o e => ?_) hr (by rw [upd_ne hrd.symm]; exact hr2) hus fun u hu => ?_⟩
      · by_cases z : b = x.dr
        · subst z
          rw [hx.dr] at e
          rw [upd_same]
          exact e
        · rw [upd_ne z]
          exact f2.at (fun y => by rw [List.mem_singleton.mp y, hr] at e; cases e) (sL b o z e)
      · have hd2 := f2.at (by simpa using hrd) hdL
        rw [upd_ne (ne_of (hut u hu) hd2 (fun z => nomatch z))]
        exact hut u hu
end

/-! ### a lambda with one parameter: made, called -/
section
variable {X : Cx} {pins : List (Addr × Obj)} {σ : L2.St} {H : Hp} {s : Shared}
/-- made: the one table is written, or not -/
theorem lam_make3 {c T0 : Addr} {q : Str} {params : Arguments} {body : Expr} {scope : Scope} {pos : Pos} {E : Value → Shared → Prop} {Q : Value → Shared → Prop} (I : Inv X pins σ H s) (TB : LamX.TabB X.base X.mg c T0) (hcode : X.env.code = .ref c)
    (hq : X.env.qual ++ "<lambda>" = q) (hT : LamX.TabS H T0 q) (hdef : defaultsOf params X.env = ([], [])) (hfree : ∀ y ∈ scope.names, y.2 = .free → ∃ c, X.env.cells.lookup y.1 = some c)
    (h : ∀ (f k : Addr) (pm ctv : Value) (H1 : Hp) (s1 : Shared), Inv X pins σ H1 s1 → Fr [T0] H H1 → LamX.TabS H1 T0 q →
      s1.heap.get? f = some (PySem.W.kla_obj "<lambda>" q params body scope (cloFrom X.env.cells scope.names []) pm k ctv) → H1 f = none → f ∉ frs X.stack → H1 k = some (LamX.CodeO k q) → Q (.ref f) s1) :
    wpAny (model X.prog X.w) X.A (eval (.Lambda params body scope pos) X.env) Q E s := by
  subst hq
  obtain ⟨ps, hP, tri, known⟩ := hT
  have bT := TB.bm.keeps I.bk
  have hT0 : s.heap.get? T0 = some { cls := .none, data := .fields ps } := I.hok T0 _ hP
  have far : ∀ f, s.heap.objs.size ≤ f → f ∉ frs X.stack := by
    intro f hf hin
    rcases List.mem_cons.mp (I.stkSub _ hin) with e | e
    · have := I.lt
      rw [← e] at this
      exact absurd (Nat.lt_of_lt_of_le this hf) (Nat.lt_irrefl _)
    · exact I.nofs hf e
  refine PySem.W.kla_eval hdef ?_
  rcases hc : codeAmong pos ps.toList with _ | cv
  · refine PySem.W.kla_makeFunction (mg := X.mg) (c := c) (P := T0) (ps := ps) (closure_ok hfree) I.ok.glob (I.mod.glob.keeps I.bk) hcode (TB.code.keeps I.bk) hT0 tri hc TB.gP bT fun k ctv h' tk ext big lt rec_ tab => ?_
    obtain ⟨k2, oc, vs, t, e2, a1, a2, a3⟩ := rec_
    obtain rfl : k = k2 := by cases e2; rfl
    have nK : H k = none := I.hok.fresh big
    have hsz : s.heap.objs.size ≤ h'.objs.size := Nat.le_trans big (Nat.le_of_lt lt)
    have I1 := LamX.inv_table (t' := tk) (more := #[rawInt pos.line, rawInt pos.col, .ref k]) (h' := h'.push (PySem.W.kla_obj "<lambda>" (X.env.qual ++ "<lambda>") params body scope (cloFrom X.env.cells scope.names []) ((X.mg "__name__").getD .none) k ctv)) I hP
      (fun b o hb e => Heap.get?_push_of_some _ (ext b o hb e)) (Heap.get?_push_of_some _ tab) big ⟨oc, vs, t, Heap.get?_push_of_some _ a1, a2, a3⟩
    have el : (ps ++ #[rawInt pos.line, rawInt pos.col, .ref k]).toList = ps.toList ++ [rawInt pos.line, rawInt pos.col, .ref k] := by simp
    have fr : Fr [T0] H (upd (upd H T0 (.tbl (ps ++ #[rawInt pos.line, rawInt pos.col, .ref k]))) k (LamX.CodeO k (X.env.qual ++ "<lambda>"))) := by
      intro b o hb e
      rw [upd_ne (ne_of_none e nK)]
      by_cases z : b = T0
      · subst z
        rw [hP] at e
        obtain rfl := Option.some.inj e
        rcases hb with hb | hb
        · exact absurd (by simp) hb
        · exact hb.elim
      · rw [upd_ne z]
        exact e
    refine h h'.objs.size k ((X.mg "__name__").getD .none) ctv _ _ I1 fr ?_ (Heap.get?_push_size _ rfl) ?_ (far _ hsz) upd_same
    · refine ⟨_, by rw [upd_ne (ne_of_none hP nK), upd_same], by rw [el]; exact PySem.TriplesOk_snoc _ _ _ _ tri, fun pos2 cv2 hcv => ?_⟩
      rw [el] at hcv
      rcases LamX.among_app _ tri hcv with z | z
      · obtain ⟨c0, e1, e2⟩ := known pos2 cv2 z
        exact ⟨c0, e1, fr c0 _ (.inr True.intro) e2⟩
      · exact ⟨k, z, upd_same⟩
    · rw [upd_ne (Nat.ne_of_gt lt), upd_ne (Nat.ne_of_gt (Nat.lt_of_lt_of_le (Heap.lt_size hT0) hsz))]
      exact I.hok.fresh hsz
  · obtain ⟨k, rfl, hco⟩ := known pos cv hc
    refine PySem.W.kla_makeFunctionHit (mg := X.mg) (c := c) (P := T0) (ps := ps) (closure_ok hfree) I.ok.glob (I.mod.glob.keeps I.bk) hcode (TB.code.keeps I.bk) hT0 tri hc bT fun ctv h' tk ext hsz => ?_
    have I1 : Inv X pins σ H { s with heap := h'.push (PySem.W.kla_obj "<lambda>" (X.env.qual ++ "<lambda>") params body scope (cloFrom X.env.cells scope.names []) ((X.mg "__name__").getD .none) k ctv), toks := tk } := I.kept fun b o e => Heap.get?_push_of_some _ (ext b o e)
    exact h h'.objs.size k ((X.mg "__name__").getD .none) ctv H _ I1 (Fr.refl _ _) ⟨ps, hP, tri, known⟩ (Heap.get?_push_size _ rfl) (I.hok.fresh hsz) (far _ hsz) hco
/-- the body's context: one captured name, one parameter -/
def lamY (X : Cx) (s : Shared) (H : Hp) (cn pn : Str) (q : Str) (scope : Scope) (f k : Addr) : Cx where
  prog := X.prog
  w := X.w
  K := X.K
  mg := X.mg
  base := X.base
  A := X.A.in1.deeper (PySem.W.envX q scope s.heap.objs.size f (.ref k) (cloFrom X.env.cells scope.names []))
  N := [cn, pn]
  s_0 := s
  H_0 := H
  env := PySem.W.envX q scope s.heap.objs.size f (.ref k) (cloFrom X.env.cells scope.names [])
  outer := X.stack
  stack := PySem.W.envX q scope s.heap.objs.size f (.ref k) (cloFrom X.env.cells scope.names []) :: X.stack
  ex := []
  fn := fun _ => false
  calm := true
  pn := []
  xe := fun _ _ => False
theorem lam_in {cn pn q : Str} {scope : Scope} {f k : Addr} {h1 : Heap} {tk i : Nat} {v : Value} {xr xv : V} (I : Inv X pins σ H s) (hd : X.A.handled = none) (hk : scope.kind = .function) (hpn : scope.names.lookup pn = some .local) (hcn : scope.names.lookup cn = some .free)
    (nc : ∀ y ∈ scope.names, y.2 ≠ .cell) (hfree : ∀ y ∈ scope.names, y.2 = .free → ∃ c, X.env.cells.lookup y.1 = some c) (hcl : X.env.scope.names.lookup cn = some .cell ∨ X.env.scope.names.lookup cn = some .free) (hN : X.N[i]? = some cn) (hs : σ[i]? = some (some xr))
    (hns : h1.Ns s.heap.objs.size fun y => ([(pn, v)] : List (Str × Value)).reverse.lookup y) (kp : ∀ b o, s.heap.get? b = some o → h1.get? b = some o) (rv : RelV xv v) :
    Inv (lamY X s H cn pn q scope f k) [] [some xr, some xv] H { s with heap := h1, toks := tk } := by
  have e0 := I.env0
  have back : ∀ {y c}, (cloFrom X.env.cells scope.names []).lookup y = some c → X.env.cells.lookup y = some c := by
    intro y c e
    rcases cloFrom_mem (PySem.mem_of_lookup e) with hm | ⟨h1, h2⟩
    · cases hm
    · obtain ⟨c1, hc⟩ := hfree _ h1 rfl
      have hc : X.env.cells.lookup y = some c1 := hc
      have e2 : c = c1 := by
        rw [h2, hc] <;> rfl
      rw [e2]
      exact hc
  have fwd : ∀ {y}, scope.names.lookup y = some .free → ∃ c, (cloFrom X.env.cells scope.names []).lookup y = some c := fun {y} hl => by
    have hy : (y, NameKind.free) ∈ scope.names := PySem.mem_of_lookup hl
    exact mem_lookup (cloFrom_has (cells := X.env.cells) (acc := []) hy)
  have none_ : ∀ b : Addr, b ∉ (lamY X s H cn pn q scope f k).ex := fun b z => absurd (show b ∈ ([] : List Addr) from z) (by simp)
  have cellK : ∀ {c : Addr} {u : Option Value}, s.heap.IsCell c u → h1.IsCell c u := fun {c u} ⟨o, ho, hd⟩ => ⟨o, kp _ _ ho, hd⟩
  refine ⟨⟨e0.mod, hk, rfl, rfl, Nat.le_refl _, fun y z c e1 e2 => I.ok.inj y z c (back e1) (back e2), fun y hy => ?_, fun y c z _ => (by cases (show false = true from z)), fun _ => hd, Around.frames_deeper e0.frames, .inr ⟨rfl, rfl⟩, fun b z => absurd z (none_ b), e0.bs, e0.bsz, fun b _ _ => none_ b,
      fun b z => absurd z (none_ b), e0.funs, e0.frf⟩,
    rfl, e0.bare, Un.kept kp, ⟨_, hns, fun j y u e1 e2 e3 => ?_⟩, fun y c e => ?_, e0.hok.fresh (Nat.le_refl _), fun y c e => I.freeC y c (back e), fun p hp => absurd (show p ∈ ([] : List (Addr × Obj)) ++ [] from hp) (by simp), e0.hok.kept kp, rfl⟩
  · have hy : scope.names.lookup y = some .cell ∨ scope.names.lookup y = some .free := hy
    rcases hy with hy | hy
    · exact absurd rfl (nc _ (PySem.mem_of_lookup hy))
    · exact fwd hy
  · match j, e1, e2 with
    | 0, e1, e2 =>
      obtain rfl : cn = y := Option.some.inj e1
      obtain rfl : xr = u := Option.some.inj (Option.some.inj e2)
      obtain ⟨m, hn, hl⟩ := I.loc
      obtain ⟨w', r, q⟩ := hl i cn xr hN hs (.inr hcl)
      obtain ⟨c2, h2⟩ := fwd hcn
      refine ⟨w', r, .inr ⟨.inr hcn, c2, h2, ?_⟩⟩
      have c1 := back h2
      rcases q with ⟨k', _⟩ | ⟨_, c3, e', z⟩
      · have k' : X.env.scope.names.lookup cn = some .local := k'
        rcases hcl with k2 | k2 <;> rw [k2] at k' <;> cases k'
      · rw [c1] at e'
        cases e'
        exact cellK z
    | 1, e1, e2 =>
      obtain rfl : pn = y := Option.some.inj e1
      obtain rfl : xv = u := Option.some.inj (Option.some.inj e2)
      refine ⟨v, rv, .inl ⟨hpn, ?_⟩⟩
      show List.lookup pn [(pn, v)] = some v
      simp [List.lookup]
    | j + 2, e1, e2 => cases e1
  · obtain ⟨w', z⟩ := I.cell y c (back e)
    exact ⟨w', cellK z⟩
/-- called from a builtin -/
theorem lam_call1 {cn pn q : Str} {params : Arguments} {body : Expr} {scope : Scope} {f k : Addr} {pm ctv v : Value} {i n : Nat} {xr xv : V} {tb : TE} {Q : VK} (I : Inv X pins σ H s) (hr : Room (n + 1) X.A.in1) (hk : scope.kind = .function) (hco : scope.isCoroutine = false) (hge : scope.isGenerator = false) (hpn : scope.names.lookup pn = some .local) (hcn : scope.names.lookup cn = some .free)
    (nc : ∀ y ∈ scope.names, y.2 ≠ .cell) (hfree : ∀ y ∈ scope.names, y.2 = .free → ∃ c, X.env.cells.lookup y.1 = some c) (hcl : X.env.scope.names.lookup cn = some .cell ∨ X.env.scope.names.lookup cn = some .free) (hN : X.N[i]? = some cn) (hs : σ[i]? = some (some xr))
    (hf : s.heap.get? f = some (PySem.W.kla_obj "<lambda>" q params body scope (cloFrom X.env.cells scope.names []) pm k ctv)) (hc : H k = some (LamX.CodeO k q)) (rv : RelV xv v)
    (hbind : ∀ v, bindArgs (PySem.W.kla_fn "<lambda>" q params body scope (cloFrom X.env.cells scope.names []) pm (.ref k) ctv) ⟨[v], []⟩ = pure [(pn, v)])
    (hb : ∀ (s : Shared) (H : Hp), Room n (X.A.in1.deeper (PySem.W.envX q scope s.heap.objs.size f (.ref k) (cloFrom X.env.cells scope.names []))) → PE (lamY X s H cn pn q scope f k) body tb) (h : tb [some xr, some xv] H Q) :
    wpAny (model X.prog X.w) X.A.in1 (call (.ref f) [v]) (fun u s' => ∃ x' H', Inv X pins σ H' s' ∧ Un (frs X.stack) [] H H' s.heap s'.heap ∧ RelV x' u ∧ Q x' H') (fun _ _ => False) s := by
  obtain ⟨⟨oc, vs, t, hoc, hdc, hvc⟩, _, _⟩ := I.hok k _ hc
  have rc : codeAny (model X.prog X.w) X.A.in1 (.call (.ref f) ⟨[v], []⟩) (fun r s' => match r with | .ok (.ret u) => CE X.stack X.prog X.w H s Q u s' | _ => False) s := by
    refine PySem.W.kla_callFunE hr.depth hf rfl hco hge rfl ⟨k, oc, vs, t, rfl, hoc, hdc, hvc⟩ ?_
    rw [hbind]
    refine wpAny_pure (wpAny_newFunctionEnv nc (fun y hy => by rw [List.mem_singleton.mp hy]; exact hpn) (fun h1 hns hsb => ⟨I.nolimit.fresh _ hsb, ?_⟩) hk)
    show codeAny _ _ (.expr body (PySem.W.envX q scope s.heap.objs.size f (.ref k) (cloFrom X.env.cells scope.names []))) _ _
    have kp : ∀ b o, s.heap.get? b = some o → h1.get? b = some o := fun b o e => hsb.extBut b o (Nat.ne_of_lt (Heap.lt_size e)) (Heap.get?_push_of_some _ e)
    have J := lam_in (tk := s.toks + ([(pn, v)] : List (Str × Value)).length) (q := q) (f := f) (k := k) I hr.hd hk hpn hcn nc hfree hcl hN hs hns kp rv
    refine PySem.W.kla_codeExpr (wpAny_mono ((hb s H (hr.deeper _)).run [] _ _ H Q J h) (fun u s' hq => ?_) fun e s' hq => hq.elim)
    obtain ⟨x', H', J', r, q2⟩ := hq
    exact ⟨x', H', J'.os, J'.bare, J'.base, J'.hok, r, q2⟩
  refine wpAny_call (codeAny_mono rc fun r s' hq => ?_)
  match r, hq with
  | .ok (.ret u), hq =>
    obtain ⟨x', H', os, bare, un, hok, r2, q2⟩ := hq
    obtain ⟨hh, g, d, t2, os'⟩ := s'
    obtain rfl : os' = s.os := os
    exact ⟨x', H', I.call (h' := hh) (g' := g) (d' := d) (t' := t2) (ch := []) un hok bare (fun b z => absurd z (by simp)), un, r2, q2⟩
end

/-! ### min by a key that gives a pair: number, text -/
section
variable {X : Cx} {pins : List (Addr × Obj)} {σ : L2.St} {H : Hp} {s : Shared}
theorem rcLt_key {A : Around} {a b : Addr} {m m2 : Int} {y y2 : Str} (I : Inv X pins σ H s) (hu : A.units < cLine) (h1 : H a = some (.tup [.int m, .str y])) (h2 : H b = some (.tup [.int m2, .str y2])) : ∃ r, Ob.RcOp .Lt A s (.ref a) (.ref b) r := by
  obtain ⟨its, r1, p1, _⟩ := I.tuple (.inl (.inl h1))
  obtain ⟨its2, r2, p2, _⟩ := I.tuple (.inl (.inl h2))
  obtain ⟨u1, u2, rfl, e1, e2⟩ := vals2 r1
  obtain ⟨v1, v2, rfl, f1, f2⟩ := vals2 r2
  obtain ⟨t1, rfl⟩ := e1
  obtain ⟨t2, rfl⟩ := e2
  obtain ⟨t3, rfl⟩ := f1
  obtain ⟨t4, rfl⟩ := f2
  refine ⟨_, Ob.RcOp.tuples_lt (A := A) (s := s) (e := fun j => if j = 0 then (m == m2) else (y == y2)) (r := fun j => if j = 0 then decide (m < m2) else decide (y.cps.toList < y2.cps.toList)) p1 p2 hu (fun j h1 h2 => ?_) (fun j h1 h2 _ => ?_)⟩
  · match j, h1 with
    | 0, _ => exact SeqAt.EqAt.int_int _ _ _ _
    | 1, _ => exact SeqAt.EqAt.str_str _ _ _ _
    | j + 2, h => exact absurd h (by simp)
  · match j, h1 with
    | 0, _ => exact Ob.RcOp.lt_int _ _ _ _
    | 1, _ => exact fun prog w E Q h => (PyProof.Rows.lt_str h : wpAny (model prog w) A.in1 (compareOp .Lt (.str y t2) (.str y2 t4)) Q E s)
    | j + 2, h => exact absurd h (by simp)
theorem fp_to {H' : Hp} {b : Addr} (h : FpOk X pins H b) (n : H' b = none) : FpOk X pins H' b := ⟨n, h.2⟩
theorem fp_far {b : Addr} (I : Inv X pins σ H s) (h : FpOk X pins H b) : b ∉ frs X.stack := fun hin => by
  rcases List.mem_cons.mp (I.stkSub _ hin) with e | e
  · exact h.2.1 e
  · exact h.2.2.1 e
/-- what the key gives, and what a turn keeps -/
def KeyF (X : Cx) (pins : List (Addr × Obj)) (σ : L2.St) (f : Addr) (fo : Obj) (names : List Str) (P : Hp → Prop) : Prop :=
  ∀ (n : Str) (v : Value) (H : Hp) (s : Shared), n ∈ names → Inv X pins σ H s → P H → s.heap.get? f = some fo → RelV (.str n) v →
    wpAny (model X.prog X.w) X.A.in1 (call (.ref f) [v]) (fun u s' => ∃ x' H', Inv X pins σ H' s' ∧ Un (frs X.stack) [] H H' s.heap s'.heap ∧ RelV x' u ∧ P H' ∧ ∃ p m y, x' = .ref p ∧ H' p = some (.tup [.int m, .str y])) (fun _ _ => False) s
section
variable {l it S f : Addr} {fo : Obj} {names : List Str} {P : Hp → Prop} {R : Result → Shared → Prop}
theorem list_at (I : Inv X pins σ H s) (hl : H l = some (.lst (names.map V.str))) : ∃ its : List Value, s.heap.IsList l its.toArray ∧ its.length = names.length ∧ ∀ (j : Nat) (v : Value), its.toArray[j]? = some v → ∃ n ∈ names, RelV (.str n) v := by
  obtain ⟨its, rv, hl, hz⟩ := I.list (.inl (.inl hl))
  have e := rv.length
  rw [List.length_map] at e
  refine ⟨its, hl.isList, e.symm, fun j v hv => ?_⟩
  have hv : its[j]? = some v := by simpa using hv
  have hj : j < its.length := (List.getElem?_eq_some_iff.mp hv).1
  have hn : (names.map V.str)[j]? = some (.str (names[j]'(by omega))) := by simp [show j < names.length by omega]
  obtain ⟨v2, e2, r2⟩ := rv.get hn
  rw [hv] at e2
  cases e2
  exact ⟨_, List.getElem_mem _, r2⟩
theorem min_loop (hh : X.A.handled = none) (hu : X.A.in1.units < cLine) (turn : KeyF X pins σ f fo names P) (hPl : ∀ H, P H → H l = some (.lst (names.map V.str))) (hlI : l ≠ it) (hSI : S ≠ it) (hfI : f ≠ it) (hfS : f ≠ S) (hff : f ∉ frs X.stack)
    (hR : ∀ n v H s, n ∈ names → RelV (.str n) v → Inv X pins σ H s → P H → R (.ok (.ret v)) s) :
    ∀ (r j : Nat) (H : Hp) (s : Shared) (vb : Value) (kp : Addr) (c : Nat), names.length - (j + 1) = r → j + 1 ≤ names.length → Inv X pins σ H s → P H → FpOk X pins H it → FpOk X pins H S → s.heap.get? S = some (seqObj "list" #[vb, .ref kp] c) → s.heap.IsListIter it l (j + 1) →
      (∃ n ∈ names, RelV (.str n) vb) → (∃ m y, H kp = some (.tup [.int m, .str y])) → s.heap.get? f = some fo → H f = none → codeAny (model X.prog X.w) X.A (.builtin "min.loop" ⟨[.ref it, .ref f, .ref S], []⟩) R s := by
  have hname : (toString "min" ++ toString ".loop" : String) = "min.loop" := by decide
  intro r
  induction r with
  | zero =>
    intro j H s vb kp c hr hj I hP fI fS hS hit hvb hkp hf hf0
    have hin : j + 1 = names.length := by omega
    obtain ⟨its, hls, hlen, hat⟩ := list_at I (hPl H hP)
    have W := Walks.list (prog := X.prog) (w := X.w) (A := X.A.in1) hh it l hlI its.toArray
    refine codeAny_builtin PySem.F.entry_min_loop ?_
    rw [Around.under_plainId PySem.F.plain_min_loop _]
    show wpAny _ X.A.in1 (seqItems? (.ref S) >>= _) _ _ _
    refine wpAny_bind (wpAny_seqItems hS rfl ?_)
    show wpAny _ X.A.in1 (tryCatch (pyNext (.ref it)) _ >>= _) _ _ _
    refine wpAny_bind (wpAny_tryCatch (W.done _ _ _ ⟨by rw [List.size_toArray, hlen, ← hin]; exact hit, hls⟩ fun h' tk' hk' => ?_))
    have I1 := I.turnedL (t' := tk') (ch := [it]) hk' (fun b hb => by rw [List.mem_singleton.mp hb]; exact fI)
    have hS' := hk' S _ (by simpa using hSI) hS
    have s1 := Heap.SameBut.update h' S (Obj.mapSeq fun _ => (#[] : Array Value))
    show wpAny _ X.A.in1 (updateSeq S (fun _ => #[]) >>= _) _ _ _
    refine wpAny_bind ?_
    refine wpAny_updateSeq hS' rfl (wpAny_bind (wpAny_letGo (wpAny_pure ?_)))
    obtain ⟨n, hn, rv⟩ := hvb
    exact hR n vb H _ hn rv (I1.turnedL (ch := [S]) (fun b o hb e => (s1.2 b (fun z => hb (by simp [z]))).trans e) (fun b hb => by rw [List.mem_singleton.mp hb]; exact fS)) hP
  | succ r ih =>
    intro j H s vb kp c hr hj I hP fI fS hS hit hvb hkp hf hf0
    have hlt : j + 1 < names.length := by omega
    obtain ⟨its, hls, hlen, hat⟩ := list_at I (hPl H hP)
    have W := Walks.list (prog := X.prog) (w := X.w) (A := X.A.in1) hh it l hlI its.toArray
    refine codeAny_builtin PySem.F.entry_min_loop ?_
    rw [Around.under_plainId PySem.F.plain_min_loop _]
    show wpAny _ X.A.in1 (seqItems? (.ref S) >>= _) _ _ _
    refine wpAny_bind (wpAny_seqItems hS rfl ?_)
    show wpAny _ X.A.in1 (tryCatch (pyNext (.ref it)) _ >>= _) _ _ _
    refine wpAny_bind (wpAny_tryCatch (W.item (j + 1) _ _ _ (by rw [List.size_toArray, hlen]; exact hlt) ⟨hit, hls⟩ fun v h' tk' hv hst' hk' => ?_))
    obtain ⟨n, hn, rv⟩ := hat _ _ hv
    have I1 := I.turnedL (t' := tk') (ch := [it]) hk' (fun b hb => by rw [List.mem_singleton.mp hb]; exact fI)
    have hS' := hk' S _ (by simpa using hSI) hS
    have hf' := hk' f _ (by simpa using hfI) hf
    obtain ⟨oI, hoI, hoc, hod⟩ := id hst'.1
    show wpAny _ X.A.in1 (tryCatch (holding [v] (call (.ref f) [v])) _ >>= _) _ _ _
    refine wpAny_bind (wpAny_tryCatch (wpAny_holding (wpAny_mono (turn n v H _ hn I1 hP hf' rv) (fun x s2 he => ?_) fun _ _ hF => hF.elim)))
    obtain ⟨x', H2, I2, un, rx, hP2, p, m, y, rfl, hp⟩ := he
    obtain rfl : x = .ref p := rx
    have nS := un.free S _ hS' fS.1 (by simp)
    have nI := un.free it _ hoI fI.1 (by simp)
    have nf := un.free f _ hf' hf0 (by simp)
    have hS2 := un.keep S _ hS' fS.1 (fp_far I fS) (by simp)
    have hI2 := un.keep it _ hoI fI.1 (fp_far I fI) (by simp)
    have hf2 := un.keep f _ hf' hf0 hff (by simp)
    have hit2 : s2.heap.IsListIter it l (j + 1 + 1) := ⟨oI, hI2, hoc, hod⟩
    obtain ⟨m2, y2, hkp⟩ := hkp
    have hkp2 := un.tups _ _ hkp
    obtain ⟨b, rc⟩ := rcLt_key I2 hu hp hkp2
    show wpAny _ X.A.in1 (tryCatch (holding [v, .ref p] (richCompare .Lt (.ref p) (.ref kp) >>= _)) _ >>= _) _ _ _
    refine wpAny_bind (wpAny_tryCatch (wpAny_holding (wpAny_bind (rc X.prog X.w _ _ ?_))))
    refine wpAny_bind (wpAny_holding (wpAny_truthy_bool ?_))
    refine wpAny_bind (wpAny_letGo (wpAny_pure ?_))
    cases b with
    | true =>
      have s1 := Heap.SameBut.update s2.heap S (Obj.mapSeq fun _ => #[v, .ref p])
      obtain ⟨c2, hc2⟩ : ∃ c2, (s2.heap.update S (Obj.mapSeq fun _ => #[v, .ref p])).get? S = some (seqObj "list" #[v, .ref p] c2) := ⟨_, get?_update_seq hS2 fun _ => #[v, .ref p]⟩
      simp only [if_true]
      refine wpAny_bind ?_
      refine wpAny_updateSeq hS2 rfl (wpAny_bind (wpAny_letGo ?_))
      rw [hname]
      have I3 := I2.turnedL (t' := s2.toks) (ch := [S]) (fun b o hb e => (s1.2 b (fun z => hb (by simp [z]))).trans e) (fun b hb => by rw [List.mem_singleton.mp hb]; exact fp_to fS nS)
      exact wpAny_pure ⟨plainId_quiet PySem.F.plain_min_loop _, ih (j + 1) H2 _ v p c2 (by omega) hlt I3 hP2 (fp_to fI nI) (fp_to fS nS) hc2 ⟨oI, (s1.2 it hSI.symm).trans hI2, hoc, hod⟩ ⟨n, hn, rv⟩ ⟨m, y, hp⟩ ((s1.2 f hfS).trans hf2) nf⟩
    | false =>
      simp only [Bool.false_eq_true, if_false]
      refine wpAny_bind (wpAny_letGo ?_)
      rw [hname]
      exact wpAny_pure ⟨plainId_quiet PySem.F.plain_min_loop _, ih (j + 1) H2 _ vb kp c (by omega) hlt I2 hP2 (fp_to fI nI) (fp_to fS nS) hS2 hit2 hvb ⟨m2, y2, hkp2⟩ hf2 nf⟩
theorem min_key {E : Value → Shared → Prop} {Q : Value → Shared → Prop} (hh : X.A.handled = none) (hu : X.A.in1.units < cLine) (turn : KeyF X pins σ f fo names P) (hPl : ∀ H, P H → H l = some (.lst (names.map V.str))) (hff : f ∉ frs X.stack) (hne : names ≠ [])
    (I : Inv X pins σ H s) (hP : P H) (hf : s.heap.get? f = some fo) (hf0 : H f = none)
    (hQ : ∀ n v H s, n ∈ names → RelV (.str n) v → Inv X pins σ H s → P H → Q v s) :
    wpAny (model X.prog X.w) X.A (call (.builtin "min") [.ref l] [(Str.ofString "key", .ref f)]) Q E s := by
  have hname : (toString "min" ++ toString ".loop" : String) = "min.loop" := by decide
  obtain ⟨its, hls, hlen, hat⟩ := list_at I (hPl H hP)
  have hpos : 0 < names.length := List.length_pos_iff.mpr hne
  obtain ⟨ol, hol, _⟩ := id hls
  have hll : l < s.heap.objs.size := Heap.lt_size hol
  have hfl : f < s.heap.objs.size := Heap.lt_size hf
  refine kmk_tree PySem.F.kind_min PySem.F.plain_min PySem.F.entry_min (kmk_min_key _ _) ?_
  show wpAny _ X.A.in1 (Builtin.Builtins.bindParams "min" ["key", "default"] 0 ⟨[], [(Str.ofString "key", .ref f)]⟩ >>= _) _ _ s
  refine wpAny_bind (wpAny_of_eq (show Builtin.Builtins.bindParams "min" ["key", "default"] 0 ⟨[], [(Str.ofString "key", .ref f)]⟩ = pure [some (.ref f), none] from rfl) ?_)
  refine wpAny_bind (wpAny_pure ?_)
  refine wpAny_bind (wpAny_pyIter_list hls ?_)
  refine wpAny_bind (wpAny_newList ?_ (Nat.zero_le _))
  rw [hname]
  obtain ⟨it, hitd⟩ : ∃ it, it = s.heap.objs.size := ⟨_, rfl⟩
  obtain ⟨g1, hg1⟩ : ∃ g1, g1 = s.heap.push { cls := .type "list_iterator", data := .fields #[.ref l, .int 0 0] } := ⟨_, rfl⟩
  rw [← hg1, ← hitd]
  obtain ⟨S, hSd⟩ : ∃ S, S = g1.objs.size := ⟨_, rfl⟩
  have hSs : S = s.heap.objs.size + 1 := by rw [hSd, hg1]; exact size_push' ..
  rw [← hSd]
  obtain ⟨g2, hg2⟩ : ∃ g2, g2 = g1.push (seqObj "list" #[] 0) := ⟨_, rfl⟩
  have gI : g2.get? it = some { cls := .type "list_iterator", data := .fields #[.ref l, .int 0 0] } := by
    rw [hg2, hg1, hitd]
    exact Heap.get?_push_of_some _ (Heap.get?_push_size _ rfl)
  have gS : g2.get? S = some (seqObj "list" #[] 0) := by
    rw [hg2, hSd]
    exact Heap.get?_push_size _ rfl
  have gk : ∀ b o, s.heap.get? b = some o → g2.get? b = some o := fun b o e => by
    rw [hg2, hg1]
    exact Heap.get?_push_of_some _ (Heap.get?_push_of_some _ e)
  have hlI : l ≠ it := by rw [hitd]; exact Nat.ne_of_lt hll
  have hfI : f ≠ it := by rw [hitd]; exact Nat.ne_of_lt hfl
  have hfS : f ≠ S := by rw [hSs]; exact Nat.ne_of_lt (Nat.lt_succ_of_lt hfl)
  have hSI : S ≠ it := by rw [hSs, hitd]; exact Nat.ne_of_gt (Nat.lt_succ_self _)
  have fI : FpOk X pins H it := I.fpOk (by rw [hitd]; exact Nat.le_refl _) (I.hok.fresh (by rw [hitd]; exact Nat.le_refl _))
  have fS : FpOk X pins H S := I.fpOk (by rw [hSs]; exact Nat.le_succ _) (I.hok.fresh (by rw [hSs]; exact Nat.le_succ _))
  have I0 : Inv X pins σ H { s with heap := g2, toks := s.toks } := I.kept gk
  refine wpAny_pure ⟨plainId_quiet PySem.F.plain_min_loop _, ?_⟩
  show codeAny _ _ _ _ { s with heap := g1.push (seqObj "list" #[] 0), toks := s.toks }
  rw [← hg2]
  have W := Walks.list (prog := X.prog) (w := X.w) (A := X.A.in1) hh it l hlI its.toArray
  refine codeAny_builtin PySem.F.entry_min_loop ?_
  rw [Around.under_plainId PySem.F.plain_min_loop _]
  show wpAny _ X.A.in1 (seqItems? (.ref S) >>= _) _ _ _
  refine wpAny_bind (wpAny_seqItems gS rfl ?_)
  show wpAny _ X.A.in1 (tryCatch (pyNext (.ref it)) _ >>= _) _ _ _
  refine wpAny_bind (wpAny_tryCatch (W.item 0 _ _ _ (by rw [List.size_toArray, hlen]; exact hpos) ⟨⟨_, gI, rfl, rfl⟩, hls.at fun o e => gk _ _ e⟩ fun v h' tk' hv hst' hk' => ?_))
  obtain ⟨n, hn, rv⟩ := hat _ _ hv
  have I1 := I0.turnedL (t' := tk') (ch := [it]) hk' (fun b hb => by rw [List.mem_singleton.mp hb]; exact fI)
  have hS' := hk' S _ (by simpa using hSI) gS
  have hf' := hk' f _ (by simpa using hfI) (gk _ _ hf)
  obtain ⟨oI, hoI, hoc, hod⟩ := id hst'.1
  show wpAny _ X.A.in1 (tryCatch (holding [v] (call (.ref f) [v])) _ >>= _) _ _ _
  refine wpAny_bind (wpAny_tryCatch (wpAny_holding (wpAny_mono (turn n v H _ hn I1 hP hf' rv) (fun x s2 he => ?_) fun _ _ hF => hF.elim)))
  obtain ⟨x', H2, I2, un, rx, hP2, p, m, y, rfl, hp⟩ := he
  obtain rfl : x = .ref p := rx
  have nS := un.free S _ hS' fS.1 (by simp)
  have nI := un.free it _ hoI fI.1 (by simp)
  have nf := un.free f _ hf' hf0 (by simp)
  have hS2 := un.keep S _ hS' fS.1 (fp_far I fS) (by simp)
  have hI2 := un.keep it _ hoI fI.1 (fp_far I fI) (by simp)
  have hf2 := un.keep f _ hf' hf0 hff (by simp)
  have s1 := Heap.SameBut.update s2.heap S (Obj.mapSeq fun _ => #[v, .ref p])
  obtain ⟨c2, hc2⟩ : ∃ c2, (s2.heap.update S (Obj.mapSeq fun _ => #[v, .ref p])).get? S = some (seqObj "list" #[v, .ref p] c2) := ⟨_, get?_update_seq hS2 fun _ => #[v, .ref p]⟩
  show wpAny _ X.A.in1 (updateSeq S (fun _ => #[v, .ref p]) >>= _) _ _ _
  refine wpAny_bind ?_
  refine wpAny_updateSeq hS2 rfl ?_
  rw [hname]
  have I3 := I2.turnedL (t' := s2.toks) (ch := [S]) (fun b o hb e => (s1.2 b (fun z => hb (by simp [z]))).trans e) (fun b hb => by rw [List.mem_singleton.mp hb]; exact fp_to fS nS)
  exact wpAny_pure ⟨plainId_quiet PySem.F.plain_min_loop _, min_loop hh hu turn hPl hlI hSI hfI hfS hff hQ _ 0 H2 _ v p c2 rfl hpos I3 hP2 (fp_to fI nI) (fp_to fS nS) hc2 ⟨oI, (s1.2 it hSI.symm).trans hI2, hoc, hod⟩ ⟨n, hn, rv⟩ ⟨m, y, hp⟩ ((s1.2 f hfS).trans hf2) nf⟩
end
end

theorem usK_some {us : List Us} (nd : (us.map fun u => u.d.name).Nodup) {u : Us} (h : u ∈ us) : valV (usK us) (.inr (S u.d.name)) = some (.ref u.t) := by
  have nk : ((usK us).map (·.1)).Nodup := by
    have e : (usK us).map (·.1) = (us.map fun u => u.d.name).map fun n => (Sum.inr (S n) : Key) := by
      unfold usK
      rw [List.map_map, List.map_map]
      rfl
    rw [e]
    exact List.Pairwise.map _ (fun a b hab z => hab (S_inj (Sum.inr.inj z))) nd
  exact val_nodup nk (.inr (S u.d.name), .ref u.t) (List.mem_map.mpr ⟨u, h, rfl⟩)
/-- the roads that may be taken, told by name -/
def UsOk (H : Hp) (us : List Us) : Prop := (us.map fun u => u.d.name).Nodup ∧ us.length < 64 ∧ (∀ u ∈ us, Lets u.d.name) ∧ ∀ u ∈ us, H u.t = some (.tup [.int (u.d.laid - u.d.sure), .bl u.d.spare, .bl u.b])
theorem UsOk.fr {F : List Addr} {H H' : Hp} {us : List Us} (h : UsOk H us) (a : Fr F H H') : UsOk H' us := ⟨h.1, h.2.1, h.2.2.1, fun u hu => a.tup (h.2.2.2 u hu)⟩
theorem tabS_fr {F : List Addr} {H H' : Hp} {T0 : Addr} {q : Str} (h : LamX.TabS H T0 q) (a : Fr F H H') (n : T0 ∉ F) : LamX.TabS H' T0 q := by
  obtain ⟨ps, h1, h2, h3⟩ := h
  exact ⟨ps, a.at n h1, h2, fun pos cv hc => by
    obtain ⟨c, e1, e2⟩ := h3 pos cv hc
    exact ⟨c, e1, a c _ (.inr True.intro) e2⟩⟩
theorem rd_fr {F : List Addr} {H H' : Hp} {b : Addr} {o : HO} (h : Rd H b o) (a : Fr F H H') (n : b ∉ F) : Rd H' b o := by
  rcases h with h | ⟨o', h⟩
  · exact .inl (a.at n h)
  · exact .inr ⟨o', a.at n h⟩
/-- the least by its key: a name of them -/
def tFew (T0 : Addr) (q : Str) : TE := fun σ H Q => ∃ (l a : Addr) (names : List Str) (us : List Us), σ[1]? = some (some (.ref l)) ∧ σ[2]? = some (some (.ref a)) ∧ H l = some (.lst (names.map V.str)) ∧ names ≠ [] ∧ (∀ n ∈ names, ∃ u ∈ us, S u.d.name = n) ∧ Rd H a (.dK (usK us)) ∧ UsOk H us ∧
  LamX.TabS H T0 q ∧ ∀ n ∈ names, ∀ H' : Hp, Fr [T0] H H' → LamX.TabS H' T0 q → Q (.str n) H'
/-- what the key reads as -/
def KeyT (tb : TE) : Prop := ∀ (a t : Addr) (ps : List (Key × V)) (n : Str) (m : Int) (b c : Bool) (H : Hp) (Q : VK), Rd H a (.dK ps) → valV ps (.inr n) = some (.ref t) → H t = some (.tup [.int m, .bl b, .bl c]) → (∀ p, H p = none → Q (.ref p) (upd H p (.tup [.int m, .str n]))) → tb [some (.ref a), some (.str n)] H Q
theorem pe_few {X : Cx} {c T0 : Addr} {q : Str} {params : Arguments} {body : Expr} {scope : Scope} {p p2 lpos kpos pos : Pos} {tb : TE} (TB : LamX.TabB X.base X.mg c T0) (hr : Room 2 X.A) (hcode : X.env.code = .ref c) (hq : X.env.qual ++ "<lambda>" = q) (hg : Gl X "min") (hm : X.mg "min" = none)
    (hN1 : X.N[1]? = some ("names" : Str)) (hv1 : Vis X.env.scope "names") (hN2 : X.N[2]? = some ("roads" : Str)) (hcl : X.env.scope.names.lookup ("roads" : Str) = some .cell) (hcell : ∃ c, X.env.cells.lookup ("roads" : Str) = some c)
    (hb : ∀ (s : Shared) (H : Hp) (f k : Addr), Room 0 (lamY X s H "roads" "name" q scope f k).A → PE (lamY X s H "roads" "name" q scope f k) body tb) (ht : KeyT tb)
    (hdef : defaultsOf params X.env = ([], [])) (hsc : ∀ y ∈ scope.names, y.2 = .free → y.1 = "roads") (hk : scope.kind = .function) (hco : scope.isCoroutine = false) (hge : scope.isGenerator = false) (hpn : scope.names.lookup ("name" : Str) = some .local) (hcn : scope.names.lookup ("roads" : Str) = some .free) (nc : ∀ y ∈ scope.names, y.2 ≠ .cell)
    (hbind : ∀ (clo : List (Str × Addr)) (pm kd ctv v : Value), bindArgs (PySem.W.kla_fn "<lambda>" q params body scope clo pm kd ctv) ⟨[v], []⟩ = pure [(("name" : Str), v)]) :
    PE X (.Call (.Name "min" p) [.Name "names" p2] [⟨some "key", .Lambda params body scope lpos, kpos⟩] pos) (tFew T0 q) := by
  have hfree : ∀ y ∈ scope.names, y.2 = .free → ∃ c, X.env.cells.lookup y.1 = some c := fun y hy e => by
    rw [hsc y hy e]
    exact hcell
  refine ⟨fun pins s σ H Q I h => ?_⟩
  obtain ⟨l, a, names, us, s1, s2, hl, hne, hin, ha, hus, hT, kQ⟩ := h
  refine wpAny_Call_Name_kw (ld_blt I hg hm rfl ?_ (by decide) (by decide))
  refine PyProof.Rows.callWith_kw (thn ((pa_cons (pv 1 hN1 hv1) pa_nil).run pos pins s σ H (fun vs H1 => vs = [.ref l] ∧ H1 = H) I ⟨_, s1, rfl, rfl⟩) fun us1 s1' ⟨vs, H1, I1, r1, e1, e2⟩ => ?_)
  subst e1 e2
  obtain rfl := Vals.ref1 r1
  show wpAny _ _ (evalAll ((do let v ← eval (.Lambda params body scope lpos) X.env; standAt pos; pure v) :: [])) _ _ s1'
  refine wpAny_evalAll_cons (wpAny_bind (lam_make3 I1 TB hcode hq hT hdef hfree fun f k pm ctv H2 s2' I2 fr hT2 hf hf0 hff hkc => wpAny_bind (wpAny_standAt (wpAny_pure (wpAny_evalAll_nil ?_)))))
  show wpAny _ _ (call (.builtin "min") [.ref l] [(Str.ofString "key", .ref f)]) _ _ _
  obtain ⟨ps, hps⟩ : ∃ ps, H1 T0 = some (.tbl ps) := by
    obtain ⟨ps, h1, _⟩ := hT
    exact ⟨ps, h1⟩
  have nl : l ∉ [T0] := by
    rw [List.mem_singleton]
    rintro rfl
    rw [hps] at hl
    cases hl
  have na : a ∉ [T0] := by
    rw [List.mem_singleton]
    rintro rfl
    rcases ha with ha | ⟨o, ha⟩ <;> rw [hps] at ha <;> cases ha
  have hl2 := fr.at nl hl
  have ha2 := rd_fr ha fr na
  have hus2 := hus.fr fr
  refine min_key (P := fun H' => Fr [] H2 H') (fo := PySem.W.kla_obj "<lambda>" q params body scope (cloFrom X.env.cells scope.names []) pm k ctv) hr.hd (hr.mono (by decide : 1 ≤ 2)).in1.units0 ?_ (fun H' e => e.at (by simp) hl2) hff hne I2 (Fr.refl _ _) hf hf0 ?_
  · intro n v H' s' hn I' fr' hf' rv
    obtain ⟨u, hu, rfl⟩ := hin n hn
    refine wpAny_mono (lam_call1 (n := 0) (i := 2) (tb := tb) (xr := .ref a) (xv := .str (S u.d.name)) (Q := fun x' H3 => Fr [] H2 H3 ∧ ∃ p m y, x' = .ref p ∧ H3 p = some (.tup [.int m, .str y])) I' hr.in1 hk hco hge hpn hcn nc hfree (.inl hcl) hN2 s2 hf' (fr'.at (by simp) hkc) rv (fun v => hbind _ _ _ _ v) (fun s H hr => hb s H f k hr) ?_) (fun x s'' he => ?_) fun _ _ hF => hF.elim
    · refine ht a u.t (usK us) _ _ _ _ H' _ (rd_fr ha2 fr' (by simp)) (usK_some hus.1 hu) (fr'.tup (hus2.2.2.2 u hu)) fun p hp => ⟨fr'.new hp, p, _, _, rfl, upd_same⟩
    · obtain ⟨x', H3, J, un, rx, fr3, hp⟩ := he
      exact ⟨x', H3, J, un, rx, fr3, hp⟩
  · intro n v H' s' hn rv I' fr'
    exact ⟨.str n, H', I', rv, kQ n hn H' (fr.trans (fr'.mono (by simp))) (tabS_fr hT2 fr' (by simp))⟩

theorem at0 (x : V) (xs : List V) : atI (x :: xs) 0 = some x := by
  unfold atI ixN
  rw [if_pos (by decide), if_pos (by rw [List.length_cons]; omega)]
  rfl
section
variable {P : Program} {w : World} {K : PySem.W.Frag} {mg : Str → Option Value} {base : Heap}
/-- the body runs by the def's own code -/
theorem TX.promC (T : TX P w K mg base) (d : He.DefD) (hd : d ∈ fn) {N ps : List Str} {k : Nat} {sp : Sp} (hk : d.dfl = [] ∧ d.kwd = []) (S : FnScope N ps d.scope) (len : ∀ vs H Q E, sp vs H Q E → vs.length = ps.length)
    (hb : ∀ (kV doc pm : Value) (an : Option Addr) (cdv ct : Value) (us : List Value), us.length = ps.length → bindArgs (PySem.W.fnOf d.name d.qual d.params d.body d.scope .none kV doc pm an cdv ct) ⟨us, []⟩ = pure (ps.zip us))
    (hbody : ∀ (A : Around) (outer : List Env) (s : Shared) (H : Hp) (vs : List V) (Q : VK) (E : XK), Room k (A.deeper (envOfC d.qual d.scope s.heap.objs.size (He.fAd K d.at_) (.ref (He.cT K d.at_).1))) → sp vs H Q E →
      ∃ t, PSs (cxOf CX0 P w K mg base N d.qual d.scope (He.fAd K d.at_) (.ref (He.cT K d.at_).1) A outer s H E).nox d.body t ∧ t { nx := fun _ H' => Q .non H', rt := Q } (start N vs) H) :
    PR P w K mg base (k + 1) (He.fAd K d.at_) ps sp := by
  obtain ⟨fd, F⟩ := T.t.d.defs hd
  have e1 : d.dvs K = [] := by unfold He.DefD.dvs; rw [hk.1]; rfl
  rw [e1] at F
  refine ⟨⟨fd, ?_, F.bindsN hb⟩, F.kp⟩
  obtain ⟨oc, od, dV, kV, doc, pm, an, cdv, ct, osl, rfl, lk, hcd, _, _⟩ := F.ex
  obtain ⟨c, rfl⟩ := He.codeIn_ref hcd
  have e2 : (He.cT K d.at_).1 = c := He.codeOf_eq lk rfl
  subst e2
  exact fn_of lk hcd S len fun A outer s H vs Q E hr h => by
    obtain ⟨t, h1, h2⟩ := hbody A outer s H vs Q E hr h
    exact ⟨t, PSs.nox h1, h2⟩
def sp_by_rule (K : PySem.W.Frag) : Sp := fun vs H Q _ => ∃ (z : Str) (l a : Addr) (names : List Str) (us : List Us) (last : Option (List Nat)), vs = [.str z, .ref l, .ref a, oV last] ∧ (z = "first" ∨ z = "few" ∨ z = "turns") ∧ H l = some (.lst (names.map V.str)) ∧
  names ≠ [] ∧ names.length < 64 ∧ (∀ n ∈ names, ∃ u ∈ us, S u.d.name = n) ∧ Rd H a (.dK (usK us)) ∧ UsOk H us ∧ TabsB K H ∧ ∀ n ∈ names, ∀ H' : Hp, Fr [PT K] H H' → TabsB K H' → Q (.str n) H'
theorem sc_by_rule : FnScope ["rule", "names", "roads", "last", "later", "name"] ["rule", "names", "roads", "last"] (defScope s_by_rule) := ⟨rfl, rfl, rfl, by decide +kernel, rfl, by decide +kernel, by decide +kernel⟩
theorem ok_by_rule (T : TX P w K mg base) : PR P w K mg base 4 (He.ga K "by_rule") ["rule", "names", "roads", "last"] (sp_by_rule K) := by
  refine T.promC d_by_rule (List.mem_of_getElem? (i := 1) (by rfl)) ⟨rfl, rfl⟩ sc_by_rule (fun vs H Q E h => ?_) (fun _ _ _ _ _ _ us hl => match us, hl with | [_, _, _, _], _ => rfl) (fun A outer s H vs Q E hr h => ?_)
  · obtain ⟨_, _, _, _, _, _, rfl, _⟩ := h
    rfl
  · have hu := hu_of hr
    obtain ⟨z, l, a, names, us, last, rfl, hz, hl, hne, hlen, hin, ha, hus, hT, kQ⟩ := h
    refine ⟨_, (pss_cons (ps_if (pt_cmpR op_eq (pv 0) pe_str (nomark _))
        (pss_one (ps_ret (pe_ix ix_list (pv 1) pe_int (fun _ _ => rfl))))
        pss_nil)
      (pss_cons (ps_if (pt_cmpR op_eq (pv 0) pe_str (nomark _))
        (pss_one (ps_ret (pe_few (T0 := PT K) (q := "by_rule.<locals>.<lambda>") (T.tab ("by_rule", none) (List.mem_singleton.mpr rfl)) (hr.mono (by decide)) rfl (by rfl) (by rfl) (by exact T.f_min) rfl (.inl rfl) rfl (by rfl) (cell_has (by rfl))
          (fun s H f k hr => pe_tup (pa_cons (pe_ix (ix_tupk (K := K) (by rfl)) (pe_dget (hu_of hr) (pv 0) (pv 1) (fun _ _ => rfl)) pe_int (fun _ _ => rfl)) (pa_cons (pv 1) pa_nil))) ?_ (by rfl) (by decide +kernel) (by rfl) (by rfl) (by rfl) (by rfl) (by rfl) (by decide +kernel) (fun _ _ _ _ _ => by rfl))))
        pss_nil)
      (pss_cons (ps_setLc (i := 4) (y := "later") (own := [("name", 5)]) (g := gName 5) rfl sc_by_rule.nd rfl rfl (sw_true rfl rfl rfl (by decide +kernel)) (pi_list (pv 1)) (blkOk_by (N := ["rule", "names", "roads", "last", "later", "name"]) (sc := defScope s_by_rule) (by decide +kernel)) (fun _ _ _ _ _ => (pg_name (i := 5) sc_by_rule.nd rfl (by first | exact Or.inl rfl | exact Or.inr rfl))) (fun _ _ _ _ _ => (pts_one (PW.pt (pw_and (pt_cmpR op_notN (pv 3) pe_non (nomark _)) (pw_and1 (pt_cmpR op_gt_str (pv 5) (pv 3) (nomark _))))))) (fun _ _ _ _ _ => (pv 5)))
      (pss_one (ps_ret (pe_ix ix_list (pe_op op_cat (pv 4) (pv 1)) pe_int (fun _ _ => rfl))))))), ?_⟩
    · intro a t ps n m b c H Q ha hv ht k
      exact ⟨_, rfl, _, rfl, a, _, rfl, .inl ⟨ps, .inr n, ha, rfl, hv.symm⟩, t, _, 0, .int m, rfl, rfl, SqT.of ht, rfl, _, rfl, line5 (show 2 ≤ 100000 by decide), fun p hp => k p hp⟩
    · have here : ∀ H' : Hp, Same H H' → TabsB K H' := fun H' s => hT.fr (F := []) (Fr.of [] s) (by simp)
      rcases hz with rfl | rfl | rfl
      · refine ⟨_, rfl, rfl, _, rfl, ift (by rfl) ?_⟩
        cases names with
        | nil => exact absurd rfl hne
        | cons n0 ns => exact ⟨_, rfl, l, _, 0, .str n0, rfl, rfl, SqL.of hl, at0 _ _, kQ n0 List.mem_cons_self H (Fr.refl _ _) hT⟩
      · refine ⟨_, rfl, rfl, _, rfl, iffF (by rfl) ⟨_, rfl, rfl, _, rfl, ift (by rfl) ?_⟩⟩
        refine ⟨l, a, names, us, rfl, rfl, hl, hne, hin, ha, hus, hT _ (List.mem_singleton.mpr rfl), fun n hn H' fr ht => kQ n hn H' fr fun p hp => ?_⟩
        rw [List.mem_singleton.mp hp]
        exact ht
      · refine ⟨_, rfl, rfl, _, rfl, iffF (by rfl) ⟨_, rfl, rfl, _, rfl, iffF (by rfl) ?_⟩⟩
        refine ⟨_, rfl, l, rfl, ⟨_, SqL.of hl⟩, fun D hD => lc_by (n := names.length) (fun i H4 => ∃ ms : List Str, Same H H4 ∧ H4 D = some (.lst (ms.map V.str)) ∧ ms.length ≤ i ∧ ∀ n ∈ ms, n ∈ names) (fun i H4 h hi => ?_) (fun H4 h => ?_) ⟨[], Same.upd hD, upd_same, Nat.le_refl _, by intro n hn; cases hn⟩ ?_ ?_⟩
        · obtain ⟨_, s, _⟩ := h
          exact ⟨_, _, SqL.of (s _ _ hl), List.getElem?_eq_getElem (by rw [List.length_map]; exact hi)⟩
        · obtain ⟨_, s, _⟩ := h
          exact ⟨_, SqL.of (s _ _ hl), by rw [List.length_map]; exact Nat.le_refl _⟩
        · rintro i y H4 H5 hi ⟨ms, s4, hd4, hle4, hms⟩ ⟨rfl, hy⟩
          have ey := hy _ (SqL.of (s4 _ _ hl))
          rw [List.getElem?_map, List.getElem?_eq_getElem hi] at ey
          obtain rfl := Option.some.inj ey
          have hn : names[i] ∈ names := List.getElem_mem hi
          generalize names[i] = n at hn ⊢
          refine ⟨rfl, ?_⟩
          have no : ∃ ms : List Str, Same H H5 ∧ H5 D = some (.lst (ms.map V.str)) ∧ ms.length ≤ i + 1 ∧ ∀ n ∈ ms, n ∈ names := ⟨ms, s4, hd4, by omega, hms⟩
          cases last with
          | none => exact ⟨_, rfl, rfl, _, rfl, iffF (by rfl) (iffF (by rfl) no)⟩
          | some m =>
            refine ⟨_, rfl, rfl, _, rfl, ift (by rfl) ⟨_, rfl, _, rfl, n, S m, rfl, rfl, _, rfl, ?_⟩⟩
            generalize decide ((S m).cps.toList < n.cps.toList) = g
            cases g with
            | true =>
              refine ift rfl ⟨_, rfl, _, hd4, (by rw [List.length_map]; exact line5' (by omega)), ms ++ [n], Same.updN s4 hD, (by rw [upd_same, List.map_append]; rfl), (by rw [List.length_append]; simp only [List.length_singleton]; omega), fun x hx => ?_⟩
              rcases List.mem_append.mp hx with hx | hx
              · exact hms x hx
              · rw [List.mem_singleton.mp hx]
                exact hn
            | false => exact iffF rfl no
        · rintro H2 ⟨ms, s2, hd2, hle, hms⟩
          refine ⟨_, rfl, _, rfl, D, l, _, _, rfl, rfl, hd2, s2 _ _ hl, line5 (by rw [List.length_map, List.length_map]; omega), fun p hp => ?_⟩
          have hsm : ∀ n ∈ ms ++ names, n ∈ names := fun n hn => (List.mem_append.mp hn).elim (hms n) id
          rw [← List.map_append]
          have hne2 : ms ++ names ≠ [] := fun e => hne (List.append_eq_nil_iff.mp e).2
          generalize ms ++ names = all at hsm hne2 ⊢
          cases all with
          | nil => exact absurd rfl hne2
          | cons n0 ns => exact ⟨p, _, 0, .str n0, rfl, rfl, SqL.of upd_same, at0 _ _, kQ n0 (hsm _ List.mem_cons_self) _ (Fr.of _ (s2.trans (Same.upd hp))) (here _ (s2.trans (Same.upd hp)))⟩
end

section
variable {P : Program} {w : World} {K : PySem.W.Frag} {mg : Str → Option Value} {base : Heap}
def sp_chosen (K : PySem.W.Frag) : Sp := fun vs H Q _ => ∃ (z : Str) (a : Addr) (us : List Us) (last : Option (List Nat)), vs = [.str z, .ref a, oV last] ∧ (z = "first" ∨ z = "few" ∨ z = "turns") ∧ H a = some (.dK (usK us)) ∧ UsOk H us ∧ TabsB K H ∧
  (∀ H' : Hp, Fr [PT K, a] H H' → TabsB K H' → Q .non H') ∧ ∀ u ∈ us, ∀ H' : Hp, Fr [PT K, a] H H' → TabsB K H' → Q (tx u.d.name) H'
theorem sc_chosen : FnScope ["rule", "roads", "last", "moving", "names", "name", "unsure", "spare", "still"] ["rule", "roads", "last"] (defScope s_chosen) := ⟨rfl, rfl, rfl, by decide +kernel, rfl, by decide +kernel, by decide +kernel⟩
theorem ok_chosen (T : TX P w K mg base) : PR P w K mg base 5 (He.ga K "chosen") ["rule", "roads", "last"] (sp_chosen K) := by
  have G_by_rule := ok_by_rule T
  have G_is_rule := ok_is_rule T
  refine T.prom d_chosen (List.mem_of_getElem? (i := 2) (by rfl)) ⟨rfl, rfl⟩ sc_chosen (fun vs H Q E h => ?_) (fun _ _ _ _ _ _ us hl => match us, hl with | [_, _, _], _ => rfl) (fun cdv A outer s H vs Q E hr h => ?_)
  · obtain ⟨_, _, _, _, rfl, _⟩ := h
    rfl
  · have hu := hu_of hr
    obtain ⟨z, a, us, last, rfl, hz, ha, hu5, hT, k0, k1⟩ := h
    refine ⟨_, (pss_cons (ps_if (pt_not (pt_val (pe_callP G_is_rule (hr.mono (by decide)) rfl T.g_is_rule (pa_cons (pv 0) pa_nil))))
        pss_never
        pss_nil)
      (pss_cons (ps_set (i := 3) sc_chosen.nd rfl (by first | exact Or.inl rfl | exact Or.inr rfl) (pe_callB cr_sortedS (by rfl) T.f_sorted (by decide +kernel) (pa_cons (pe_lc (own := [("name", 5), ("unsure", 6), ("spare", 7), ("still", 8)]) (g := gTup K 2 (gCons (gName 5) (gCons (gTup K 3 (gCons (gName 6) (gCons (gName 7) (gCons (gName 8) (gNil))))) (gNil)))) rfl sc_chosen.nd (pi_items (pe_lockN (pv 1))) (blkOk_by (N := ["rule", "roads", "last", "moving", "names", "name", "unsure", "spare", "still"]) (sc := defScope s_chosen) (by decide +kernel)) (fun _ _ _ _ _ => (pg_tup rfl (pgs_cons (pg_name (i := 5) sc_chosen.nd rfl (by first | exact Or.inl rfl | exact Or.inr rfl)) (pgs_cons (pg_tup rfl (pgs_cons (pg_name (i := 6) sc_chosen.nd rfl (by first | exact Or.inl rfl | exact Or.inr rfl)) (pgs_cons (pg_name (i := 7) sc_chosen.nd rfl (by first | exact Or.inl rfl | exact Or.inr rfl)) (pgs_cons (pg_name (i := 8) sc_chosen.nd rfl (by first | exact Or.inl rfl | exact Or.inr rfl)) pgs_nil)))) pgs_nil)))) (fun _ _ _ _ _ => (pts_one (pt_not (pt_val (pv 8))))) (fun _ _ _ _ _ => (pv 5))) pa_nil)))
      (pss_cons (ps_set (i := 4) sc_chosen.nd rfl (by first | exact Or.inl rfl | exact Or.inr rfl) (pe_orT (pe_lc (own := [("name", 5)]) (g := gName 5) rfl sc_chosen.nd (pi_list (pv 3)) (blkOk_by (N := ["rule", "roads", "last", "moving", "names", "name", "unsure", "spare", "still"]) (sc := defScope s_chosen) (by decide +kernel)) (fun _ _ _ _ _ => (pg_name (i := 5) sc_chosen.nd rfl (by first | exact Or.inl rfl | exact Or.inr rfl))) (fun _ _ _ _ _ => (pts_one (pt_not (pt_val (pe_ix (ix_tupk (K := K) (by rfl)) (pe_dget hu (pv 1) (pv 5) (fun _ _ => rfl)) pe_int (fun _ _ => rfl)))))) (fun _ _ _ _ _ => (pv 5))) (pe_one (pv 3))))
      (pss_cons (ps_if (pt_cmpR (op_eqNil hr.units) (pv 4) (pe_lst pa_nil) (nomark _))
        (pss_one (ps_ret pe_non))
        pss_nil)
      (pss_one (ps_ret (pe_callP G_by_rule (hr.mono (by decide)) rfl T.g_by_rule (pa_cons (pv 0) (pa_cons (pv 4) (pa_cons (pv 1) (pa_cons (pv 2) pa_nil))))))))))), ?_⟩
    refine ⟨_, rfl, z, rfl, hz, _, rfl, iteF ?_⟩
    obtain ⟨hnd, hfew, hlets, htup⟩ := hu5
    obtain ⟨ps, hps⟩ := hT.tbl
    have haP : PT K ≠ a := ne_of hps ha (fun z => nomatch z)
    refine ⟨_, rfl, a, _, rfl, ha, trivial, fun od => ⟨a, od, usK us, rfl, upd_same, fun D hD => ?_⟩⟩
    have fL : Fr [PT K, a] H (upd H a (.frz od (.dK (usK us)))) := Fr.putD (by simp) ha
    have hTL := hT.fr (F := [a]) (Fr.putD (by simp) ha) (H' := upd H a (.frz od (.dK (usK us)))) (by simpa using haP)
    have haL : (upd H a (.frz od (.dK (usK us)))) a = some (.frz od (.dK (usK us))) := upd_same
    generalize (upd H a (.frz od (.dK (usK us)))) = HL at fL hTL haL hD ⊢
    refine lc_by (n := us.length) (fun i H2 => ∃ ns : List Str, Same HL H2 ∧ H2 D = some (.lst (ns.map V.str)) ∧ ns.length ≤ i ∧ ∀ n ∈ ns, ∃ u ∈ us, S u.d.name = n) (fun i H2 h hi => ?_) (fun H2 h => ?_) ⟨[], Same.upd hD, upd_same, Nat.le_refl _, by intro n hn; cases hn⟩ ?_ ?_
    · obtain ⟨_, s, _⟩ := h
      exact ⟨s _ _ haL, by unfold usK; rw [List.length_map]; exact hi⟩
    · obtain ⟨_, s, _⟩ := h
      exact ⟨s _ _ haL, by unfold usK; rw [List.length_map]; exact Nat.le_refl _⟩
    · rintro i y H2 H3 hi ⟨ns, s2, hd2, hle, hns⟩ ⟨T2, ky, vy, ek, rfl, hT2, rfl⟩
      unfold usK at ek
      rw [List.getElem?_map, List.getElem?_eq_getElem hi] at ek
      obtain ⟨rfl, rfl⟩ := Prod.mk.inj (Option.some.inj ek)
      have hu : us[i] ∈ us := List.getElem_mem hi
      generalize us[i] = u at hu hT2 ⊢
      have s3 : Same HL (upd H2 T2 (.tup [kV (.inr (S u.d.name)), .ref u.t])) := s2.trans (Same.upd hT2)
      have hd3 : (upd H2 T2 (.tup [kV (.inr (S u.d.name)), .ref u.t])) D = some (.lst (ns.map V.str)) := by rw [upd_ne (ne_of_none hd2 hT2)]; exact hd2
      refine ⟨T2, _, rfl, SqT.of upd_same, rfl, _, _, rfl, _, _, rfl, u.t, _, rfl, SqT.of (s3 _ _ (fL.tup (htup u hu))), rfl, _, _, rfl, _, _, rfl, _, _, rfl, rfl, rfl, rfl, ?_⟩
      refine ⟨_, rfl, u.b, rfl, ?_⟩
      cases u.b with
      | true => exact iffF (by rfl) ⟨ns, s3, hd3, by omega, hns⟩
      | false =>
        refine ift (by rfl) ⟨_, rfl, _, hd3, (by rw [List.length_map]; exact line5' (by omega)), ns ++ [S u.d.name], Same.updN s3 hD, (by rw [upd_same, List.map_append]; rfl), (by rw [List.length_append]; simp only [List.length_singleton]; omega), fun n hn => ?_⟩
        rcases List.mem_append.mp hn with hn | hn
        · exact hns n hn
        · exact ⟨u, hu, (List.mem_singleton.mp hn).symm⟩
    · rintro H2 ⟨ns, s2, hd2, hle, hns⟩
      refine ⟨D, ns, rfl, SqL.of hd2, by omega, fun ys p hperm hsort hp => ?_⟩
      have hys : ∀ n ∈ ys, ∃ u ∈ us, S u.d.name = n := fun n hn => hns n (hperm.mem_iff.mp hn)
      have hyl : ys.length < 64 := by rw [hperm.length_eq]; omega
      have s3 : Same HL (upd H2 p (.lst (ys.map V.str))) := s2.trans (Same.upd hp)
      have hp3 : (upd H2 p (.lst (ys.map V.str))) p = some (.lst (ys.map V.str)) := upd_same
      generalize (upd H2 p (.lst (ys.map V.str))) = H3 at s3 hp3 ⊢
      -- names: those without spare, or all
      refine ⟨_, rfl, p, rfl, ⟨_, SqL.of hp3⟩, fun D2 hD2 => lc_by (n := ys.length) (fun i H4 => ∃ ms : List Str, Same H3 H4 ∧ H4 D2 = some (.lst (ms.map V.str)) ∧ ms.length ≤ i ∧ ∀ n ∈ ms, ∃ u ∈ us, S u.d.name = n) (fun i H4 h hi => ?_) (fun H4 h => ?_) ⟨[], Same.upd hD2, upd_same, Nat.le_refl _, by intro n hn; cases hn⟩ ?_ ?_⟩
      · obtain ⟨_, s, _⟩ := h
        exact ⟨_, _, SqL.of (s _ _ hp3), List.getElem?_eq_getElem (by rw [List.length_map]; exact hi)⟩
      · obtain ⟨_, s, _⟩ := h
        exact ⟨_, SqL.of (s _ _ hp3), by rw [List.length_map]; exact Nat.le_refl _⟩
      · rintro i y H4 H5 hi ⟨ms, s4, hd4, hle4, hms⟩ ⟨rfl, hy⟩
        have ey := hy _ (SqL.of (s4 _ _ hp3))
        rw [List.getElem?_map, List.getElem?_eq_getElem hi] at ey
        obtain rfl := Option.some.inj ey
        obtain ⟨u, hu, eu⟩ := hys _ (List.getElem_mem hi)
        rw [← eu]
        have s34 := s3.trans s4
        have dg : DGet H5 a (.str (S u.d.name)) (some (.ref u.t)) := .inl ⟨usK us, .inr (S u.d.name), .inr ⟨od, s34 _ _ haL⟩, rfl, (usK_some hnd hu).symm⟩
        refine ⟨rfl, ?_⟩
        refine ⟨_, rfl, _, rfl, a, _, rfl, dg, u.t, _, 1, .bl u.d.spare, rfl, rfl, SqT.of (s34 _ _ (fL.tup (htup u hu))), rfl, u.d.spare, rfl, ?_⟩
        cases u.d.spare with
        | true => exact iffF (by rfl) ⟨ms, s4, hd4, by omega, hms⟩
        | false =>
          refine ift (by rfl) ⟨_, rfl, _, hd4, (by rw [List.length_map]; exact line5' (by omega)), ms ++ [S u.d.name], Same.updN s4 hD2, (by rw [upd_same, List.map_append]; rfl), (by rw [List.length_append]; simp only [List.length_singleton]; omega), fun n hn => ?_⟩
          rcases List.mem_append.mp hn with hn | hn
          · exact hms n hn
          · exact ⟨u, hu, (List.mem_singleton.mp hn).symm⟩
      · rintro H4 ⟨ms, s4, hd4, hle4, hms⟩
        have s34 := s3.trans s4
        cases hemp : (ms.map V.str).isEmpty with
        | false =>
          refine ⟨true, .inl ⟨_, SqL.of hd4, by rw [hemp]; rfl⟩, ift (by rfl) ?_⟩
          refine ⟨_, rfl, line5 (by decide), fun nl hnl => ?_⟩
          have s5 : Same H4 (upd H4 nl (.lst [])) := Same.upd hnl
          have hl5 := s5 _ _ hd4
          refine ⟨D2, nl, _, rfl, rfl, .inl ⟨SqL.of hl5, SqL.of upd_same⟩, (fun v hv => ?_), _, rfl, ?_⟩
          · obtain ⟨n, hn, rfl⟩ := List.mem_map.mp hv
            obtain ⟨u, hu, rfl⟩ := hms n hn
            exact Fl.str _ (hlets u hu).small
          have s35 := s34.trans s5
          have hT5 := hTL.fr (Fr.of [] s35) (by simp)
          have hiso : (ms.map V.str).isEmpty = ms.isEmpty := by cases ms <;> rfl
          rw [hiso]
          cases hks0 : ms with
          | nil => exact ift (by rfl) (k0 _ (fL.trans (Fr.of _ s35)) hT5)
          | cons n0 rest0 =>
            rw [← hks0]
            refine iffF (by rw [hks0]; rfl) ?_
            refine ⟨_, rfl, _, rfl, _, rfl, _, rfl, z, D2, a, ms, us, last, rfl, hz, hl5, (by rw [hks0]; simp), (by omega), hms, .inr ⟨od, s35 _ _ haL⟩, ⟨hnd, hfew, hlets, fun u hu => s35 _ _ (fL.tup (htup u hu))⟩, hT5, fun n hn H' f' hT' => ?_⟩
            obtain ⟨u, hu, rfl⟩ := hms n hn
            exact k1 u hu H' ((fL.trans (Fr.of _ s35)).trans (f'.mono (by simp))) hT'
        | true =>
          refine ⟨false, .inl ⟨_, SqL.of hd4, by rw [hemp]; rfl⟩, iffF (by rfl) ⟨_, rfl, ?_⟩⟩
          have hp4 := s4 _ _ hp3
          refine ⟨_, rfl, line5 (by decide), fun nl hnl => ?_⟩
          have s5 : Same H4 (upd H4 nl (.lst [])) := Same.upd hnl
          have hl5 := s5 _ _ hp4
          refine ⟨p, nl, _, rfl, rfl, .inl ⟨SqL.of hl5, SqL.of upd_same⟩, (fun v hv => ?_), _, rfl, ?_⟩
          · obtain ⟨n, hn, rfl⟩ := List.mem_map.mp hv
            obtain ⟨u, hu, rfl⟩ := hys n hn
            exact Fl.str _ (hlets u hu).small
          have s35 := s34.trans s5
          have hT5 := hTL.fr (Fr.of [] s35) (by simp)
          have hiso : (ys.map V.str).isEmpty = ys.isEmpty := by cases ys <;> rfl
          rw [hiso]
          cases hks0 : ys with
          | nil => exact ift (by rfl) (k0 _ (fL.trans (Fr.of _ s35)) hT5)
          | cons n0 rest0 =>
            rw [← hks0]
            refine iffF (by rw [hks0]; rfl) ?_
            refine ⟨_, rfl, _, rfl, _, rfl, _, rfl, z, p, a, ys, us, last, rfl, hz, hl5, (by rw [hks0]; simp), hyl, hys, .inr ⟨od, s35 _ _ haL⟩, ⟨hnd, hfew, hlets, fun u hu => s35 _ _ (fL.tup (htup u hu))⟩, hT5, fun n hn H' f' hT' => ?_⟩
            obtain ⟨u, hu, rfl⟩ := hys n hn
            exact k1 u hu H' ((fL.trans (Fr.of _ s35)).trans (f'.mono (by simp))) hT'
end

/-! ### Writer: road_for, send */ -/
theorem UsOk.of {x : Wr} {H : Hp} {us : List Us} (hb : WrB x) (h1 : us.map Us.d = x.roads.filter isUp) (h2 : ∀ u ∈ us, H u.t = some (.tup [.int (u.d.laid - u.d.sure), .bl u.d.spare, .bl u.b])) : UsOk H us := by
  have hmem : ∀ u ∈ us, u.d ∈ x.roads := fun u hu => ((List.mem_filter (p := isUp)).mp (by rw [← h1]; exact List.mem_map.mpr ⟨u, hu, rfl⟩)).1
  refine ⟨?_, ?_, fun u hu => (hb.name _ (hmem u hu)).1, h2⟩
  · have e : us.map (fun u => u.d.name) = (x.roads.filter isUp).map (·.name) := by rw [← h1, List.map_map]; rfl
    rw [e]
    exact (List.filter_sublist.map _).nodup hb.nd
  · have e := congrArg List.length h1
    rw [List.length_map] at e
    have := List.length_filter_le isUp x.roads
    have := hb.few
    omega
theorem us_road {x : Wr} {us : List Us} (h1 : us.map Us.d = x.roads.filter isUp) : ∀ u ∈ us, u.d ∈ x.roads ∧ u.d.st = "up" := fun u hu => by
  obtain ⟨g1, g2⟩ := (List.mem_filter (p := isUp)).mp (show u.d ∈ x.roads.filter isUp by rw [← h1]; exact List.mem_map.mpr ⟨u, hu, rfl⟩)
  exact ⟨g1, of_decide_eq_true g2⟩
theorem cutV_1 {α : Type} (v : V) (vs : List V) : cutV (v :: vs) (some 1) none = vs := by
  unfold cutV
  rw [show (some (1 : Int)) = some (((1 : Nat) : Int)) from rfl, HT.sIx_nat, HT.sIx_none]
  simp
section
variable {P : Program} {w : World} {K : PySem.W.Frag} {mg : Str → Option Value} {base : Heap}
def sp_Writer_road_for (K : PySem.W.Frag) : Sp := fun vs H Q _ => ∃ x : Wr, vs = [.ref x.p] ∧ WrH K H x ∧ WrB x ∧ (x.rule = "first" ∨ x.rule = "few" ∨ x.rule = "turns") ∧ (∃ fn, x.first = some fn) ∧ TabsB K H ∧
  (∀ H' : Hp, Fr [PT K] H H' → TabsB K H' → Q .non H') ∧ ∀ (d : Rw) (H' : Hp), d ∈ x.roads → d.st = "up" → (x.mode ≠ "led" → x.first = some d.name) → Fr [PT K] H H' → TabsB K H' → Q (tx d.name) H'
theorem sc_Writer_road_for : FnScope ["self"] ["self"] (defScope s_Writer_road_for) := ⟨rfl, rfl, rfl, by decide +kernel, rfl, by decide +kernel, by decide +kernel⟩
theorem ok_Writer_road_for (T : TX P w K mg base) : PR P w K mg base 6 (He.ma K (He.ga K "Writer") "road_for") ["self"] (sp_Writer_road_for K) := by
  have G_Writer_usable := ok_Writer_usable T
  have G_chosen := ok_chosen T
  refine T.prom d_Writer_road_for (List.mem_of_getElem? (i := 39) (by rfl)) ⟨rfl, rfl⟩ sc_Writer_road_for (fun vs H Q E h => ?_) (fun _ _ _ _ _ _ us hl => match us, hl with | [_], _ => rfl) (fun cdv A outer s H vs Q E hr h => ?_)
  · obtain ⟨_, rfl, _⟩ := h
    rfl
  · have hu := hu_of hr
    obtain ⟨x, rfl, hx, hb, hru, ⟨fn, hfn⟩, hT, k0, k1⟩ := h
    refine ⟨_, (pss_cons (ps_if (pt_cmpR op_eq (pe_fld (pv 0) rfl) pe_str (nomark _))
        (pss_one (ps_ret (pe_callP G_chosen (hr.mono (by decide)) rfl T.g_chosen (pa_cons (pe_fld (pv 0) rfl) (pa_cons (pe_methP0 (pv 0) T.cl_Writer T.m_Writer_usable G_Writer_usable (hr.mono (by decide))) (pa_cons (pe_fld (pv 0) rfl) pa_nil))))))
        pss_nil)
      (pss_one (ps_ret (pe_ifExp (pt_cmp (pc_din hu (pe_fld (pv 0) rfl) (pe_methP0 (pv 0) T.cl_Writer T.m_Writer_usable G_Writer_usable (hr.mono (by decide))))) (pe_fld (pv 0) rfl) pe_non)))), ?_⟩
    obtain ⟨dx, ho⟩ := hx.o
    refine ⟨_, rfl, _, _, _, _, _, rfl, ho, T.cl_Writer, T.n_Writer_own_mode, lkWriter_own_mode (x), rfl, _, rfl, ?_⟩
    by_cases hled : x.mode = "led"
    · refine ift (decide_eq_true (by rw [hled])) ?_
      refine ⟨_, rfl, _, _, _, _, _, rfl, ho, T.cl_Writer, T.n_Writer_own_rule, lkWriter_own_rule (x), _, rfl, _, _, _, rfl, ho, noWriter_usable (x), x, rfl, hx, hb, fun r us H1 s1 hr0 hr1 hus hut => ?_⟩
      have ho1 := s1 _ _ ho
      have hT1 := hT.fr (Fr.of [] s1) (by simp)
      have conv : ∀ H' : Hp, Fr [PT K, r] H1 H' → Fr [PT K] H H' := fun H' f b o h e => by
        refine f b o (h.imp (fun n z => ?_) id) (s1 b o e)
        rcases List.mem_cons.mp z with z | z
        · exact n (by simp [z])
        · rw [List.mem_singleton.mp z, hr0] at e
          cases e
      refine ⟨_, rfl, _, _, _, _, _, rfl, ho1, T.cl_Writer, T.n_Writer_last_road, lkWriter_last_road (x), x.rule, r, us, x.last, rfl, hru, hr1, UsOk.of hb hus hut, hT1, fun H' f hT' => k0 H' (conv H' f) hT', fun u hu H' f hT' => ?_⟩
      obtain ⟨g1, g2⟩ := us_road hus u hu
      exact k1 u.d H' g1 g2 (fun h => absurd hled h) (conv H' f) hT'
    · refine iffF (decide_eq_false fun z => hled (V.str.inj z)) ?_
      refine ⟨_, rfl, _, _, _, _, _, rfl, ho, T.cl_Writer, T.n_Writer_first_road, lkWriter_first_road (x), _, rfl, _, _, _, rfl, ho, noWriter_usable (x), x, rfl, hx, hb, fun r us H1 s1 hr0 hr1 hus hut => ?_⟩
      have ho1 := s1 _ _ ho
      have hT1 := hT.fr (Fr.of [] s1) (by simp)
      have lf : (wrF x).lookup ("first_road" : Str) = some (tx fn) := by rw [lkWriter_first_road, hfn]; rfl
      refine ⟨r, valV (usK us) (.inr (S fn)), rfl, .inl ⟨usK us, .inr (S fn), .inl hr1, (by rw [hfn]; rfl), rfl⟩, _, rfl, ?_⟩
      cases hv : valV (usK us) (.inr (S fn)) with
      | none => exact iffF (by rfl) (k0 H1 (Fr.of _ s1) hT1)
      | some v =>
        refine ift (by rfl) ⟨_, rfl, _, _, _, _, _, rfl, ho1, T.cl_Writer, T.n_Writer_first_road, lf, ?_⟩
        have h1 := valV_in hv
        unfold usK at h1
        rw [List.map_map] at h1
        obtain ⟨u, hu, eu⟩ := List.mem_map.mp h1
        have en : u.d.name = fn := S_inj (Sum.inr.inj eu)
        obtain ⟨g1, g2⟩ := us_road hus u hu
        rw [← en]
        exact k1 u.d H1 g1 g2 (fun _ => by rw [hfn, en]) (Fr.of _ s1) hT1
def sp_Writer_send (K : PySem.W.Frag) : Sp := fun vs H Q _ => ∃ x : Wr, vs = [.ref x.p] ∧ WrH K H x ∧ WrB x ∧ (x.rule = "first" ∨ x.rule = "few" ∨ x.rule = "turns") ∧ (∃ fn, x.first = some fn) ∧ TabsB K H ∧
  (∀ (r : Addr) (H' : Hp), Fr [PT K] H H' → TabsB K H' → H r = none → H' r = some (.lst []) → Q (.ref r) H') ∧
  ∀ (a b : List Rw) (d : Rw) (r t q lt la : Addr) (f : Nat) (l : List Nat) (es : List Pc) (nx : Nat) (H' : Hp), x.roads = a ++ d :: b → d.st = "up" → (x.mode ≠ "led" → x.first = some d.name) →
    WrH K H' { x with roads := a ++ layD d lt q f l :: b, last := some d.name, la := la, anew := es, next := nx } → Fr (PT K :: foot x) H H' → TabsB K H' →
    0 < l.length → l.length ≤ 8 → ((f : Int) + (l.length : Nat) ≤ x.limit) → Sub x.W f l → ((l.length : Nat) : Int) ≤ 24 - (d.laid - d.sure) →
    ((x.anew ≠ [] ∧ es.length ≤ x.anew.length ∧ nx = x.next) ∨ (x.anew = [] ∧ es = [] ∧ f = x.next ∧ nx = x.next + l.length)) → H r = none → H' r = some (.lst [.ref t]) →
    LetH H' t d ⟨lt, q, d.txt.length, f, l⟩ (decide (x.mode = "plain")) → Q (.ref r) H'
theorem sc_Writer_send : FnScope ["self", "found", "name", "way", "piece", "lay", "left"] ["self"] (defScope s_Writer_send) := ⟨rfl, rfl, rfl, by decide +kernel, rfl, by decide +kernel, by decide +kernel⟩
theorem ok_Writer_send (T : TX P w K mg base) : PR P w K mg base 7 (He.ma K (He.ga K "Writer") "send") ["self"] (sp_Writer_send K) := by
  have G_Way_base := ok_Way_base T
  have G_Way_lay := ok_Way_lay T
  have G_Way_unsure := ok_Way_unsure T
  have G_Writer_next_piece := ok_Writer_next_piece T
  have G_Writer_road_for := ok_Writer_road_for T
  have G_cut_at := ok_cut_at T
  refine T.prom d_Writer_send (List.mem_of_getElem? (i := 40) (by rfl)) ⟨rfl, rfl⟩ sc_Writer_send (fun vs H Q E h => ?_) (fun _ _ _ _ _ _ us hl => match us, hl with | [_], _ => rfl) (fun cdv A outer s H vs Q E hr h => ?_)
  · obtain ⟨_, rfl, _⟩ := h
    rfl
  · have hu := hu_of hr
    obtain ⟨x, rfl, hx, hb, hru, hfn, hT, k0, k1⟩ := h
    refine ⟨_, (pss_cons (ps_set (i := 1) sc_Writer_send.nd rfl (by first | exact Or.inl rfl | exact Or.inr rfl) (pe_methP0 (pv 0) T.cl_Writer T.m_Writer_next_piece G_Writer_next_piece (hr.mono (by decide))))
      (pss_cons (ps_set (i := 2) sc_Writer_send.nd rfl (by first | exact Or.inl rfl | exact Or.inr rfl) (pe_methP0 (pv 0) T.cl_Writer T.m_Writer_road_for G_Writer_road_for (hr.mono (by decide))))
      (pss_cons (ps_if (PW.pt (pw_or (pt_cmpR op_isN (pv 1) pe_non (nomark _)) (pw_or1 (pt_cmpR op_isN (pv 2) pe_non (nomark _)))))
        (pss_one (ps_ret (pe_lst pa_nil)))
        pss_nil)
      (pss_cons (ps_set (i := 3) sc_Writer_send.nd rfl (by first | exact Or.inl rfl | exact Or.inr rfl) (pe_fld (pe_dget hu (pe_fld (pv 0) rfl) (pv 2) (fun _ _ => rfl)) rfl))
      (pss_cons (ps_set (i := 4) sc_Writer_send.nd rfl (by first | exact Or.inl rfl | exact Or.inr rfl) (pe_ix ix_tup (pe_callP G_cut_at (hr.mono (by decide)) rfl T.g_cut_at (pa_cons (pe_ix ix_tup (pv 1) pe_int (fun _ _ => rfl)) (pa_cons (pe_op op_sub (pe_op op_add (pe_ix ix_tup (pe_ix ix_tup (pv 1) pe_int (fun _ _ => rfl)) pe_int (fun _ _ => rfl)) (pe_gint rfl T.c_WINDOW)) (pe_methP0 (pv 3) T.cl_Way T.m_Way_unsure G_Way_unsure (hr.mono (by decide)))) pa_nil))) pe_int (fun _ _ => rfl)))
      (pss_cons (ps_if (pt_cmpR op_isN (pv 4) pe_non (nomark _))
        (pss_one (ps_ret (pe_lst pa_nil)))
        pss_nil)
      (pss_cons (ps_if (pt_val (pe_ix ix_tup (pv 1) pe_int (fun _ _ => rfl)))
        (pss_cons (ps_set (i := 6) sc_Writer_send.nd rfl (by first | exact Or.inl rfl | exact Or.inr rfl) (pe_ix ix_tup (pe_callP G_cut_at (hr.mono (by decide)) rfl T.g_cut_at (pa_cons (pe_ix ix_list (pe_fld (pv 0) rfl) pe_int (fun _ _ => rfl)) (pa_cons (pe_op op_add (pe_ix ix_tup (pv 4) pe_int (fun _ _ => rfl)) (pe_callB call_len (by rfl) T.f_len (by decide +kernel) (pa_cons (pe_ix ix_tup (pv 4) pe_int (fun _ _ => rfl)) pa_nil))) pa_nil))) pe_int (fun _ _ => rfl)))
        (pss_one (ps_fld (pv 0) (pe_op op_cat (pe_ifExp (pt_cmpR op_isN (pv 6) pe_non (nomark _)) (pe_lst pa_nil) (pe_lst (pa_cons (pv 6) pa_nil))) (pe_slice sl_list (pe_fld (pv 0) rfl) (po_some pe_int) po_none)) rfl)))
        (pss_one (ps_fldaug (pv 0) (pe_callB call_len (by rfl) T.f_len (by decide +kernel) (pa_cons (pe_ix ix_tup (pv 4) pe_int (fun _ _ => rfl)) pa_nil)) in_add)))
      (pss_cons (ps_fld (pv 0) (pv 2) rfl)
      (pss_cons (ps_set (i := 5) sc_Writer_send.nd rfl (by first | exact Or.inl rfl | exact Or.inr rfl) (pe_methP (pv 3) T.cl_Way T.m_Way_lay G_Way_lay (hr.mono (by decide)) (pa_cons (pv 4) pa_nil)))
      (pss_one (ps_ret (pe_lst (pa_cons (pe_tup (pa_cons pe_str (pa_cons (pv 2) (pa_cons (pe_op op_add (pe_methP0 (pv 3) T.cl_Way T.m_Way_base G_Way_base (hr.mono (by decide))) (pe_ix ix_tup (pv 5) pe_int (fun _ _ => rfl))) (pa_cons (pe_ix ix_tup (pv 4) pe_int (fun _ _ => rfl)) (pa_cons (pe_ifExp (pt_cmpR op_eq (pe_fld (pv 0) rfl) pe_str (nomark _)) (pe_tup pa_nil) (pe_tup (pa_cons (pv 5) pa_nil))) pa_nil)))))) pa_nil))))))))))))), ?_⟩
    obtain ⟨dx, ho⟩ := hx.o
    obtain ⟨ps, hps⟩ := hT.tbl
    have hPp : PT K ≠ x.p := ne_of hps ho (fun z => nomatch z)
    have hPf : PT K ∉ foot x := by
      intro hp
      unfold foot at hp
      rcases List.mem_cons.mp hp with z | hp
      · exact hPp z
      · rcases List.mem_cons.mp hp with z | hp
        · exact ne_of hps hx.dr (fun z => nomatch z) z
        · obtain ⟨d, hd, hc⟩ := List.mem_flatMap.mp hp
          have hr := hx.rd d hd
          obtain ⟨d1, o1⟩ := hr.r
          obtain ⟨d2, o2⟩ := hr.w.o
          have hc2 : PT K = d.r ∨ PT K = d.wy ∨ PT K = d.la ∨ PT K = d.pa := by simpa [rf] using hc
          rcases hc2 with z | z | z | z
          · exact ne_of hps o1 (fun z => nomatch z) z
          · exact ne_of hps o2 (fun z => nomatch z) z
          · exact ne_of hps hr.w.ls (fun z => nomatch z) z
          · exact ne_of hps hr.w.ps (fun z => nomatch z) z
    have hPla : PT K ≠ x.la := ne_of hps hx.la (fun z => nomatch z)
    have hxP : ∀ c ∈ [PT K], c ∉ x.la :: foot x := by
      intro c hc z
      rw [List.mem_singleton.mp hc] at z
      rcases List.mem_cons.mp z with z | z
      · exact hPla z
      · exact hPf z
    have nil0 : ∀ H1 : Hp, Fr [PT K] H H1 → TabsB K H1 → ∀ r, H1 r = none → Q (.ref r) (upd H1 r (.lst [])) := by
      intro H1 f1 hT1 r hr
      refine k0 r _ (f1.new hr) (hT1.fr (Fr.of [] (Same.upd hr)) (by simp)) (f1.free (fun z => ?_) hr) upd_same
      obtain ⟨ps1, hps1⟩ := hT1.tbl
      rw [← List.mem_singleton.mp z, hr] at hps1
      cases hps1
    refine ⟨_, rfl, _, _, _, rfl, ho, noWriter_next_piece (x), x, rfl, hx, hb, fun H1 s1 => ?_, fun t0 e more H1 s1 ht0 he hl0 hl8 hlim hmore => ?_⟩
    · have ho1 := s1 _ _ ho
      have hT1 := hT.fr (Fr.of [] s1) (by simp)
      refine ⟨_, rfl, _, _, _, rfl, ho1, noWriter_road_for (x), x, rfl, hx.same s1, hb, hru, hfn, hT1, fun H2 f2 hT2 => ?_, fun d H2 hd hup hm f2 hT2 => ?_⟩
      · exact ⟨_, rfl, rfl, _, rfl, ift (by rfl) (ift (by rfl) ⟨line5 (by decide), fun r hr => nil0 H2 ((Fr.of _ s1).trans f2) hT2 r hr⟩)⟩
      · exact ⟨_, rfl, rfl, _, rfl, ift (by rfl) (ift (by rfl) ⟨line5 (by decide), fun r hr => nil0 H2 ((Fr.of _ s1).trans f2) hT2 r hr⟩)⟩
    · have ho1 := s1 _ _ ho
      have hT1 := hT.fr (Fr.of [] s1) (by simp)
      refine ⟨_, rfl, _, _, _, rfl, ho1, noWriter_road_for (x), x, rfl, hx.same s1, hb, hru, hfn, hT1, fun H2 f2 hT2 => ?_, fun d H2a hd hup hmode f2b hT2a => ?_⟩
      · exact ⟨_, rfl, rfl, _, rfl, iffF (by rfl) ⟨_, rfl, rfl, _, rfl, ift (by rfl) ⟨line5 (by decide), fun r hr => nil0 H2 ((Fr.of _ s1).trans f2) hT2 r hr⟩⟩⟩
      · refine ⟨_, rfl, rfl, _, rfl, iffF (by rfl) ⟨_, rfl, rfl, _, rfl, iffF (by rfl) ?_⟩⟩
        obtain ⟨a, b, hab⟩ := List.append_of_mem hd
        have f2a : Fr [PT K] H H2a := (Fr.of _ s1).trans f2b
        have hx2a := hx.fr f2a hxP
        have ht2a := f2b.tup ht0
        have he2a := he.fr f2b
        have ho2a : H2a x.p = some (.ins (He.ga K "Writer") dx (wrF x)) := f2a.at (by simpa using hPp.symm) ho
        obtain ⟨dy2, hr2⟩ := (hx2a.rd d hd).r
        obtain ⟨dw2, hwo2⟩ := (hx2a.rd d hd).w.o
        have dg : DGet H2a x.dr (tx d.name) (some (.ref d.r)) := .inl ⟨_, .inr (S d.name), .inl hx2a.dr, rfl, (rdK_some hb.nd hd).symm⟩
        refine ⟨_, rfl, _, _, _, _, _, rfl, ho2a, T.cl_Writer, T.n_Writer_own_roads, lkWriter_own_roads (x), _, rfl, x.dr, _, rfl, dg, _, _, _, _, _, rfl, hr2, T.cl_Road, T.n_Road_own_way, lkRoad_own_way d, ?_⟩
        refine ⟨_, rfl, t0, _, 0, .ref e.a, rfl, rfl, SqT.of ht2a, rfl, _, rfl, t0, _, 0, .ref e.a, rfl, rfl, SqT.of ht2a, rfl, e.a, _, 0, .int e.f, rfl, rfl, SqT.of he2a.1, rfl, _, _, rfl, rfl, _, rfl, _, _, _, rfl, hwo2, noWay_unsure d, d, rfl, (hx2a.rd d hd).w, _, _, rfl, rfl, e.a, _, e.f, e.l, rfl, SqT.of he2a.1, by omega, fun p H2 va vb s2b hp0 hp3 hA hB => ?_⟩
        obtain ⟨qo, rfl, hqo⟩ := cutA_pc hA he2a.2
        refine ⟨p, _, 0, oP qo, rfl, rfl, SqT.of hp3, rfl, ?_⟩
        have f2 : Fr [PT K] H H2 := f2a.trans (Fr.of _ s2b)
        have hx2 := hx2a.same s2b
        have ht2 := s2b _ _ ht2a
        have ho2 := s2b _ _ ho2a
        have hT2 := hT2a.fr (Fr.of [] s2b) (by simp)
        refine ⟨_, rfl, rfl, _, rfl, ?_⟩
        cases qo with
        | none => exact ift (by rfl) ⟨line5 (by decide), fun r hr => nil0 H2 f2 hT2 r hr⟩
        | some e2 =>
          obtain ⟨g1, g2, g3, g4, g5⟩ := hqo e2 rfl
          have hq2 := g1.1
          refine iffF (by rfl) ⟨_, rfl, t0, _, 1, .bl more, rfl, rfl, SqT.of ht2, rfl, more, rfl, ?_⟩
          rcases hmore with ⟨rfl, e0, rest, hcase, hf0⟩ | ⟨rfl, hcase, hf0⟩
          · refine ift (by rfl) ?_
            have hat : atI (x.anew.map pv_) ((0 : Nat) : Int) = some (.ref e0.a) := atI_nat (by rw [hcase]; rfl)
            have hp0 := hx2.an e0 (by rw [hcase]; simp)
            refine ⟨_, rfl, _, _, _, _, _, rfl, ho2, T.cl_Writer, T.n_Writer_own_anew, lkWriter_own_anew (x), x.la, _, 0, .ref e0.a, rfl, rfl, SqL.of hx2.la, hat, _, rfl, e2.a, _, 0, .int e2.f, rfl, rfl, SqT.of hq2, rfl, _, rfl, e2.a, _, 1, tx e2.l, rfl, rfl, SqT.of hq2, rfl, _, _, rfl, ⟨line5 (by rw [S_len]; omega), rfl⟩, _, _, rfl, rfl, e0.a, _, e0.f, e0.l, rfl, SqT.of hp0.1, (by have := hp0.2.1; have := hb.W; omega), fun p3 H3b va3 vb3 s3b hp30 hp33 hA3 hB3 => ?_⟩
            obtain ⟨q3, rfl, hq3P⟩ := cutB_pc hB3 hp0.2
            refine ⟨p3, _, 1, oP q3, rfl, rfl, SqT.of hp33, rfl, ?_⟩
            have ho3b := s3b _ _ ho2
            have hla3b := s3b _ _ hx2.la
            have hcut : cutV (x.anew.map pv_) (some 1) none = rest.map pv_ := by rw [hcase]; exact cutV_1 (α := Nat) _ _
            have htl : (q3.toList).length ≤ 1 := by cases q3 <;> simp
            cases hq3 : q3 with
            | none =>
              refine ⟨_, rfl, rfl, _, rfl, ift (by rfl) ⟨line5 (by decide), fun n1 hn1 => ?_⟩⟩
              have hn1v : (upd H3b n1 (.lst [])) n1 = some (.lst ((none : Option Pc).toList.map pv_)) := upd_same
              have sq : Same H3b (upd H3b n1 (.lst [])) := Same.upd hn1
              generalize (upd H3b n1 (.lst [])) = H4n at hn1v sq ⊢
              have sN := s3b.trans sq
              have ho4n := sN _ _ ho2
              have hla4n := sN _ _ hx2.la
              have h1n : H4n n1 = some (.lst ((q3.toList).map pv_)) := by rw [hq3]; exact hn1v
              refine ⟨_, rfl, _, _, _, _, _, rfl, ho4n, T.cl_Writer, T.n_Writer_own_anew, lkWriter_own_anew (x), _, rfl, x.la, _, rfl, SqL.of hla4n, fun n2 hn2 => ?_⟩
              rw [hcut]
              have h1n2 : (upd H4n n2 (.lst (rest.map pv_))) n1 = some (.lst ((q3.toList).map pv_)) := by rw [upd_ne (ne_of_none h1n hn2)]; exact h1n
              refine ⟨n1, n2, _, _, rfl, rfl, h1n2, upd_same, (by rw [List.length_map, List.length_map]; have h9 := hb.anew; rw [hcase] at h9; simp only [List.length_cons] at h9; have := htl; exact line5 (by omega)), fun cr hcr => ?_⟩
              have s4n : Same H2 (upd (upd H4n n2 (.lst (rest.map pv_))) cr (.lst ((q3.toList).map pv_ ++ rest.map pv_))) := (sN.trans (Same.upd hn2)).trans (Same.upd hcr)
              have ho5n := s4n _ _ ho2
              have hcr2 : H2 cr = none := (sN.trans (Same.upd (o := .lst (rest.map pv_)) hn2)).free hcr
              have hcrv : (upd (upd H4n n2 (.lst (rest.map pv_))) cr (.lst ((q3.toList).map pv_ ++ rest.map pv_))) cr = some (.lst ((q3.toList ++ rest).map pv_)) := by rw [upd_same, List.map_append]
              have sAll : ∀ e' ∈ q3.toList ++ rest, PcAt x.W (upd (upd H4n n2 (.lst (rest.map pv_))) cr (.lst ((q3.toList).map pv_ ++ rest.map pv_))) e' := by
                intro e' he'
                rcases List.mem_append.mp he' with he' | he'
                · exact ((hq3P e' (by simpa using he')).same sq).same ((Same.upd hn2).trans (Same.upd hcr))
                · exact (hx2.an e' (by rw [hcase]; simp [he'])).same s4n
              generalize (upd (upd H4n n2 (.lst (rest.map pv_))) cr (.lst ((q3.toList).map pv_ ++ rest.map pv_))) = H5n at s4n ho5n hcrv sAll ⊢
              refine ⟨_, rfl, _, _, _, _, rfl, ho5n, T.cl_Writer, T.n_Writer_own_anew, lenWriter (x), ?_⟩
              rw [ptWriter_own_anew]
              have f3 : Fr [x.p] H2 (upd H5n x.p (.ins (He.ga K "Writer") dx (wrF { x with la := cr }))) := (Fr.of _ s4n).trans (Fr.putI (by simp) ho5n)
              have hcrp : cr ≠ x.p := (ne_of_none ho2 hcr2).symm
              have hx3 : WrH K (upd H5n x.p (.ins (He.ga K "Writer") dx (wrF { x with la := cr }))) { x with la := cr, anew := q3.toList ++ rest } := hx2.self f3 ⟨dx, upd_same⟩ rfl rfl rfl (by rw [upd_ne hcrp]; exact hcrv) (fun e' he' => (sAll e' he').fr (F := [x.p]) (Fr.putI (by simp) ho5n)) (not_foot hx2 hcr2)
              generalize (upd H5n x.p (.ins (He.ga K "Writer") dx (wrF { x with la := cr }))) = H3 at hx3 f3 ⊢

              obtain ⟨dx3, ho3⟩ := hx3.o
              have hput : putF ("last_road" : Str) (tx d.name) (wrF { x with la := cr, anew := q3.toList ++ rest }) = wrF { { x with la := cr, anew := q3.toList ++ rest } with last := some d.name } := ptWriter_last_road { x with la := cr, anew := q3.toList ++ rest } (some d.name)
              refine ⟨_, rfl, _, rfl, _, _, _, _, rfl, ho3, T.cl_Writer, T.n_Writer_last_road, lenWriter ({ x with la := cr, anew := q3.toList ++ rest }), ?_⟩
              rw [hput]
              have hx4 : WrH K (upd H3 x.p (.ins (He.ga K "Writer") dx3 (wrF { { x with la := cr, anew := q3.toList ++ rest } with last := some d.name }))) { { x with la := cr, anew := q3.toList ++ rest } with last := some d.name } := hx3.self0 rfl rfl rfl rfl rfl rfl
              have f4 : Fr [x.p] H3 (upd H3 x.p (.ins (He.ga K "Writer") dx3 (wrF { { x with la := cr, anew := q3.toList ++ rest } with last := some d.name }))) := Fr.putI (by simp) ho3
              generalize (upd H3 x.p (.ins (He.ga K "Writer") dx3 (wrF { { x with la := cr, anew := q3.toList ++ rest } with last := some d.name }))) = H4 at hx4 f4 ⊢
              have hd4 : RdH K H4 d := hx4.rd d hd
              obtain ⟨dw4, hwo4⟩ := hd4.w.o
              have hq4 := f4.tup (f3.tup hq2)
              refine ⟨_, rfl, _, _, _, rfl, hwo4, noWay_lay d, _, rfl, d, e2.a, e2.f, e2.l, rfl, hd4.w, hq4, (g1.2.lets hb.lets), (by omega), hb.ents d hd, fun lt H5 hw5 f5 hlt => ?_⟩
              have hwf : ∀ c ∈ [d.wy, d.la, d.pa], c ∈ rf d := by simp [rf]
              have hlay5 : RdH K H5 (layD d lt e2.a e2.f e2.l) := by
                refine ⟨hw5, ?_⟩
                obtain ⟨dy5, hr5⟩ := hd4.r
                refine ⟨dy5, f5.at (fun z => ?_) hr5⟩
                have nd := (nd_split hx.nd hab).2.2
                have n1 := (List.nodup_cons.mp nd).1
                exact n1 z
              have hx5 : WrH K H5 { { { x with la := cr, anew := q3.toList ++ rest } with last := some d.name } with roads := a ++ layD d lt e2.a e2.f e2.l :: b } := hx4.road hab f5 hwf hlay5 rfl rfl
              obtain ⟨dx5, ho5⟩ := hx5.o
              obtain ⟨dw5, hwo5⟩ := hw5.o
              have hq5 := f5.tup hq4
              have hle5 := hw5.en ⟨lt, e2.a, d.txt.length, e2.f, e2.l⟩ (by show _ ∈ d.ents ++ [_]; simp)
              have hlt5 : H5 lt = some (.tup [.int ((d.txt.length : Nat) : Int), .int e2.f, .int (e2.l.length : Nat), .int (wsum e2.l)]) := hle5.1
              have fAll : Fr (PT K :: foot x) H H5 := by
                have c1 : ∀ c ∈ [PT K], c ∈ PT K :: foot x := by simp
                have c2 : ∀ c ∈ [x.p], c ∈ PT K :: foot x := by simp [foot]
                have c3 : ∀ c ∈ [d.wy, d.la, d.pa], c ∈ PT K :: foot x := fun c hc => List.mem_cons_of_mem _ (rf_foot hd c (hwf c hc))
                exact (((f2.mono c1).trans (f3.mono c2)).trans (f4.mono c2)).trans (f5.mono c3)
              have hT5 : TabsB K H5 := by
                have hT3 := hT2.fr f3 (by simpa using hPp)
                have hT4 := hT3.fr f4 (by simpa using hPp)
                exact hT4.fr f5 fun z => hPf (rf_foot hd _ (hwf _ z))
              have lm : (wrF { { { x with la := cr, anew := q3.toList ++ rest } with last := some d.name } with roads := a ++ layD d lt e2.a e2.f e2.l :: b }).lookup ("own_mode" : Str) = some (V.str x.mode) := lkWriter_own_mode { { { x with la := cr, anew := q3.toList ++ rest } with last := some d.name } with roads := a ++ layD d lt e2.a e2.f e2.l :: b }
              refine ⟨_, rfl, _, rfl, _, _, _, rfl, hwo5, noWay_base (layD d lt e2.a e2.f e2.l), layD d lt e2.a e2.f e2.l, rfl, hw5, _, rfl, lt, _, 0, .int ((d.txt.length : Nat) : Int), rfl, rfl, SqT.of hlt5, rfl, _, _, rfl, rfl, _, rfl, e2.a, _, 1, tx e2.l, rfl, rfl, SqT.of hq5, rfl, _, rfl, _, _, _, _, _, rfl, ho5, T.cl_Writer, T.n_Writer_own_mode, lm, rfl, _, rfl, ?_⟩
              have fin : ∀ (xs : List V) (u : Addr), xs = (if decide (x.mode = "plain") = true then [] else [.ref lt]) → H5 u = none → ∀ t, (upd H5 u (.tup xs)) t = none → ∀ r, (upd (upd H5 u (.tup xs)) t (.tup [.str "signs", tx d.name, .int (d.base + ((d.txt.length : Nat) : Int)), tx e2.l, .ref u])) r = none →
                  Q (.ref r) (upd (upd (upd H5 u (.tup xs)) t (.tup [.str "signs", tx d.name, .int (d.base + ((d.txt.length : Nat) : Int)), tx e2.l, .ref u])) r (.lst [.ref t])) := by
                intro xs u exs hu5 t ht r hr
                have s6 := ((Same.upd (o := .tup xs) hu5).trans (Same.upd (o := .tup [.str "signs", tx d.name, .int (d.base + ((d.txt.length : Nat) : Int)), tx e2.l, .ref u]) ht)).trans (Same.upd (o := .lst [.ref t]) hr)
                refine k1 a b d r t e2.a lt _ e2.f e2.l (q3.toList ++ rest) x.next _ hab hup hmode (hx5.same s6) (fAll.trans (Fr.of _ s6)) (hT5.fr (Fr.of [] s6) (by simp)) g3 (by omega) (by omega) g1.2 (by omega) (.inl ⟨by rw [hcase]; simp, by rw [hcase, List.length_append, List.length_cons]; omega, rfl⟩) ?_ upd_same ⟨u, ?_, ?_⟩
                · have z5 := ((Same.upd (o := .tup xs) hu5).trans (Same.upd (o := .tup [.str "signs", tx d.name, .int (d.base + ((d.txt.length : Nat) : Int)), tx e2.l, .ref u]) ht)).free hr
                  refine fAll.free (fun z => ?_) z5
                  rcases List.mem_cons.mp z with z | z
                  · obtain ⟨ps, hps⟩ := hT5.tbl
                    rw [← z, z5] at hps
                    cases hps
                  · refine not_foot hx5 z5 ?_
                    have ef : foot { { { x with la := cr, anew := q3.toList ++ rest } with last := some d.name } with roads := a ++ layD d lt e2.a e2.f e2.l :: b } = foot x := by
                      unfold foot
                      show x.p :: x.dr :: (a ++ layD d lt e2.a e2.f e2.l :: b).flatMap rf = _
                      rw [hab, List.flatMap_append, List.flatMap_append, List.flatMap_cons, List.flatMap_cons]
                      rfl
                    rw [ef]
                    exact z
                · rw [upd_ne (ne_of_none upd_same hr), upd_same]
                · rw [upd_ne (ne_of_none (by rw [upd_ne (ne_of_none upd_same ht)]; exact upd_same) hr), upd_ne (ne_of_none upd_same ht), upd_same, exs]
              by_cases hpl : x.mode = "plain"
              · refine ift (decide_eq_true (by rw [hpl])) ⟨line5 (by decide), fun u hu => ⟨line5 (by show 5 ≤ _; decide), fun t ht => ⟨line5 (by show 1 ≤ _; decide), fun r hr => fin [] u (by rw [if_pos (decide_eq_true hpl)]) hu t ht r hr⟩⟩⟩
              · refine iffF (decide_eq_false fun z => hpl (V.str.inj z)) ⟨_, rfl, line5 (by show 1 ≤ _; decide), fun u hu => ⟨line5 (by show 5 ≤ _; decide), fun t ht => ⟨line5 (by show 1 ≤ _; decide), fun r hr => fin [.ref lt] u (by rw [if_neg (by simpa using hpl)]) hu t ht r hr⟩⟩⟩
            | some e3 =>
              refine ⟨_, rfl, rfl, _, rfl, iffF (by rfl) ⟨_, rfl, line5 (by show 1 ≤ _; decide), fun n1 hn1 => ?_⟩⟩
              have hn1v : (upd H3b n1 (.lst [oP (some e3)])) n1 = some (.lst ((some e3).toList.map pv_)) := upd_same
              have sq : Same H3b (upd H3b n1 (.lst [oP (some e3)])) := Same.upd hn1
              generalize (upd H3b n1 (.lst [oP (some e3)])) = H4n at hn1v sq ⊢
              have sN := s3b.trans sq
              have ho4n := sN _ _ ho2
              have hla4n := sN _ _ hx2.la
              have h1n : H4n n1 = some (.lst ((q3.toList).map pv_)) := by rw [hq3]; exact hn1v
              refine ⟨_, rfl, _, _, _, _, _, rfl, ho4n, T.cl_Writer, T.n_Writer_own_anew, lkWriter_own_anew (x), _, rfl, x.la, _, rfl, SqL.of hla4n, fun n2 hn2 => ?_⟩
              rw [hcut]
              have h1n2 : (upd H4n n2 (.lst (rest.map pv_))) n1 = some (.lst ((q3.toList).map pv_)) := by rw [upd_ne (ne_of_none h1n hn2)]; exact h1n
              refine ⟨n1, n2, _, _, rfl, rfl, h1n2, upd_same, (by rw [List.length_map, List.length_map]; have h9 := hb.anew; rw [hcase] at h9; simp only [List.length_cons] at h9; have := htl; exact line5 (by omega)), fun cr hcr => ?_⟩
              have s4n : Same H2 (upd (upd H4n n2 (.lst (rest.map pv_))) cr (.lst ((q3.toList).map pv_ ++ rest.map pv_))) := (sN.trans (Same.upd hn2)).trans (Same.upd hcr)
              have ho5n := s4n _ _ ho2
              have hcr2 : H2 cr = none := (sN.trans (Same.upd (o := .lst (rest.map pv_)) hn2)).free hcr
              have hcrv : (upd (upd H4n n2 (.lst (rest.map pv_))) cr (.lst ((q3.toList).map pv_ ++ rest.map pv_))) cr = some (.lst ((q3.toList ++ rest).map pv_)) := by rw [upd_same, List.map_append]
              have sAll : ∀ e' ∈ q3.toList ++ rest, PcAt x.W (upd (upd H4n n2 (.lst (rest.map pv_))) cr (.lst ((q3.toList).map pv_ ++ rest.map pv_))) e' := by
                intro e' he'
                rcases List.mem_append.mp he' with he' | he'
                · exact ((hq3P e' (by simpa using he')).same sq).same ((Same.upd hn2).trans (Same.upd hcr))
                · exact (hx2.an e' (by rw [hcase]; simp [he'])).same s4n
              generalize (upd (upd H4n n2 (.lst (rest.map pv_))) cr (.lst ((q3.toList).map pv_ ++ rest.map pv_))) = H5n at s4n ho5n hcrv sAll ⊢
              refine ⟨_, rfl, _, _, _, _, rfl, ho5n, T.cl_Writer, T.n_Writer_own_anew, lenWriter (x), ?_⟩
              rw [ptWriter_own_anew]
              have f3 : Fr [x.p] H2 (upd H5n x.p (.ins (He.ga K "Writer") dx (wrF { x with la := cr }))) := (Fr.of _ s4n).trans (Fr.putI (by simp) ho5n)
              have hcrp : cr ≠ x.p := (ne_of_none ho2 hcr2).symm
              have hx3 : WrH K (upd H5n x.p (.ins (He.ga K "Writer") dx (wrF { x with la := cr }))) { x with la := cr, anew := q3.toList ++ rest } := hx2.self f3 ⟨dx, upd_same⟩ rfl rfl rfl (by rw [upd_ne hcrp]; exact hcrv) (fun e' he' => (sAll e' he').fr (F := [x.p]) (Fr.putI (by simp) ho5n)) (not_foot hx2 hcr2)
              generalize (upd H5n x.p (.ins (He.ga K "Writer") dx (wrF { x with la := cr }))) = H3 at hx3 f3 ⊢

              obtain ⟨dx3, ho3⟩ := hx3.o
              have hput : putF ("last_road" : Str) (tx d.name) (wrF { x with la := cr, anew := q3.toList ++ rest }) = wrF { { x with la := cr, anew := q3.toList ++ rest } with last := some d.name } := ptWriter_last_road { x with la := cr, anew := q3.toList ++ rest } (some d.name)
              refine ⟨_, rfl, _, rfl, _, _, _, _, rfl, ho3, T.cl_Writer, T.n_Writer_last_road, lenWriter ({ x with la := cr, anew := q3.toList ++ rest }), ?_⟩
              rw [hput]
              have hx4 : WrH K (upd H3 x.p (.ins (He.ga K "Writer") dx3 (wrF { { x with la := cr, anew := q3.toList ++ rest } with last := some d.name }))) { { x with la := cr, anew := q3.toList ++ rest } with last := some d.name } := hx3.self0 rfl rfl rfl rfl rfl rfl
              have f4 : Fr [x.p] H3 (upd H3 x.p (.ins (He.ga K "Writer") dx3 (wrF { { x with la := cr, anew := q3.toList ++ rest } with last := some d.name }))) := Fr.putI (by simp) ho3
              generalize (upd H3 x.p (.ins (He.ga K "Writer") dx3 (wrF { { x with la := cr, anew := q3.toList ++ rest } with last := some d.name }))) = H4 at hx4 f4 ⊢
              have hd4 : RdH K H4 d := hx4.rd d hd
              obtain ⟨dw4, hwo4⟩ := hd4.w.o
              have hq4 := f4.tup (f3.tup hq2)
              refine ⟨_, rfl, _, _, _, rfl, hwo4, noWay_lay d, _, rfl, d, e2.a, e2.f, e2.l, rfl, hd4.w, hq4, (g1.2.lets hb.lets), (by omega), hb.ents d hd, fun lt H5 hw5 f5 hlt => ?_⟩
              have hwf : ∀ c ∈ [d.wy, d.la, d.pa], c ∈ rf d := by simp [rf]
              have hlay5 : RdH K H5 (layD d lt e2.a e2.f e2.l) := by
                refine ⟨hw5, ?_⟩
                obtain ⟨dy5, hr5⟩ := hd4.r
                refine ⟨dy5, f5.at (fun z => ?_) hr5⟩
                have nd := (nd_split hx.nd hab).2.2
                have n1 := (List.nodup_cons.mp nd).1
                exact n1 z
              have hx5 : WrH K H5 { { { x with la := cr, anew := q3.toList ++ rest } with last := some d.name } with roads := a ++ layD d lt e2.a e2.f e2.l :: b } := hx4.road hab f5 hwf hlay5 rfl rfl
              obtain ⟨dx5, ho5⟩ := hx5.o
              obtain ⟨dw5, hwo5⟩ := hw5.o
              have hq5 := f5.tup hq4
              have hle5 := hw5.en ⟨lt, e2.a, d.txt.length, e2.f, e2.l⟩ (by show _ ∈ d.ents ++ [_]; simp)
              have hlt5 : H5 lt = some (.tup [.int ((d.txt.length : Nat) : Int), .int e2.f, .int (e2.l.length : Nat), .int (wsum e2.l)]) := hle5.1
              have fAll : Fr (PT K :: foot x) H H5 := by
                have c1 : ∀ c ∈ [PT K], c ∈ PT K :: foot x := by simp
                have c2 : ∀ c ∈ [x.p], c ∈ PT K :: foot x := by simp [foot]
                have c3 : ∀ c ∈ [d.wy, d.la, d.pa], c ∈ PT K :: foot x := fun c hc => List.mem_cons_of_mem _ (rf_foot hd c (hwf c hc))
                exact (((f2.mono c1).trans (f3.mono c2)).trans (f4.mono c2)).trans (f5.mono c3)
              have hT5 : TabsB K H5 := by
                have hT3 := hT2.fr f3 (by simpa using hPp)
                have hT4 := hT3.fr f4 (by simpa using hPp)
                exact hT4.fr f5 fun z => hPf (rf_foot hd _ (hwf _ z))
              have lm : (wrF { { { x with la := cr, anew := q3.toList ++ rest } with last := some d.name } with roads := a ++ layD d lt e2.a e2.f e2.l :: b }).lookup ("own_mode" : Str) = some (V.str x.mode) := lkWriter_own_mode { { { x with la := cr, anew := q3.toList ++ rest } with last := some d.name } with roads := a ++ layD d lt e2.a e2.f e2.l :: b }
              refine ⟨_, rfl, _, rfl, _, _, _, rfl, hwo5, noWay_base (layD d lt e2.a e2.f e2.l), layD d lt e2.a e2.f e2.l, rfl, hw5, _, rfl, lt, _, 0, .int ((d.txt.length : Nat) : Int), rfl, rfl, SqT.of hlt5, rfl, _, _, rfl, rfl, _, rfl, e2.a, _, 1, tx e2.l, rfl, rfl, SqT.of hq5, rfl, _, rfl, _, _, _, _, _, rfl, ho5, T.cl_Writer, T.n_Writer_own_mode, lm, rfl, _, rfl, ?_⟩
              have fin : ∀ (xs : List V) (u : Addr), xs = (if decide (x.mode = "plain") = true then [] else [.ref lt]) → H5 u = none → ∀ t, (upd H5 u (.tup xs)) t = none → ∀ r, (upd (upd H5 u (.tup xs)) t (.tup [.str "signs", tx d.name, .int (d.base + ((d.txt.length : Nat) : Int)), tx e2.l, .ref u])) r = none →
                  Q (.ref r) (upd (upd (upd H5 u (.tup xs)) t (.tup [.str "signs", tx d.name, .int (d.base + ((d.txt.length : Nat) : Int)), tx e2.l, .ref u])) r (.lst [.ref t])) := by
                intro xs u exs hu5 t ht r hr
                have s6 := ((Same.upd (o := .tup xs) hu5).trans (Same.upd (o := .tup [.str "signs", tx d.name, .int (d.base + ((d.txt.length : Nat) : Int)), tx e2.l, .ref u]) ht)).trans (Same.upd (o := .lst [.ref t]) hr)
                refine k1 a b d r t e2.a lt _ e2.f e2.l (q3.toList ++ rest) x.next _ hab hup hmode (hx5.same s6) (fAll.trans (Fr.of _ s6)) (hT5.fr (Fr.of [] s6) (by simp)) g3 (by omega) (by omega) g1.2 (by omega) (.inl ⟨by rw [hcase]; simp, by rw [hcase, List.length_append, List.length_cons]; omega, rfl⟩) ?_ upd_same ⟨u, ?_, ?_⟩
                · have z5 := ((Same.upd (o := .tup xs) hu5).trans (Same.upd (o := .tup [.str "signs", tx d.name, .int (d.base + ((d.txt.length : Nat) : Int)), tx e2.l, .ref u]) ht)).free hr
                  refine fAll.free (fun z => ?_) z5
                  rcases List.mem_cons.mp z with z | z
                  · obtain ⟨ps, hps⟩ := hT5.tbl
                    rw [← z, z5] at hps
                    cases hps
                  · refine not_foot hx5 z5 ?_
                    have ef : foot { { { x with la := cr, anew := q3.toList ++ rest } with last := some d.name } with roads := a ++ layD d lt e2.a e2.f e2.l :: b } = foot x := by
                      unfold foot
                      show x.p :: x.dr :: (a ++ layD d lt e2.a e2.f e2.l :: b).flatMap rf = _
                      rw [hab, List.flatMap_append, List.flatMap_append, List.flatMap_cons, List.flatMap_cons]
                      rfl
                    rw [ef]
                    exact z
                · rw [upd_ne (ne_of_none upd_same hr), upd_same]
                · rw [upd_ne (ne_of_none (by rw [upd_ne (ne_of_none upd_same ht)]; exact upd_same) hr), upd_ne (ne_of_none upd_same ht), upd_same, exs]
              by_cases hpl : x.mode = "plain"
              · refine ift (decide_eq_true (by rw [hpl])) ⟨line5 (by decide), fun u hu => ⟨line5 (by show 5 ≤ _; decide), fun t ht => ⟨line5 (by show 1 ≤ _; decide), fun r hr => fin [] u (by rw [if_pos (decide_eq_true hpl)]) hu t ht r hr⟩⟩⟩
              · refine iffF (decide_eq_false fun z => hpl (V.str.inj z)) ⟨_, rfl, line5 (by show 1 ≤ _; decide), fun u hu => ⟨line5 (by show 5 ≤ _; decide), fun t ht => ⟨line5 (by show 1 ≤ _; decide), fun r hr => fin [.ref lt] u (by rw [if_neg (by simpa using hpl)]) hu t ht r hr⟩⟩⟩
          · refine iffF (by rfl) ?_
            refine ⟨_, rfl, _, _, _, _, _, rfl, ho2, T.cl_Writer, T.n_Writer_own_next, lkWriter_own_next (x), _, rfl, e2.a, _, 1, tx e2.l, rfl, rfl, SqT.of hq2, rfl, _, _, rfl, ⟨line5 (by rw [S_len]; omega), rfl⟩, _, _, rfl, rfl, dx, _, ho2, lenWriter x, ?_⟩
            rw [S_len, show ((x.next : Int) + ((e2.l.length : Nat) : Int)) = ((x.next + e2.l.length : Nat) : Int) by omega, ptWriter_own_next]
            have f3 : Fr [x.p] H2 (upd H2 x.p (.ins (He.ga K "Writer") dx (wrF { x with next := x.next + e2.l.length }))) := Fr.putI (by simp) ho2
            have hx3 : WrH K (upd H2 x.p (.ins (He.ga K "Writer") dx (wrF { x with next := x.next + e2.l.length }))) { x with next := x.next + e2.l.length } := hx2.self0 rfl rfl rfl rfl rfl rfl
            generalize (upd H2 x.p (.ins (He.ga K "Writer") dx (wrF { x with next := x.next + e2.l.length }))) = H3 at hx3 f3 ⊢
            obtain ⟨dx3, ho3⟩ := hx3.o
            have hput : putF ("last_road" : Str) (tx d.name) (wrF { x with next := x.next + e2.l.length }) = wrF { { x with next := x.next + e2.l.length } with last := some d.name } := ptWriter_last_road { x with next := x.next + e2.l.length } (some d.name)
            refine ⟨_, rfl, _, rfl, _, _, _, _, rfl, ho3, T.cl_Writer, T.n_Writer_last_road, lenWriter ({ x with next := x.next + e2.l.length }), ?_⟩
            rw [hput]
            have hx4 : WrH K (upd H3 x.p (.ins (He.ga K "Writer") dx3 (wrF { { x with next := x.next + e2.l.length } with last := some d.name }))) { { x with next := x.next + e2.l.length } with last := some d.name } := hx3.self0 rfl rfl rfl rfl rfl rfl
            have f4 : Fr [x.p] H3 (upd H3 x.p (.ins (He.ga K "Writer") dx3 (wrF { { x with next := x.next + e2.l.length } with last := some d.name }))) := Fr.putI (by simp) ho3
            generalize (upd H3 x.p (.ins (He.ga K "Writer") dx3 (wrF { { x with next := x.next + e2.l.length } with last := some d.name }))) = H4 at hx4 f4 ⊢
            have hd4 : RdH K H4 d := hx4.rd d hd
            obtain ⟨dw4, hwo4⟩ := hd4.w.o
            have hq4 := f4.tup (f3.tup hq2)
            refine ⟨_, rfl, _, _, _, rfl, hwo4, noWay_lay d, _, rfl, d, e2.a, e2.f, e2.l, rfl, hd4.w, hq4, (g1.2.lets hb.lets), (by omega), hb.ents d hd, fun lt H5 hw5 f5 hlt => ?_⟩
            have hwf : ∀ c ∈ [d.wy, d.la, d.pa], c ∈ rf d := by simp [rf]
            have hlay5 : RdH K H5 (layD d lt e2.a e2.f e2.l) := by
              refine ⟨hw5, ?_⟩
              obtain ⟨dy5, hr5⟩ := hd4.r
              refine ⟨dy5, f5.at (fun z => ?_) hr5⟩
              have nd := (nd_split hx.nd hab).2.2
              have n1 := (List.nodup_cons.mp nd).1
              exact n1 z
            have hx5 : WrH K H5 { { { x with next := x.next + e2.l.length } with last := some d.name } with roads := a ++ layD d lt e2.a e2.f e2.l :: b } := hx4.road hab f5 hwf hlay5 rfl rfl
            obtain ⟨dx5, ho5⟩ := hx5.o
            obtain ⟨dw5, hwo5⟩ := hw5.o
            have hq5 := f5.tup hq4
            have hle5 := hw5.en ⟨lt, e2.a, d.txt.length, e2.f, e2.l⟩ (by show _ ∈ d.ents ++ [_]; simp)
            have hlt5 : H5 lt = some (.tup [.int ((d.txt.length : Nat) : Int), .int e2.f, .int (e2.l.length : Nat), .int (wsum e2.l)]) := hle5.1
            have fAll : Fr (PT K :: foot x) H H5 := by
              have c1 : ∀ c ∈ [PT K], c ∈ PT K :: foot x := by simp
              have c2 : ∀ c ∈ [x.p], c ∈ PT K :: foot x := by simp [foot]
              have c3 : ∀ c ∈ [d.wy, d.la, d.pa], c ∈ PT K :: foot x := fun c hc => List.mem_cons_of_mem _ (rf_foot hd c (hwf c hc))
              exact (((f2.mono c1).trans (f3.mono c2)).trans (f4.mono c2)).trans (f5.mono c3)
            have hT5 : TabsB K H5 := by
              have hT3 := hT2.fr f3 (by simpa using hPp)
              have hT4 := hT3.fr f4 (by simpa using hPp)
              exact hT4.fr f5 fun z => hPf (rf_foot hd _ (hwf _ z))
            have lm : (wrF { { { x with next := x.next + e2.l.length } with last := some d.name } with roads := a ++ layD d lt e2.a e2.f e2.l :: b }).lookup ("own_mode" : Str) = some (V.str x.mode) := lkWriter_own_mode { { { x with next := x.next + e2.l.length } with last := some d.name } with roads := a ++ layD d lt e2.a e2.f e2.l :: b }
            refine ⟨_, rfl, _, rfl, _, _, _, rfl, hwo5, noWay_base (layD d lt e2.a e2.f e2.l), layD d lt e2.a e2.f e2.l, rfl, hw5, _, rfl, lt, _, 0, .int ((d.txt.length : Nat) : Int), rfl, rfl, SqT.of hlt5, rfl, _, _, rfl, rfl, _, rfl, e2.a, _, 1, tx e2.l, rfl, rfl, SqT.of hq5, rfl, _, rfl, _, _, _, _, _, rfl, ho5, T.cl_Writer, T.n_Writer_own_mode, lm, rfl, _, rfl, ?_⟩
            have fin : ∀ (xs : List V) (u : Addr), xs = (if decide (x.mode = "plain") = true then [] else [.ref lt]) → H5 u = none → ∀ t, (upd H5 u (.tup xs)) t = none → ∀ r, (upd (upd H5 u (.tup xs)) t (.tup [.str "signs", tx d.name, .int (d.base + ((d.txt.length : Nat) : Int)), tx e2.l, .ref u])) r = none →
                Q (.ref r) (upd (upd (upd H5 u (.tup xs)) t (.tup [.str "signs", tx d.name, .int (d.base + ((d.txt.length : Nat) : Int)), tx e2.l, .ref u])) r (.lst [.ref t])) := by
              intro xs u exs hu5 t ht r hr
              have s6 := ((Same.upd (o := .tup xs) hu5).trans (Same.upd (o := .tup [.str "signs", tx d.name, .int (d.base + ((d.txt.length : Nat) : Int)), tx e2.l, .ref u]) ht)).trans (Same.upd (o := .lst [.ref t]) hr)
              refine k1 a b d r t e2.a lt _ e2.f e2.l x.anew (x.next + e2.l.length) _ hab hup hmode (hx5.same s6) (fAll.trans (Fr.of _ s6)) (hT5.fr (Fr.of [] s6) (by simp)) g3 (by omega) (by omega) g1.2 (by omega) (.inr ⟨hcase, hcase, by omega, rfl⟩) ?_ upd_same ⟨u, ?_, ?_⟩
              · have z5 := ((Same.upd (o := .tup xs) hu5).trans (Same.upd (o := .tup [.str "signs", tx d.name, .int (d.base + ((d.txt.length : Nat) : Int)), tx e2.l, .ref u]) ht)).free hr
                refine fAll.free (fun z => ?_) z5
                rcases List.mem_cons.mp z with z | z
                · obtain ⟨ps, hps⟩ := hT5.tbl
                  rw [← z, z5] at hps
                  cases hps
                · refine not_foot hx5 z5 ?_
                  have ef : foot { { { x with next := x.next + e2.l.length } with last := some d.name } with roads := a ++ layD d lt e2.a e2.f e2.l :: b } = foot x := by
                    unfold foot
                    show x.p :: x.dr :: (a ++ layD d lt e2.a e2.f e2.l :: b).flatMap rf = _
                    rw [hab, List.flatMap_append, List.flatMap_append, List.flatMap_cons, List.flatMap_cons]
                    rfl
                  rw [ef]
                  exact z
              · rw [upd_ne (ne_of_none upd_same hr), upd_same]
              · rw [upd_ne (ne_of_none (by rw [upd_ne (ne_of_none upd_same ht)]; exact upd_same) hr), upd_ne (ne_of_none upd_same ht), upd_same, exs]
            by_cases hpl : x.mode = "plain"
            · refine ift (decide_eq_true (by rw [hpl])) ⟨line5 (by decide), fun u hu => ⟨line5 (by show 5 ≤ _; decide), fun t ht => ⟨line5 (by show 1 ≤ _; decide), fun r hr => fin [] u (by rw [if_pos (decide_eq_true hpl)]) hu t ht r hr⟩⟩⟩
            · refine iffF (decide_eq_false fun z => hpl (V.str.inj z)) ⟨_, rfl, line5 (by show 1 ≤ _; decide), fun u hu => ⟨line5 (by show 5 ≤ _; decide), fun t ht => ⟨line5 (by show 1 ≤ _; decide), fun r hr => fin [.ref lt] u (by rw [if_neg (by simpa using hpl)]) hu t ht r hr⟩⟩⟩
end

/-! ### Writer: hear_mode, on_sure -/
def Mode (m : Str) : Prop := m = "none" ∨ m = "led" ∨ m = "plain"
def SureR (d d' : Rw) (own : Int) : Prop := (d.st = "gone" ∧ d' = d) ∨ (d.st ≠ "gone" ∧ ∃ s ag pu, d' = { d with st := "up", sure := s, age := ag, put := pu } ∧ (s = d.sure ∨ (s = own ∧ d.sure < own ∧ own ≤ d.laid)))
section
variable {P : Program} {w : World} {K : PySem.W.Frag} {mg : Str → Option Value} {base : Heap}
def sp_Writer_hear_mode (K : PySem.W.Frag) : Sp := fun vs H Q _ => ∃ (x : Wr) (m : Str), vs = [.ref x.p, .str m] ∧ WrH K H x ∧ Mode m ∧ (x.mode = "none" → ∀ d ∈ x.roads, x.first = some d.name) ∧ (x.mode = "none" → x.anew = []) ∧
  ∀ (la : Addr) (m' : Str) (H' : Hp), WrH K H' { x with mode := m', la := la } → Fr (foot x) H H' → ((m' = x.mode ∧ (m = "none" ∨ x.mode ≠ "none")) ∨ (x.mode = "none" ∧ m' = m)) → Q .non H'
theorem sc_Writer_hear_mode : FnScope ["self", "mode", "name", "road"] ["self", "mode"] (defScope s_Writer_hear_mode) := ⟨rfl, rfl, rfl, by decide +kernel, rfl, by decide +kernel, by decide +kernel⟩
theorem ok_Writer_hear_mode (T : TX P w K mg base) : PR P w K mg base 1 (He.ma K (He.ga K "Writer") "hear_mode") ["self", "mode"] (sp_Writer_hear_mode K) := by
  refine T.prom d_Writer_hear_mode (List.mem_of_getElem? (i := 44) (by rfl)) ⟨rfl, rfl⟩ sc_Writer_hear_mode (fun vs H Q E h => ?_) (fun _ _ _ _ _ _ us hl => match us, hl with | [_, _], _ => rfl) (fun cdv A outer s H vs Q E hr h => ?_)
  · obtain ⟨_, _, rfl, _⟩ := h
    rfl
  · have hu := hu_of hr
    obtain ⟨x, m, rfl, hx, hm, hsole, hanew, k⟩ := h
    refine ⟨_, (pss_cons (ps_if (PW.pt (pw_or (pt_cmpR op_eq (pv 1) pe_str (nomark _)) (pw_or1 (pt_cmpR op_ne (pe_fld (pv 0) rfl) pe_str (nomark _)))))
        (pss_one ps_retN)
        pss_nil)
      (pss_cons (ps_fld (pv 0) (pv 1) rfl)
      (pss_one (ps_if (pt_cmpR op_eq (pv 1) pe_str (nomark _))
        (pss_cons (ps_lock (ps_for PassesOwn.never rfl (pi_items (pe_fld (pv 0) rfl)) (pg_tup rfl (pgs_cons (pg_name (i := 2) sc_Writer_hear_mode.nd rfl (by first | exact Or.inl rfl | exact Or.inr rfl)) (pgs_cons (pg_name (i := 3) sc_Writer_hear_mode.nd rfl (by first | exact Or.inl rfl | exact Or.inr rfl)) pgs_nil)))
          (pss_one (ps_if (pt_cmpR op_ne (pv 2) (pe_fld (pv 0) rfl) (nomark _))
            (pss_one (ps_fld (pv 3) pe_str rfl))
            pss_nil))))
        (pss_one (ps_fld (pv 0) (pe_lst pa_nil) rfl)))
        pss_nil)))), ?_⟩
    obtain ⟨dx, ho⟩ := hx.o
    refine ⟨_, rfl, rfl, _, rfl, ?_⟩
    by_cases hm0 : m = "none"
    · exact ift (decide_eq_true (by rw [hm0])) (ift (by rfl) (k x.la x.mode H hx (Fr.refl _ _) (.inl ⟨rfl, .inl hm0⟩)))
    refine iffF (decide_eq_false fun z => hm0 (V.str.inj z)) ⟨_, rfl, _, _, _, _, _, rfl, ho, T.cl_Writer, T.n_Writer_own_mode, lkWriter_own_mode (x), rfl, _, rfl, ?_⟩
    by_cases hx0 : x.mode = "none"
    · have hn0 : (!decide (V.str x.mode = V.str "none")) = false := by rw [hx0]; decide +kernel
      rw [hn0]
      refine iteF ⟨_, rfl, _, rfl, _, _, _, _, rfl, ho, T.cl_Writer, T.n_Writer_own_mode, lenWriter (x), ?_⟩
      rw [ptWriter_own_mode]
      have hx1 : WrH K (upd H x.p (.ins (He.ga K "Writer") dx (wrF { x with mode := m }))) { x with mode := m } := hx.self0 rfl rfl rfl rfl rfl rfl
      have f1 : Fr [x.p] H (upd H x.p (.ins (He.ga K "Writer") dx (wrF { x with mode := m }))) := Fr.putI (by simp) ho
      generalize (upd H x.p (.ins (He.ga K "Writer") dx (wrF { x with mode := m }))) = H1 at hx1 f1 ⊢
      have c2 : ∀ c ∈ [x.p], c ∈ foot x := by simp [foot]
      have c3 : ∀ c ∈ [x.dr], c ∈ foot x := by simp [foot]
      refine ⟨_, rfl, rfl, _, rfl, ?_⟩
      by_cases hmp : m = "plain"
      · refine ift (decide_eq_true (by rw [hmp])) ⟨x.dr, _, hx1.dr, trivial, fun od => ?_⟩
        have fL : Fr [x.dr] H1 (upd H1 x.dr (.frz od (.dK (rdK x.roads)))) := Fr.putD (by simp) hx1.dr
        have hL : WrR K (upd H1 x.dr (.frz od (.dK (rdK x.roads)))) { x with mode := m } := hx1.toWrR.lock fL
        have hdL : (upd H1 x.dr (.frz od (.dK (rdK x.roads)))) x.dr = some (.frz od (.dK (rdK x.roads))) := upd_same
        obtain ⟨dxL, hoL⟩ := hL.o
        refine ⟨_, rfl, _, _, _, _, _, rfl, hoL, T.cl_Writer, T.n_Writer_own_roads, lkWriter_own_roads ({ x with mode := m }), x.dr, od, rdK x.roads, rfl, hdL, for_by (n := x.roads.length) (fun i σ H2 => ∃ x2 x3, σ = [some (.ref x.p), some (.str m), x2, x3] ∧ Same (upd H1 x.dr (.frz od (.dK (rdK x.roads)))) H2) (fun i σ H2 h hi => ?_) (fun σ H2 h => ?_) ⟨none, none, rfl, Same.refl _⟩ ?_ ?_⟩
        · obtain ⟨_, _, _, s⟩ := h
          exact ⟨s _ _ hdL, by unfold rdK; rw [List.length_map]; exact hi⟩
        · obtain ⟨_, _, _, s⟩ := h
          exact ⟨s _ _ hdL, by unfold rdK; rw [List.length_map]; exact Nat.le_refl _⟩
        · rintro i y σ H2 H3 hi ⟨x2, x3, rfl, s2⟩ ⟨T2, ky, vy, ek, rfl, hT2, rfl⟩
          unfold rdK at ek
          rw [List.getElem?_map, List.getElem?_eq_getElem hi] at ek
          obtain ⟨rfl, rfl⟩ := Prod.mk.inj (Option.some.inj ek)
          have hf := hsole hx0 _ (List.getElem_mem hi)
          generalize x.roads[i] = d at hf hT2 ⊢
          have s3 : Same (upd H1 x.dr (.frz od (.dK (rdK x.roads)))) (upd H2 T2 (.tup [kV (.inr (S d.name)), .ref d.r])) := s2.trans (Same.upd hT2)
          have ho3 := s3 _ _ hoL
          have lf : (wrF { x with mode := m }).lookup ("first_road" : Str) = some (tx d.name) := by rw [lkWriter_first_road]; show some (oV x.first) = _; rw [hf]; rfl
          refine ⟨T2, _, rfl, SqT.of upd_same, rfl, _, _, rfl, _, _, rfl, rfl, ?_⟩
          refine ⟨_, rfl, _, rfl, _, _, _, _, _, rfl, ho3, T.cl_Writer, T.n_Writer_first_road, lf, rfl, _, rfl, iffF ?_ ⟨_, _, rfl, s3⟩⟩
          show (!decide (tx d.name = tx d.name)) = false
          rw [decide_eq_true rfl]
          rfl
        · rintro σ H2 ⟨x2, x3, rfl, s2⟩
          have hd2 := s2 _ _ hdL
          have hR2 := hL.same s2
          have f2 : Fr [x.dr] H2 (upd H2 x.dr (.dK (rdK x.roads))) := Fr.put (by simp) hd2 id
          have hx3 : WrH K (upd H2 x.dr (.dK (rdK x.roads))) { x with mode := m } := ⟨hR2.lock f2, upd_same⟩
          refine ⟨hd2, ?_⟩
          refine ⟨line5 (by decide), fun nl hnl => ?_⟩
          have f23 : Fr (foot x) H (upd H2 x.dr (.dK (rdK x.roads))) := (((f1.mono c2).trans (fL.mono c3)).trans (Fr.of _ s2)).trans (f2.mono c3)
          have hnl0 : (upd H2 x.dr (.dK (rdK x.roads))) nl = none := hnl
          have hx4 := hx3.same (Same.upd (o := .lst []) hnl0)
          obtain ⟨dx4, ho4⟩ := hx4.o
          have hnv : (upd (upd H2 x.dr (.dK (rdK x.roads))) nl (.lst [])) nl = some (.lst []) := upd_same
          have f4 : Fr (foot x) H (upd (upd H2 x.dr (.dK (rdK x.roads))) nl (.lst [])) := f23.trans (Fr.of _ (Same.upd hnl0))
          have hnf : nl ∉ foot { x with mode := m } := not_foot hx3 hnl0
          refine ⟨_, rfl, _, _, _, _, rfl, ho4, T.cl_Writer, T.n_Writer_own_anew, lenWriter ({ x with mode := m }), ?_⟩
          rw [ptWriter_own_anew]
          have f5 : Fr [x.p] (upd (upd H2 x.dr (.dK (rdK x.roads))) nl (.lst [])) (upd (upd (upd H2 x.dr (.dK (rdK x.roads))) nl (.lst [])) x.p (.ins (He.ga K "Writer") dx4 (wrF { { x with mode := m } with la := nl }))) := Fr.putI (by simp) ho4
          have hnp : nl ≠ x.p := fun z => hnf (by rw [z]; simp [foot])
          refine k nl m _ (hx4.self f5 ⟨dx4, upd_same⟩ rfl rfl rfl ?_ (fun e he => ?_) hnf) (f4.trans (f5.mono c2)) (.inr ⟨hx0, rfl⟩)
          · rw [upd_ne hnp]
            show _ = some (HO.lst (x.anew.map pv_))
            rw [hanew hx0]
            exact hnv
          · have he2 : e ∈ x.anew := he
            rw [hanew hx0] at he2
            cases he2
      · refine iffF (decide_eq_false fun z => hmp (V.str.inj z)) ?_
        exact k x.la m H1 hx1 (f1.mono c2) (.inr ⟨hx0, rfl⟩)
    · refine ift ?_ (k x.la x.mode H hx (Fr.refl _ _) (.inl ⟨rfl, .inr hx0⟩))
      show (!decide (V.str x.mode = V.str "none")) = true
      rw [decide_eq_false (fun z => hx0 (V.str.inj z))]
      rfl
def sp_Writer_on_sure (K : PySem.W.Frag) : Sp := fun vs H Q _ => ∃ (x : Wr) (a b : List Rw) (d : Rw) (q : Addr) (own known room : Int) (m : Str), vs = [.ref x.p, .ref d.r, .ref q] ∧ WrH K H x ∧ WrB x ∧ x.roads = a ++ d :: b ∧
  H q = some (.tup [.int own, .int known, .int room, .str m, .bl false]) ∧ Mode m ∧ (x.mode = "none" → ∀ d ∈ x.roads, x.first = some d.name) ∧ (x.mode = "none" → x.anew = []) ∧
  ∀ (d' : Rw) (kn lim : Int) (m' : Str) (la : Addr) (es : List Pc) (H' : Hp), WrH K H' { x with roads := a ++ d' :: b, known := kn, limit := lim, mode := m', la := la, anew := es } → Fr (foot x) H H' → x.known ≤ kn → x.limit ≤ lim → es.length ≤ x.anew.length →
    (m' = x.mode ∨ (x.mode = "none" ∧ m' = m)) → SureR d d' own → Q .non H'
theorem sc_Writer_on_sure : FnScope ["self", "road", "rest", "own", "known", "room", "mode", "over", "ahead"] ["self", "road", "rest"] (defScope s_Writer_on_sure) := ⟨rfl, rfl, rfl, by decide +kernel, rfl, by decide +kernel, by decide +kernel⟩
theorem ok_Writer_on_sure (T : TX P w K mg base) : PR P w K mg base 3 (He.ma K (He.ga K "Writer") "on_sure") ["self", "road", "rest"] (sp_Writer_on_sure K) := by
  have G_Way_hear := ok_Way_hear T
  have G_Way_sure := ok_Way_sure T
  have G_Writer_drop_known := ok_Writer_drop_known T
  have G_Writer_hear_mode := ok_Writer_hear_mode T
  refine T.prom d_Writer_on_sure (List.mem_of_getElem? (i := 43) (by rfl)) ⟨rfl, rfl⟩ sc_Writer_on_sure (fun vs H Q E h => ?_) (fun _ _ _ _ _ _ us hl => match us, hl with | [_, _, _], _ => rfl) (fun cdv A outer s H vs Q E hr h => ?_)
  · obtain ⟨_, _, _, _, _, _, _, _, _, rfl, _⟩ := h
    rfl
  · have hu := hu_of hr
    obtain ⟨x, a, b, d, q, own, known, room, m, rfl, hx, hb, hab, hq, hm, hsole, hanew, k⟩ := h
    refine ⟨_, (pss_cons (ps_asg (pv 2) (pg_tup rfl (pgs_cons (pg_name (i := 3) sc_Writer_on_sure.nd rfl (by first | exact Or.inl rfl | exact Or.inr rfl)) (pgs_cons (pg_name (i := 4) sc_Writer_on_sure.nd rfl (by first | exact Or.inl rfl | exact Or.inr rfl)) (pgs_cons (pg_name (i := 5) sc_Writer_on_sure.nd rfl (by first | exact Or.inl rfl | exact Or.inr rfl)) (pgs_cons (pg_name (i := 6) sc_Writer_on_sure.nd rfl (by first | exact Or.inl rfl | exact Or.inr rfl)) (pgs_cons (pg_name (i := 7) sc_Writer_on_sure.nd rfl (by first | exact Or.inl rfl | exact Or.inr rfl)) pgs_nil)))))))
      (pss_cons (ps_if (pt_cmpR op_ne (pe_fld (pv 1) rfl) pe_str (nomark _))
        (pss_cons (ps_fld (pv 1) pe_str rfl)
        (pss_cons (ps_set (i := 8) sc_Writer_on_sure.nd rfl (by first | exact Or.inl rfl | exact Or.inr rfl) (pe_methP0 (pe_fld (pv 1) rfl) T.cl_Way T.m_Way_sure G_Way_sure (hr.mono (by decide))))
        (pss_cons (ps_expr (pe_methP (pe_fld (pv 1) rfl) T.cl_Way T.m_Way_hear G_Way_hear (hr.mono (by decide)) (pa_cons (pv 3) pa_nil)))
        (pss_one (ps_if (pt_cmpR op_gt (pe_methP0 (pe_fld (pv 1) rfl) T.cl_Way T.m_Way_sure G_Way_sure (hr.mono (by decide))) (pv 8) (nomark _))
          (pss_one (ps_fld (pv 1) pe_bl rfl))
          pss_nil)))))
        pss_nil)
      (pss_cons (ps_fld (pv 0) (pe_callB (call_max2 rfl) (by rfl) T.f_max (by decide +kernel) (pa_cons (pe_fld (pv 0) rfl) (pa_cons (pv 4) pa_nil))) rfl)
      (pss_cons (ps_fld (pv 0) (pe_callB (call_max2 rfl) (by rfl) T.f_max (by decide +kernel) (pa_cons (pe_fld (pv 0) rfl) (pa_cons (pe_op op_add (pv 4) (pv 5)) pa_nil))) rfl)
      (pss_cons (ps_fld (pv 0) (pe_or (pe_fld (pv 0) rfl) (pe_one (pv 7))) rfl)
      (pss_cons (ps_expr (pe_methP (pv 0) T.cl_Writer T.m_Writer_hear_mode G_Writer_hear_mode (hr.mono (by decide)) (pa_cons (pv 6) pa_nil)))
      (pss_one (ps_expr (pe_methP0 (pv 0) T.cl_Writer T.m_Writer_drop_known G_Writer_drop_known (hr.mono (by decide))))))))))), ?_⟩
    obtain ⟨dx, ho⟩ := hx.o
    have hd : d ∈ x.roads := by rw [hab]; simp
    obtain ⟨dy, hr2⟩ := (hx.rd d hd).r
    refine ⟨_, rfl, q, _, rfl, SqT.of hq, rfl, _, _, rfl, _, _, rfl, _, _, rfl, _, _, rfl, _, _, rfl, rfl, ?_⟩
    refine ⟨_, rfl, _, _, _, _, _, rfl, hr2, T.cl_Road, T.n_Road_own_state, lkRoad_own_state (d), rfl, _, rfl, ?_⟩
    have cr : ∀ c ∈ [d.r], c ∈ foot x := fun c hc => rf_foot hd c (by rw [List.mem_singleton.mp hc]; simp [rf])
    have cw : ∀ c ∈ [d.wy], c ∈ foot x := fun c hc => rf_foot hd c (by rw [List.mem_singleton.mp hc]; simp [rf])
    have ndr := (nd_split hx.nd hab).2.2
    by_cases hg : d.st = "gone"
    · refine iffF (by show (!decide (V.str d.st = V.str "gone")) = false; rw [hg]; decide +kernel) ?_
      have hx3 : WrH K H { x with roads := a ++ d :: b } := by rw [← hab]; exact hx
      have f3 : Fr (foot x) H H := Fr.refl _ _
      have hS : SureR d d own := .inl ⟨hg, rfl⟩
      obtain ⟨dx3, ho3⟩ := hx3.o
      refine ⟨_, rfl, _, _, _, _, _, rfl, ho3, T.cl_Writer, T.n_Writer_own_known, lkWriter_own_known ({ x with roads := a ++ d :: b }), _, rfl, _, _, rfl, _, rfl, _, _, _, _, rfl, ho3, T.cl_Writer, T.n_Writer_own_known, lenWriter ({ x with roads := a ++ d :: b }), ?_⟩
      rw [ptWriter_own_known]
      have hkn : x.known ≤ (if known > x.known then known else x.known) := by split <;> omega
      generalize (if known > x.known then known else x.known) = kn at hkn ⊢
      have hx4 : WrH K (upd H x.p (.ins (He.ga K "Writer") dx3 (wrF { { x with roads := a ++ d :: b } with known := kn }))) { { x with roads := a ++ d :: b } with known := kn } := hx3.self0 rfl rfl rfl rfl rfl rfl
      have f4 : Fr [x.p] H (upd H x.p (.ins (He.ga K "Writer") dx3 (wrF { { x with roads := a ++ d :: b } with known := kn }))) := Fr.putI (by simp) ho3
      generalize (upd H x.p (.ins (He.ga K "Writer") dx3 (wrF { { x with roads := a ++ d :: b } with known := kn }))) = H4 at hx4 f4 ⊢
      obtain ⟨dx4, ho4⟩ := hx4.o
      refine ⟨_, rfl, _, _, _, _, _, rfl, ho4, T.cl_Writer, T.n_Writer_own_limit, lkWriter_own_limit ({ { x with roads := a ++ d :: b } with known := kn }), _, rfl, _, rfl, _, _, rfl, rfl, _, _, rfl, _, rfl, _, _, _, _, rfl, ho4, T.cl_Writer, T.n_Writer_own_limit, lenWriter ({ { x with roads := a ++ d :: b } with known := kn }), ?_⟩
      rw [ptWriter_own_limit]
      have hlim : x.limit ≤ (if known + room > x.limit then known + room else x.limit) := by split <;> omega
      generalize (if known + room > x.limit then known + room else x.limit) = lim at hlim ⊢
      have hx5 : WrH K (upd H4 x.p (.ins (He.ga K "Writer") dx4 (wrF { { { x with roads := a ++ d :: b } with known := kn } with limit := lim }))) { { { x with roads := a ++ d :: b } with known := kn } with limit := lim } := hx4.self0 rfl rfl rfl rfl rfl rfl
      have f5 : Fr [x.p] H4 (upd H4 x.p (.ins (He.ga K "Writer") dx4 (wrF { { { x with roads := a ++ d :: b } with known := kn } with limit := lim }))) := Fr.putI (by simp) ho4
      generalize (upd H4 x.p (.ins (He.ga K "Writer") dx4 (wrF { { { x with roads := a ++ d :: b } with known := kn } with limit := lim }))) = H5 at hx5 f5 ⊢
      obtain ⟨dx5, ho5⟩ := hx5.o
      refine ⟨_, rfl, _, _, _, _, _, rfl, ho5, T.cl_Writer, T.n_Writer_was_over, lkWriter_was_over ({ { { x with roads := a ++ d :: b } with known := kn } with limit := lim }), false, rfl, iteF ⟨_, rfl, _, rfl, _, _, _, _, rfl, ho5, T.cl_Writer, T.n_Writer_was_over, lenWriter ({ { { x with roads := a ++ d :: b } with known := kn } with limit := lim }), ?_⟩⟩
      rw [ptWriter_same_over]
      have hx6 : WrH K (upd H5 x.p (.ins (He.ga K "Writer") dx5 (wrF { { { x with roads := a ++ d :: b } with known := kn } with limit := lim }))) { { { x with roads := a ++ d :: b } with known := kn } with limit := lim } := hx5.self0 rfl rfl rfl rfl rfl rfl
      have f6 : Fr [x.p] H5 (upd H5 x.p (.ins (He.ga K "Writer") dx5 (wrF { { { x with roads := a ++ d :: b } with known := kn } with limit := lim }))) := Fr.putI (by simp) ho5
      generalize (upd H5 x.p (.ins (He.ga K "Writer") dx5 (wrF { { { x with roads := a ++ d :: b } with known := kn } with limit := lim }))) = H6 at hx6 f6 ⊢
      obtain ⟨dx6, ho6⟩ := hx6.o
      have hsole6 : x.mode = "none" → ∀ d2 ∈ a ++ d :: b, x.first = some d2.name := by
        intro hm d2 h2
        rcases List.mem_append.mp h2 with h2 | h2
        · exact hsole hm d2 (by rw [hab]; simp [h2])
        · rcases List.mem_cons.mp h2 with e2 | h2
          · rw [e2]
            exact hsole hm d hd
          · exact hsole hm d2 (by rw [hab]; simp [h2])
      refine ⟨_, rfl, _, _, _, rfl, ho6, noWriter_hear_mode ({ { { x with roads := a ++ d :: b } with known := kn } with limit := lim }), _, rfl, { { { x with roads := a ++ d :: b } with known := kn } with limit := lim }, m, rfl, hx6, hm, hsole6, hanew, fun la m' H7 hx7 f7 hm' => ?_⟩
      obtain ⟨dx7, ho7⟩ := hx7.o
      refine ⟨_, rfl, _, _, _, rfl, ho7, noWriter_drop_known ({ { { { x with roads := a ++ d :: b } with known := kn } with limit := lim } with mode := m', la := la }), { { { { x with roads := a ++ d :: b } with known := kn } with limit := lim } with mode := m', la := la }, rfl, hx7, hb.W, (by show x.anew.length ≤ _; have := hb.anew; omega), fun la2 es H8 hx8 f8 hle hla8 => ?_⟩
      have efoot : foot { { { x with roads := a ++ d :: b } with known := kn } with limit := lim } = foot x := by
        unfold foot
        show x.p :: x.dr :: (a ++ d :: b).flatMap rf = _
        rw [hab]
        all_goals simp only [List.flatMap_append, List.flatMap_cons]
        all_goals rfl
      rw [efoot] at f7
      have c2 : ∀ c ∈ [x.p], c ∈ foot x := by simp [foot]
      exact k d kn lim m' la2 es H8 hx8 (((((f3.trans (f4.mono c2)).trans (f5.mono c2)).trans (f6.mono c2)).trans f7).trans (f8.mono c2)) hkn hlim hle (hm'.imp (fun z => z.1) id) (hS)
    · refine ift (by show (!decide (V.str d.st = V.str "gone")) = true; rw [decide_eq_false (fun z => hg (V.str.inj z))]; rfl) ⟨_, rfl, _, _, _, _, rfl, hr2, T.cl_Road, T.n_Road_own_state, lenRoad (d), ?_⟩
      rw [ptRoad_own_state]
      have f1 : Fr [d.r] H (upd H d.r (.ins (He.ga K "Road") dy (roadF { d with st := "up" }))) := Fr.putI (by simp) hr2
      have hx1 := hx.road hab f1 (by simp [rf]) ((hx.rd d hd).set (d' := { d with st := "up" }) ndr rfl fun H h => ⟨h.o, h.ls, h.ps, h.ne, h.en⟩) rfl rfl
      generalize (upd H d.r (.ins (He.ga K "Road") dy (roadF { d with st := "up" }))) = H1 at hx1 f1 ⊢
      have hd1 : RdH K H1 { d with st := "up" } := hx1.rd _ (by show _ ∈ a ++ _ :: b; simp)
      obtain ⟨dy1, hr1⟩ := hd1.r
      obtain ⟨dw1, hw1⟩ := hd1.w.o
      refine ⟨_, rfl, _, _, _, _, _, rfl, hr1, T.cl_Road, T.n_Road_own_way, lkRoad_own_way ({ d with st := "up" }), _, _, _, rfl, hw1, noWay_sure { d with st := "up" }, { d with st := "up" }, rfl, hd1.w, ?_⟩
      refine ⟨_, rfl, _, _, _, _, _, rfl, hr1, T.cl_Road, T.n_Road_own_way, lkRoad_own_way ({ d with st := "up" }), _, _, _, rfl, hw1, noWay_hear { d with st := "up" }, _, rfl, { d with st := "up" }, own, rfl, hd1.w, fun s ag H2 hw2 f2 hs => ?_⟩
      have hr22 : H2 d.r = some (.ins (He.ga K "Road") dy1 (roadF { d with st := "up" })) := f2.at (fun z => (List.nodup_cons.mp ndr).1 (by rw [List.mem_singleton.mp z]; simp)) hr1
      have hx2 := hx1.road (a := a) (b := b) (d := { d with st := "up" }) (d' := { d with st := "up", sure := s, age := ag }) rfl f2 (by simp [rf]) ⟨hw2, ⟨dy1, hr22⟩⟩ rfl rfl
      have hd2 : RdH K H2 { d with st := "up", sure := s, age := ag } := ⟨hw2, ⟨dy1, hr22⟩⟩
      obtain ⟨dw2, hwo2⟩ := hw2.o
      have f12 : Fr (foot x) H H2 := (f1.mono cr).trans (f2.mono cw)
      refine ⟨_, rfl, _, _, _, _, _, rfl, hr22, T.cl_Road, T.n_Road_own_way, lkRoad_own_way ({ d with st := "up" }), _, _, _, rfl, hwo2, noWay_sure { d with st := "up", sure := s, age := ag }, { d with st := "up", sure := s, age := ag }, rfl, hw2, _, rfl, _, _, rfl, rfl, _, rfl, ite2 (fun _ => ?_) (fun _ => ?_)⟩
      · refine ⟨_, rfl, _, _, _, _, rfl, hr22, T.cl_Road, T.n_Road_was_put, lenRoad ({ d with st := "up", sure := s, age := ag }), ?_⟩
        have ept : putF ("was_put" : Str) (V.bl false) (roadF { d with st := "up" }) = roadF { d with st := "up", sure := s, age := ag, put := false } := ptRoad_was_put { d with st := "up" } false
        rw [ept]
        have f3a : Fr [d.r] H2 (upd H2 d.r (.ins (He.ga K "Road") dy1 (roadF { d with st := "up", sure := s, age := ag, put := false }))) := Fr.putI (by simp) hr22
        have hx3 := hx2.road (a := a) (b := b) (d := { d with st := "up", sure := s, age := ag }) (d' := { d with st := "up", sure := s, age := ag, put := false }) rfl f3a (by simp [rf]) (hd2.set (d' := { d with st := "up", sure := s, age := ag, put := false }) ndr rfl fun H h => ⟨h.o, h.ls, h.ps, h.ne, h.en⟩) rfl rfl
        have f3 := f12.trans (f3a.mono cr)
        have hS : SureR d { d with st := "up", sure := s, age := ag, put := false } own := .inr ⟨hg, s, ag, false, rfl, hs⟩
        generalize (upd H2 d.r (.ins (He.ga K "Road") dy1 (roadF { d with st := "up", sure := s, age := ag, put := false }))) = H3 at hx3 f3 ⊢
        obtain ⟨dx3, ho3⟩ := hx3.o
        refine ⟨_, rfl, _, _, _, _, _, rfl, ho3, T.cl_Writer, T.n_Writer_own_known, lkWriter_own_known ({ x with roads := a ++ { d with st := "up", sure := s, age := ag, put := false } :: b }), _, rfl, _, _, rfl, _, rfl, _, _, _, _, rfl, ho3, T.cl_Writer, T.n_Writer_own_known, lenWriter ({ x with roads := a ++ { d with st := "up", sure := s, age := ag, put := false } :: b }), ?_⟩
        rw [ptWriter_own_known]
        have hkn : x.known ≤ (if known > x.known then known else x.known) := by split <;> omega
        generalize (if known > x.known then known else x.known) = kn at hkn ⊢
        have hx4 : WrH K (upd H3 x.p (.ins (He.ga K "Writer") dx3 (wrF { { x with roads := a ++ { d with st := "up", sure := s, age := ag, put := false } :: b } with known := kn }))) { { x with roads := a ++ { d with st := "up", sure := s, age := ag, put := false } :: b } with known := kn } := hx3.self0 rfl rfl rfl rfl rfl rfl
        have f4 : Fr [x.p] H3 (upd H3 x.p (.ins (He.ga K "Writer") dx3 (wrF { { x with roads := a ++ { d with st := "up", sure := s, age := ag, put := false } :: b } with known := kn }))) := Fr.putI (by simp) ho3
        generalize (upd H3 x.p (.ins (He.ga K "Writer") dx3 (wrF { { x with roads := a ++ { d with st := "up", sure := s, age := ag, put := false } :: b } with known := kn }))) = H4 at hx4 f4 ⊢
        obtain ⟨dx4, ho4⟩ := hx4.o
        refine ⟨_, rfl, _, _, _, _, _, rfl, ho4, T.cl_Writer, T.n_Writer_own_limit, lkWriter_own_limit ({ { x with roads := a ++ { d with st := "up", sure := s, age := ag, put := false } :: b } with known := kn }), _, rfl, _, rfl, _, _, rfl, rfl, _, _, rfl, _, rfl, _, _, _, _, rfl, ho4, T.cl_Writer, T.n_Writer_own_limit, lenWriter ({ { x with roads := a ++ { d with st := "up", sure := s, age := ag, put := false } :: b } with known := kn }), ?_⟩
        rw [ptWriter_own_limit]
        have hlim : x.limit ≤ (if known + room > x.limit then known + room else x.limit) := by split <;> omega
        generalize (if known + room > x.limit then known + room else x.limit) = lim at hlim ⊢
        have hx5 : WrH K (upd H4 x.p (.ins (He.ga K "Writer") dx4 (wrF { { { x with roads := a ++ { d with st := "up", sure := s, age := ag, put := false } :: b } with known := kn } with limit := lim }))) { { { x with roads := a ++ { d with st := "up", sure := s, age := ag, put := false } :: b } with known := kn } with limit := lim } := hx4.self0 rfl rfl rfl rfl rfl rfl
        have f5 : Fr [x.p] H4 (upd H4 x.p (.ins (He.ga K "Writer") dx4 (wrF { { { x with roads := a ++ { d with st := "up", sure := s, age := ag, put := false } :: b } with known := kn } with limit := lim }))) := Fr.putI (by simp) ho4
        generalize (upd H4 x.p (.ins (He.ga K "Writer") dx4 (wrF { { { x with roads := a ++ { d with st := "up", sure := s, age := ag, put := false } :: b } with known := kn } with limit := lim }))) = H5 at hx5 f5 ⊢
        obtain ⟨dx5, ho5⟩ := hx5.o
        refine ⟨_, rfl, _, _, _, _, _, rfl, ho5, T.cl_Writer, T.n_Writer_was_over, lkWriter_was_over ({ { { x with roads := a ++ { d with st := "up", sure := s, age := ag, put := false } :: b } with known := kn } with limit := lim }), false, rfl, iteF ⟨_, rfl, _, rfl, _, _, _, _, rfl, ho5, T.cl_Writer, T.n_Writer_was_over, lenWriter ({ { { x with roads := a ++ { d with st := "up", sure := s, age := ag, put := false } :: b } with known := kn } with limit := lim }), ?_⟩⟩
        rw [ptWriter_same_over]
        have hx6 : WrH K (upd H5 x.p (.ins (He.ga K "Writer") dx5 (wrF { { { x with roads := a ++ { d with st := "up", sure := s, age := ag, put := false } :: b } with known := kn } with limit := lim }))) { { { x with roads := a ++ { d with st := "up", sure := s, age := ag, put := false } :: b } with known := kn } with limit := lim } := hx5.self0 rfl rfl rfl rfl rfl rfl
        have f6 : Fr [x.p] H5 (upd H5 x.p (.ins (He.ga K "Writer") dx5 (wrF { { { x with roads := a ++ { d with st := "up", sure := s, age := ag, put := false } :: b } with known := kn } with limit := lim }))) := Fr.putI (by simp) ho5
        generalize (upd H5 x.p (.ins (He.ga K "Writer") dx5 (wrF { { { x with roads := a ++ { d with st := "up", sure := s, age := ag, put := false } :: b } with known := kn } with limit := lim }))) = H6 at hx6 f6 ⊢
        obtain ⟨dx6, ho6⟩ := hx6.o
        have hsole6 : x.mode = "none" → ∀ d2 ∈ a ++ { d with st := "up", sure := s, age := ag, put := false } :: b, x.first = some d2.name := by
          intro hm d2 h2
          rcases List.mem_append.mp h2 with h2 | h2
          · exact hsole hm d2 (by rw [hab]; simp [h2])
          · rcases List.mem_cons.mp h2 with e2 | h2
            · rw [e2]
              exact hsole hm d hd
            · exact hsole hm d2 (by rw [hab]; simp [h2])
        refine ⟨_, rfl, _, _, _, rfl, ho6, noWriter_hear_mode ({ { { x with roads := a ++ { d with st := "up", sure := s, age := ag, put := false } :: b } with known := kn } with limit := lim }), _, rfl, { { { x with roads := a ++ { d with st := "up", sure := s, age := ag, put := false } :: b } with known := kn } with limit := lim }, m, rfl, hx6, hm, hsole6, hanew, fun la m' H7 hx7 f7 hm' => ?_⟩
        obtain ⟨dx7, ho7⟩ := hx7.o
        refine ⟨_, rfl, _, _, _, rfl, ho7, noWriter_drop_known ({ { { { x with roads := a ++ { d with st := "up", sure := s, age := ag, put := false } :: b } with known := kn } with limit := lim } with mode := m', la := la }), { { { { x with roads := a ++ { d with st := "up", sure := s, age := ag, put := false } :: b } with known := kn } with limit := lim } with mode := m', la := la }, rfl, hx7, hb.W, (by show x.anew.length ≤ _; have := hb.anew; omega), fun la2 es H8 hx8 f8 hle hla8 => ?_⟩
        have efoot : foot { { { x with roads := a ++ { d with st := "up", sure := s, age := ag, put := false } :: b } with known := kn } with limit := lim } = foot x := by
          unfold foot
          show x.p :: x.dr :: (a ++ { d with st := "up", sure := s, age := ag, put := false } :: b).flatMap rf = _
          rw [hab]
          all_goals simp only [List.flatMap_append, List.flatMap_cons]
          all_goals rfl
        rw [efoot] at f7
        have c2 : ∀ c ∈ [x.p], c ∈ foot x := by simp [foot]
        exact k { d with st := "up", sure := s, age := ag, put := false } kn lim m' la2 es H8 hx8 (((((f3.trans (f4.mono c2)).trans (f5.mono c2)).trans (f6.mono c2)).trans f7).trans (f8.mono c2)) hkn hlim hle (hm'.imp (fun z => z.1) id) (hS)
      · have hx3 := hx2
        have f3 := f12
        have hS : SureR d { d with st := "up", sure := s, age := ag } own := .inr ⟨hg, s, ag, d.put, rfl, hs⟩
        obtain ⟨dx3, ho3⟩ := hx2.o
        refine ⟨_, rfl, _, _, _, _, _, rfl, ho3, T.cl_Writer, T.n_Writer_own_known, lkWriter_own_known ({ x with roads := a ++ { d with st := "up", sure := s, age := ag } :: b }), _, rfl, _, _, rfl, _, rfl, _, _, _, _, rfl, ho3, T.cl_Writer, T.n_Writer_own_known, lenWriter ({ x with roads := a ++ { d with st := "up", sure := s, age := ag } :: b }), ?_⟩
        rw [ptWriter_own_known]
        have hkn : x.known ≤ (if known > x.known then known else x.known) := by split <;> omega
        generalize (if known > x.known then known else x.known) = kn at hkn ⊢
        have hx4 : WrH K (upd H2 x.p (.ins (He.ga K "Writer") dx3 (wrF { { x with roads := a ++ { d with st := "up", sure := s, age := ag } :: b } with known := kn }))) { { x with roads := a ++ { d with st := "up", sure := s, age := ag } :: b } with known := kn } := hx2.self0 rfl rfl rfl rfl rfl rfl
        have f4 : Fr [x.p] H2 (upd H2 x.p (.ins (He.ga K "Writer") dx3 (wrF { { x with roads := a ++ { d with st := "up", sure := s, age := ag } :: b } with known := kn }))) := Fr.putI (by simp) ho3
        generalize (upd H2 x.p (.ins (He.ga K "Writer") dx3 (wrF { { x with roads := a ++ { d with st := "up", sure := s, age := ag } :: b } with known := kn }))) = H4 at hx4 f4 ⊢
        obtain ⟨dx4, ho4⟩ := hx4.o
        refine ⟨_, rfl, _, _, _, _, _, rfl, ho4, T.cl_Writer, T.n_Writer_own_limit, lkWriter_own_limit ({ { x with roads := a ++ { d with st := "up", sure := s, age := ag } :: b } with known := kn }), _, rfl, _, rfl, _, _, rfl, rfl, _, _, rfl, _, rfl, _, _, _, _, rfl, ho4, T.cl_Writer, T.n_Writer_own_limit, lenWriter ({ { x with roads := a ++ { d with st := "up", sure := s, age := ag } :: b } with known := kn }), ?_⟩
        rw [ptWriter_own_limit]
        have hlim : x.limit ≤ (if known + room > x.limit then known + room else x.limit) := by split <;> omega
        generalize (if known + room > x.limit then known + room else x.limit) = lim at hlim ⊢
        have hx5 : WrH K (upd H4 x.p (.ins (He.ga K "Writer") dx4 (wrF { { { x with roads := a ++ { d with st := "up", sure := s, age := ag } :: b } with known := kn } with limit := lim }))) { { { x with roads := a ++ { d with st := "up", sure := s, age := ag } :: b } with known := kn } with limit := lim } := hx4.self0 rfl rfl rfl rfl rfl rfl
        have f5 : Fr [x.p] H4 (upd H4 x.p (.ins (He.ga K "Writer") dx4 (wrF { { { x with roads := a ++ { d with st := "up", sure := s, age := ag } :: b } with known := kn } with limit := lim }))) := Fr.putI (by simp) ho4
        generalize (upd H4 x.p (.ins (He.ga K "Writer") dx4 (wrF { { { x with roads := a ++ { d with st := "up", sure := s, age := ag } :: b } with known := kn } with limit := lim }))) = H5 at hx5 f5 ⊢
        obtain ⟨dx5, ho5⟩ := hx5.o
        refine ⟨_, rfl, _, _, _, _, _, rfl, ho5, T.cl_Writer, T.n_Writer_was_over, lkWriter_was_over ({ { { x with roads := a ++ { d with st := "up", sure := s, age := ag } :: b } with known := kn } with limit := lim }), false, rfl, iteF ⟨_, rfl, _, rfl, _, _, _, _, rfl, ho5, T.cl_Writer, T.n_Writer_was_over, lenWriter ({ { { x with roads := a ++ { d with st := "up", sure := s, age := ag } :: b } with known := kn } with limit := lim }), ?_⟩⟩
        rw [ptWriter_same_over]
        have hx6 : WrH K (upd H5 x.p (.ins (He.ga K "Writer") dx5 (wrF { { { x with roads := a ++ { d with st := "up", sure := s, age := ag } :: b } with known := kn } with limit := lim }))) { { { x with roads := a ++ { d with st := "up", sure := s, age := ag } :: b } with known := kn } with limit := lim } := hx5.self0 rfl rfl rfl rfl rfl rfl
        have f6 : Fr [x.p] H5 (upd H5 x.p (.ins (He.ga K "Writer") dx5 (wrF { { { x with roads := a ++ { d with st := "up", sure := s, age := ag } :: b } with known := kn } with limit := lim }))) := Fr.putI (by simp) ho5
        generalize (upd H5 x.p (.ins (He.ga K "Writer") dx5 (wrF { { { x with roads := a ++ { d with st := "up", sure := s, age := ag } :: b } with known := kn } with limit := lim }))) = H6 at hx6 f6 ⊢
        obtain ⟨dx6, ho6⟩ := hx6.o
        have hsole6 : x.mode = "none" → ∀ d2 ∈ a ++ { d with st := "up", sure := s, age := ag } :: b, x.first = some d2.name := by
          intro hm d2 h2
          rcases List.mem_append.mp h2 with h2 | h2
          · exact hsole hm d2 (by rw [hab]; simp [h2])
          · rcases List.mem_cons.mp h2 with e2 | h2
            · rw [e2]
              exact hsole hm d hd
            · exact hsole hm d2 (by rw [hab]; simp [h2])
        refine ⟨_, rfl, _, _, _, rfl, ho6, noWriter_hear_mode ({ { { x with roads := a ++ { d with st := "up", sure := s, age := ag } :: b } with known := kn } with limit := lim }), _, rfl, { { { x with roads := a ++ { d with st := "up", sure := s, age := ag } :: b } with known := kn } with limit := lim }, m, rfl, hx6, hm, hsole6, hanew, fun la m' H7 hx7 f7 hm' => ?_⟩
        obtain ⟨dx7, ho7⟩ := hx7.o
        refine ⟨_, rfl, _, _, _, rfl, ho7, noWriter_drop_known ({ { { { x with roads := a ++ { d with st := "up", sure := s, age := ag } :: b } with known := kn } with limit := lim } with mode := m', la := la }), { { { { x with roads := a ++ { d with st := "up", sure := s, age := ag } :: b } with known := kn } with limit := lim } with mode := m', la := la }, rfl, hx7, hb.W, (by show x.anew.length ≤ _; have := hb.anew; omega), fun la2 es H8 hx8 f8 hle hla8 => ?_⟩
        have efoot : foot { { { x with roads := a ++ { d with st := "up", sure := s, age := ag } :: b } with known := kn } with limit := lim } = foot x := by
          unfold foot
          show x.p :: x.dr :: (a ++ { d with st := "up", sure := s, age := ag } :: b).flatMap rf = _
          rw [hab]
          all_goals simp only [List.flatMap_append, List.flatMap_cons]
          all_goals rfl
        rw [efoot] at f7
        have c2 : ∀ c ∈ [x.p], c ∈ foot x := by simp [foot]
        exact k { d with st := "up", sure := s, age := ag } kn lim m' la2 es H8 hx8 (((((f12.trans (f4.mono c2)).trans (f5.mono c2)).trans (f6.mono c2)).trans f7).trans (f8.mono c2)) hkn hlim hle (hm'.imp (fun z => z.1) id) (hS)
end

/-! ### Writer: on_call, take -/
section
variable {P : Program} {w : World} {K : PySem.W.Frag} {mg : Str → Option Value} {base : Heap}
/-- a road is begun -/
def BegR (K : PySem.W.Frag) (H : Hp) (x : Wr) (name : List Nat) (b : Int) (Q : VK) : Prop := ∀ (d : Rw) (r t : Addr) (H' : Hp), (∀ d2 ∈ x.roads, d2.name ≠ name) → (x.first = none ∨ x.mode = "led") → d.name = name → d.base = b → d.txt = [] → d.ents = [] → d.sure = 0 → d.st = "asked" →
  WrH K H' { x with first := some (x.first.getD name), roads := x.roads ++ [d] } → Fr (foot x) H H' → (∀ c ∈ rf d, H c = none) → H r = none → H' r = some (.lst [.ref t]) → H' t = some (.tup [.str "join", tx name, .int b]) → Q (.ref r) H'
def sp_Writer_on_call (K : PySem.W.Frag) : Sp := fun vs H Q _ => ∃ (x : Wr) (name : List Nat), vs = [.ref x.p, tx name] ∧ WrH K H x ∧ WrB x ∧ Lets name ∧ (1 ≤ name.length ∧ name.length ≤ 8) ∧ (∃ fn, x.first = some fn) ∧
  (∀ (r : Addr) (H' : Hp), Same H H' → H r = none → H' r = some (.lst []) → Q (.ref r) H') ∧ BegR K H x name 0 Q
theorem sc_Writer_on_call : FnScope ["self", "name"] ["self", "name"] (defScope s_Writer_on_call) := ⟨rfl, rfl, rfl, by decide +kernel, rfl, by decide +kernel, by decide +kernel⟩
theorem ok_Writer_on_call (T : TX P w K mg base) : PR P w K mg base 6 (He.ma K (He.ga K "Writer") "on_call") ["self", "name"] (sp_Writer_on_call K) := by
  have G_Writer_begin := ok_Writer_begin T
  refine T.prom d_Writer_on_call (List.mem_of_getElem? (i := 42) (by rfl)) ⟨rfl, rfl⟩ sc_Writer_on_call (fun vs H Q E h => ?_) (fun _ _ _ _ _ _ us hl => match us, hl with | [_, _], _ => rfl) (fun cdv A outer s H vs Q E hr h => ?_)
  · obtain ⟨_, _, rfl, _⟩ := h
    rfl
  · have hu := hu_of hr
    obtain ⟨x, name, rfl, hx, hb, hL, hl, ⟨fn, hfn⟩, k0, k1⟩ := h
    refine ⟨_, (pss_cons (ps_if (PW.pt (pw_or (pt_cmp (pc_din hu (pv 1) (pe_fld (pv 0) rfl))) (pw_or1 (PW.pt (pw_and (pt_cmpR op_notN (pe_fld (pv 0) rfl) pe_non (nomark _)) (pw_and1 (pt_cmpR op_ne (pe_fld (pv 0) rfl) pe_str (nomark _))))))))
        (pss_one (ps_ret (pe_lst pa_nil)))
        pss_nil)
      (pss_one (ps_ret (pe_methP (pv 0) T.cl_Writer T.m_Writer_begin G_Writer_begin (hr.mono (by decide)) (pa_cons (pv 1) (pa_cons pe_int pa_nil)))))), ?_⟩
    obtain ⟨dx, ho⟩ := hx.o
    refine ⟨_, rfl, _, rfl, _, _, _, _, _, rfl, ho, T.cl_Writer, T.n_Writer_own_roads, lkWriter_own_roads (x), x.dr, valV (rdK x.roads) (.inr (S name)), rfl, .inl ⟨rdK x.roads, .inr (S name), .inl hx.dr, rfl, rfl⟩, _, rfl, ?_⟩
    cases hv : valV (rdK x.roads) (.inr (S name)) with
    | some v => exact ift (by rfl) (ift (by rfl) ⟨line5 (by decide), fun r hr => k0 r _ (Same.upd hr) hr upd_same⟩)
    | none =>
      have hnew : ∀ d ∈ x.roads, d.name ≠ name := by
        intro d hd e
        have := rdK_some hb.nd hd
        rw [e, hv] at this
        cases this
      have lf : (wrF x).lookup ("first_road" : Str) = some (tx fn) := by rw [lkWriter_first_road, hfn]; rfl
      refine iffF (by rfl) ⟨_, rfl, _, _, _, _, _, rfl, ho, T.cl_Writer, T.n_Writer_first_road, lf, rfl, _, rfl, ift (by rfl) ⟨_, rfl, _, _, _, _, _, rfl, ho, T.cl_Writer, T.n_Writer_own_mode, lkWriter_own_mode (x), rfl, _, rfl, ?_⟩⟩
      by_cases hled : x.mode = "led"
      · refine iffF (by show (!decide (V.str x.mode = V.str "led")) = false; rw [hled]; decide +kernel) ?_
        refine ⟨_, rfl, _, _, _, rfl, ho, noWriter_begin (x), _, rfl, x, name, 0, rfl, hx, hb.few, hL, hl, ⟨by decide, by decide⟩, hnew, .inr hled, fun d r t H' e1 e2 e3 e4 e5 e6 h' f' hfr hr hr' ht' => ?_⟩
        exact k1 d r t H' hnew (.inr hled) e1 e2 e3 e4 e5 e6 h' f' hfr hr hr' ht'
      · refine ift (by show (!decide (V.str x.mode = V.str "led")) = true; rw [decide_eq_false (fun z => hled (V.str.inj z))]; rfl) ⟨line5 (by decide), fun r hr => k0 r _ (Same.upd hr) hr upd_same⟩
def sp_Writer_take (K : PySem.W.Frag) : Sp := fun vs H Q _ => ∃ (x : Wr) (q : Addr) (name : List Nat), vs = [.ref x.p, .ref q] ∧ WrH K H x ∧ WrB x ∧ (x.mode = "none" → ∀ d ∈ x.roads, x.first = some d.name) ∧ (x.mode = "none" → x.anew = []) ∧ (∃ fn, x.first = some fn) ∧
  Lets name ∧ (1 ≤ name.length ∧ name.length ≤ 8) ∧
  ((∃ word : Str, (word = "call" ∨ word = "meddled") ∧ H q = some (.tup [.str word, tx name]) ∧
      (∀ (r : Addr) (H' : Hp), WrH K H' x → Fr (foot x) H H' → H r = none → H' r = some (.lst []) → Q (.ref r) H') ∧ BegR K H x name 0 Q ∧
      ∀ (a b : List Rw) (d : Rw) (m' : Str) (la : Addr) (es : List Pc) (r : Addr) (H' : Hp), x.roads = a ++ d :: b → d.name = name → d.st ≠ "gone" → ((m' = x.mode ∧ x.mode ≠ "none") ∨ (x.mode = "none" ∧ m' = "led")) →
        WrH K H' { x with mode := m', roads := a ++ { d with st := "gone", put := true } :: b, la := la, anew := es } → Fr (foot x) H H' → es.length ≤ 50000 → H r = none → H' r = some (.lst []) → Q (.ref r) H') ∨
   (∃ (own known room : Int) (m : Str), 0 ≤ own ∧ 0 ≤ known ∧ 0 ≤ room ∧ Mode m ∧ H q = some (.tup [.str "sure", tx name, .int own, .int known, .int room, .str m, .bl false]) ∧
      (∀ (r : Addr) (H' : Hp), (∀ d ∈ x.roads, d.name ≠ name) → WrH K H' x → Fr (foot x) H H' → H r = none → H' r = some (.lst []) → Q (.ref r) H') ∧
      ∀ (a b : List Rw) (d d' : Rw) (kn lim : Int) (m' : Str) (la : Addr) (es : List Pc) (r : Addr) (H' : Hp), x.roads = a ++ d :: b → d.name = name → WrH K H' { x with roads := a ++ d' :: b, known := kn, limit := lim, mode := m', la := la, anew := es } →
        Fr (foot x) H H' → x.known ≤ kn → x.limit ≤ lim → es.length ≤ x.anew.length → (m' = x.mode ∨ (x.mode = "none" ∧ m' = m)) → SureR d d' own → H r = none → H' r = some (.lst []) → Q (.ref r) H'))
theorem sc_Writer_take : FnScope ["self", "letter", "road", "word", "name"] ["self", "letter"] (defScope s_Writer_take) := ⟨rfl, rfl, rfl, by decide +kernel, rfl, by decide +kernel, by decide +kernel⟩
theorem ok_Writer_take (T : TX P w K mg base) : PR P w K mg base 7 (He.ma K (He.ga K "Writer") "take") ["self", "letter"] (sp_Writer_take K) := by
  have G_Writer_hear_mode := ok_Writer_hear_mode T
  have G_Writer_let_go := ok_Writer_let_go T
  have G_Writer_on_call := ok_Writer_on_call T
  have G_Writer_on_sure := ok_Writer_on_sure T
  have G_is_answer := ok_is_answer T
  refine T.prom d_Writer_take (List.mem_of_getElem? (i := 41) (by rfl)) ⟨rfl, rfl⟩ sc_Writer_take (fun vs H Q E h => ?_) (fun _ _ _ _ _ _ us hl => match us, hl with | [_, _], _ => rfl) (fun cdv A outer s H vs Q E hr h => ?_)
  · obtain ⟨_, _, _, rfl, _⟩ := h
    rfl
  · have hu := hu_of hr
    obtain ⟨x, q, name, rfl, hx, hb, hsole, hanew, hfn, hL, hl, hA⟩ := h
    refine ⟨_, (pss_cons (ps_if (pt_not (pt_val (pe_callP G_is_answer (hr.mono (by decide)) rfl T.g_is_answer (pa_cons (pv 1) pa_nil))))
        (pss_one (ps_ret (pe_lst pa_nil)))
        pss_nil)
      (pss_cons (ps_asg (pe_slice sl_tupA (pv 1) po_none (po_some pe_int)) (pg_tup rfl (pgs_cons (pg_name (i := 3) sc_Writer_take.nd rfl (by first | exact Or.inl rfl | exact Or.inr rfl)) (pgs_cons (pg_name (i := 4) sc_Writer_take.nd rfl (by first | exact Or.inl rfl | exact Or.inr rfl)) pgs_nil))))
      (pss_cons (ps_if (pt_cmpR op_eq (pv 3) pe_str (nomark _))
        (pss_one (ps_ret (pe_methP (pv 0) T.cl_Writer T.m_Writer_on_call G_Writer_on_call (hr.mono (by decide)) (pa_cons (pv 4) pa_nil))))
        pss_nil)
      (pss_cons (ps_if (pt_cmp (pc_dnotin hu (pv 4) (pe_fld (pv 0) rfl)))
        (pss_one (ps_ret (pe_lst pa_nil)))
        pss_nil)
      (pss_cons (ps_set (i := 2) sc_Writer_take.nd rfl (by first | exact Or.inl rfl | exact Or.inr rfl) (pe_dget hu (pe_fld (pv 0) rfl) (pv 4) (fun _ _ => rfl)))
      (pss_cons (ps_if (pt_cmpR op_eq (pv 3) pe_str (nomark _))
        (pss_one (ps_expr (pe_methP (pv 0) T.cl_Writer T.m_Writer_on_sure G_Writer_on_sure (hr.mono (by decide)) (pa_cons (pv 2) (pa_cons (pe_slice sl_tupA (pv 1) (po_some pe_int) po_none) pa_nil)))))
        (pss_one (ps_if (pt_cmpR op_ne (pe_fld (pv 2) rfl) pe_str (nomark _))
          (pss_cons (ps_expr (pe_methP (pv 0) T.cl_Writer T.m_Writer_hear_mode G_Writer_hear_mode (hr.mono (by decide)) (pa_cons pe_str pa_nil)))
          (pss_one (ps_expr (pe_methP (pv 0) T.cl_Writer T.m_Writer_let_go G_Writer_let_go (hr.mono (by decide)) (pa_cons (pv 2) pa_nil)))))
          pss_nil)))
      (pss_one (ps_ret (pe_lst pa_nil))))))))), ?_⟩
    have hans : Ans H q := by
      rcases hA with ⟨word, hw, e, _⟩ | ⟨own, known, room, m, h1, h2, h3, hm, e, _⟩
      · exact ⟨word, name, ⟨hL, hl⟩, .inl ⟨hw, e⟩⟩
      · exact ⟨"sure", name, ⟨hL, hl⟩, .inr ⟨rfl, own, known, room, m, false, h1, h2, h3, hm, e⟩⟩
    refine ⟨_, rfl, q, rfl, hans, fun H1 s1 => ⟨_, rfl, iteF ?_⟩⟩
    have hx1 := hx.same s1
    obtain ⟨dx, ho⟩ := hx1.o
    have f1 : Fr (foot x) H H1 := Fr.of _ s1
    -- a list of nothing
    have nil0 : ∀ (H2 : Hp) (x2 : Wr), WrH K H2 x2 → foot x2 = foot x → Fr (foot x) H H2 → ∀ r, H2 r = none → H r = none := fun H2 x2 h2 ef f2 r hr => f2.free (fun z => not_foot h2 hr (by rw [ef]; exact z)) hr
    rcases hA with ⟨word, hw, e, k0, k1, k2⟩ | ⟨own, known, room, m, h1, h2, h3, hm, e, k0, k1⟩
    · have e1 := s1 _ _ e
      refine ⟨_, rfl, _, rfl, q, _, rfl, SqT.of e1, fun _ => ?_, fun hn => absurd ⟨(by show HT.sIx 2 0 none = 0; decide), (by show HT.sIx 2 2 (some 2) = 2; decide)⟩ hn⟩
      refine ⟨q, _, rfl, SqT.of e1, rfl, _, _, rfl, _, _, rfl, rfl, ?_⟩
      refine ⟨_, rfl, rfl, _, rfl, ?_⟩
      rcases hw with rfl | rfl
      · refine ift (by decide +kernel) ⟨_, rfl, _, _, _, rfl, ho, noWriter_on_call (x), _, rfl, x, name, rfl, hx1, hb, hL, hl, hfn, fun r H2 s2 hr hr2 => ?_, fun d r t H2 g1 g2 g3 g4 g5 g6 g7 g8 h' f' hfr hr hr' ht' => ?_⟩
        · exact k0 r H2 (hx1.same s2) (f1.trans (Fr.of _ s2)) (s1.free hr) hr2
        · exact k1 d r t H2 g1 g2 g3 g4 g5 g6 g7 g8 h' (f1.trans f') (fun c hc => s1.free (hfr c hc)) (s1.free hr) hr' ht'
      · refine iffF (by decide +kernel) ?_
        refine ⟨_, rfl, _, rfl, _, _, _, _, _, rfl, ho, T.cl_Writer, T.n_Writer_own_roads, lkWriter_own_roads (x), x.dr, valV (rdK x.roads) (.inr (S name)), rfl, .inl ⟨rdK x.roads, .inr (S name), .inl hx1.dr, rfl, rfl⟩, _, rfl, ?_⟩
        cases hv : valV (rdK x.roads) (.inr (S name)) with
        | none => exact ift (by rfl) ⟨line5 (by decide), fun r hr => k0 r _ (hx1.same (Same.upd hr)) (f1.new hr) (s1.free hr) upd_same⟩
        | some v =>
          refine iffF (by rfl) ?_
          obtain ⟨d, hd, hdn⟩ := rdK_get hv
          obtain ⟨a, b, hab⟩ := List.append_of_mem hd
          obtain ⟨dy, hr2⟩ := (hx1.rd d hd).r
          have hv2 := rdK_some hb.nd hd
          rw [hdn] at hv2
          have dg : DGet H1 x.dr (tx name) (some (.ref d.r)) := .inl ⟨_, .inr (S name), .inl hx1.dr, rfl, hv2.symm⟩
          refine ⟨_, rfl, _, _, _, _, _, rfl, ho, T.cl_Writer, T.n_Writer_own_roads, lkWriter_own_roads (x), _, rfl, x.dr, _, rfl, dg, ?_⟩
          refine ⟨_, rfl, rfl, _, rfl, iffF (by decide +kernel) ?_⟩
          refine ⟨_, rfl, _, _, _, _, _, rfl, hr2, T.cl_Road, T.n_Road_own_state, lkRoad_own_state (d), rfl, _, rfl, ?_⟩
          by_cases hg : d.st = "gone"
          · exact iffF (by show (!decide (V.str d.st = V.str "gone")) = false; rw [hg]; decide +kernel) ⟨line5 (by decide), fun r hr => k0 r _ (hx1.same (Same.upd hr)) (f1.new hr) (s1.free hr) upd_same⟩
          · refine ift (by show (!decide (V.str d.st = V.str "gone")) = true; rw [decide_eq_false (fun z => hg (V.str.inj z))]; rfl) ?_
            refine ⟨_, rfl, _, _, _, rfl, ho, noWriter_hear_mode (x), x, "led", rfl, hx1, .inr (.inl rfl), hsole, hanew, fun la m' H2 hx2 f2 hm' => ?_⟩
            obtain ⟨dx2, ho2⟩ := hx2.o
            refine ⟨_, rfl, _, _, _, rfl, ho2, noWriter_let_go ({ x with mode := m', la := la }), _, rfl, { x with mode := m', la := la }, a, b, d, rfl, hx2, ⟨hb.W, hb.lets, hb.ents, hb.name, hb.nd, hb.anew, hb.few, hb.sub⟩, hab, fun la3 es H3 hx3 f3 hle hla3 => ?_⟩
            refine ⟨line5 (by decide), fun r hr => ?_⟩
            have f13 : Fr (foot x) H H3 := (f1.trans f2).trans f3
            have ef : foot { x with mode := m', roads := a ++ { d with st := "gone", put := true } :: b, la := la3, anew := es } = foot x := by
              unfold foot
              show x.p :: x.dr :: (a ++ { d with st := "gone", put := true } :: b).flatMap rf = _
              rw [hab]
              all_goals simp only [List.flatMap_append, List.flatMap_cons]
              all_goals rfl
            refine k2 a b d m' la3 es r _ hab hdn hg (hm'.imp (fun z => ⟨z.1, z.2.resolve_left (by decide +kernel)⟩) id) (hx3.same (Same.upd hr)) (f13.new hr) hle (nil0 H3 _ hx3 ef f13 r hr) upd_same
    · have e1 := s1 _ _ e
      refine ⟨_, rfl, _, rfl, q, _, rfl, SqT.of e1, fun hw => absurd hw.2 (by show ¬ (HT.sIx 7 7 (some 2) = 7); decide), fun _ p hp => ?_⟩
      have s2 := Same.upd (o := .tup (cutV [.str "sure", tx name, .int own, .int known, .int room, .str m, .bl false] none (some 2))) hp
      have hx2 := hx1.same s2
      have ho2 := s2 _ _ ho
      have e2 := s2 _ _ e1
      refine ⟨p, _, rfl, SqT.of upd_same, rfl, _, _, rfl, _, _, rfl, rfl, ?_⟩
      refine ⟨_, rfl, rfl, _, rfl, iffF (by decide +kernel) ?_⟩
      refine ⟨_, rfl, _, rfl, _, _, _, _, _, rfl, ho2, T.cl_Writer, T.n_Writer_own_roads, lkWriter_own_roads (x), x.dr, valV (rdK x.roads) (.inr (S name)), rfl, .inl ⟨rdK x.roads, .inr (S name), .inl hx2.dr, rfl, rfl⟩, _, rfl, ?_⟩
      cases hv : valV (rdK x.roads) (.inr (S name)) with
      | none =>
        refine ift (by rfl) ⟨line5 (by decide), fun r hr => k0 r _ (fun d hd en => ?_) (hx2.same (Same.upd hr)) (((f1.trans (Fr.of _ s2))).new hr) (s1.free (s2.free hr)) upd_same⟩
        have := rdK_some hb.nd hd
        rw [en, hv] at this
        cases this
      | some v =>
        refine iffF (by rfl) ?_
        obtain ⟨d, hd, hdn⟩ := rdK_get hv
        obtain ⟨a, b, hab⟩ := List.append_of_mem hd
        have hv2 := rdK_some hb.nd hd
        rw [hdn] at hv2
        have dg : DGet _ x.dr (tx name) (some (.ref d.r)) := .inl ⟨_, .inr (S name), .inl hx2.dr, rfl, hv2.symm⟩
        refine ⟨_, rfl, _, _, _, _, _, rfl, ho2, T.cl_Writer, T.n_Writer_own_roads, lkWriter_own_roads (x), _, rfl, x.dr, _, rfl, dg, ?_⟩
        refine ⟨_, rfl, rfl, _, rfl, ift (by decide +kernel) ?_⟩
        refine ⟨_, rfl, _, _, _, rfl, ho2, noWriter_on_sure (x), _, rfl, _, rfl, _, rfl, q, _, rfl, SqT.of e2, fun hw => absurd hw.1 (by show ¬ (HT.sIx 7 0 (some 2) = 0); decide), fun _ p2 hp2 => ?_⟩
        have s3 := Same.upd (o := .tup (cutV [.str "sure", tx name, .int own, .int known, .int room, .str m, .bl false] (some 2) none)) hp2
        refine ⟨x, a, b, d, p2, own, known, room, m, rfl, hx2.same s3, hb, hab, upd_same, hm, hsole, hanew, fun d' kn lim m' la es H3 hx3 f3 g1 g2 g3 g4 g5 => ?_⟩
        refine ⟨line5 (by decide), fun r hr => ?_⟩
        have f13 : Fr (foot x) H H3 := ((f1.trans (Fr.of _ s2)).trans (Fr.of _ s3)).trans f3
        have hrf : rf d' = rf d := by
          rcases g5 with ⟨_, rfl⟩ | ⟨_, s, ag, pu, rfl, _⟩ <;> rfl
        have ef : foot { x with roads := a ++ d' :: b, known := kn, limit := lim, mode := m', la := la, anew := es } = foot x := by
          unfold foot
          show x.p :: x.dr :: (a ++ d' :: b).flatMap rf = _
          rw [hab, List.flatMap_append, List.flatMap_append, List.flatMap_cons, List.flatMap_cons, hrf]
        exact k1 a b d d' kn lim m' la es r _ hab hdn (hx3.same (Same.upd hr)) (f13.new hr) g1 g2 g3 g4 g5 (nil0 H3 _ hx3 ef f13 r hr) upd_same
end

/-! ### Writer: tick, roads -/
def core (d : Rw) : Rw := { d with age := 0, put := false }
theorem core_eq {d d' : Rw} (h : core d' = core d) : d'.name = d.name ∧ d'.r = d.r ∧ d'.wy = d.wy ∧ d'.la = d.la ∧ d'.pa = d.pa ∧ d'.base = d.base ∧ d'.txt = d.txt ∧ d'.ents = d.ents ∧ d'.sure = d.sure ∧ d'.st = d.st ∧ d'.spare = d.spare := by
  cases d
  cases d'
  simp [core] at h
  simp [h]
theorem core_name {rs rs0 : List Rw} (h : rs.map core = rs0.map core) : rs.map (·.name) = rs0.map (·.name) := by
  have e : ∀ l : List Rw, l.map (·.name) = (l.map core).map (·.name) := fun l => by rw [List.map_map]; rfl
  rw [e rs, e rs0, h]
theorem core_rdK {rs rs0 : List Rw} (h : rs.map core = rs0.map core) : rdK rs = rdK rs0 := by
  have e : ∀ l : List Rw, rdK l = rdK (l.map core) := fun l => by unfold rdK; rw [List.map_map]; rfl
  rw [e rs, e rs0, h]
theorem core_rf {rs rs0 : List Rw} (h : rs.map core = rs0.map core) : rs.flatMap rf = rs0.flatMap rf := by
  have e : ∀ l : List Rw, l.flatMap rf = (l.map core).flatMap rf := fun l => by rw [List.flatMap_map]; rfl
  rw [e rs, e rs0, h]
theorem core_len {rs rs0 : List Rw} (h : rs.map core = rs0.map core) : rs.length = rs0.length := by
  have := congrArg List.length h
  rw [List.length_map, List.length_map] at this
  exact this
theorem core_mem {rs rs0 : List Rw} (h : rs.map core = rs0.map core) {d : Rw} (hd : d ∈ rs) : ∃ d0 ∈ rs0, core d = core d0 := by
  have : core d ∈ rs0.map core := by rw [← h]; exact List.mem_map.mpr ⟨d, hd, rfl⟩
  obtain ⟨d0, h0, e⟩ := List.mem_map.mp this
  exact ⟨d0, h0, e.symm⟩
theorem WrB.core {x : Wr} {rs : List Rw} {la : Addr} {es : List Pc} (h : WrB x) (e : rs.map core = x.roads.map core) (he : es.length ≤ 50000) : WrB { x with roads := rs, la := la, anew := es } := by
  have hm : ∀ d ∈ rs, ∃ d0 ∈ x.roads, d.name = d0.name ∧ d.ents = d0.ents := fun d hd => by
    obtain ⟨d0, h0, ec⟩ := core_mem e hd
    have := core_eq ec
    exact ⟨d0, h0, this.1, this.2.2.2.2.2.2.2.1⟩
  refine ⟨h.W, h.lets, fun d hd => ?_, fun d hd => ?_, ?_, he, ?_, fun d hd => ?_⟩
  · obtain ⟨d0, h0, _, e2⟩ := hm d hd
    rw [e2]; exact h.ents d0 h0
  · obtain ⟨d0, h0, e1, _⟩ := hm d hd
    rw [e1]; exact h.name d0 h0
  · show (rs.map (·.name)).Nodup
    rw [core_name e]
    exact h.nd
  · show rs.length < 64
    rw [core_len e]
    exact h.few
  · obtain ⟨d0, h0, _, e2⟩ := hm d hd
    rw [e2]; exact h.sub d0 h0
theorem core_mid {a b : List Rw} {d d' : Rw} (h : core d' = core d) : (a ++ d' :: b).map core = (a ++ d :: b).map core := by
  rw [List.map_append, List.map_append, List.map_cons, List.map_cons, h]
theorem foot_core {x : Wr} {rs : List Rw} {la : Addr} {es : List Pc} (e : rs.map core = x.roads.map core) : foot { x with roads := rs, la := la, anew := es } = foot x := by
  unfold foot
  show x.p :: x.dr :: rs.flatMap rf = _
  rw [core_rf e]
section
variable {P : Program} {w : World} {K : PySem.W.Frag} {mg : Str → Option Value} {base : Heap}
def sp_Writer_roads (K : PySem.W.Frag) : Sp := fun vs H Q _ => ∃ x : Wr, vs = [.ref x.p] ∧ WrH K H x ∧ WrB x ∧
  ∀ (r : Addr) (H' : Hp), Same H H' → H r = none → H' r = some (.dK (x.roads.map fun d => (.inr (S d.name), .str d.st))) → Q (.ref r) H'
theorem sc_Writer_roads : FnScope ["self", "name", "road"] ["self"] (defScope s_Writer_roads) := ⟨rfl, rfl, rfl, by decide +kernel, rfl, by decide +kernel, by decide +kernel⟩
theorem ok_Writer_roads (T : TX P w K mg base) : PR P w K mg base 1 (He.ma K (He.ga K "Writer") "roads") ["self"] (sp_Writer_roads K) := by
  refine T.prom d_Writer_roads (List.mem_of_getElem? (i := 54) (by rfl)) ⟨rfl, rfl⟩ sc_Writer_roads (fun vs H Q E h => ?_) (fun _ _ _ _ _ _ us hl => match us, hl with | [_], _ => rfl) (fun cdv A outer s H vs Q E hr h => ?_)
  · obtain ⟨_, rfl, _⟩ := h
    rfl
  · have hu := hu_of hr
    obtain ⟨x, rfl, hx, hb, k⟩ := h
    refine ⟨_, (pss_one (ps_ret (pe_lock (pe_dc (own := [("name", 1), ("road", 2)]) (g := gTup K 2 (gCons (gName 1) (gCons (gName 2) (gNil)))) rfl sc_Writer_roads.nd (pi_items (pe_fld (pv 0) rfl)) (blkOk_by (N := ["self", "name", "road"]) (sc := defScope s_Writer_roads) (by decide +kernel)) (fun _ _ _ _ _ => (pg_tup rfl (pgs_cons (pg_name (i := 1) sc_Writer_roads.nd rfl (by first | exact Or.inl rfl | exact Or.inr rfl)) (pgs_cons (pg_name (i := 2) sc_Writer_roads.nd rfl (by first | exact Or.inl rfl | exact Or.inr rfl)) pgs_nil)))) (fun _ _ _ _ _ => pts_nil) (fun _ _ _ _ _ => (pv 1)) (fun _ _ _ _ _ => (pe_fldk (K := K) (by rfl) (pv 2) (by rfl))))))), ?_⟩
    obtain ⟨dx, ho⟩ := hx.o
    refine ⟨x.dr, _, hx.dr, trivial, fun od => ?_⟩
    have fL : Fr [x.dr] H (upd H x.dr (.frz od (.dK (rdK x.roads)))) := Fr.putD (by simp) hx.dr
    have hL := hx.toWrR.lock fL
    have hdL : (upd H x.dr (.frz od (.dK (rdK x.roads)))) x.dr = some (.frz od (.dK (rdK x.roads))) := upd_same
    have sL : ∀ b o, b ≠ x.dr → H b = some o → (upd H x.dr (.frz od (.dK (rdK x.roads)))) b = some o := fun b o hb e => by rw [upd_ne hb]; exact e
    have nL : ∀ b, (upd H x.dr (.frz od (.dK (rdK x.roads)))) b = none → H b = none := fun b e => by
      by_cases z : b = x.dr
      · rw [z, upd_same] at e; cases e
      · rw [upd_ne z] at e; exact e
    generalize (upd H x.dr (.frz od (.dK (rdK x.roads)))) = HL at fL hL hdL sL nL ⊢
    obtain ⟨dxL, hoL⟩ := hL.o
    refine ⟨_, rfl, _, _, _, _, _, rfl, hoL, T.cl_Writer, T.n_Writer_own_roads, lkWriter_own_roads (x), x.dr, od, rdK x.roads, rfl, hdL, fun D hD => ?_⟩
    refine dc_by (n := x.roads.length) (fun i H2 => Same HL H2 ∧ H2 D = some (.dK ((x.roads.take i).map fun d => (.inr (S d.name), .str d.st)))) (fun i H2 h hi => ?_) (fun H2 h => ?_) ⟨Same.upd hD, upd_same⟩ ?_ ?_
    · exact ⟨h.1 _ _ hdL, by unfold rdK; rw [List.length_map]; exact hi⟩
    · exact ⟨h.1 _ _ hdL, by unfold rdK; rw [List.length_map]; exact Nat.le_refl _⟩
    · rintro i y H2 H3 hi ⟨s2, hd2⟩ ⟨T2, ky, vy, ek, rfl, hT2, rfl⟩
      unfold rdK at ek
      rw [List.getElem?_map, List.getElem?_eq_getElem hi] at ek
      obtain ⟨rfl, rfl⟩ := Prod.mk.inj (Option.some.inj ek)
      have hd := List.getElem_mem hi
      have hnm := hb.before hi
      have hst : x.roads.take (i + 1) = x.roads.take i ++ [x.roads[i]] := List.take_succ_eq_append_getElem hi
      generalize x.roads[i] = d at hd hnm hst hT2 ⊢
      have s3 : Same HL (upd H2 T2 (.tup [kV (.inr (S d.name)), .ref d.r])) := s2.trans (Same.upd hT2)
      have hd3 : (upd H2 T2 (.tup [kV (.inr (S d.name)), .ref d.r])) D = some (.dK ((x.roads.take i).map fun d => (.inr (S d.name), .str d.st))) := by rw [upd_ne (ne_of_none hd2 hT2)]; exact hd2
      obtain ⟨dy, hr2⟩ := ((hL.rd d hd).fr (Fr.of [] s3) (by intro c hc; cases hc)).r
      refine ⟨T2, _, rfl, SqT.of upd_same, rfl, _, _, rfl, _, _, rfl, rfl, rfl, ?_⟩
      refine yes_go ?_
      refine ⟨_, rfl, _, rfl, _, _, _, _, _, rfl, hr2, T.cl_Road, T.n_Road_own_state, lkRoad_own_state (d), _, .inr (S d.name), rfl, hd3, (by rw [List.length_map, List.length_take]; have := hb.few; exact line5' (by omega)), Same.updN s3 hD, ?_⟩
      rw [upd_same, hst, List.map_append, putK_new]
      · rfl
      · cases e : valV ((x.roads.take i).map fun d : Rw => ((.inr (S d.name) : Key), V.str d.st)) (.inr (S d.name)) with
        | none => rfl
        | some v =>
          have h1 := valV_in e
          rw [List.map_map] at h1
          obtain ⟨d2, h2, ez⟩ := List.mem_map.mp h1
          exact absurd (S_inj (Sum.inr.inj ez)) (hnm d2 h2)
    · rintro H2 ⟨s2, hd2⟩
      rw [List.take_length] at hd2
      have hDd : D ≠ x.dr := fun z => by rw [z, hdL] at hD; cases hD
      refine ⟨s2 _ _ hdL, k D _ (fun b o e => ?_) (nL D hD) (by rw [upd_ne hDd]; exact hd2)⟩
      by_cases z : b = x.dr
      · subst z
        rw [hx.dr] at e
        rw [upd_same]
        exact e
      · rw [upd_ne z]
        exact s2 b o (sL b o z e)
def sp_Writer_has_all_laid (K : PySem.W.Frag) : Sp := fun vs H Q _ => ∃ x : Wr, vs = [.ref x.p] ∧ WrH K H x ∧ Q (.bl false) H
theorem sc_Writer_has_all_laid : FnScope ["self"] ["self"] (defScope s_Writer_has_all_laid) := ⟨rfl, rfl, rfl, by decide +kernel, rfl, by decide +kernel, by decide +kernel⟩
theorem ok_Writer_has_all_laid (T : TX P w K mg base) : PR P w K mg base 1 (He.ma K (He.ga K "Writer") "has_all_laid") ["self"] (sp_Writer_has_all_laid K) := by
  refine T.prom d_Writer_has_all_laid (List.mem_of_getElem? (i := 45) (by rfl)) ⟨rfl, rfl⟩ sc_Writer_has_all_laid (fun vs H Q E h => ?_) (fun _ _ _ _ _ _ us hl => match us, hl with | [_], _ => rfl) (fun cdv A outer s H vs Q E hr h => ?_)
  · obtain ⟨_, rfl, _⟩ := h
    rfl
  · have hu := hu_of hr
    obtain ⟨x, rfl, hx, k⟩ := h
    refine ⟨_, (pss_one (ps_ret (pe_and (pe_fld (pv 0) rfl) (pe_and (pe_cmpR op_ge (pe_fld (pv 0) rfl) (pe_callB call_len (by rfl) T.f_len (by decide +kernel) (pa_cons (pe_fld (pv 0) rfl) pa_nil)) (nomark _)) (pe_one (pe_cmpR (op_eqNil hr.units) (pe_fld (pv 0) rfl) (pe_lst pa_nil) (nomark _))))))), ?_⟩
    obtain ⟨dx, ho⟩ := hx.o
    exact ⟨_, rfl, _, _, _, _, _, rfl, ho, T.cl_Writer, T.n_Writer_was_ended, lkWriter_was_ended (x), false, rfl, iteF k⟩
def sp_Writer_tick_letters (K : PySem.W.Frag) : Sp := fun vs H Q _ => ∃ (x : Wr) (d : Rw), vs = [.ref x.p, tx d.name, .ref d.r] ∧ WrH K H x ∧ WrB x ∧ d ∈ x.roads ∧
  ∀ (r t : Addr) (H' : Hp), Same H H' → H r = none → H' r = some (.lst [.ref t]) → (H' t = some (.tup [.str "ask", tx d.name]) ∨ ∃ e ∈ d.ents, LetH H' t d e (decide (x.mode = "plain"))) → Q (.ref r) H'
theorem sc_Writer_tick_letters : FnScope ["self", "name", "road", "letter", "found"] ["self", "name", "road"] (defScope s_Writer_tick_letters) := ⟨rfl, rfl, rfl, by decide +kernel, rfl, by decide +kernel, by decide +kernel⟩
theorem ok_Writer_tick_letters (T : TX P w K mg base) : PR P w K mg base 4 (He.ma K (He.ga K "Writer") "tick_letters") ["self", "name", "road"] (sp_Writer_tick_letters K) := by
  have G_Way_first_letter := ok_Way_first_letter T
  have G_Writer_has_all_laid := ok_Writer_has_all_laid T
  refine T.prom d_Writer_tick_letters (List.mem_of_getElem? (i := 46) (by rfl)) ⟨rfl, rfl⟩ sc_Writer_tick_letters (fun vs H Q E h => ?_) (fun _ _ _ _ _ _ us hl => match us, hl with | [_, _, _], _ => rfl) (fun cdv A outer s H vs Q E hr h => ?_)
  · obtain ⟨_, _, rfl, _⟩ := h
    rfl
  · have hu := hu_of hr
    obtain ⟨x, d, rfl, hx, hb, hd, k⟩ := h
    refine ⟨_, (pss_cons (ps_set (i := 3) sc_Writer_tick_letters.nd rfl (by first | exact Or.inl rfl | exact Or.inr rfl) (pe_methKP0 (pe_fld (pv 2) rfl) T.cl_Way T.m_Way_first_letter G_Way_first_letter (hr.mono (by decide)) (pk_cons (pe_cmpR op_eq (pe_fld (pv 0) rfl) pe_str (nomark _)) pk_nil)))
      (pss_cons (ps_set (i := 4) sc_Writer_tick_letters.nd rfl (by first | exact Or.inl rfl | exact Or.inr rfl) (pe_ifExp (pt_cmpR op_isN (pv 3) pe_non (nomark _)) (pe_lst pa_nil) (pe_lst (pa_cons (pv 3) pa_nil))))
      (pss_cons (ps_if (pt_val (pe_fld (pv 0) rfl))
        (pss_one (ps_ret (pv 4)))
        pss_nil)
      (pss_cons (ps_if (pt_val (pe_methP0 (pv 0) T.cl_Writer T.m_Writer_has_all_laid G_Writer_has_all_laid (hr.mono (by decide))))
        (pss_one (ps_ret (pe_op op_cat (pv 4) (pe_lst (pa_cons (pe_tup (pa_cons pe_str (pa_cons (pv 1) (pa_cons (pe_callB call_len (by rfl) T.f_len (by decide +kernel) (pa_cons (pe_fld (pv 0) rfl) pa_nil)) pa_nil)))) pa_nil)))))
        pss_nil)
      (pss_one (ps_ret (pe_orT (pv 4) (pe_one (pe_lst (pa_cons (pe_tup (pa_cons pe_str (pa_cons (pv 1) pa_nil))) pa_nil)))))))))), ?_⟩
    obtain ⟨dx, ho⟩ := hx.o
    have hrd := hx.rd d hd
    obtain ⟨dy, hr2⟩ := hrd.r
    obtain ⟨dw, hwo⟩ := hrd.w.o
    have eb : decide (V.str x.mode = V.str "plain") = decide (x.mode = "plain") := by
      by_cases h : x.mode = "plain"
      · rw [decide_eq_true h]; exact decide_eq_true (by rw [h])
      · rw [decide_eq_false h]; exact decide_eq_false fun z => h (V.str.inj z)
    refine ⟨_, rfl, _, _, _, _, _, rfl, hr2, T.cl_Road, T.n_Road_own_way, lkRoad_own_way (d), _, _, _, rfl, hwo, noWay_first_letter d, _, rfl, _, _, _, _, _, rfl, ho, T.cl_Writer, T.n_Writer_own_mode, lkWriter_own_mode (x), rfl, rfl, rfl, d, decide (x.mode = "plain"), (by rw [← eb]; rfl), hrd.w, hb.ents d hd, fun H1 s1 => ?_, fun t e H1 s1 ht he hL => ?_⟩
    · have ho1 := s1 _ _ ho
      refine ⟨_, rfl, rfl, _, rfl, ift (by rfl) ⟨line5 (by decide), fun r hr => ?_⟩⟩
      have s2 := s1.trans (Same.upd (o := .lst []) hr)
      have ho2 := s2 _ _ ho
      refine ⟨_, rfl, _, _, _, _, _, rfl, ho2, T.cl_Writer, T.n_Writer_was_over, lkWriter_was_over (x), false, rfl, iteF ⟨_, rfl, _, _, _, rfl, ho2, noWriter_has_all_laid (x), x, rfl, hx.same s2, false, rfl, iteF ?_⟩⟩
      refine ⟨_, rfl, false, .inl ⟨[], SqL.of upd_same, rfl⟩, iffF (by rfl) ⟨_, rfl, line5 (by show 2 ≤ _; decide), fun t ht => ⟨line5 (by show 1 ≤ _; decide), fun r2 hr2 => ?_⟩⟩⟩
      have s3 := (s2.trans (Same.upd (o := .tup [.str "ask", tx d.name]) ht)).trans (Same.upd (o := .lst [.ref t]) hr2)
      exact k r2 t _ s3 ((s2.trans (Same.upd (o := .tup [.str "ask", tx d.name]) ht)).free hr2) upd_same (.inl (by rw [upd_ne (ne_of_none upd_same hr2)]; exact upd_same))
    · have ho1 := s1 _ _ ho
      refine ⟨_, rfl, rfl, _, rfl, iffF (by rfl) ⟨_, rfl, line5 (by show 1 ≤ _; decide), fun r hr => ?_⟩⟩
      have s2 := s1.trans (Same.upd (o := .lst [.ref t]) hr)
      have ho2 := s2 _ _ ho
      refine ⟨_, rfl, _, _, _, _, _, rfl, ho2, T.cl_Writer, T.n_Writer_was_over, lkWriter_was_over (x), false, rfl, iteF ⟨_, rfl, _, _, _, rfl, ho2, noWriter_has_all_laid (x), x, rfl, hx.same s2, false, rfl, iteF ?_⟩⟩
      refine ⟨_, rfl, true, .inl ⟨[.ref t], SqL.of upd_same, rfl⟩, ift (by rfl) (k r t _ s2 (s1.free hr) upd_same (.inr ⟨e, he, ?_⟩))⟩
      obtain ⟨u, g1, g2⟩ := hL
      exact ⟨u, Same.upd hr _ _ g1, Same.upd hr _ _ g2⟩
end

/-! ### Writer: look_at_still, tick -/
section
variable {P : Program} {w : World} {K : PySem.W.Frag} {mg : Str → Option Value} {base : Heap}
def sp_Writer_look_at_still (K : PySem.W.Frag) : Sp := fun vs H Q _ => ∃ x : Wr, vs = [.ref x.p] ∧ WrH K H x ∧ WrB x ∧
  ∀ (rs : List Rw) (la : Addr) (es : List Pc) (H' : Hp), WrH K H' { x with roads := rs, la := la, anew := es } → Fr (foot x) H H' → rs.map core = x.roads.map core → es.length ≤ 50000 → (x.mode ≠ "led" → es = x.anew) → Q .non H'
theorem sc_Writer_look_at_still : FnScope ["self", "still", "name", "unsure", "spare", "is_still"] ["self"] (defScope s_Writer_look_at_still) := ⟨rfl, rfl, rfl, by decide +kernel, rfl, by decide +kernel, by decide +kernel⟩
theorem ok_Writer_look_at_still (T : TX P w K mg base) : PR P w K mg base 4 (He.ma K (He.ga K "Writer") "look_at_still") ["self"] (sp_Writer_look_at_still K) := by
  have G_Writer_put_anew := ok_Writer_put_anew T
  have G_Writer_usable := ok_Writer_usable T
  refine T.prom d_Writer_look_at_still (List.mem_of_getElem? (i := 47) (by rfl)) ⟨rfl, rfl⟩ sc_Writer_look_at_still (fun vs H Q E h => ?_) (fun _ _ _ _ _ _ us hl => match us, hl with | [_], _ => rfl) (fun cdv A outer s H vs Q E hr h => ?_)
  · obtain ⟨_, rfl, _⟩ := h
    rfl
  · have hu := hu_of hr
    obtain ⟨x, rfl, hx, hb, k⟩ := h
    refine ⟨_, (pss_cons (ps_setLc (i := 1) (y := "still") (own := [("name", 2), ("unsure", 3), ("spare", 4), ("is_still", 5)]) (g := gTup K 2 (gCons (gName 2) (gCons (gTup K 3 (gCons (gName 3) (gCons (gName 4) (gCons (gName 5) (gNil))))) (gNil)))) rfl sc_Writer_look_at_still.nd rfl rfl (sw_true rfl rfl rfl (by decide +kernel)) (pi_items (pe_lockN (pe_methP0 (pv 0) T.cl_Writer T.m_Writer_usable G_Writer_usable (hr.mono (by decide))))) (blkOk_by (N := ["self", "still", "name", "unsure", "spare", "is_still"]) (sc := defScope s_Writer_look_at_still) (by decide +kernel)) (fun _ _ _ _ _ => (pg_tup rfl (pgs_cons (pg_name (i := 2) sc_Writer_look_at_still.nd rfl (by first | exact Or.inl rfl | exact Or.inr rfl)) (pgs_cons (pg_tup rfl (pgs_cons (pg_name (i := 3) sc_Writer_look_at_still.nd rfl (by first | exact Or.inl rfl | exact Or.inr rfl)) (pgs_cons (pg_name (i := 4) sc_Writer_look_at_still.nd rfl (by first | exact Or.inl rfl | exact Or.inr rfl)) (pgs_cons (pg_name (i := 5) sc_Writer_look_at_still.nd rfl (by first | exact Or.inl rfl | exact Or.inr rfl)) pgs_nil)))) pgs_nil)))) (fun _ _ _ _ _ => (pts_one (pt_val (pv 5)))) (fun _ _ _ _ _ => (pv 2)))
      (pss_cons (ps_if (PW.pt (pw_or (pt_cmpR op_ne (pe_fld (pv 0) rfl) pe_str (nomark _)) (pw_or1 (pt_cmpR op_eq (pe_callB call_len (by rfl) T.f_len (by decide +kernel) (pa_cons (pv 1) pa_nil)) (pe_callB call_lenD (by rfl) T.f_len (by decide +kernel) (pa_cons (pe_methP0 (pv 0) T.cl_Writer T.m_Writer_usable G_Writer_usable (hr.mono (by decide))) pa_nil)) (nomark _)))))
        (pss_one ps_retN)
        pss_nil)
      (pss_one (ps_for PassesOwn.never rfl (pi_list (pv 1)) (pg_name (i := 2) sc_Writer_look_at_still.nd rfl (by first | exact Or.inl rfl | exact Or.inr rfl))
        (pss_one (ps_if (pt_not (pt_val (pe_fld (pe_dget hu (pe_fld (pv 0) rfl) (pv 2) (fun _ _ => rfl)) rfl)))
          (pss_one (ps_expr (pe_methP (pv 0) T.cl_Writer T.m_Writer_put_anew G_Writer_put_anew (hr.mono (by decide)) (pa_cons (pe_dget hu (pe_fld (pv 0) rfl) (pv 2) (fun _ _ => rfl)) pa_nil))))
          pss_nil)))))), ?_⟩
    obtain ⟨dx, ho⟩ := hx.o
    refine ⟨_, rfl, _, _, _, rfl, ho, noWriter_usable (x), x, rfl, hx, hb, fun r us H1 s1 hr0 hr1 hus hut => ⟨r, _, rfl, hr1, trivial, fun od => ⟨r, od, usK us, rfl, upd_same, fun D hD => ?_⟩⟩⟩
    have hx1 := hx.same s1
    have hrf : r ∉ foot x := not_foot hx hr0
    have hnr : ∀ c ∈ [r], c ∉ x.la :: foot x := by
      intro c hc z
      rw [List.mem_singleton.mp hc] at z
      rcases List.mem_cons.mp z with z | z
      · rw [z, hx.la] at hr0; cases hr0
      · exact hrf z
    have fL : Fr [r] H1 (upd H1 r (.frz od (.dK (usK us)))) := Fr.putD (by simp) hr1
    have hL := hx1.fr fL hnr
    have hrL : (upd H1 r (.frz od (.dK (usK us)))) r = some (.frz od (.dK (usK us))) := upd_same
    have hutL : ∀ u ∈ us, (upd H1 r (.frz od (.dK (usK us)))) u.t = some (.tup [.int (u.d.laid - u.d.sure), .bl u.d.spare, .bl u.b]) := fun u hu => fL.tup (hut u hu)
    have fHL : Fr (foot x) H (upd H1 r (.frz od (.dK (usK us)))) := fun b o h e => fL b o (.inl fun z => by rw [List.mem_singleton.mp z, hr0] at e; cases e) (s1 b o e)
    generalize (upd H1 r (.frz od (.dK (usK us)))) = HL at fL hL hrL hutL fHL hD ⊢
    have hul : us.length < 64 := (UsOk.of hb hus hut).2.1
    refine lc_by (n := us.length) (fun i H2 => ∃ ns : List Str, Same HL H2 ∧ H2 D = some (.lst (ns.map V.str)) ∧ ns.length ≤ i ∧ ∀ n ∈ ns, ∃ d ∈ x.roads, S d.name = n) (fun i H2 h hi => ?_) (fun H2 h => ?_) ⟨[], Same.upd hD, upd_same, Nat.le_refl _, by intro n hn; cases hn⟩ ?_ ?_
    · obtain ⟨_, s, _⟩ := h
      exact ⟨s _ _ hrL, by unfold usK; rw [List.length_map]; exact hi⟩
    · obtain ⟨_, s, _⟩ := h
      exact ⟨s _ _ hrL, by unfold usK; rw [List.length_map]; exact Nat.le_refl _⟩
    · rintro i y H2 H3 hi ⟨ns, s2, hd2, hle, hns⟩ ⟨T2, ky, vy, ek, rfl, hT2, rfl⟩
      unfold usK at ek
      rw [List.getElem?_map, List.getElem?_eq_getElem hi] at ek
      obtain ⟨rfl, rfl⟩ := Prod.mk.inj (Option.some.inj ek)
      have hu : us[i] ∈ us := List.getElem_mem hi
      generalize us[i] = u at hu hT2 ⊢
      have s3 : Same HL (upd H2 T2 (.tup [kV (.inr (S u.d.name)), .ref u.t])) := s2.trans (Same.upd hT2)
      have hd3 : (upd H2 T2 (.tup [kV (.inr (S u.d.name)), .ref u.t])) D = some (.lst (ns.map V.str)) := by rw [upd_ne (ne_of_none hd2 hT2)]; exact hd2
      refine ⟨T2, _, rfl, SqT.of upd_same, rfl, _, _, rfl, _, _, rfl, u.t, _, rfl, SqT.of (s3 _ _ (hutL u hu)), rfl, _, _, rfl, _, _, rfl, _, _, rfl, rfl, rfl, rfl, ?_⟩
      refine ⟨_, rfl, u.b, rfl, ?_⟩
      cases u.b with
      | false => exact iffF (by rfl) ⟨ns, s3, hd3, by omega, hns⟩
      | true =>
        refine ift (by rfl) ⟨_, rfl, _, hd3, (by rw [List.length_map]; exact line5' (by omega)), ns ++ [S u.d.name], Same.updN s3 hD, (by rw [upd_same, List.map_append]; rfl), (by rw [List.length_append]; simp only [List.length_singleton]; omega), fun n hn => ?_⟩
        rcases List.mem_append.mp hn with hn | hn
        · exact hns n hn
        · exact ⟨u.d, (us_road hus u hu).1, (List.mem_singleton.mp hn).symm⟩
    · rintro H2 ⟨ns, s2, hd2, hle, hns⟩
      have hx2 := hL.same s2
      obtain ⟨dx2, ho2⟩ := hx2.o
      have f2 : Fr (foot x) H H2 := fHL.trans (Fr.of _ s2)
      have hDf : D ∉ foot x := not_foot hL hD
      refine ⟨_, rfl, _, _, _, _, _, rfl, ho2, T.cl_Writer, T.n_Writer_own_mode, lkWriter_own_mode (x), rfl, _, rfl, ?_⟩
      by_cases hled : x.mode = "led"
      · refine iffF (by show (!decide (V.str x.mode = V.str "led")) = false; rw [hled]; decide +kernel) ?_
        refine ⟨_, rfl, _, _, rfl, .inl ⟨_, SqL.of hd2, rfl⟩, _, rfl, _, _, _, rfl, ho2, noWriter_usable (x), x, rfl, hx2, hb, fun r3 us3 H3 s3 hr30 hr31 hus3 hut3 => ⟨r3, _, rfl, hr31, rfl, _, rfl, ?_⟩⟩
        have hx3 := hx2.same s3
        have f3 : Fr (foot x) H H3 := f2.trans (Fr.of _ s3)
        have hd3 := s3 _ _ hd2
        refine ite2 (fun _ => k x.roads x.la x.anew H3 hx3 f3 rfl hb.anew (fun _ => rfl)) (fun _ => ?_)
        refine ⟨_, rfl, D, rfl, ⟨_, SqL.of hd3⟩, for_by (n := ns.length) (fun i σ H4 => ∃ v2 v3 v4 v5 rs la es, σ = [some (.ref x.p), some (.ref D), v2, v3, v4, v5] ∧ WrH K H4 { x with roads := rs, la := la, anew := es } ∧ Fr (foot x) H3 H4 ∧ rs.map core = x.roads.map core ∧ es.length ≤ 50000) (fun i σ H4 h hi => ?_) (fun σ H4 h => ?_) ⟨_, _, _, _, x.roads, x.la, x.anew, rfl, hx3, Fr.refl _ _, rfl, hb.anew⟩ ?_ ?_⟩
        · obtain ⟨_, _, _, _, _, _, _, _, _, f, _⟩ := h
          exact ⟨_, _, SqL.of (f.at hDf hd3), List.getElem?_eq_getElem (by rw [List.length_map]; exact hi)⟩
        · obtain ⟨_, _, _, _, _, _, _, _, _, f, _⟩ := h
          exact ⟨_, SqL.of (f.at hDf hd3), by rw [List.length_map]; exact Nat.le_refl _⟩
        · rintro i y σ H4 H5 hi ⟨v2, v3, v4, v5, rs, la, es, rfl, hx4, f4, hc, hle4⟩ ⟨rfl, hy⟩
          have ey := hy _ (SqL.of (f4.at hDf hd3))
          rw [List.getElem?_map, List.getElem?_eq_getElem hi] at ey
          obtain rfl := Option.some.inj ey
          obtain ⟨d0, hd0, en⟩ := hns _ (List.getElem_mem hi)
          obtain ⟨d, hd, ec⟩ := core_mem hc.symm hd0
          have edn : d.name = d0.name := (core_eq ec.symm).1
          rw [← en, ← edn]
          have hb4 := hb.core (la := la) (es := es) hc hle4
          obtain ⟨dx4, ho4⟩ := hx4.o
          obtain ⟨dy4, hr4⟩ := (hx4.rd d hd).r
          have dg : DGet H5 x.dr (.str (S d.name)) (some (.ref d.r)) := .inl ⟨_, .inr (S d.name), .inl hx4.dr, rfl, (rdK_some hb4.nd hd).symm⟩
          refine ⟨_, rfl, _, _, _, _, _, rfl, ho4, T.cl_Writer, T.n_Writer_own_roads, lkWriter_own_roads ({ x with roads := rs, la := la, anew := es }), _, rfl, x.dr, _, rfl, dg, _, _, _, _, _, rfl, hr4, T.cl_Road, T.n_Road_was_put, lkRoad_was_put d, d.put, rfl, ?_⟩
          cases d.put with
          | true => exact iffF (by rfl) ⟨_, _, _, _, rs, la, es, rfl, hx4, f4, hc, hle4⟩
          | false =>
            obtain ⟨a, b, hab⟩ := List.append_of_mem hd
            refine ift (by rfl) ⟨_, rfl, _, _, _, rfl, ho4, noWriter_put_anew ({ x with roads := rs, la := la, anew := es }), _, rfl, _, _, _, _, _, rfl, ho4, T.cl_Writer, T.n_Writer_own_roads, lkWriter_own_roads ({ x with roads := rs, la := la, anew := es }), _, rfl, x.dr, _, rfl, dg, { x with roads := rs, la := la, anew := es }, a, b, d, rfl, hx4, hb4, hab, fun la5 es5 H6 hx6 f6 hle6 hla6 => ?_⟩
            rw [foot_core hc] at f6
            have hc6 : (a ++ { d with put := true } :: b).map core = x.roads.map core := by
              rw [← hc, show rs = a ++ d :: b from hab]
              exact core_mid rfl
            exact ⟨_, _, _, _, _, la5, es5, rfl, hx6, f4.trans f6, hc6, hle6⟩
        · rintro σ H4 ⟨v2, v3, v4, v5, rs, la, es, rfl, hx4, f4, hc, hle4⟩
          exact k rs la es H4 hx4 (f3.trans f4) hc hle4 (fun h => absurd hled h)
      · refine ift (by show (!decide (V.str x.mode = V.str "led")) = true; rw [decide_eq_false (fun z => hled (V.str.inj z))]; rfl) ?_
        exact ift (by rfl) (k x.roads x.la x.anew H2 hx2 f2 rfl hb.anew (fun _ => rfl))
/-- a letter that a tick tells -/
def TLet (H : Hp) (x : Wr) (t : Addr) : Prop := (∃ d ∈ x.roads, H t = some (.tup [.str "join", tx d.name, .int d.base])) ∨ (∃ d ∈ x.roads, H t = some (.tup [.str "ask", tx d.name])) ∨ ∃ d ∈ x.roads, d.st = "up" ∧ ∃ e ∈ d.ents, LetH H t d e (decide (x.mode = "plain"))
theorem LetH.fr {F : List Addr} {H H' : Hp} {t : Addr} {d : Rw} {e : Ent} {b : Bool} (h : LetH H t d e b) (f : Fr F H H') : LetH H' t d e b := by
  obtain ⟨u, g1, g2⟩ := h
  exact ⟨u, f.tup g1, f.tup g2⟩
theorem TLet.fr {F : List Addr} {H H' : Hp} {x : Wr} {t : Addr} (h : TLet H x t) (f : Fr F H H') : TLet H' x t := by
  rcases h with ⟨d, hd, e⟩ | ⟨d, hd, e⟩ | ⟨d, hd, hu, e, he, hL⟩
  · exact .inl ⟨d, hd, f.tup e⟩
  · exact .inr (.inl ⟨d, hd, f.tup e⟩)
  · exact .inr (.inr ⟨d, hd, hu, e, he, hL.fr f⟩)
def sp_Writer_tick (K : PySem.W.Frag) : Sp := fun vs H Q _ => ∃ x : Wr, vs = [.ref x.p] ∧ WrH K H x ∧ WrB x ∧
  ∀ (rs : List Rw) (la : Addr) (es : List Pc) (r : Addr) (ts : List Addr) (H' : Hp), WrH K H' { x with roads := rs, la := la, anew := es } → Fr (foot x) H H' → rs.map core = x.roads.map core → es.length ≤ 50000 → (x.mode ≠ "led" → es = x.anew) →
    H r = none → H' r = some (.lst (ts.map V.ref)) → (∀ t ∈ ts, TLet H' { x with roads := rs, la := la, anew := es } t) → ts.length ≤ x.roads.length → Q (.ref r) H'
theorem sc_Writer_tick : FnScope ["self", "road", "found", "name"] ["self"] (defScope s_Writer_tick) := ⟨rfl, rfl, rfl, by decide +kernel, rfl, by decide +kernel, by decide +kernel⟩
theorem ok_Writer_tick (T : TX P w K mg base) : PR P w K mg base 5 (He.ma K (He.ga K "Writer") "tick") ["self"] (sp_Writer_tick K) := by
  have G_Way_base := ok_Way_base T
  have G_Way_tick := ok_Way_tick T
  have G_Writer_look_at_still := ok_Writer_look_at_still T
  have G_Writer_tick_letters := ok_Writer_tick_letters T
  refine T.prom d_Writer_tick (List.mem_of_getElem? (i := 48) (by rfl)) ⟨rfl, rfl⟩ sc_Writer_tick (fun vs H Q E h => ?_) (fun _ _ _ _ _ _ us hl => match us, hl with | [_], _ => rfl) (fun cdv A outer s H vs Q E hr h => ?_)
  · obtain ⟨_, rfl, _⟩ := h
    rfl
  · have hu := hu_of hr
    obtain ⟨x, rfl, hx, hb, k⟩ := h
    refine ⟨_, (pss_cons (ps_lock (ps_for PassesOwn.never rfl (pi_values (pe_fld (pv 0) rfl)) (pg_name (i := 1) sc_Writer_tick.nd rfl (by first | exact Or.inl rfl | exact Or.inr rfl))
        (pss_one (ps_expr (pe_methP0 (pe_fld (pv 1) rfl) T.cl_Way T.m_Way_tick G_Way_tick (hr.mono (by decide)))))))
      (pss_cons (ps_expr (pe_methP0 (pv 0) T.cl_Writer T.m_Writer_look_at_still G_Writer_look_at_still (hr.mono (by decide))))
      (pss_cons (ps_set (i := 2) sc_Writer_tick.nd rfl (by first | exact Or.inl rfl | exact Or.inr rfl) (pe_lst pa_nil))
      (pss_cons (ps_for PassesOwn.never rfl (pi_list (pe_callB (call_sortedD rfl) (by rfl) T.f_sorted (by decide +kernel) (pa_cons (pe_fld (pv 0) rfl) pa_nil))) (pg_name (i := 3) sc_Writer_tick.nd rfl (by first | exact Or.inl rfl | exact Or.inr rfl))
        (pss_cons (ps_set (i := 1) sc_Writer_tick.nd rfl (by first | exact Or.inl rfl | exact Or.inr rfl) (pe_dget hu (pe_fld (pv 0) rfl) (pv 3) (fun _ _ => rfl)))
        (pss_one (ps_if (pt_cmpR op_eq (pe_fld (pv 1) rfl) pe_str (nomark _))
          (pss_one (ps_expr (pe_bm PySem.F.plainAttrs_list PySem.F.slot_list_append PySem.F.type_list_append mt_append (pv 2) (pa_cons (pe_tup (pa_cons pe_str (pa_cons (pv 3) (pa_cons (pe_methP0 (pe_fld (pv 1) rfl) T.cl_Way T.m_Way_base G_Way_base (hr.mono (by decide))) pa_nil)))) pa_nil))))
          (pss_one (ps_if (pt_cmpR op_eq (pe_fld (pv 1) rfl) pe_str (nomark _))
            (pss_one (ps_expr (pe_bm PySem.F.plainAttrs_list PySem.F.slot_list_extend PySem.F.type_list_extend mt_extend (pv 2) (pa_cons (pe_methP (pv 0) T.cl_Writer T.m_Writer_tick_letters G_Writer_tick_letters (hr.mono (by decide)) (pa_cons (pv 3) (pa_cons (pv 1) pa_nil))) pa_nil))))
            pss_nil))))))
      (pss_one (ps_ret (pv 2))))))), ?_⟩
    obtain ⟨dx, ho⟩ := hx.o
    refine ⟨x.dr, _, hx.dr, trivial, fun od => ?_⟩
    have nb := nd_base hx.nd
    have fL : Fr [x.dr] H (upd H x.dr (.frz od (.dK (rdK x.roads)))) := Fr.putD (by simp) hx.dr
    have hL := hx.toWrR.lock fL
    have hdL : (upd H x.dr (.frz od (.dK (rdK x.roads)))) x.dr = some (.frz od (.dK (rdK x.roads))) := upd_same
    generalize (upd H x.dr (.frz od (.dK (rdK x.roads)))) = HL at fL hL hdL ⊢
    obtain ⟨dxL, hoL⟩ := hL.o
    have hdrf : x.dr ∉ x.roads.flatMap rf := fun z => by
      obtain ⟨d, hd, hc⟩ := List.mem_flatMap.mp z
      exact (nb.2.2.2 d hd _ hc).2.2 rfl
    have c1 : ∀ c ∈ x.roads.flatMap rf, c ∈ foot x := fun c hc => List.mem_cons_of_mem _ (List.mem_cons_of_mem _ hc)
    refine ⟨_, rfl, _, _, _, _, _, rfl, hoL, T.cl_Writer, T.n_Writer_own_roads, lkWriter_own_roads (x), x.dr, od, rdK x.roads, rfl, hdL, for_by (n := x.roads.length) (fun i σ H2 => ∃ v1 rs, σ = [some (.ref x.p), v1, none, none] ∧ WrR K H2 { x with roads := rs } ∧ Fr (x.roads.flatMap rf) HL H2 ∧ rs.map core = x.roads.map core) (fun i σ H2 h hi => ?_) (fun σ H2 h => ?_) ⟨none, x.roads, rfl, hL, Fr.refl _ _, rfl⟩ ?_ ?_⟩
    · obtain ⟨_, _, _, _, f, _⟩ := h
      exact ⟨f.at hdrf hdL, by unfold rdK; rw [List.length_map]; exact hi⟩
    · obtain ⟨_, _, _, _, f, _⟩ := h
      exact ⟨f.at hdrf hdL, by unfold rdK; rw [List.length_map]; exact Nat.le_refl _⟩
    · rintro i y σ H2 H3 hi ⟨v1, rs, rfl, hx2, f2, hc⟩ ⟨rfl, ky, ek⟩
      rw [← core_rdK hc] at ek
      have hi2 : i < rs.length := by rw [core_len hc]; exact hi
      unfold rdK at ek
      rw [List.getElem?_map, List.getElem?_eq_getElem hi2] at ek
      obtain ⟨rfl, rfl⟩ := Prod.mk.inj (Option.some.inj ek)
      have hsp := split_at hi2
      have hd : rs[i] ∈ rs := List.getElem_mem hi2
      generalize rs.take i = a at hsp
      generalize rs.drop (i + 1) = b at hsp
      generalize rs[i] = d at hsp hd ⊢
      have hrd := hx2.rd d hd
      obtain ⟨dy, hr2⟩ := hrd.r
      obtain ⟨dw, hwo⟩ := hrd.w.o
      refine ⟨_, rfl, _, _, _, _, _, rfl, hr2, T.cl_Road, T.n_Road_own_way, lkRoad_own_way d, _, _, _, rfl, hwo, noWay_tick d, d, rfl, hrd.w, fun ag H4 hw4 f4 => ?_⟩
      have ndr := (nd_split hx2.nd hsp).2.2
      have hd4 : RdH K H4 { d with age := ag } := ⟨hw4, ⟨dy, f4.at (fun z => (List.nodup_cons.mp ndr).1 (by rw [List.mem_singleton.mp z]; simp)) hr2⟩⟩
      have hx4 := hx2.road (d' := { d with age := ag }) hsp f4 (by simp [rf]) hd4 rfl
      refine ⟨_, _, rfl, hx4, f2.trans (f4.mono fun c hc2 => ?_), ?_⟩
      · rw [List.mem_singleton.mp hc2, ← core_rf hc]
        exact List.mem_flatMap.mpr ⟨d, hd, by simp [rf]⟩
      · rw [← hc, hsp]
        exact core_mid rfl
    · rintro σ H2 ⟨v1, rs, rfl, hx2, f2, hc⟩
      have hd2 := f2.at hdrf hdL
      have fU : Fr [x.dr] H2 (upd H2 x.dr (.dK (rdK x.roads))) := Fr.put (by simp) hd2 id
      have hx3 : WrH K (upd H2 x.dr (.dK (rdK x.roads))) { x with roads := rs } := ⟨hx2.lock fU, by rw [core_rdK hc]; exact upd_same⟩
      have f3 : Fr (foot x) H (upd H2 x.dr (.dK (rdK x.roads))) := by
        have c2 : ∀ c ∈ [x.dr], c ∈ foot x := by simp [foot]
        exact ((fL.mono c2).trans (f2.mono c1)).trans (fU.mono c2)
      refine ⟨hd2, ?_⟩
      have gH : ∃ H3, H3 = (upd H2 x.dr (.dK (rdK x.roads))) := ⟨_, rfl⟩
      obtain ⟨H3, eH3⟩ := gH
      rw [← eH3] at hx3 f3
      have hb3 := hb.core (la := x.la) (es := x.anew) hc hb.anew
      obtain ⟨dx3, ho3⟩ := hx3.o
      have ho3' := ho3
      rw [eH3] at ho3'
      have hx3' := hx3
      rw [eH3] at hx3'
      refine ⟨_, rfl, _, _, _, rfl, ho3', noWriter_look_at_still ({ x with roads := rs }), { x with roads := rs }, rfl, hx3', hb3, fun rs2 la es H4 hx4 f4 hc4 hle4 hes4 => ?_⟩
      have hfc : foot { x with roads := rs } = foot x := foot_core (la := x.la) (es := x.anew) hc
      rw [hfc] at f4
      have hcc : rs2.map core = x.roads.map core := hc4.trans hc
      rw [← eH3] at f4
      have f4' : Fr (foot x) H H4 := f3.trans f4
      have hb4 := hb.core (la := la) (es := es) hcc hle4
      have hf4 : foot { x with roads := rs2, la := la, anew := es } = foot x := foot_core hcc
      refine ⟨line5 (by decide), fun fo hfo => ?_⟩
      have hfo0 : H fo = none := f4'.free (fun z => not_foot hx4 hfo (by rw [hf4]; exact z)) hfo
      have s5 : Same H4 (upd H4 fo (.lst [])) := Same.upd hfo
      have hx5 := hx4.same s5
      have hfo5 : (upd H4 fo (.lst [])) fo = some (.lst []) := upd_same
      generalize (upd H4 fo (.lst [])) = H5 at s5 hx5 hfo5 ⊢
      obtain ⟨dx5, ho5⟩ := hx5.o
      refine ⟨_, rfl, _, _, _, _, _, rfl, ho5, T.cl_Writer, T.n_Writer_own_roads, lkWriter_own_roads ({ x with roads := rs2, la := la, anew := es }), x.dr, rdK rs2, rs2.map fun d => S d.name, rfl, .inl hx5.dr, rdK_keys rs2, (by rw [List.length_map]; exact hb4.few), fun ys p hperm hsort hp => ?_⟩
      have hyl : ys.length = x.roads.length := by rw [hperm.length_eq, List.length_map, core_len hcc]
      have hys : ∀ n ∈ ys, ∃ d ∈ rs2, S d.name = n := fun n hn => by
        obtain ⟨d, hd, e⟩ := List.mem_map.mp (hperm.mem_iff.mp hn)
        exact ⟨d, hd, e⟩
      have s6 : Same H5 (upd H5 p (.lst (ys.map V.str))) := Same.upd hp
      have hp6 : (upd H5 p (.lst (ys.map V.str))) p = some (.lst (ys.map V.str)) := upd_same
      have hfo6 := s6 _ _ hfo5
      have hpf : p ≠ fo := (ne_of_none hfo5 hp).symm
      generalize (upd H5 p (.lst (ys.map V.str))) = H6 at s6 hp6 hfo6 ⊢
      refine ⟨p, rfl, ⟨_, SqL.of hp6⟩, for_by (n := ys.length) (fun i σ H7 => ∃ v1 v3 ts, σ = [some (.ref x.p), v1, some (.ref fo), v3] ∧ Fr [fo] H6 H7 ∧ H7 fo = some (.lst (ts.map V.ref)) ∧ ts.length ≤ i ∧ ∀ t ∈ ts, TLet H7 { x with roads := rs2, la := la, anew := es } t) (fun i σ H7 h hi => ?_) (fun σ H7 h => ?_) ⟨_, _, [], rfl, Fr.refl _ _, hfo6, Nat.le_refl _, by intro t ht; cases ht⟩ ?_ ?_⟩
      · obtain ⟨_, _, _, _, f, _⟩ := h
        exact ⟨_, _, SqL.of (f.at (by simpa using hpf) hp6), List.getElem?_eq_getElem (by rw [List.length_map]; exact hi)⟩
      · obtain ⟨_, _, _, _, f, _⟩ := h
        exact ⟨_, SqL.of (f.at (by simpa using hpf) hp6), by rw [List.length_map]; exact Nat.le_refl _⟩
      · rintro i y σ H7 H8 hi ⟨v1, v3, ts, rfl, f7, hfo7, hle7, hts⟩ ⟨rfl, hy⟩
        have ey := hy _ (SqL.of (f7.at (by simpa using hpf) hp6))
        rw [List.getElem?_map, List.getElem?_eq_getElem hi] at ey
        obtain rfl := Option.some.inj ey
        obtain ⟨d, hd, en⟩ := hys _ (List.getElem_mem hi)
        rw [← en]
        have hfoN : ∀ c ∈ [fo], c ∉ la :: foot { x with roads := rs2, la := la, anew := es } := by
          intro c hc2 z
          rw [List.mem_singleton.mp hc2] at z
          rcases List.mem_cons.mp z with z | z
          · have := hx4.la
            rw [show ({ x with roads := rs2, la := la, anew := es } : Wr).la = la from rfl, ← z, hfo] at this
            cases this
          · exact not_foot hx4 hfo z
        have hx7 := (hx5.same s6).fr f7 hfoN
        obtain ⟨dx7, ho7⟩ := hx7.o
        obtain ⟨dy7, hr7⟩ := (hx7.rd d hd).r
        obtain ⟨dw7, hwo7⟩ := (hx7.rd d hd).w.o
        have dg : DGet H8 x.dr (.str (S d.name)) (some (.ref d.r)) := .inl ⟨_, .inr (S d.name), .inl hx7.dr, rfl, (rdK_some hb4.nd hd).symm⟩
        refine ⟨_, rfl, _, _, _, _, _, rfl, ho7, T.cl_Writer, T.n_Writer_own_roads, lkWriter_own_roads ({ x with roads := rs2, la := la, anew := es }), _, rfl, x.dr, _, rfl, dg, ?_⟩
        refine ⟨_, rfl, _, _, _, _, _, rfl, hr7, T.cl_Road, T.n_Road_own_state, lkRoad_own_state (d), rfl, _, rfl, ?_⟩
        have few := hb.few
        by_cases ha : d.st = "asked"
        · refine ift (decide_eq_true (by rw [ha])) ⟨_, rfl, .inl ⟨rfl, _, SqL.of hfo7⟩, _, rfl, _, rfl, _, _, _, _, _, rfl, hr7, T.cl_Road, T.n_Road_own_way, lkRoad_own_way (d), _, _, _, rfl, hwo7, noWay_base d, d, rfl, (hx7.rd d hd).w, line5 (by show 3 ≤ _; decide), fun t ht => ?_⟩
          have hfo8 : (upd H8 t (.tup [.str "join", tx d.name, .int d.base])) fo = some (.lst (ts.map V.ref)) := by rw [upd_ne (ne_of_none hfo7 ht)]; exact hfo7
          refine ⟨fo, _, _, rfl, rfl, hfo8, (by rw [List.length_map]; exact line5' (by omega)), ?_⟩
          have f8 : Fr [fo] H8 (upd (upd H8 t (.tup [.str "join", tx d.name, .int d.base])) fo (.lst (ts.map V.ref ++ [.ref t]))) := (Fr.of _ (Same.upd ht)).trans (Fr.putL (by simp) hfo8)
          refine ⟨_, _, ts ++ [t], rfl, f7.trans f8, (by rw [upd_same, List.map_append]; rfl), (by rw [List.length_append]; simp only [List.length_singleton]; omega), fun t2 ht2 => ?_⟩
          rcases List.mem_append.mp ht2 with ht2 | ht2
          · exact (hts t2 ht2).fr f8
          · rw [List.mem_singleton.mp ht2]
            exact .inl ⟨d, hd, by rw [upd_ne (ne_of upd_same hfo8 (fun z => nomatch z)), upd_same]⟩
        · refine iffF (decide_eq_false fun z => ha (V.str.inj z)) ⟨_, rfl, _, _, _, _, _, rfl, hr7, T.cl_Road, T.n_Road_own_state, lkRoad_own_state (d), rfl, _, rfl, ?_⟩
          by_cases hu : d.st = "up"
          · refine ift (decide_eq_true (by rw [hu])) ⟨_, rfl, .inl ⟨rfl, _, SqL.of hfo7⟩, _, rfl, _, _, _, rfl, ho7, noWriter_tick_letters ({ x with roads := rs2, la := la, anew := es }), _, rfl, _, rfl, { x with roads := rs2, la := la, anew := es }, d, rfl, hx7, hb4, hd, fun r2 t H9 s9 hr20 hr29 hT9 => ?_⟩
            have hfo9 := s9 _ _ hfo7
            refine ⟨fo, r2, _, _, rfl, rfl, hfo9, hr29, (by rw [List.length_map]; exact line5 (by show ts.length + 1 ≤ _; omega)), ?_⟩
            have f9 : Fr [fo] H8 (upd H9 fo (.lst (ts.map V.ref ++ [.ref t]))) := (Fr.of _ s9).trans (Fr.putL (by simp) hfo9)
            have f10 : Fr [fo] H9 (upd H9 fo (.lst (ts.map V.ref ++ [.ref t]))) := Fr.putL (by simp) hfo9
            refine ⟨_, _, ts ++ [t], rfl, f7.trans f9, (by rw [upd_same, List.map_append]; rfl), (by rw [List.length_append]; simp only [List.length_singleton]; omega), fun t2 ht2 => ?_⟩
            rcases List.mem_append.mp ht2 with ht2 | ht2
            · exact (hts t2 ht2).fr f9
            · rw [List.mem_singleton.mp ht2]
              rcases hT9 with e | ⟨e, he, hLt⟩
              · exact .inr (.inl ⟨d, hd, f10.tup e⟩)
              · exact .inr (.inr ⟨d, hd, hu, e, he, hLt.fr f10⟩)
          · exact iffF (decide_eq_false fun z => hu (V.str.inj z)) ⟨_, _, ts, rfl, f7, hfo7, by omega, hts⟩
      · rintro σ H7 ⟨v1, v3, ts, rfl, f7, hfo7, hle7, hts⟩
        have hfoN : ∀ c ∈ [fo], c ∉ la :: foot { x with roads := rs2, la := la, anew := es } := by
          intro c hc2 z
          rw [List.mem_singleton.mp hc2] at z
          rcases List.mem_cons.mp z with z | z
          · have := hx4.la
            rw [show ({ x with roads := rs2, la := la, anew := es } : Wr).la = la from rfl, ← z, hfo] at this
            cases this
          · exact not_foot hx4 hfo z
        refine ⟨_, rfl, k rs2 la es fo ts H7 ((hx5.same s6).fr f7 hfoN) (fun b o h e => ?_) hcc hle4 hes4 hfo0 hfo7 hts (by omega)⟩
        refine f7 b o (.inl fun z => ?_) (s6 b o (s5 b o (f4' b o h e)))
        rw [List.mem_singleton.mp z, hfo0] at e
        cases e
end

/-! ### what holds of the writer between two deeds -/
def nm (l : List Nat) : Prop := l = [109] ∨ l = [97] ∨ l = [122]
theorem nm.ok {l : List Nat} (h : nm l) : Lets l ∧ 1 ≤ l.length ∧ l.length ≤ 8 := by
  rcases h with rfl | rfl | rfl
  all_goals
    refine ⟨fun c hc => ?_, by decide, by decide⟩
    rw [List.mem_singleton.mp hc]
    decide
def nmI (l : List Nat) : Nat := if l = [109] then 0 else if l = [97] then 1 else 2
theorem nm_len {l : List (List Nat)} (nd : l.Nodup) (h : ∀ x ∈ l, nm x) : l.length ≤ 3 := by
  have h1 : (l.map nmI).Nodup := List.pairwise_map.mpr (List.Pairwise.imp_of_mem (fun {a b} ha hb hab z => by
    rcases h a ha with rfl | rfl | rfl <;> rcases h b hb with rfl | rfl | rfl <;> first | exact hab rfl | (revert z; decide)) nd)
  have h2 := nd_len 3 (l.map nmI) h1 fun x hx => by
    obtain ⟨y, _, rfl⟩ := List.mem_map.mp hx
    unfold nmI
    split
    · decide
    · split <;> decide
  rw [List.length_map] at h2
  exact h2
structure WI (n : Nat) (x : Wr) : Prop where
  rule : x.rule = "first" ∨ x.rule = "few" ∨ x.rule = "turns"
  W : x.W.length ≤ 24 * n
  lets : Lets x.W
  known : 0 ≤ x.known
  mode : Mode x.mode
  first : x.first = some [109]
  names : ∀ d ∈ x.roads, nm d.name
  nd : (x.roads.map (·.name)).Nodup
  anew : x.anew.length ≤ 50000
  sole : x.mode ≠ "led" → ∀ d ∈ x.roads, d.name = [109]
  anew0 : x.mode = "none" → x.anew = []
  anew1 : x.mode ≠ "led" → ∀ d ∈ x.roads, d.st ≠ "gone" → x.anew = []
  straight : x.mode ≠ "led" → ∀ d ∈ x.roads, (∀ e ∈ d.ents, e.own = e.first) ∧ (d.st ≠ "gone" → x.next = d.txt.length)
  ents : ∀ d ∈ x.roads, d.ents.length ≤ n ∧ d.txt.length ≤ 8 * n
  en : ∀ d ∈ x.roads, ∀ e ∈ d.ents, Sub x.W e.first e.l ∧ Sub d.txt e.own e.l ∧ e.l.length ≤ 8 ∧ ((e.first : Int) + (e.l.length : Nat) ≤ x.limit)
  win : ∀ d ∈ x.roads, 0 ≤ d.sure ∧ d.sure ≤ d.laid ∧ d.laid ≤ d.sure + 24
theorem WI.few {n : Nat} {x : Wr} (h : WI n x) : x.roads.length ≤ 3 := by
  have := nm_len h.nd fun y hy => by
    obtain ⟨d, hd, rfl⟩ := List.mem_map.mp hy
    exact h.names d hd
  rw [List.length_map] at this
  exact this
theorem WI.b {n : Nat} {x : Wr} (h : WI n x) (hn : n ≤ 1000) : WrB x := by
  refine ⟨by have := h.W; omega, h.lets, fun d hd => by have := (h.ents d hd).1; omega, fun d hd => (h.names d hd).ok, h.nd, h.anew, by have := h.few; omega, fun d hd e he => (h.en d hd e he).1⟩
theorem WI.sole1 {n : Nat} {x : Wr} (h : WI n x) : x.mode = "none" → ∀ d ∈ x.roads, x.first = some d.name := fun hm d hd => by
  rw [h.first, h.sole (by rw [hm]; decide +kernel) d hd]
theorem WI.up {n m : Nat} {x : Wr} (h : WI n x) (hn : n ≤ m) : WI m x :=
  ⟨h.rule, by have := h.W; omega, h.lets, h.known, h.mode, h.first, h.names, h.nd, h.anew, h.sole, h.anew0, h.anew1, h.straight, fun d hd => by have := h.ents d hd; omega, h.en, h.win⟩
/-! each deed -/
theorem WI.write {n : Nat} {x : Wr} (h : WI n x) {l : List Nat} (hL : Lets l) (hl : l.length ≤ 24) : WI (n + 1) { x with W := x.W ++ l } :=
  ⟨h.rule, by show (x.W ++ l).length ≤ _; rw [List.length_append]; have := h.W; omega, h.lets.app hL, h.known, h.mode, h.first, h.names, h.nd, h.anew, h.sole, h.anew0, h.anew1, h.straight, fun d hd => by have := h.ents d hd; omega,
    fun d hd e he => ⟨(h.en d hd e he).1.app l, (h.en d hd e he).2⟩, h.win⟩
/-- one road changed, the rest stays -/
theorem mid_mem {a b : List Rw} {d d' d2 : Rw} (h : d2 ∈ a ++ d' :: b) : d2 = d' ∨ d2 ∈ a ++ d :: b := by
  rcases List.mem_append.mp h with h | h
  · exact .inr (by simp [h])
  · rcases List.mem_cons.mp h with h | h
    · exact .inl h
    · exact .inr (by simp [h])
theorem nd_mid {a b : List Rw} {d d' : Rw} (e : d'.name = d.name) (h : ((a ++ d :: b).map (·.name)).Nodup) : ((a ++ d' :: b).map (·.name)).Nodup := by
  rw [List.map_append, List.map_cons] at h ⊢
  rw [e]
  exact h
theorem Sub.right {W : List Nat} (l : List Nat) : Sub (W ++ l) W.length l := by
  refine ⟨by rw [List.length_append]; exact Nat.le_refl _, ?_⟩
  rw [List.drop_append_of_le_length (Nat.le_refl _), List.drop_length, List.nil_append, List.take_length]
theorem WI.send {n : Nat} {x : Wr} (h : WI n x) {a b : List Rw} {d : Rw} {lt q la : Addr} {f : Nat} {l : List Nat} {es : List Pc} {nx : Nat} (hab : x.roads = a ++ d :: b) (hup : d.st = "up") (h8 : l.length ≤ 8) (hlim : (f : Int) + (l.length : Nat) ≤ x.limit)
    (hs : Sub x.W f l) (hw : ((l.length : Nat) : Int) ≤ 24 - (d.laid - d.sure)) (hc : (x.anew ≠ [] ∧ es.length ≤ x.anew.length ∧ nx = x.next) ∨ (x.anew = [] ∧ es = [] ∧ f = x.next ∧ nx = x.next + l.length)) :
    WI (n + 1) { x with roads := a ++ layD d lt q f l :: b, last := some d.name, la := la, anew := es, next := nx } := by
  have hd : d ∈ x.roads := by rw [hab]; simp
  have hng : d.st ≠ "gone" := by rw [hup]; decide +kernel
  have hm : ∀ d2 ∈ a ++ layD d lt q f l :: b, d2 = layD d lt q f l ∨ d2 ∈ x.roads := fun d2 h2 => by rw [hab]; exact mid_mem h2
  have hel : es.length ≤ x.anew.length := by rcases hc with ⟨_, z, _⟩ | ⟨_, rfl, _⟩; exact z; exact Nat.zero_le _
  have hlaid : (layD d lt q f l).laid = d.laid + (l.length : Nat) := by unfold Rw.laid layD; rw [List.length_append]; omega
  refine ⟨h.rule, by have := h.W; show x.W.length ≤ _; omega, h.lets, h.known, h.mode, h.first, fun d2 h2 => ?_, ?_, by show es.length ≤ _; have := h.anew; omega, fun hl d2 h2 => ?_, fun h0 => ?_, fun hl d2 h2 hg => ?_, fun hl d2 h2 => ?_, fun d2 h2 => ?_, fun d2 h2 e he => ?_, fun d2 h2 => ?_⟩
  · rcases hm d2 h2 with rfl | h3
    · exact h.names d hd
    · exact h.names d2 h3
  · exact nd_mid (d := d) (d' := layD d lt q f l) rfl (by rw [← hab]; exact h.nd)
  · rcases hm d2 h2 with rfl | h3
    · exact h.sole hl d hd
    · exact h.sole hl d2 h3
  · have := h.anew0 h0
    rw [this] at hel
    exact List.length_eq_zero_iff.mp (Nat.le_zero.mp hel)
  · have := h.anew1 hl d hd hng
    rw [this] at hel
    exact List.length_eq_zero_iff.mp (Nat.le_zero.mp hel)
  · have han := h.anew1 hl d hd hng
    have h1 := h.straight hl d hd
    have hnx : f = x.next ∧ nx = x.next + l.length := by
      rcases hc with ⟨z, _⟩ | ⟨_, _, z⟩
      · exact absurd han z
      · exact z
    have only : ∀ d2, d2 ∈ a ∨ d2 ∈ b → False := by
      intro d2 h2
      have e1 := h.sole hl d2 (by rw [hab]; rcases h2 with h2 | h2 <;> simp [h2])
      have e2 := h.sole hl d hd
      have nd := h.nd
      rw [hab, List.map_append, List.map_cons] at nd
      obtain ⟨_, nd2, nd3⟩ := List.nodup_append.mp nd
      rcases h2 with h2 | h2
      · exact absurd (e1.trans e2.symm) (nd3 _ (List.mem_map.mpr ⟨d2, h2, rfl⟩) _ List.mem_cons_self)
      · exact absurd (List.mem_map.mpr ⟨d2, h2, e1.trans e2.symm⟩) (List.nodup_cons.mp nd2).1
    have h3 : d2 = layD d lt q f l := by
      rcases List.mem_append.mp h2 with h2 | h2
      · exact (only d2 (.inl h2)).elim
      · rcases List.mem_cons.mp h2 with h2 | h2
        · exact h2
        · exact (only d2 (.inr h2)).elim
    subst h3
    · refine ⟨fun e he => ?_, fun _ => ?_⟩
      · rcases List.mem_append.mp (show e ∈ d.ents ++ [_] from he) with he | he
        · exact h1.1 e he
        · rw [List.mem_singleton.mp he]
          show d.txt.length = f
          rw [hnx.1, h1.2 hng]
      · show nx = (d.txt ++ l).length
        rw [List.length_append, hnx.2, h1.2 hng]
  · rcases hm d2 h2 with rfl | h3
    · have := h.ents d hd
      refine ⟨?_, ?_⟩
      · show (d.ents ++ [_]).length ≤ _
        rw [List.length_append]
        simp only [List.length_singleton]
        omega
      · show (d.txt ++ l).length ≤ _
        rw [List.length_append]
        omega
    · have := h.ents d2 h3
      omega
  · rcases hm d2 h2 with rfl | h3
    · rcases List.mem_append.mp (show e ∈ d.ents ++ [_] from he) with he | he
      · obtain ⟨g1, g2, g3⟩ := h.en d hd e he
        exact ⟨g1, g2.app l, g3⟩
      · rw [List.mem_singleton.mp he]
        exact ⟨hs, Sub.right l, h8, hlim⟩
    · exact h.en d2 h3 e he
  · rcases hm d2 h2 with rfl | h3
    · have := h.win d hd
      rw [hlaid]
      show 0 ≤ d.sure ∧ d.sure ≤ _ ∧ _ ≤ d.sure + 24
      omega
    · exact h.win d2 h3
/-- roads told anew: what the invariant asks of each, from what it asked of an old one -/
theorem WI.tick {n : Nat} {x : Wr} (h : WI n x) {rs : List Rw} {la : Addr} {es : List Pc} (hc : rs.map core = x.roads.map core) (he : es.length ≤ 50000) (hm : x.mode ≠ "led" → es = x.anew) : WI n { x with roads := rs, la := la, anew := es } := by
  have g : ∀ d ∈ rs, ∃ d0 ∈ x.roads, core d = core d0 := fun d hd => core_mem hc hd
  refine ⟨h.rule, h.W, h.lets, h.known, h.mode, h.first, fun d hd => ?_, by show (rs.map (·.name)).Nodup; rw [core_name hc]; exact h.nd, he, fun hl d hd => ?_, fun h0 => ?_, fun hl d hd hg => ?_, fun hl d hd => ?_, fun d hd => ?_, fun d hd => ?_, fun d hd => ?_⟩
  · obtain ⟨d0, h0, ec⟩ := g d hd
    obtain ⟨e1, e2, e3, e4, e5, e6, e7, e8, e9, e10, e11⟩ := core_eq ec
    rw [e1]; exact h.names d0 h0
  · obtain ⟨d0, h0, ec⟩ := g d hd
    obtain ⟨e1, e2, e3, e4, e5, e6, e7, e8, e9, e10, e11⟩ := core_eq ec
    rw [e1]; exact h.sole hl d0 h0
  · show es = []
    rw [hm (by rw [show x.mode = "none" from h0]; decide +kernel)]
    exact h.anew0 h0
  · obtain ⟨d0, h0, ec⟩ := g d hd
    obtain ⟨e1, e2, e3, e4, e5, e6, e7, e8, e9, e10, e11⟩ := core_eq ec
    rw [e10] at hg
    show es = []
    rw [hm hl]
    exact h.anew1 hl d0 h0 hg
  · obtain ⟨d0, h0, ec⟩ := g d hd
    obtain ⟨e1, e2, e3, e4, e5, e6, e7, e8, e9, e10, e11⟩ := core_eq ec
    rw [e8, e10, e7]
    exact h.straight hl d0 h0
  · obtain ⟨d0, h0, ec⟩ := g d hd
    obtain ⟨e1, e2, e3, e4, e5, e6, e7, e8, e9, e10, e11⟩ := core_eq ec
    rw [e8, e7]; exact h.ents d0 h0
  · obtain ⟨d0, h0, ec⟩ := g d hd
    obtain ⟨e1, e2, e3, e4, e5, e6, e7, e8, e9, e10, e11⟩ := core_eq ec
    rw [e8, e7]; exact h.en d0 h0
  · obtain ⟨d0, h0, ec⟩ := g d hd
    obtain ⟨e1, e2, e3, e4, e5, e6, e7, e8, e9, e10, e11⟩ := core_eq ec
    rw [e9, show d.laid = d0.laid from by unfold Rw.laid; rw [e7]]
    exact h.win d0 h0
theorem WI.spare {n : Nat} {x : Wr} (h : WI n x) {a b : List Rw} {d : Rw} {s : Bool} (hab : x.roads = a ++ d :: b) : WI n { x with roads := a ++ { d with spare := s } :: b } := by
  have hd : d ∈ x.roads := by rw [hab]; simp
  have hm : ∀ d2 ∈ a ++ { d with spare := s } :: b, d2 = { d with spare := s } ∨ d2 ∈ x.roads := fun d2 h2 => by rw [hab]; exact mid_mem h2
  refine ⟨h.rule, h.W, h.lets, h.known, h.mode, h.first, fun d2 h2 => ?_, nd_mid (d := d) rfl (by rw [← hab]; exact h.nd), h.anew, fun hl d2 h2 => ?_, h.anew0, fun hl d2 h2 hg => ?_, fun hl d2 h2 => ?_, fun d2 h2 => ?_, fun d2 h2 => ?_, fun d2 h2 => ?_⟩
  · rcases hm d2 h2 with rfl | h3
    · exact h.names d hd
    · exact h.names d2 h3
  · rcases hm d2 h2 with rfl | h3
    · exact h.sole hl d hd
    · exact h.sole hl d2 h3
  · rcases hm d2 h2 with rfl | h3
    · exact h.anew1 hl d hd hg
    · exact h.anew1 hl d2 h3 hg
  · rcases hm d2 h2 with rfl | h3
    · exact h.straight hl d hd
    · exact h.straight hl d2 h3
  · rcases hm d2 h2 with rfl | h3
    · exact h.ents d hd
    · exact h.ents d2 h3
  · rcases hm d2 h2 with rfl | h3
    · exact h.en d hd
    · exact h.en d2 h3
  · rcases hm d2 h2 with rfl | h3
    · exact h.win d hd
    · exact h.win d2 h3
/-- a road gone: in mode led, or that road alone there is -/
theorem WI.gone {n : Nat} {x : Wr} (h : WI n x) {a b : List Rw} {d : Rw} {la : Addr} {es : List Pc} {m' : Str} (hab : x.roads = a ++ d :: b) (he : es.length ≤ 50000) (hm : (m' = x.mode ∧ x.mode ≠ "none") ∨ (x.mode = "none" ∧ m' = "led")) :
    WI n { x with mode := m', roads := a ++ { d with st := "gone", put := true } :: b, la := la, anew := es } := by
  have hd : d ∈ x.roads := by rw [hab]; simp
  have hmm : ∀ d2 ∈ a ++ { d with st := "gone", put := true } :: b, d2 = { d with st := "gone", put := true } ∨ d2 ∈ x.roads := fun d2 h2 => by rw [hab]; exact mid_mem h2
  have hmode : Mode m' ∧ m' ≠ "none" := by
    rcases hm with ⟨rfl, z⟩ | ⟨_, rfl⟩
    · exact ⟨h.mode, z⟩
    · exact ⟨.inr (.inl rfl), by decide +kernel⟩
  have hled : m' ≠ "led" → x.mode ≠ "led" := fun z => by
    rcases hm with ⟨rfl, _⟩ | ⟨_, rfl⟩
    · exact z
    · exact absurd rfl z
  have only : x.mode ≠ "led" → ∀ d2, d2 ∈ a ∨ d2 ∈ b → False := by
    intro hl d2 h2
    have e1 := h.sole hl d2 (by rw [hab]; rcases h2 with h2 | h2 <;> simp [h2])
    have e2 := h.sole hl d hd
    have nd := h.nd
    rw [hab, List.map_append, List.map_cons] at nd
    obtain ⟨_, nd2, nd3⟩ := List.nodup_append.mp nd
    rcases h2 with h2 | h2
    · exact absurd (e1.trans e2.symm) (nd3 _ (List.mem_map.mpr ⟨d2, h2, rfl⟩) _ List.mem_cons_self)
    · exact absurd (List.mem_map.mpr ⟨d2, h2, e1.trans e2.symm⟩) (List.nodup_cons.mp nd2).1
  have sole2 : x.mode ≠ "led" → ∀ d2 ∈ a ++ { d with st := "gone", put := true } :: b, d2 = { d with st := "gone", put := true } := by
    intro hl d2 h2
    rcases List.mem_append.mp h2 with h2 | h2
    · exact (only hl d2 (.inl h2)).elim
    · rcases List.mem_cons.mp h2 with h2 | h2
      · exact h2
      · exact (only hl d2 (.inr h2)).elim
  refine ⟨h.rule, h.W, h.lets, h.known, hmode.1, h.first, fun d2 h2 => ?_, nd_mid (d := d) rfl (by rw [← hab]; exact h.nd), he, fun hl d2 h2 => ?_, fun h0 => absurd h0 hmode.2, fun hl d2 h2 hg => ?_, fun hl d2 h2 => ?_, fun d2 h2 => ?_, fun d2 h2 => ?_, fun d2 h2 => ?_⟩
  · rcases hmm d2 h2 with rfl | h3
    · exact h.names d hd
    · exact h.names d2 h3
  · rw [sole2 (hled hl) d2 h2]
    exact h.sole (hled hl) d hd
  · rw [sole2 (hled hl) d2 h2] at hg
    exact absurd rfl hg
  · rw [sole2 (hled hl) d2 h2]
    exact ⟨(h.straight (hled hl) d hd).1, fun z => absurd rfl z⟩
  · rcases hmm d2 h2 with rfl | h3
    · exact h.ents d hd
    · exact h.ents d2 h3
  · rcases hmm d2 h2 with rfl | h3
    · exact h.en d hd
    · exact h.en d2 h3
  · rcases hmm d2 h2 with rfl | h3
    · exact h.win d hd
    · exact h.win d2 h3
theorem WI.sure {n : Nat} {x : Wr} (h : WI n x) {a b : List Rw} {d d' : Rw} {kn lim own : Int} {la : Addr} {es : List Pc} {m m' : Str} (hab : x.roads = a ++ d :: b) (h1 : x.known ≤ kn) (h2 : x.limit ≤ lim) (h3 : es.length ≤ x.anew.length) (hM : Mode m)
    (h4 : m' = x.mode ∨ (x.mode = "none" ∧ m' = m)) (h5 : SureR d d' own) : WI n { x with roads := a ++ d' :: b, known := kn, limit := lim, mode := m', la := la, anew := es } := by
  have hd : d ∈ x.roads := by rw [hab]; simp
  have hmm : ∀ d2 ∈ a ++ d' :: b, d2 = d' ∨ d2 ∈ x.roads := fun d2 h2 => by rw [hab]; exact mid_mem h2
  have hmode : Mode m' := by
    rcases h4 with rfl | ⟨_, rfl⟩
    · exact h.mode
    · exact hM
  have hled : m' ≠ "led" → x.mode ≠ "led" := fun z => by
    rcases h4 with rfl | ⟨z2, _⟩
    · exact z
    · rw [z2]; decide +kernel
  have hg : d'.name = d.name ∧ d'.ents = d.ents ∧ d'.txt = d.txt ∧ (d'.st ≠ "gone" → d.st ≠ "gone") ∧ 0 ≤ d'.sure ∧ d'.sure ≤ d.laid ∧ d.laid ≤ d'.sure + 24 := by
    have := h.win d hd
    rcases h5 with ⟨z, rfl⟩ | ⟨z, s, ag, pu, rfl, hs⟩
    · exact ⟨rfl, rfl, rfl, id, this⟩
    · refine ⟨rfl, rfl, rfl, fun _ => z, ?_⟩
      show 0 ≤ s ∧ s ≤ d.laid ∧ d.laid ≤ s + 24
      rcases hs with rfl | ⟨rfl, g1, g2⟩ <;> omega
  obtain ⟨e1, e2, e3, e4, e5⟩ := hg
  have el : d'.laid = d.laid := by unfold Rw.laid; rw [e3]
  have nil : x.anew = [] → es = [] := fun z => by
    rw [z] at h3
    exact List.length_eq_zero_iff.mp (Nat.le_zero.mp h3)
  refine ⟨h.rule, h.W, h.lets, by have := h.known; show 0 ≤ kn; omega, hmode, h.first, fun d2 h2 => ?_, nd_mid (d := d) e1 (by rw [← hab]; exact h.nd), by have := h.anew; show es.length ≤ _; omega, fun hl d2 h2 => ?_, fun h0 => nil (h.anew0 ?_), fun hl d2 h2 hg => nil ?_, fun hl d2 h2 => ?_, fun d2 h2 => ?_, fun d2 h2 e he => ?_, fun d2 h2 => ?_⟩
  · rcases hmm d2 h2 with rfl | h3
    · rw [e1]; exact h.names d hd
    · exact h.names d2 h3
  · rcases hmm d2 h2 with rfl | h3
    · rw [e1]; exact h.sole (hled hl) d hd
    · exact h.sole (hled hl) d2 h3
  · rcases h4 with z | ⟨z, _⟩
    · rw [← z]; exact h0
    · exact z
  · rcases hmm d2 h2 with rfl | h3
    · exact h.anew1 (hled hl) d hd (e4 hg)
    · exact h.anew1 (hled hl) d2 h3 hg
  · rcases hmm d2 h2 with rfl | h3
    · rw [e2, e3]
      exact ⟨(h.straight (hled hl) d hd).1, fun z => (h.straight (hled hl) d hd).2 (e4 z)⟩
    · exact h.straight (hled hl) d2 h3
  · rcases hmm d2 h2 with rfl | h3
    · rw [e2, e3]; exact h.ents d hd
    · exact h.ents d2 h3
  · have key : ∀ d3 ∈ x.roads, ∀ e ∈ d3.ents, Sub x.W e.first e.l ∧ Sub d3.txt e.own e.l ∧ e.l.length ≤ 8 ∧ ((e.first : Int) + (e.l.length : Nat) ≤ lim) := fun d3 h3 e he => by
      obtain ⟨g1, g2, g3, g4⟩ := h.en d3 h3 e he
      exact ⟨g1, g2, g3, by omega⟩
    rcases hmm d2 h2 with rfl | h3
    · rw [e2] at he
      rw [e3]
      exact key d hd e he
    · exact key d2 h3 e he
  · rcases hmm d2 h2 with rfl | h3
    · rw [el]; exact e5
    · exact h.win d2 h3
theorem WI.begin {n : Nat} {x : Wr} (h : WI n x) {d : Rw} {name : List Nat} (hn : nm name) (hnew : ∀ d2 ∈ x.roads, d2.name ≠ name) (hf : x.first = none ∨ x.mode = "led") (e1 : d.name = name) (e2 : d.txt = []) (e3 : d.ents = []) (e4 : d.sure = 0) :
    WI n { x with first := some (x.first.getD name), roads := x.roads ++ [d] } := by
  have hled : x.mode = "led" := hf.resolve_left (by rw [h.first]; simp)
  have hm : ∀ d2 ∈ x.roads ++ [d], d2 = d ∨ d2 ∈ x.roads := fun d2 h2 => by
    rcases List.mem_append.mp h2 with h2 | h2
    · exact .inr h2
    · exact .inl (List.mem_singleton.mp h2)
  refine ⟨h.rule, h.W, h.lets, h.known, h.mode, by show some (x.first.getD name) = _; rw [h.first]; rfl, fun d2 h2 => ?_, ?_, h.anew, fun hl => absurd hled hl, h.anew0, fun hl => absurd hled hl, fun hl => absurd hled hl, fun d2 h2 => ?_, fun d2 h2 e he => ?_, fun d2 h2 => ?_⟩
  · rcases hm d2 h2 with rfl | h3
    · rw [e1]; exact hn
    · exact h.names d2 h3
  · show ((x.roads ++ [d]).map (·.name)).Nodup
    rw [List.map_append]
    refine List.nodup_append.mpr ⟨h.nd, by simp, fun u hu v hv => ?_⟩
    obtain ⟨d2, h2, rfl⟩ := List.mem_map.mp hu
    rw [List.mem_singleton.mp hv]
    show d2.name ≠ d.name
    rw [e1]
    exact hnew d2 h2
  · rcases hm d2 h2 with rfl | h3
    · rw [e3, e2]; exact ⟨Nat.zero_le _, Nat.zero_le _⟩
    · exact h.ents d2 h3
  · rcases hm d2 h2 with rfl | h3
    · rw [e3] at he; cases he
    · exact h.en d2 h3 e he
  · rcases hm d2 h2 with rfl | h3
    · unfold Rw.laid
      rw [e2, e4]
      decide
    · exact h.win d2 h3

/-! ### what the law has seen */ -/
structure Seen where
  sd : Addr
  b : Addr
  g : Addr
  l : Addr
  s : Addr
  bases : List (Key × V)
  signs : List (List Key × V)
  laid : List (Key × V)
  sure : List (Key × V)
  mode : Str
def seenK (y : Seen) : List (Key × V) := [(.inr "bases", .ref y.b), (.inr "signs", .ref y.g), (.inr "laid", .ref y.l), (.inr "sure", .ref y.s), (.inr "mode", .str y.mode)]
theorem sk_bases (y : Seen) : valV (seenK y) (.inr ("bases" : Str)) = some (.ref y.b) := by kernel_rfl
theorem sk_signs (y : Seen) : valV (seenK y) (.inr ("signs" : Str)) = some (.ref y.g) := by kernel_rfl
theorem sk_laid (y : Seen) : valV (seenK y) (.inr ("laid" : Str)) = some (.ref y.l) := by kernel_rfl
theorem sk_sure (y : Seen) : valV (seenK y) (.inr ("sure" : Str)) = some (.ref y.s) := by kernel_rfl
theorem sk_mode (y : Seen) : valV (seenK y) (.inr ("mode" : Str)) = some (.str y.mode) := by kernel_rfl
theorem pk_mode (y : Seen) (m : Str) : putK (seenK y) (.inr ("mode" : Str)) (.str m) = seenK { y with mode := m } := by kernel_rfl
structure SeenAt (H : Hp) (y : Seen) : Prop where
  sd : H y.sd = some (.dK (seenK y))
  b : H y.b = some (.dK y.bases)
  g : H y.g = some (.dT y.signs)
  l : H y.l = some (.dK y.laid)
  s : H y.s = some (.dK y.sure)
def sadr (y : Seen) : List Addr := [y.sd, y.b, y.g, y.l, y.s]
theorem SeenAt.fr {F : List Addr} {H H' : Hp} {y : Seen} (h : SeenAt H y) (f : Fr F H H') (n : ∀ c ∈ F, c ∉ sadr y) : SeenAt H' y :=
  ⟨f.at (fun z => n _ z (by simp [sadr])) h.sd, f.at (fun z => n _ z (by simp [sadr])) h.b, f.at (fun z => n _ z (by simp [sadr])) h.g, f.at (fun z => n _ z (by simp [sadr])) h.l, f.at (fun z => n _ z (by simp [sadr])) h.s⟩
theorem SeenAt.get {H : Hp} {y : Seen} (h : SeenAt H y) {k : Str} {v : V} (e : valV (seenK y) (.inr k) = some v) : DGet H y.sd (.str k) (some v) := .inl ⟨seenK y, .inr k, .inl h.sd, rfl, e.symm⟩
/-- a count of signs, 0 where none is told -/
def num (kvs : List (Key × V)) (z : Str) : V := (valV kvs (.inr z)).getD (.int 0)
structure SI (x : Wr) (y : Seen) : Prop where
  bases1 : ∀ d ∈ x.roads, valV y.bases (.inr (S d.name)) = some (.int d.base)
  bases2 : ∀ z v, valV y.bases (.inr z) = some v → ∃ d ∈ x.roads, z = S d.name
  mode : Mode y.mode
  laid1 : ∀ z, ∃ i : Int, num y.laid z = .int i ∧ 0 ≤ i
  laid2 : ∀ d ∈ x.roads, ∀ i, num y.laid (S d.name) = .int i → i ≤ d.laid
  laid3 : ∀ z, (∀ d ∈ x.roads, z ≠ S d.name) → num y.laid z = .int 0
  sure1 : ∀ z, ∃ i : Int, num y.sure z = .int i ∧ 0 ≤ i
  sure2 : ∀ d ∈ x.roads, d.st ≠ "gone" → ∀ i, num y.sure (S d.name) = .int i → d.sure ≤ i
  signs : ∀ k v, valV y.signs k = some v → ∃ d ∈ x.roads, ∃ j c : Nat, k = [.inr (S d.name), .inl (d.base + (j : Nat))] ∧ d.txt[j]? = some c ∧ v = .str ⟨#[c]⟩
structure Sz (M : Nat) (y : Seen) : Prop where
  b : y.bases.length ≤ M
  g : y.signs.length ≤ M
  l : y.laid.length ≤ M
  s : y.sure.length ≤ M
theorem num_put (kvs : List (Key × V)) (z z2 : Str) (v : V) : num (putK kvs (.inr z) v) z2 = if z2 = z then v else num kvs z2 := by
  unfold num
  rw [valV_put]
  by_cases h : z2 = z
  · rw [if_pos h, if_pos (by rw [h])]
    rfl
  · rw [if_neg h, if_neg (fun e => h (Sum.inr.inj e))]
theorem at_names {r : Int} (h0 : 0 ≤ r) (h1 : r < 3) : ∃ l, atI [V.str "m", .str "a", .str "z"] r = some (tx l) ∧ nm l := by
  have : r = 0 ∨ r = 1 ∨ r = 2 := by omega
  rcases this with rfl | rfl | rfl
  · exact ⟨[109], rfl, .inl rfl⟩
  · exact ⟨[97], rfl, .inr (.inl rfl)⟩
  · exact ⟨[122], rfl, .inr (.inr rfl)⟩
theorem at_az {r : Int} (h0 : 0 ≤ r) (h1 : r < 2) : ∃ l, atI [V.str "a", .str "z"] r = some (tx l) ∧ nm l ∧ l ≠ [109] := by
  have : r = 0 ∨ r = 1 := by omega
  rcases this with rfl | rfl
  · exact ⟨[97], rfl, .inr (.inl rfl), by decide⟩
  · exact ⟨[122], rfl, .inr (.inr rfl), by decide⟩
theorem at_modes {r : Int} (h0 : 0 ≤ r) (h1 : r < 5) : ∃ m, atI [V.str "none", .str "none", .str "led", .str "led", .str "plain"] r = some (.str m) ∧ Mode m := by
  have : r = 0 ∨ r = 1 ∨ r = 2 ∨ r = 3 ∨ r = 4 := by omega
  rcases this with rfl | rfl | rfl | rfl | rfl
  · exact ⟨_, rfl, .inl rfl⟩
  · exact ⟨_, rfl, .inl rfl⟩
  · exact ⟨_, rfl, .inr (.inl rfl)⟩
  · exact ⟨_, rfl, .inr (.inl rfl)⟩
  · exact ⟨_, rfl, .inr (.inr rfl)⟩
theorem at_rooms {r : Int} (h0 : 0 ≤ r) (h1 : r < 4) : ∃ i : Int, atI [V.int 0, .int 8, .int 20, .int 40] r = some (.int i) ∧ 0 ≤ i := by
  have : r = 0 ∨ r = 1 ∨ r = 2 ∨ r = 3 := by omega
  rcases this with rfl | rfl | rfl | rfl
  all_goals exact ⟨_, rfl, by decide⟩
theorem at_two {r : Int} (h0 : 0 ≤ r) (h1 : r < 2) (u v : V) : ∃ w, atI [u, v] r = some w ∧ (w = u ∨ w = v) := by
  have : r = 0 ∨ r = 1 := by omega
  rcases this with rfl | rfl
  · exact ⟨u, rfl, .inl rfl⟩
  · exact ⟨v, rfl, .inr rfl⟩
theorem IsD.of {H : Hp} {a : Addr} {kvs : List (Key × V)} (h : H a = some (.dK kvs)) : IsD H a := .inl ⟨kvs, .inl h⟩
theorem DGet.of {H : Hp} {a : Addr} {kvs : List (Key × V)} {z : Str} (h : H a = some (.dK kvs)) : DGet H a (.str z) (valV kvs (.inr z)) := .inl ⟨kvs, .inr z, .inl h, rfl, rfl⟩
section
variable {P : Program} {w : World} {K : PySem.W.Frag} {mg : Str → Option Value} {base : Heap}
theorem PoolAt.nf {H : Hp} {p : Addr} (h : PoolAt H p) : ∀ b ∈ [p], ∀ o, H b = some o → ¬ Imm o := by
  intro b hb o e
  obtain ⟨c, s, h1, _⟩ := h
  rw [List.mem_singleton.mp hb, h1] at e
  obtain rfl := Option.some.inj e
  exact id
theorem PoolAt.fr {F : List Addr} {H H' : Hp} {p : Addr} (h : PoolAt H p) (f : Fr F H H') (n : p ∉ F) : PoolAt H' p := by
  obtain ⟨c, s, h1, h2⟩ := h
  exact ⟨c, s, f.at n h1, h2⟩
theorem PoolAt.sadr {H : Hp} {p : Addr} {y : Seen} (h : PoolAt H p) (hs : SeenAt H y) : p ∉ sadr y := by
  obtain ⟨c, s, h1, _⟩ := h
  intro z
  have z2 : p = y.sd ∨ p = y.b ∨ p = y.g ∨ p = y.l ∨ p = y.s := by simpa [RB.sadr] using z
  rcases z2 with rfl | rfl | rfl | rfl | rfl
  · rw [hs.sd] at h1; cases h1
  · rw [hs.b] at h1; cases h1
  · rw [hs.g] at h1; cases h1
  · rw [hs.l] at h1; cases h1
  · rw [hs.s] at h1; cases h1
def sp_law_answer (K : PySem.W.Frag) : Sp := fun vs H Q _ => ∃ (p : Addr) (x : Wr) (y : Seen), vs = [.ref p, .ref y.sd, .ref x.p] ∧ PoolAt H p ∧ WrH K H x ∧ WrB x ∧ 0 ≤ x.known ∧ SeenAt H y ∧ (∀ z, ∃ i : Int, num y.laid z = .int i ∧ 0 ≤ i ∧ i ≤ 900000) ∧ Mode y.mode ∧ p ∉ x.la :: foot x ∧
  ∀ (q : Addr) (name : List Nat) (H' : Hp), Fr [p] H H' → PoolAt H' p → nm name →
    ((∃ word : Str, (word = "call" ∨ word = "meddled") ∧ H' q = some (.tup [.str word, tx name])) ∨
     ∃ (own known room : Int) (m : Str), 0 ≤ own ∧ 0 ≤ known ∧ 0 ≤ room ∧ Mode m ∧ (∀ i, num y.laid (S name) = .int i → own ≤ i) ∧ H' q = some (.tup [.str "sure", tx name, .int own, .int known, .int room, .str m, .bl false])) → Q (.ref q) H'
theorem sc_law_answer : FnScope ["_law_pool_here", "_law_seen", "_law_writer", "_law_name", "_law_way", "_law_laid", "_law_own", "_law_most", "_law_known", "_law_mode"] ["_law_pool_here", "_law_seen", "_law_writer"] (defScope s_law_answer) := ⟨rfl, rfl, rfl, by decide +kernel, rfl, by decide +kernel, by decide +kernel⟩
theorem ok_law_answer (T : TX P w K mg base) : PR P w K mg base 2 (He.ga K "_law_answer") ["_law_pool_here", "_law_seen", "_law_writer"] (sp_law_answer K) := by
  have G_Writer_known := ok_Writer_known T
  have G_Writer_written := ok_Writer_written T
  have G_law_take := ok_law_take T
  refine T.prom d_law_answer (List.mem_of_getElem? (i := 60) (by rfl)) ⟨rfl, rfl⟩ sc_law_answer (fun vs H Q E h => ?_) (fun _ _ _ _ _ _ us hl => match us, hl with | [_, _, _], _ => rfl) (fun cdv A outer s H vs Q E hr h => ?_)
  · obtain ⟨_, _, _, rfl, _⟩ := h
    rfl
  · have hu := hu_of hr
    obtain ⟨p, x, y, rfl, hp, hx, hb, hkn, hy, hlaid, hmode, hpx, k⟩ := h
    refine ⟨_, (pss_cons (ps_set (i := 3) sc_law_answer.nd rfl (by first | exact Or.inl rfl | exact Or.inr rfl) (pe_ix ix_list (pe_lst (pa_cons pe_str (pa_cons pe_str (pa_cons pe_str pa_nil)))) (pe_callP G_law_take (hr.mono (by decide)) rfl T.g_law_take (pa_cons (pv 0) (pa_cons pe_int pa_nil))) (fun _ _ => rfl)))
      (pss_cons (ps_set (i := 4) sc_law_answer.nd rfl (by first | exact Or.inl rfl | exact Or.inr rfl) (pe_callP G_law_take (hr.mono (by decide)) rfl T.g_law_take (pa_cons (pv 0) (pa_cons pe_int pa_nil))))
      (pss_cons (ps_if (pt_cmpR op_lt (pv 4) pe_int (nomark _))
        (pss_one (ps_ret (pe_ix ix_list (pe_lst (pa_cons (pe_tup (pa_cons pe_str (pa_cons (pv 3) pa_nil))) (pa_cons (pe_tup (pa_cons pe_str (pa_cons (pv 3) pa_nil))) pa_nil))) (pv 4) (fun _ _ => rfl))))
        pss_nil)
      (pss_cons (ps_set (i := 5) sc_law_answer.nd rfl (by first | exact Or.inl rfl | exact Or.inr rfl) (pe_dget2 hu (pe_dget hu (pv 1) pe_str (fun _ _ => rfl)) (pv 3) pe_int ⟨rfl, rfl, rfl, rfl⟩))
      (pss_cons (ps_set (i := 6) sc_law_answer.nd rfl (by first | exact Or.inl rfl | exact Or.inr rfl) (pe_ix ix_list (pe_lst (pa_cons (pe_callP G_law_take (hr.mono (by decide)) rfl T.g_law_take (pa_cons (pv 0) (pa_cons (pe_op op_add pe_int (pv 5)) pa_nil))) (pa_cons (pv 5) pa_nil))) (pe_callP G_law_take (hr.mono (by decide)) rfl T.g_law_take (pa_cons (pv 0) (pa_cons pe_int pa_nil))) (fun _ _ => rfl)))
      (pss_cons (ps_set (i := 7) sc_law_answer.nd rfl (by first | exact Or.inl rfl | exact Or.inr rfl) (pe_callB call_len (by rfl) T.f_len (by decide +kernel) (pa_cons (pe_methP0 (pv 2) T.cl_Writer T.m_Writer_written G_Writer_written (hr.mono (by decide))) pa_nil)))
      (pss_cons (ps_set (i := 8) sc_law_answer.nd rfl (by first | exact Or.inl rfl | exact Or.inr rfl) (pe_callB (call_min2 rfl) (by rfl) T.f_min (by decide +kernel) (pa_cons (pv 7) (pa_cons (pe_op op_add (pe_methP0 (pv 2) T.cl_Writer T.m_Writer_known G_Writer_known (hr.mono (by decide))) (pe_callP G_law_take (hr.mono (by decide)) rfl T.g_law_take (pa_cons (pv 0) (pa_cons pe_int pa_nil)))) pa_nil))))
      (pss_cons (ps_set (i := 9) sc_law_answer.nd rfl (by first | exact Or.inl rfl | exact Or.inr rfl) (pe_ifExp (pt_cmpR op_ne (pe_dget hu (pv 1) pe_str (fun _ _ => rfl)) pe_str (nomark _)) (pe_dget hu (pv 1) pe_str (fun _ _ => rfl)) (pe_ix ix_list (pe_lst (pa_cons pe_str (pa_cons pe_str (pa_cons pe_str (pa_cons pe_str (pa_cons pe_str pa_nil)))))) (pe_callP G_law_take (hr.mono (by decide)) rfl T.g_law_take (pa_cons (pv 0) (pa_cons pe_int pa_nil))) (fun _ _ => rfl))))
      (pss_one (ps_ret (pe_tup (pa_cons pe_str (pa_cons (pv 3) (pa_cons (pv 6) (pa_cons (pv 8) (pa_cons (pe_ix ix_list (pe_lst (pa_cons pe_int (pa_cons pe_int (pa_cons pe_int (pa_cons pe_int pa_nil))))) (pe_callP G_law_take (hr.mono (by decide)) rfl T.g_law_take (pa_cons (pv 0) (pa_cons pe_int pa_nil))) (fun _ _ => rfl)) (pa_cons (pv 9) (pa_cons pe_bl pa_nil)))))))))))))))))), ?_⟩
    have nfp : ∀ {H1 : Hp}, PoolAt H1 p → ∀ {H2 : Hp}, Kp [p] H1 H2 → Fr [p] H1 H2 := fun h _ k => Fr.ofKp k h.nf
    have hn1 : ∀ c ∈ [p], c ∉ x.la :: foot x := fun c hc => by rw [List.mem_singleton.mp hc]; exact hpx
    have hn2 : ∀ c ∈ [p], c ∉ sadr y := fun c hc => by rw [List.mem_singleton.mp hc]; exact hp.sadr hy
    -- the name
    refine ⟨line5 (by show 3 ≤ _; decide), fun l1 hl1 => ?_⟩
    have hp1 : PoolAt (upd H l1 (.lst [.str "m", .str "a", .str "z"])) p := hp.fr (F := []) (Fr.of _ (Same.upd hl1)) (by simp)
    have hlp : l1 ≠ p := by
      obtain ⟨c, s, e, _⟩ := hp
      exact (ne_of_none e hl1).symm
    refine ⟨_, rfl, p, 3, rfl, hp1, ⟨by decide, by decide⟩, fun r1 H1 a1 b1 hq1 k1 => ?_⟩
    have f1 : Fr [p] H H1 := (Fr.of _ (Same.upd hl1)).trans (nfp hp1 k1)
    have hl1' : H1 l1 = some (.lst [.str "m", .str "a", .str "z"]) := k1 l1 _ (by simpa using hlp) upd_same
    obtain ⟨name, hat, hnm⟩ := at_names a1 b1
    refine ⟨l1, _, r1, tx name, rfl, rfl, SqL.of hl1', hat, ?_⟩
    -- the kind
    refine ⟨_, rfl, p, 10, rfl, hq1, ⟨by decide, by decide⟩, fun r2 H2 a2 b2 hq2 k2 => ?_⟩
    have f2 : Fr [p] H H2 := f1.trans (nfp hq1 k2)
    clear k1 k2 hl1' hat f1 hq1 hp1
    refine ⟨_, rfl, _, _, rfl, rfl, _, rfl, ite2 (fun hw => ?_) (fun _ => ?_)⟩
    · have hw2 : r2 < 2 := of_decide_eq_true hw
      refine ⟨_, rfl, line5 (by show 2 ≤ _; decide), fun t1 ht1 => ⟨_, rfl, line5 (by show 2 ≤ _; decide), fun t2 ht2 => ⟨line5 (by show 2 ≤ _; decide), fun l2 hl2 => ?_⟩⟩⟩
      have s1 := Same.upd (o := .tup [.str "call", tx name]) ht1
      have s2 := Same.upd (o := .tup [.str "meddled", tx name]) ht2
      have s3 := Same.upd (o := .lst [.ref t1, .ref t2]) hl2
      obtain ⟨wv, hat, hwv⟩ := at_two a2 hw2 (.ref t1) (.ref t2)
      refine ⟨_, rfl, l2, _, r2, wv, rfl, rfl, SqL.of upd_same, hat, ?_⟩
      have f3 := ((f2.trans (Fr.of _ s1)).trans (Fr.of _ s2)).trans (Fr.of _ s3)
      have hq3 := ((hq2.fr (Fr.of [] s1) (by simp)).fr (Fr.of [] s2) (by simp)).fr (Fr.of [] s3) (by simp)
      rcases hwv with rfl | rfl
      · exact k t1 name _ f3 hq3 hnm (.inl ⟨"call", .inl rfl, s3 _ _ (s2 _ _ upd_same)⟩)
      · exact k t2 name _ f3 hq3 hnm (.inl ⟨"meddled", .inr rfl, s3 _ _ upd_same⟩)
    -- what was laid
    have hy2 := hy.fr f2 hn2
    obtain ⟨i, hi, hi0, hi1⟩ := hlaid (S name)
    refine ⟨_, rfl, y.sd, .ref y.l, rfl, hy2.get (sk_laid y), y.l, rfl, IsD.of hy2.l, _, rfl, _, DGet.of hy2.l, ?_⟩
    have hi' : (valV y.laid (.inr (S name))).getD (.int 0) = .int i := hi
    rw [hi']
    refine ⟨_, rfl, _, rfl, _, _, rfl, rfl, p, 1 + i, rfl, hq2, ⟨by omega, by omega⟩, fun r3 H3 a3 b3 hq3 k3 => ?_⟩
    have f3 : Fr [p] H H3 := f2.trans (nfp hq2 k3)
    refine ⟨_, rfl, line5 (by show 2 ≤ _; decide), fun l3 hl3 => ?_⟩
    have s3 := Same.upd (o := .lst [.int r3, .int i]) hl3
    have hq3' := hq3.fr (Fr.of [] s3) (by simp)
    have hlp3 : l3 ≠ p := by
      obtain ⟨c, s, e, _⟩ := hq3
      exact (ne_of_none e hl3).symm
    refine ⟨_, rfl, p, 2, rfl, hq3', ⟨by decide, by decide⟩, fun r4 H4 a4 b4 hq4 k4 => ?_⟩
    have f4 : Fr [p] H H4 := (f3.trans (Fr.of _ s3)).trans (nfp hq3' k4)
    have hl3' : H4 l3 = some (.lst [.int r3, .int i]) := k4 l3 _ (by simpa using hlp3) upd_same
    obtain ⟨wv, hat, hwv⟩ := at_two a4 b4 (.int r3) (.int i)
    obtain ⟨own, rfl, hown⟩ : ∃ own : Int, wv = .int own ∧ 0 ≤ own ∧ own ≤ i := by
      rcases hwv with rfl | rfl
      · exact ⟨r3, rfl, a3, by omega⟩
      · exact ⟨i, rfl, hi0, Int.le_refl _⟩
    refine ⟨l3, _, r4, .int own, rfl, rfl, SqL.of hl3', hat, ?_⟩
    clear hl3' hat k3 k4 s3 hq3 hq3' f3 hy2
    -- what is known
    have hx4 := hx.fr f4 hn1
    obtain ⟨dx, ho⟩ := hx4.o
    refine ⟨_, rfl, _, _, _, rfl, ho, noWriter_written (x), x, rfl, hx4, _, _, rfl, ⟨line5 (by rw [S_len]; have := hb.W; omega), rfl⟩, ?_⟩
    rw [S_len]
    refine ⟨_, rfl, _, rfl, _, _, _, rfl, ho, noWriter_known (x), x, rfl, hx4, _, rfl, p, 12, rfl, hq4, ⟨by decide, by decide⟩, fun r5 H5 a5 b5 hq5 k5 => ?_⟩
    have f5 : Fr [p] H H5 := f4.trans (nfp hq4 k5)
    refine ⟨_, _, rfl, rfl, _, _, rfl, ?_⟩
    have hkk : 0 ≤ (if x.known + r5 < ((x.W.length : Nat) : Int) then x.known + r5 else ((x.W.length : Nat) : Int)) := by split <;> omega
    generalize (if x.known + r5 < ((x.W.length : Nat) : Int) then x.known + r5 else ((x.W.length : Nat) : Int)) = known at hkk ⊢
    have hy5 := hy.fr f5 hn2
    refine ⟨_, rfl, y.sd, .str y.mode, rfl, hy5.get (sk_mode y), rfl, _, rfl, ?_⟩
    -- the mode, either way
    by_cases hmn : y.mode = "none"
    · refine iffF (by show (!decide (V.str y.mode = V.str "none")) = false; rw [hmn]; decide +kernel) ?_
      refine ⟨line5 (by show 5 ≤ _; decide), fun l6 hl6 => ?_⟩
      have s6 := Same.upd (o := .lst [.str "none", .str "none", .str "led", .str "led", .str "plain"]) hl6
      have hq5' := hq5.fr (Fr.of [] s6) (by simp)
      have hlp6 : l6 ≠ p := by
        obtain ⟨c, s, e, _⟩ := hq5
        exact (ne_of_none e hl6).symm
      refine ⟨_, rfl, p, 5, rfl, hq5', ⟨by decide, by decide⟩, fun r6 H6 a6 b6 hq6 k6 => ?_⟩
      have f6 : Fr [p] H H6 := (f5.trans (Fr.of _ s6)).trans (nfp hq5' k6)
      have hl6' : H6 l6 = some (.lst [.str "none", .str "none", .str "led", .str "led", .str "plain"]) := k6 l6 _ (by simpa using hlp6) upd_same
      obtain ⟨m, hat, hM⟩ := at_modes a6 b6
      refine ⟨l6, _, r6, .str m, rfl, rfl, SqL.of hl6', hat, ?_⟩
      refine ⟨_, rfl, _, rfl, _, rfl, line5 (by show 4 ≤ _; decide), fun l7 hl7 => ?_⟩
      have s7 := Same.upd (o := .lst [.int 0, .int 8, .int 20, .int 40]) hl7
      have hq6' := hq6.fr (Fr.of [] s7) (by simp)
      have hlp7 : l7 ≠ p := by
        obtain ⟨c, s, e, _⟩ := hq6
        exact (ne_of_none e hl7).symm
      refine ⟨_, rfl, p, 4, rfl, hq6', ⟨by decide, by decide⟩, fun r7 H7 a7 b7 hq7 k7 => ?_⟩
      have f7 : Fr [p] H H7 := (f6.trans (Fr.of _ s7)).trans (nfp hq6' k7)
      have hl7' : H7 l7 = some (.lst [.int 0, .int 8, .int 20, .int 40]) := k7 l7 _ (by simpa using hlp7) upd_same
      obtain ⟨room, hat7, hroom⟩ := at_rooms a7 b7
      refine ⟨l7, _, r7, .int room, rfl, rfl, SqL.of hl7', hat7, _, rfl, line5 (by show 7 ≤ _; decide), fun q hq => ?_⟩
      refine k q name _ (f7.new hq) (hq7.fr (Fr.of [] (Same.upd hq)) (by simp)) hnm (.inr ⟨own, known, room, m, hown.1, hkk, hroom, hM, fun j hj => ?_, upd_same⟩)
      rw [hi] at hj
      have := V.int.inj hj
      omega
    · refine ift (by show (!decide (V.str y.mode = V.str "none")) = true; rw [decide_eq_false (fun z => hmn (V.str.inj z))]; rfl) ?_
      refine ⟨_, rfl, y.sd, .str y.mode, rfl, hy5.get (sk_mode y), ?_⟩
      have f6 := f5
      have hq6 := hq5
      obtain ⟨m, em, hM⟩ : ∃ m, m = y.mode ∧ Mode m := ⟨_, rfl, hmode⟩
      rw [← em]
      refine ⟨_, rfl, _, rfl, _, rfl, line5 (by show 4 ≤ _; decide), fun l7 hl7 => ?_⟩
      have s7 := Same.upd (o := .lst [.int 0, .int 8, .int 20, .int 40]) hl7
      have hq6' := hq6.fr (Fr.of [] s7) (by simp)
      have hlp7 : l7 ≠ p := by
        obtain ⟨c, s, e, _⟩ := hq6
        exact (ne_of_none e hl7).symm
      refine ⟨_, rfl, p, 4, rfl, hq6', ⟨by decide, by decide⟩, fun r7 H7 a7 b7 hq7 k7 => ?_⟩
      have f7 : Fr [p] H H7 := (f6.trans (Fr.of _ s7)).trans (nfp hq6' k7)
      have hl7' : H7 l7 = some (.lst [.int 0, .int 8, .int 20, .int 40]) := k7 l7 _ (by simpa using hlp7) upd_same
      obtain ⟨room, hat7, hroom⟩ := at_rooms a7 b7
      refine ⟨l7, _, r7, .int room, rfl, rfl, SqL.of hl7', hat7, _, rfl, line5 (by show 7 ≤ _; decide), fun q hq => ?_⟩
      refine k q name _ (f7.new hq) (hq7.fr (Fr.of [] (Same.upd hq)) (by simp)) hnm (.inr ⟨own, known, room, m, hown.1, hkk, hroom, hM, fun j hj => ?_, upd_same⟩)
      rw [hi] at hj
      have := V.int.inj hj
      omega
end

/-! ### lay_right, letter_right */ -/
theorem ne_int {i j : Int} (h : i = j) : (!decide (V.int i = V.int j)) = false := by rw [h, decide_eq_true rfl]; rfl
theorem ne_tx {a b : List Nat} (h : a = b) : (!decide (tx a = tx b)) = false := by rw [h, decide_eq_true rfl]; rfl
section
variable {P : Program} {w : World} {K : PySem.W.Frag} {mg : Str → Option Value} {base : Heap}
def sp_law_lay_right (K : PySem.W.Frag) : Sp := fun vs H Q _ => ∃ (x : Wr) (d : Rw) (e : Ent) (t : Addr) (bare : Bool), vs = [.ref t, .ref x.p, .int d.base] ∧ WrH K H x ∧ WrB x ∧ LetH H t d e bare ∧ EntH H e ∧ Sub x.W e.first e.l ∧ ((e.first : Int) + (e.l.length : Nat) ≤ x.limit) ∧
  (bare = true → e.own = e.first) ∧ ∀ H' : Hp, Same H H' → Q (.bl true) H'
theorem sc_law_lay_right : FnScope ["_law_letter", "_law_writer", "_law_base", "_law_begin", "_law_word", "_law_name", "_law_number", "_law_text_here", "_law_lays", "_law_own", "_law_first", "_law_many", "_law_weight_here"] ["_law_letter", "_law_writer", "_law_base"] (defScope s_law_lay_right) := ⟨rfl, rfl, rfl, by decide +kernel, rfl, by decide +kernel, by decide +kernel⟩
theorem ok_law_lay_right (T : TX P w K mg base) : PR P w K mg base 2 (He.ga K "_law_lay_right") ["_law_letter", "_law_writer", "_law_base"] (sp_law_lay_right K) := by
  have G_Writer_limit := ok_Writer_limit T
  have G_Writer_written := ok_Writer_written T
  have G_law_weight := ok_law_weight T
  refine T.prom d_law_lay_right (List.mem_of_getElem? (i := 61) (by rfl)) ⟨rfl, rfl⟩ sc_law_lay_right (fun vs H Q E h => ?_) (fun _ _ _ _ _ _ us hl => match us, hl with | [_, _, _], _ => rfl) (fun cdv A outer s H vs Q E hr h => ?_)
  · obtain ⟨_, _, _, _, _, rfl, _⟩ := h
    rfl
  · have hu := hu_of hr
    obtain ⟨x, d, e, t, bare, rfl, hx, hb, ⟨u, ht, hu2⟩, he, hs, hlim, hbare, k⟩ := h
    refine ⟨_, (pss_cons (ps_asg (pv 0) (pg_tup rfl (pgs_cons (pg_name (i := 4) sc_law_lay_right.nd rfl (by first | exact Or.inl rfl | exact Or.inr rfl)) (pgs_cons (pg_name (i := 5) sc_law_lay_right.nd rfl (by first | exact Or.inl rfl | exact Or.inr rfl)) (pgs_cons (pg_name (i := 6) sc_law_lay_right.nd rfl (by first | exact Or.inl rfl | exact Or.inr rfl)) (pgs_cons (pg_name (i := 7) sc_law_lay_right.nd rfl (by first | exact Or.inl rfl | exact Or.inr rfl)) (pgs_cons (pg_name (i := 8) sc_law_lay_right.nd rfl (by first | exact Or.inl rfl | exact Or.inr rfl)) pgs_nil)))))))
      (pss_cons (ps_for PassesOwn.never rfl (pi_tup (pv 8)) (pg_tup rfl (pgs_cons (pg_name (i := 9) sc_law_lay_right.nd rfl (by first | exact Or.inl rfl | exact Or.inr rfl)) (pgs_cons (pg_name (i := 10) sc_law_lay_right.nd rfl (by first | exact Or.inl rfl | exact Or.inr rfl)) (pgs_cons (pg_name (i := 11) sc_law_lay_right.nd rfl (by first | exact Or.inl rfl | exact Or.inr rfl)) (pgs_cons (pg_name (i := 12) sc_law_lay_right.nd rfl (by first | exact Or.inl rfl | exact Or.inr rfl)) pgs_nil)))))
        (pss_cons (ps_if (PW.pt (pw_or (pt_cmpR op_ne (pv 9) (pe_op op_sub (pv 6) (pv 2)) (nomark _)) (pw_or (pt_cmpR op_ne (pv 11) (pe_callB call_len (by rfl) T.f_len (by decide +kernel) (pa_cons (pv 7) pa_nil)) (nomark _)) (pw_or1 (pt_cmpR op_ne (pv 12) (pe_callP G_law_weight (hr.mono (by decide)) rfl T.g_law_weight (pa_cons (pv 7) pa_nil)) (nomark _))))))
          (pss_one (ps_ret pe_bl))
          pss_nil)
        (pss_cons (ps_if (pt_cmpR op_ne (pe_slice sl_str (pe_methP0 (pv 1) T.cl_Writer T.m_Writer_written G_Writer_written (hr.mono (by decide))) (po_some (pv 10)) (po_some (pe_op op_add (pv 10) (pv 11)))) (pv 7) (nomark _))
          (pss_one (ps_ret pe_bl))
          pss_nil)
        (pss_one (ps_if (pt_cmpR op_gt (pe_op op_add (pv 10) (pv 11)) (pe_methP0 (pv 1) T.cl_Writer T.m_Writer_limit G_Writer_limit (hr.mono (by decide))) (nomark _))
          (pss_one (ps_ret pe_bl))
          pss_nil)))))
      (pss_cons (ps_set (i := 3) sc_law_lay_right.nd rfl (by first | exact Or.inl rfl | exact Or.inr rfl) (pe_op op_sub (pv 6) (pv 2)))
      (pss_one (ps_ret (pe_or (pe_cmpR (op_neNil hr.units) (pv 8) (pe_tup pa_nil) (nomark _)) (pe_one (pe_cmpR op_eq (pe_slice sl_str (pe_methP0 (pv 1) T.cl_Writer T.m_Writer_written G_Writer_written (hr.mono (by decide))) (po_some (pv 3)) (po_some (pe_op op_add (pv 3) (pe_callB call_len (by rfl) T.f_len (by decide +kernel) (pa_cons (pv 7) pa_nil))))) (pv 7) (nomark _))))))))), ?_⟩
    obtain ⟨dx, ho⟩ := hx.o
    have hW := hb.W
    have hsl := hs.1
    refine ⟨_, rfl, t, _, rfl, SqT.of ht, rfl, _, _, rfl, _, _, rfl, _, _, rfl, _, _, rfl, _, _, rfl, rfl, ?_⟩
    refine ⟨_, rfl, u, rfl, ⟨_, SqT.of hu2⟩, for_by (n := (if bare = true then ([] : List V) else [.ref e.la]).length) (fun i σ H2 => ∃ v9 v10 v11 v12, σ = [some (.ref t), some (.ref x.p), some (.int d.base), none, some (.str "signs"), some (tx d.name), some (.int (d.base + e.own)), some (tx e.l), some (.ref u), v9, v10, v11, v12] ∧ Same H H2) (fun i σ H2 h hi => ?_) (fun σ H2 h => ?_) ⟨none, none, none, none, rfl, Same.refl _⟩ ?_ ?_⟩
    · obtain ⟨_, _, _, _, _, s⟩ := h
      exact ⟨_, _, SqT.of (s _ _ hu2), List.getElem?_eq_getElem hi⟩
    · obtain ⟨_, _, _, _, _, s⟩ := h
      exact ⟨_, SqT.of (s _ _ hu2), Nat.le_refl _⟩
    · rintro i y σ H1 H2 hi ⟨v9, v10, v11, v12, rfl, s1⟩ ⟨rfl, hy⟩
      have ey := hy _ (SqT.of (s1 _ _ hu2))
      cases bare with
      | true => exact absurd hi (Nat.not_lt_zero _)
      | false =>
        have i0 : i = 0 := Nat.lt_one_iff.mp hi
        subst i0
        obtain rfl : V.ref e.la = y := Option.some.inj ey
        have he1 := s1 _ _ he.1
        have ho1 := s1 _ _ ho
        refine ⟨e.la, _, rfl, SqT.of he1, rfl, _, _, rfl, _, _, rfl, _, _, rfl, _, _, rfl, rfl, ?_⟩
        refine ⟨_, rfl, _, rfl, _, rfl, _, _, rfl, rfl, rfl, _, rfl, iffF (ne_int (by omega)) ?_⟩
        refine ⟨_, rfl, _, rfl, _, _, rfl, ⟨line5 (by rw [S_len]; omega), rfl⟩, rfl, _, rfl, iffF (ne_int (by rw [S_len])) ?_⟩
        refine ⟨_, rfl, _, rfl, e.l, rfl, hs.lets hb.lets, by omega, fun H3 s3 => ⟨rfl, _, rfl, iffF (ne_int rfl) ?_⟩⟩
        have s13 := s1.trans s3
        have ho3 := s13 _ _ ho
        refine ⟨_, rfl, _, _, _, rfl, ho3, noWriter_written (x), x, rfl, hx.same s13, _, rfl, _, rfl, _, rfl, _, rfl, _, _, rfl, rfl, _, rfl, _, rfl, line5 (by rw [S_len]; omega), _, rfl, ?_⟩
        rw [show ((e.first : Int) + ((e.l.length : Nat) : Int)) = ((e.first + e.l.length : Nat) : Int) by omega, cut_both, show e.first + e.l.length - e.first = e.l.length by omega, ← hs.2]
        refine ⟨rfl, _, rfl, iffF (ne_tx rfl) ?_⟩
        refine ⟨_, rfl, _, rfl, _, _, rfl, rfl, _, rfl, _, _, _, rfl, ho3, noWriter_limit (x), x, rfl, hx.same s13, _, _, rfl, rfl, _, rfl, ?_⟩
        refine iffF (decide_eq_false (by omega)) ?_
        exact ⟨_, _, _, _, rfl, s13⟩
    · rintro σ H1 ⟨v9, v10, v11, v12, rfl, s1⟩
      have hu1 := s1 _ _ hu2
      have he1 := s1 _ _ he.1
      have ho1 := s1 _ _ ho
      refine ⟨_, rfl, _, rfl, _, _, rfl, rfl, ?_⟩
      refine ⟨_, rfl, line5 (by decide), fun z hz => ?_⟩
      have s2 : Same H1 (upd H1 z (.tup [])) := Same.upd hz
      refine ⟨u, z, _, rfl, rfl, .inr ⟨SqT.of (s2 _ _ hu1), SqT.of upd_same⟩, fun v hv => ?_, ?_⟩
      · cases bare with
        | true => cases hv
        | false =>
          rw [List.mem_singleton.mp hv]
          refine Fl.tup (SqT.of (s2 _ _ he1)) fun v2 hv2 => ?_
          have hv3 : v2 = .int e.own ∨ v2 = .int e.first ∨ v2 = .int (e.l.length : Nat) ∨ v2 = .int (wsum e.l) := by simpa using hv2
          rcases hv3 with rfl | rfl | rfl | rfl
          all_goals exact .inl ⟨_, rfl⟩
      · cases bare with
        | false => exact ⟨true, rfl, ift (by rfl) (k _ (s1.trans s2))⟩
        | true =>
          have s12 := s1.trans s2
          have ho2 := s12 _ _ ho
          refine ⟨false, rfl, iffF (by rfl) ?_⟩
          have eo := hbare rfl
          refine ⟨_, rfl, _, _, _, rfl, ho2, noWriter_written (x), x, rfl, hx.same s12, _, rfl, _, rfl, _, rfl, _, rfl, _, _, rfl, ⟨line5 (by rw [S_len]; omega), rfl⟩, _, _, rfl, rfl, _, rfl, _, rfl, line5 (by rw [S_len]; omega), _, rfl, ?_⟩
          rw [S_len, show (d.base + (e.own : Int) - d.base + ((e.l.length : Nat) : Int)) = ((e.first + e.l.length : Nat) : Int) by omega, show (d.base + (e.own : Int) - d.base) = ((e.first : Nat) : Int) by omega, cut_both, show e.first + e.l.length - e.first = e.l.length by omega, ← hs.2]
          refine ⟨rfl, ?_⟩
          rw [decide_eq_true rfl]
          exact k _ s12
end

/-! ### letter_right */ -/
theorem name_inj {rs : List Rw} (nd : (rs.map (·.name)).Nodup) {d d2 : Rw} (h : d ∈ rs) (h2 : d2 ∈ rs) (e : d2.name = d.name) : d2 = d := by
  induction rs with
  | nil => cases h
  | cons r rs ih =>
    rw [List.map_cons] at nd
    obtain ⟨n1, n2⟩ := List.nodup_cons.mp nd
    rcases List.mem_cons.mp h with h3 | h3
    · rcases List.mem_cons.mp h2 with h4 | h4
      · rw [h3, h4]
      · exact absurd (List.mem_map.mpr ⟨d2, h4, by rw [e, h3]⟩) n1
    · rcases List.mem_cons.mp h2 with h4 | h4
      · exact absurd (List.mem_map.mpr ⟨d, h3, by rw [← e, h4]⟩) n1
      · exact ih n2 h3 h4
theorem and_go {c : Bool} {A B : Prop} (hA : c = true → B → A) (hB : B) : if c = true then A else B := by
  cases c with
  | true => exact ift rfl (hA rfl hB)
  | false => exact iffF rfl hB
theorem elimF {A B : Prop} [inst : Decidable (false = true)] (h : @ite _ (false = true) inst A B) : B := by rwa [if_neg (by intro z; cases z)] at h
def SgOk (x : Wr) (sg : List (List Key × V)) : Prop := ∀ k v, valV sg k = some v → ∃ d ∈ x.roads, ∃ j c : Nat, k = [.inr (S d.name), .inl (d.base + (j : Nat))] ∧ d.txt[j]? = some c ∧ v = .str ⟨#[c]⟩
theorem SgOk.put {x : Wr} {sg : List (List Key × V)} (h : SgOk x sg) {d : Rw} (hd : d ∈ x.roads) {j c : Nat} (hc : d.txt[j]? = some c) : SgOk x (putK sg [.inr (S d.name), .inl (d.base + (j : Nat))] (.str ⟨#[c]⟩)) := by
  intro k v hv
  rw [valV_put] at hv
  by_cases e : k = [.inr (S d.name), .inl (d.base + (j : Nat))]
  · rw [if_pos e] at hv
    exact ⟨d, hd, j, c, e, hc, (Option.some.inj hv).symm⟩
  · rw [if_neg e] at hv
    exact h k v hv
section
variable {P : Program} {w : World} {K : PySem.W.Frag} {mg : Str → Option Value} {base : Heap}
def sp_law_letter_right (K : PySem.W.Frag) : Sp := fun vs H Q _ => ∃ (x : Wr) (y : Seen) (d : Rw) (e : Ent) (t : Addr) (n M : Nat), vs = [.ref t, .ref x.p, .ref y.sd] ∧ WrH K H x ∧ WI n x ∧ n ≤ 1000 ∧ SeenAt H y ∧ SI x y ∧ Sz M y ∧ M ≤ 1000000 ∧ d ∈ x.roads ∧ d.st ≠ "gone" ∧ e ∈ d.ents ∧
  LetH H t d e (decide (x.mode = "plain")) ∧ (∀ c ∈ sadr y, c ∉ x.la :: foot x) ∧ (sadr y).Nodup ∧
  ∀ (sg : List (List Key × V)) (ld : List (Key × V)) (H' : Hp), SeenAt H' { y with signs := sg, laid := ld } → SI x { y with signs := sg, laid := ld } → Sz (M + 24) { y with signs := sg, laid := ld } → Fr [y.g, y.l] H H' → Q (.bl true) H'
theorem sc_law_letter_right : FnScope ["_law_letter", "_law_writer", "_law_seen", "_law_base", "_law_end", "_law_word", "_law_name", "_law_number", "_law_text_here", "_law_lays", "_law_at", "_law_sign"] ["_law_letter", "_law_writer", "_law_seen"] (defScope s_law_letter_right) := ⟨rfl, rfl, rfl, by decide +kernel, rfl, by decide +kernel, by decide +kernel⟩
theorem ok_law_letter_right (T : TX P w K mg base) : PR P w K mg base 3 (He.ga K "_law_letter_right") ["_law_letter", "_law_writer", "_law_seen"] (sp_law_letter_right K) := by
  have G_Writer_mode := ok_Writer_mode T
  have G_law_lay_right := ok_law_lay_right T
  refine T.prom d_law_letter_right (List.mem_of_getElem? (i := 62) (by rfl)) ⟨rfl, rfl⟩ sc_law_letter_right (fun vs H Q E h => ?_) (fun _ _ _ _ _ _ us hl => match us, hl with | [_, _, _], _ => rfl) (fun cdv A outer s H vs Q E hr h => ?_)
  · obtain ⟨_, _, _, _, _, _, _, rfl, _⟩ := h
    rfl
  · have hu := hu_of hr
    obtain ⟨x, y, d, e, t, n, M, rfl, hx, hI, hn, hy, hS, hz, hM, hd, hg, he, ⟨u, ht, hu2⟩, hsep, hnd, k⟩ := h
    refine ⟨_, (pss_cons (ps_asg (pv 0) (pg_tup rfl (pgs_cons (pg_name (i := 5) sc_law_letter_right.nd rfl (by first | exact Or.inl rfl | exact Or.inr rfl)) (pgs_cons (pg_name (i := 6) sc_law_letter_right.nd rfl (by first | exact Or.inl rfl | exact Or.inr rfl)) (pgs_cons (pg_name (i := 7) sc_law_letter_right.nd rfl (by first | exact Or.inl rfl | exact Or.inr rfl)) (pgs_cons (pg_name (i := 8) sc_law_letter_right.nd rfl (by first | exact Or.inl rfl | exact Or.inr rfl)) (pgs_cons (pg_name (i := 9) sc_law_letter_right.nd rfl (by first | exact Or.inl rfl | exact Or.inr rfl)) pgs_nil)))))))
      (pss_cons (ps_set (i := 3) sc_law_letter_right.nd rfl (by first | exact Or.inl rfl | exact Or.inr rfl) (pe_dget hu (pe_dget hu (pv 2) pe_str (fun _ _ => rfl)) (pv 6) (fun _ _ => rfl)))
      (pss_cons (ps_if (PW.pt (pw_and (pt_cmpR op_ne (pe_methP0 (pv 1) T.cl_Writer T.m_Writer_mode G_Writer_mode (hr.mono (by decide))) pe_str (nomark _)) (pw_and1 (pt_cmpR op_ne (pv 6) pe_str (nomark _)))))
        (pss_one (ps_ret pe_bl))
        pss_nil)
      (pss_cons (ps_if (PW.pt (pw_and (pt_cmpR (op_eqNil hr.units) (pv 9) (pe_tup pa_nil) (nomark _)) (pw_and1 (pt_cmpR op_ne (pe_methP0 (pv 1) T.cl_Writer T.m_Writer_mode G_Writer_mode (hr.mono (by decide))) pe_str (nomark _)))))
        (pss_one (ps_ret pe_bl))
        pss_nil)
      (pss_cons (ps_if (PW.pt (pw_and (pt_cmpR op_eq (pe_methP0 (pv 1) T.cl_Writer T.m_Writer_mode G_Writer_mode (hr.mono (by decide))) pe_str (nomark _)) (pw_and1 (pt_cmpR op_ne (pe_ix ix_tup (pe_ix ix_tup (pv 9) pe_int (fun _ _ => rfl)) pe_int (fun _ _ => rfl)) (pe_ix ix_tup (pe_ix ix_tup (pv 9) pe_int (fun _ _ => rfl)) pe_int (fun _ _ => rfl)) (nomark _)))))
        (pss_one (ps_ret pe_bl))
        pss_nil)
      (pss_cons (ps_if (pt_not (pt_val (pe_callP G_law_lay_right (hr.mono (by decide)) rfl T.g_law_lay_right (pa_cons (pv 0) (pa_cons (pv 1) (pa_cons (pv 3) pa_nil))))))
        (pss_one (ps_ret pe_bl))
        pss_nil)
      (pss_cons (ps_for PassesOwn.never rfl (pi_enumS (by rfl) T.f_enumerate (pa_cons (pv 8) pa_nil)) (pg_tup rfl (pgs_cons (pg_name (i := 10) sc_law_letter_right.nd rfl (by first | exact Or.inl rfl | exact Or.inr rfl)) (pgs_cons (pg_name (i := 11) sc_law_letter_right.nd rfl (by first | exact Or.inl rfl | exact Or.inr rfl)) pgs_nil)))
        (pss_one (ps_if (pt_cmpR op_ne (pe_dsetdT hu (pe_dget hu (pv 2) pe_str (fun _ _ => rfl)) (pe_tup (pa_cons (pv 6) (pa_cons (pe_op op_add (pv 7) (pv 10)) pa_nil))) (pv 11) ⟨rfl, rfl, rfl, rfl⟩) (pv 11) (nomark _))
          (pss_one (ps_ret pe_bl))
          pss_nil)))
      (pss_cons (ps_set (i := 4) sc_law_letter_right.nd rfl (by first | exact Or.inl rfl | exact Or.inr rfl) (pe_op op_add (pe_op op_sub (pv 7) (pv 3)) (pe_callB call_len (by rfl) T.f_len (by decide +kernel) (pa_cons (pv 8) pa_nil))))
      (pss_cons (ps_dput hu (pe_dget hu (pv 2) pe_str (fun _ _ => rfl)) (pv 6) (pe_callB (call_max2 rfl) (by rfl) T.f_max (by decide +kernel) (pa_cons (pe_dget2 hu (pe_dget hu (pv 2) pe_str (fun _ _ => rfl)) (pv 6) pe_int ⟨rfl, rfl, rfl, rfl⟩) (pa_cons (pv 4) pa_nil))) rfl)
      (pss_one (ps_ret (pe_cmpR op_le (pe_op op_sub (pe_dget hu (pe_dget hu (pv 2) pe_str (fun _ _ => rfl)) (pv 6) (fun _ _ => rfl)) (pe_dget2 hu (pe_dget hu (pv 2) pe_str (fun _ _ => rfl)) (pv 6) pe_int ⟨rfl, rfl, rfl, rfl⟩)) (pe_gint rfl T.c_WINDOW) (nomark _))))))))))))), ?_⟩
    obtain ⟨dx, ho⟩ := hx.o
    have hb := hI.b hn
    have hE := (hx.rd d hd).w.en e he
    obtain ⟨hs1, hs2, hl8, hlim⟩ := hI.en d hd e he
    obtain ⟨hw0, hw1, hw2⟩ := hI.win d hd
    have hW := hb.W
    have hsl := hs1.1
    refine ⟨_, rfl, t, _, rfl, SqT.of ht, rfl, _, _, rfl, _, _, rfl, _, _, rfl, _, _, rfl, _, _, rfl, rfl, ?_⟩
    refine ⟨_, rfl, y.sd, .ref y.b, rfl, hy.get (sk_bases y), _, rfl, y.b, .int d.base, rfl, .inl ⟨y.bases, .inr (S d.name), .inl hy.b, rfl, (hS.bases1 d hd).symm⟩, ?_⟩
    -- the mode and the name
    refine ⟨_, rfl, _, _, _, rfl, ho, noWriter_mode (x), x, rfl, hx, rfl, _, rfl, ?_⟩
    have em : ∀ z : Str, decide (V.str x.mode = V.str z) = decide (x.mode = z) := fun z => by
      by_cases h : x.mode = z
      · rw [decide_eq_true h]; exact decide_eq_true (by rw [h])
      · rw [decide_eq_false h]; exact decide_eq_false fun q => h (V.str.inj q)
    have plain3 : x.mode ≠ "led" → d.name = [109] := fun h => hI.sole h d hd
    refine and_go (fun hc hN => ?a1) ?c1
    case a1 =>
      refine ⟨_, rfl, rfl, _, rfl, ?_⟩
      have hnl : x.mode ≠ "led" := fun z => by rw [z] at hc; revert hc; decide +kernel
      exact iffF (show (!decide (tx d.name = V.str "m")) = false by rw [plain3 hnl]; decide +kernel) (elimF hN)
    refine iffF (by rfl) ?_
    -- no records, then plain
    refine ⟨_, rfl, line5 (by decide), fun z hz0 => ?_⟩
    have s1 : Same H (upd H z (.tup [])) := Same.upd hz0
    have hz1 : (upd H z (.tup [])) z = some (.tup []) := upd_same
    generalize (upd H z (.tup [])) = H1 at s1 hz1 ⊢
    have ho1 := s1 _ _ ho
    have hu1 := s1 _ _ hu2
    have hE1 := s1 _ _ hE.1
    refine ⟨u, z, _, rfl, rfl, .inr ⟨SqT.of hu1, SqT.of hz1⟩, fun v hv => ?_, _, rfl, ?_⟩
    · split at hv
      · cases hv
      · rw [List.mem_singleton.mp hv]
        refine Fl.tup (SqT.of hE1) fun v2 hv2 => ?_
        have hv3 : v2 = .int e.own ∨ v2 = .int e.first ∨ v2 = .int (e.l.length : Nat) ∨ v2 = .int (wsum e.l) := by simpa using hv2
        rcases hv3 with rfl | rfl | rfl | rfl
        all_goals exact .inl ⟨_, rfl⟩
    refine and_go (fun hc hN => ?a2) ?c2
    case a2 =>
      have hpl : x.mode = "plain" := by
        cases hq : decide (x.mode = "plain") with
        | true => exact of_decide_eq_true hq
        | false =>
          rw [hq] at hc
          cases hc
      refine ⟨_, rfl, _, _, _, rfl, ho1, noWriter_mode (x), x, rfl, hx.same s1, rfl, _, rfl, ?_⟩
      exact iffF (show (!decide (V.str x.mode = V.str "plain")) = false by rw [hpl]; decide +kernel) (elimF hN)
    refine iffF (by rfl) ?_
    -- mode none
    refine ⟨_, rfl, _, _, _, rfl, ho1, noWriter_mode (x), x, rfl, hx.same s1, rfl, _, rfl, ?_⟩
    refine and_go (fun hc hN => ?a3) ?c3
    case a3 =>
      rw [em] at hc
      have h0 := of_decide_eq_true hc
      have hu3 : H1 u = some (.tup [.ref e.la]) := by
        rw [hu1, h0]
        rfl
      have eo := (hI.straight (by rw [h0]; decide +kernel) d hd).1 e he
      exact ⟨_, rfl, u, _, 0, .ref e.la, rfl, rfl, SqT.of hu3, rfl, e.la, _, 0, .int e.own, rfl, rfl, SqT.of hE1, rfl, _, rfl, u, _, 0, .ref e.la, rfl, rfl, SqT.of hu3, rfl, e.la, _, 1, .int e.first, rfl, rfl, SqT.of hE1, rfl, rfl, _, rfl, iffF (ne_int (by rw [eo])) (elimF hN)⟩
    refine iffF (by rfl) ?_
    -- lay_right
    refine ⟨_, rfl, _, rfl, _, rfl, x, d, e, t, decide (x.mode = "plain"), rfl, hx.same s1, hb, ⟨u, s1 _ _ ht, hu1⟩, hE.fr (Fr.of [] s1), hs1, hlim, fun hp => ?_, fun H2 s2 => ⟨_, rfl, iffF (by rfl) ?_⟩⟩
    · have hpl := of_decide_eq_true hp
      exact (hI.straight (by rw [hpl]; decide +kernel) d hd).1 e he
    have s12 := s1.trans s2
    have hy2 := hy.fr (Fr.of [] s12) (by simp)
    have hga : y.g ≠ y.sd ∧ y.g ≠ y.l ∧ y.g ≠ y.s ∧ y.l ≠ y.sd ∧ y.l ≠ y.s ∧ y.g ≠ y.b ∧ y.l ≠ y.b := by
      unfold sadr at hnd
      simp at hnd
      obtain ⟨⟨a1, a2, a3, a4⟩, ⟨b1, b2, b3⟩, ⟨c1, c2⟩, d1⟩ := hnd
      exact ⟨fun z => a2 z.symm, c1, c2, fun z => a3 z.symm, d1, fun z => b1 z.symm, fun z => b2 z.symm⟩
    obtain ⟨ga1, ga2, ga3, ga4, ga5, ga6, ga7⟩ := hga
    -- the signs
    refine ⟨_, rfl, S e.l, rfl, for_by (n := e.l.length) (fun i σ H3 => ∃ v10 v11 sg, σ = [some (.ref t), some (.ref x.p), some (.ref y.sd), some (.int d.base), none, some (.str "signs"), some (tx d.name), some (.int (d.base + e.own)), some (tx e.l), some (.ref u), v10, v11] ∧ Fr [y.g] H2 H3 ∧ H3 y.g = some (.dT sg) ∧ SgOk x sg ∧ sg.length ≤ M + i) (fun i σ H3 h hi => ?_) (fun σ H3 h => ?_) ⟨none, none, y.signs, rfl, Fr.refl _ _, hy2.g, hS.signs, hz.g⟩ ?_ ?_⟩
    · show i < (S e.l).cps.size
      rw [size_S]; exact hi
    · show (S e.l).cps.size ≤ e.l.length
      rw [size_S]; exact Nat.le_refl _
    · rintro i q σ H3 H4 hi ⟨v10, v11, sg, rfl, f3, hg3, hsg, hsz⟩ ⟨z4, c, rfl, hz4, rfl, hc⟩
      rw [get_S] at hc
      have s4 := Same.upd (o := .tup [.int (0 + (i : Nat)), .str ⟨#[c]⟩]) hz4
      have hg4 := s4 _ _ hg3
      have f4 := f3.trans (Fr.of _ s4)
      have hsd4 := f4.at (by simpa using ga1.symm) hy2.sd
      refine ⟨z4, _, rfl, SqT.of upd_same, rfl, _, _, rfl, _, _, rfl, rfl, ?_⟩
      have hct : d.txt[e.own + i]? = some c := by rw [← hs2.get hi]; exact hc
      refine ⟨_, rfl, y.sd, .ref y.g, rfl, .inl ⟨seenK y, .inr ("signs" : Str), .inl hsd4, rfl, (sk_signs y).symm⟩, y.g, rfl, .inr ⟨_, .inl hg4⟩, _, rfl, _, rfl, _, rfl, _, _, rfl, rfl, line5 (by show 2 ≤ _; decide), fun kb hkb => ?_⟩
      have ekey : (.int (d.base + (e.own : Int) + (0 + (i : Int))) : V) = .int (d.base + ((e.own + i : Nat) : Int)) := by congr 1; omega
      have hg5 := Same.upd (o := .tup [tx d.name, .int (d.base + (e.own : Int) + (0 + (i : Int)))]) hkb _ _ hg4
      have f5 := f4.trans (Fr.of _ (Same.upd (o := .tup [tx d.name, .int (d.base + (e.own : Int) + (0 + (i : Int)))]) hkb))
      refine ⟨_, rfl, sg, [.inr (S d.name), .inl (d.base + ((e.own + i : Nat) : Int))], kb, hg5, rfl, ?_, (by rw [sizeLine_eq]; omega), fun v hv => ?_, fun hnone => ?_⟩
      · rw [upd_same]
        show some (HO.tup [tx d.name, .int _]) = some (HO.tup [kV (.inr (S d.name)), kV (.inl _)])
        rw [ekey]
        rfl
      · obtain ⟨d2, hd2, j, c2, ek, hc2, rfl⟩ := hsg _ _ hv
        have e1 : S d.name = S d2.name := by
          have := (List.cons.inj ek).1
          exact Sum.inr.inj this
        have e2 : d.base + ((e.own + i : Nat) : Int) = d2.base + (j : Nat) := by
          have := (List.cons.inj (List.cons.inj ek).2).1
          exact Sum.inl.inj this
        have ed := name_inj hI.nd hd hd2 (S_inj e1).symm
        subst ed
        have ej : j = e.own + i := by omega
        rw [ej, hct] at hc2
        obtain rfl := Option.some.inj hc2
        refine ⟨_, rfl, rfl, _, rfl, iffF ?_ ⟨_, _, sg, rfl, f5, hg5, hsg, by omega⟩⟩
        show (!decide (V.str ⟨#[c]⟩ = V.str ⟨#[c]⟩)) = false
        rw [decide_eq_true rfl]
        rfl
      · refine ⟨_, rfl, rfl, _, rfl, iffF ?_ ⟨_, _, _, rfl, f5.trans (Fr.putT (by simp) hg5), upd_same, hsg.put hd hct, ?_⟩⟩
        · show (!decide (V.str ⟨#[c]⟩ = V.str ⟨#[c]⟩)) = false
          rw [decide_eq_true rfl]
          rfl
        · have := length_putK sg [.inr (S d.name), .inl (d.base + ((e.own + i : Nat) : Int))] (.str ⟨#[c]⟩)
          omega
    · rintro σ H3 ⟨v10, v11, sg, rfl, f3, hg3, hsg, hsz⟩
      have hsd3 := f3.at (by simpa using ga1.symm) hy2.sd
      have hl3 := f3.at (by simpa using ga2.symm) hy2.l
      have hss3 := f3.at (by simpa using ga3.symm) hy2.s
      have hb3 := f3.at (by simpa using ga6.symm) hy2.b
      have getS : ∀ {k : Str} {v : V}, valV (seenK y) (.inr k) = some v → DGet H3 y.sd (.str k) (some v) := fun e => .inl ⟨seenK y, .inr _, .inl hsd3, rfl, e.symm⟩
      refine ⟨_, rfl, _, rfl, _, _, rfl, rfl, _, rfl, _, _, rfl, ⟨line5 (by rw [S_len]; omega), rfl⟩, _, _, rfl, rfl, ?_⟩
      have eend : (d.base + (e.own : Int) - d.base + (((S e.l).length : Nat) : Int)) = ((e.own + e.l.length : Nat) : Int) := by rw [S_len]; omega
      simp only [eend]
      obtain ⟨il, hil, hil0⟩ := hS.laid1 (S d.name)
      have hil' : (valV y.laid (.inr (S d.name))).getD (.int 0) = .int il := hil
      have hil2 := hS.laid2 d hd il hil
      refine ⟨_, rfl, y.sd, .ref y.l, rfl, getS (sk_laid y), y.l, rfl, IsD.of hl3, _, rfl, _, DGet.of hl3, ?_⟩
      rw [hil']
      refine ⟨_, rfl, _, _, rfl, ?_⟩
      have hmx : (if ((e.own + e.l.length : Nat) : Int) > il then ((e.own + e.l.length : Nat) : Int) else il) ≤ d.laid ∧ 0 ≤ (if ((e.own + e.l.length : Nat) : Int) > il then ((e.own + e.l.length : Nat) : Int) else il) := by
        have := hs2.1
        unfold Rw.laid at hil2 ⊢
        split <;> omega
      generalize (if ((e.own + e.l.length : Nat) : Int) > il then ((e.own + e.l.length : Nat) : Int) else il) = mx at hmx ⊢
      have hll : y.laid.length < sizeLine := by rw [sizeLine_eq]; have := hz.l; omega
      refine ⟨_, rfl, y.sd, .ref y.l, rfl, getS (sk_laid y), _, rfl, y.l, _, rfl, .k (k := .inr (S d.name)) hl3 hll, ?_⟩
      have fL : Fr [y.l] H3 (upd H3 y.l (.dK (putK y.laid (.inr (S d.name)) (.int mx)))) := Fr.putD (by simp) hl3
      have hsd4 := fL.at (by simpa using ga4.symm) hsd3
      have hg4 := fL.at (by simpa using ga2) hg3
      have hs4 := fL.at (by simpa using ga5.symm) hss3
      have hb4 := fL.at (by simpa using ga7.symm) hb3
      have hl4 : (upd H3 y.l (.dK (putK y.laid (.inr (S d.name)) (.int mx)))) y.l = some (.dK (putK y.laid (.inr (S d.name)) (.int mx))) := upd_same
      generalize (upd H3 y.l (.dK (putK y.laid (.inr (S d.name)) (.int mx)))) = H4 at fL hsd4 hg4 hs4 hb4 hl4 ⊢
      have getS4 : ∀ {k : Str} {v : V}, valV (seenK y) (.inr k) = some v → DGet H4 y.sd (.str k) (some v) := fun e => .inl ⟨seenK y, .inr _, .inl hsd4, rfl, e.symm⟩
      obtain ⟨js, hjs, hjs0⟩ := hS.sure1 (S d.name)
      have hjs' : (valV y.sure (.inr (S d.name))).getD (.int 0) = .int js := hjs
      have hjs2 := hS.sure2 d hd hg js hjs
      have hput : some (V.int mx) = valV (putK y.laid (.inr (S d.name)) (.int mx)) (.inr (S d.name)) := by rw [valV_put, if_pos rfl]
      refine ⟨_, rfl, y.sd, .ref y.l, rfl, getS4 (sk_laid y), _, rfl, y.l, .int mx, rfl, .inl ⟨_, .inr (S d.name), .inl hl4, rfl, hput⟩, _, rfl, y.sd, .ref y.s, rfl, getS4 (sk_sure y), y.s, rfl, IsD.of hs4, _, rfl, _, DGet.of hs4, ?_⟩
      rw [hjs']
      refine ⟨_, _, rfl, rfl, _, _, rfl, rfl, ?_⟩
      show Q (V.bl (decide (mx - js ≤ 24))) H4
      rw [decide_eq_true (show mx - js ≤ 24 by omega)]
      refine k sg (putK y.laid (.inr (S d.name)) (.int mx)) H4 ⟨hsd4, hb4, hg4, hl4, hs4⟩ ⟨hS.bases1, hS.bases2, hS.mode, fun z => ?_, fun d2 hd2 i hi => ?_, fun z hzz => ?_, hS.sure1, hS.sure2, hsg⟩ ⟨Nat.le_trans hz.b (by omega), by show sg.length ≤ _; omega, ?_, Nat.le_trans hz.s (by omega)⟩ ?_
      · show ∃ i, num (putK y.laid (.inr (S d.name)) (.int mx)) z = .int i ∧ 0 ≤ i
        rw [num_put]
        split
        · exact ⟨mx, rfl, hmx.2⟩
        · exact hS.laid1 z
      · have hi2 : num (putK y.laid (.inr (S d.name)) (.int mx)) (S d2.name) = .int i := hi
        rw [num_put] at hi2
        split at hi2
        · rename_i h9
          have ed := name_inj hI.nd hd hd2 (S_inj h9)
          subst ed
          have := V.int.inj hi2
          omega
        · exact hS.laid2 d2 hd2 i hi2
      · show num (putK y.laid (.inr (S d.name)) (.int mx)) z = .int 0
        rw [num_put, if_neg (hzz d hd)]
        exact hS.laid3 z hzz
      · show (putK y.laid (.inr (S d.name)) (.int mx)).length ≤ _
        have := length_putK y.laid (.inr (S d.name)) (.int mx)
        have := hz.l
        omega
      · exact ((Fr.of _ s12).trans (f3.mono (by simp))).trans (fL.mono (by simp))
end

/-! ### what the law has seen, deed by deed -/
theorem SI.rel {x x' : Wr} {y : Seen} (h : SI x y) (g1 : ∀ d ∈ x.roads, ∃ d' ∈ x'.roads, d'.name = d.name ∧ d'.base = d.base ∧ ∀ j c : Nat, d.txt[j]? = some c → d'.txt[j]? = some c)
    (g2 : ∀ d' ∈ x'.roads, ∃ d ∈ x.roads, d'.name = d.name ∧ d'.base = d.base ∧ d.laid ≤ d'.laid ∧ (d'.st ≠ "gone" → d.st ≠ "gone" ∧ d'.sure ≤ d.sure)) : SI x' y := by
  refine ⟨fun d hd => ?_, fun z v hv => ?_, h.mode, h.laid1, fun d hd i hi => ?_, fun z hz => h.laid3 z fun d hd => ?_, h.sure1, fun d hd hg i hi => ?_, fun k v hv => ?_⟩
  · obtain ⟨d0, h0, e1, e2, _⟩ := g2 d hd
    rw [e1, e2]; exact h.bases1 d0 h0
  · obtain ⟨d0, h0, e⟩ := h.bases2 z v hv
    obtain ⟨d1, h1, e1, _⟩ := g1 d0 h0
    exact ⟨d1, h1, by rw [e, e1]⟩
  · obtain ⟨d0, h0, e1, _, e3, _⟩ := g2 d hd
    rw [e1] at hi
    exact Int.le_trans (h.laid2 d0 h0 i hi) e3
  · obtain ⟨d1, h1, e1, _⟩ := g1 d hd
    rw [← e1]; exact hz d1 h1
  · obtain ⟨d0, h0, e1, _, _, e4⟩ := g2 d hd
    rw [e1] at hi
    have := e4 hg
    exact Int.le_trans this.2 (h.sure2 d0 h0 this.1 i hi)
  · obtain ⟨d0, h0, j, c, ek, hc, ev⟩ := h.signs k v hv
    obtain ⟨d1, h1, e1, e2, e3⟩ := g1 d0 h0
    exact ⟨d1, h1, j, c, by rw [ek, e1, e2], e3 j c hc, ev⟩
theorem SI.mode' {x : Wr} {y : Seen} {m : Str} (h : SI x y) (hm : Mode m) : SI x { y with mode := m } := ⟨h.bases1, h.bases2, hm, h.laid1, h.laid2, h.laid3, h.sure1, h.sure2, h.signs⟩
theorem SI.other {x x' : Wr} {y : Seen} (h : SI x y) (e : x'.roads = x.roads) : SI x' y := h.rel (fun d hd => ⟨d, by rw [e]; exact hd, rfl, rfl, fun _ _ z => z⟩) fun d hd => ⟨d, by rw [← e]; exact hd, rfl, rfl, Int.le_refl _, fun z => ⟨z, Int.le_refl _⟩⟩
theorem SI.core {x : Wr} {y : Seen} (h : SI x y) {rs : List Rw} {la : Addr} {es : List Pc} (hc : rs.map RB.core = x.roads.map RB.core) : SI { x with roads := rs, la := la, anew := es } y := by
  refine h.rel (fun d hd => ?_) fun d hd => ?_
  · obtain ⟨d1, h1, ec⟩ := core_mem hc.symm hd
    obtain ⟨e1, e2, e3, e4, e5, e6, e7, e8, e9, e10, e11⟩ := core_eq ec.symm
    exact ⟨d1, h1, e1, e6, by rw [e7]; exact fun _ _ z => z⟩
  · obtain ⟨d1, h1, ec⟩ := core_mem hc hd
    obtain ⟨e1, e2, e3, e4, e5, e6, e7, e8, e9, e10, e11⟩ := core_eq ec
    exact ⟨d1, h1, e1, e6, by unfold Rw.laid; rw [e7]; exact Int.le_refl _, by rw [e10, e9]; exact fun z => ⟨z, Int.le_refl _⟩⟩
/-- one road changed -/
theorem SI.mid {x x' : Wr} {y : Seen} (h : SI x y) {a b : List Rw} {d d' : Rw} (e1 : x.roads = a ++ d :: b) (e2 : x'.roads = a ++ d' :: b) (n : d'.name = d.name) (bb : d'.base = d.base) (t : ∃ l, d'.txt = d.txt ++ l) (s : d'.st ≠ "gone" → d.st ≠ "gone" ∧ d'.sure ≤ d.sure) : SI x' y := by
  obtain ⟨l, et⟩ := t
  refine h.rel (fun d2 h2 => ?_) fun d2 h2 => ?_
  · rw [e1] at h2
    rw [e2]
    rcases mid_mem (d := d') h2 with h3 | h3
    · refine ⟨d', by simp, by rw [n, h3], by rw [bb, h3], fun j c hc => ?_⟩
      rw [h3] at hc
      rw [et, List.getElem?_append_left (getI hc)]
      exact hc
    · exact ⟨d2, h3, rfl, rfl, fun _ _ z => z⟩
  · rw [e2] at h2
    rw [e1]
    rcases mid_mem (d := d) h2 with h3 | h3
    · refine ⟨d, by simp, by rw [h3, n], by rw [h3, bb], ?_, by rw [h3]; exact s⟩
      rw [h3]
      unfold Rw.laid
      rw [et, List.length_append]
      omega
    · exact ⟨d2, h3, rfl, rfl, Int.le_refl _, fun z => ⟨z, Int.le_refl _⟩⟩
/-- a road begun, told by its letter -/
theorem SI.begin {x x' : Wr} {y : Seen} (h : SI x y) {d : Rw} (e : x'.roads = x.roads ++ [d]) (hn : ∀ d2 ∈ x.roads, d2.name ≠ d.name) (ht : d.txt = []) (hs : d.sure = 0) : SI x' { y with bases := putK y.bases (.inr (S d.name)) (.int d.base) } := by
  have hm : ∀ d2 ∈ x'.roads, d2 = d ∨ d2 ∈ x.roads := fun d2 h2 => by
    rw [e] at h2
    rcases List.mem_append.mp h2 with h2 | h2
    · exact .inr h2
    · exact .inl (List.mem_singleton.mp h2)
  have hu : ∀ d2 ∈ x.roads, d2 ∈ x'.roads := fun d2 h2 => by rw [e]; simp [h2]
  have hd : d ∈ x'.roads := by rw [e]; simp
  refine ⟨fun d2 h2 => ?_, fun z v hv => ?_, h.mode, h.laid1, fun d2 h2 i hi => ?_, fun z hz => h.laid3 z fun d2 h2 => hz d2 (hu d2 h2), h.sure1, fun d2 h2 hg i hi => ?_, fun k v hv => ?_⟩
  · show valV (putK _ _ _) _ = _
    rw [valV_put]
    rcases hm d2 h2 with rfl | h3
    · rw [if_pos rfl]
    · rw [if_neg fun q => hn d2 h3 (S_inj (Sum.inr.inj q))]
      exact h.bases1 d2 h3
  · have hv2 : valV (putK y.bases (.inr (S d.name)) (.int d.base)) (.inr z) = some v := hv
    rw [valV_put] at hv2
    by_cases q : (Sum.inr z : Key) = .inr (S d.name)
    · exact ⟨d, hd, Sum.inr.inj q⟩
    · rw [if_neg q] at hv2
      obtain ⟨d0, h0, e0⟩ := h.bases2 z v hv2
      exact ⟨d0, hu d0 h0, e0⟩
  · rcases hm d2 h2 with rfl | h3
    · have := h.laid3 (S d2.name) fun d3 h3 q => hn d3 h3 (S_inj q).symm
      have hi2 : num y.laid (S d2.name) = .int i := hi
      rw [this] at hi2
      have := V.int.inj hi2
      unfold Rw.laid
      omega
    · exact h.laid2 d2 h3 i hi
  · rcases hm d2 h2 with rfl | h3
    · obtain ⟨j, hj, hj0⟩ := h.sure1 (S d2.name)
      have hi2 : num y.sure (S d2.name) = .int i := hi
      rw [hj] at hi2
      have := V.int.inj hi2
      rw [hs]
      omega
    · exact h.sure2 d2 h3 hg i hi
  · obtain ⟨d0, h0, r⟩ := h.signs k v hv
    exact ⟨d0, hu d0 h0, r⟩
/-- a join told anew of a road that is known -/
theorem SI.join {x : Wr} {y : Seen} (h : SI x y) {d : Rw} (hd : d ∈ x.roads) : SI x { y with bases := putK y.bases (.inr (S d.name)) (.int d.base) } := by
  refine ⟨fun d2 h2 => ?_, fun z v hv => ?_, h.mode, h.laid1, h.laid2, h.laid3, h.sure1, h.sure2, h.signs⟩
  · show valV (putK _ _ _) _ = _
    rw [valV_put]
    by_cases q : (Sum.inr (S d2.name) : Key) = .inr (S d.name)
    · rw [if_pos q]
      have e1 := h.bases1 d hd
      have e2 := h.bases1 d2 h2
      rw [Sum.inr.inj q, e1] at e2
      exact e2
    · rw [if_neg q]
      exact h.bases1 d2 h2
  · have hv2 : valV (putK y.bases (.inr (S d.name)) (.int d.base)) (.inr z) = some v := hv
    rw [valV_put] at hv2
    by_cases q : (Sum.inr z : Key) = .inr (S d.name)
    · exact ⟨d, hd, Sum.inr.inj q⟩
    · rw [if_neg q] at hv2
      exact h.bases2 z v hv2
theorem SI.sure' {x x' : Wr} {y : Seen} (h : SI x y) {a b : List Rw} {d d' : Rw} {own mx js : Int} (e1 : x.roads = a ++ d :: b) (e2 : x'.roads = a ++ d' :: b) (nd : (x.roads.map (·.name)).Nodup) (hr : SureR d d' own) (hg : d.st ≠ "gone") (hj : num y.sure (S d.name) = .int js) (m1 : js ≤ mx) (m2 : own ≤ mx) (m0 : 0 ≤ mx) :
    SI x' { y with sure := putK y.sure (.inr (S d.name)) (.int mx) } := by
  obtain ⟨s, ag, pu, rfl, hs⟩ : ∃ s ag pu, d' = { d with st := "up", sure := s, age := ag, put := pu } ∧ (s = d.sure ∨ (s = own ∧ d.sure < own ∧ own ≤ d.laid)) := by
    rcases hr with ⟨z, _⟩ | ⟨_, z⟩
    · exact absurd z hg
    · exact z
  have hd : d ∈ x.roads := by rw [e1]; simp
  have hjs := h.sure2 d hd hg js hj
  -- all but sure as one road changed, its sure put back
  have base : SI { x' with roads := a ++ { d with st := "up" } :: b } y := h.mid (d' := { d with st := "up" }) e1 rfl rfl rfl ⟨[], (List.append_nil _).symm⟩ fun _ => ⟨hg, Int.le_refl _⟩
  have hm : ∀ d2 ∈ x'.roads, d2 = { d with st := "up", sure := s, age := ag, put := pu } ∨ d2 ∈ x.roads := fun d2 h2 => by
    rw [e2] at h2
    rw [e1]
    exact mid_mem h2
  have step : SI x' { y with sure := putK y.sure (.inr (S d.name)) (.int mx) } := by
    have b2 : ∀ d2 ∈ a ++ { d with st := "up" } :: b, ∃ d3 ∈ x'.roads, d3.name = d2.name ∧ d3.base = d2.base ∧ d3.txt = d2.txt := fun d2 h2 => by
      rw [e2]
      rcases mid_mem (d := { d with st := "up", sure := s, age := ag, put := pu }) h2 with h3 | h3
      · exact ⟨{ d with st := "up", sure := s, age := ag, put := pu }, by simp, by rw [h3], by rw [h3], by rw [h3]⟩
      · exact ⟨d2, h3, rfl, rfl, rfl⟩
    refine ⟨fun d2 h2 => ?_, fun z v hv => ?_, h.mode, h.laid1, fun d2 h2 i hi => ?_, fun z hz => h.laid3 z fun d2 h2 => ?_, fun z => ?_, fun d2 h2 hg2 i hi => ?_, fun k v hv => ?_⟩
    · rcases hm d2 h2 with rfl | h3
      · exact h.bases1 d hd
      · exact h.bases1 d2 h3
    · obtain ⟨d0, h0, e0⟩ := base.bases2 z v hv
      obtain ⟨d3, h3, g1, _⟩ := b2 d0 h0
      exact ⟨d3, h3, by rw [e0, g1]⟩
    · rcases hm d2 h2 with rfl | h3
      · exact h.laid2 d hd i hi
      · exact h.laid2 d2 h3 i hi
    · rw [e1] at h2
      rcases mid_mem (d := { d with st := "up", sure := s, age := ag, put := pu }) h2 with h3 | h3
      · rw [h3]
        have := hz { d with st := "up", sure := s, age := ag, put := pu } (by rw [e2]; simp)
        exact this
      · exact hz d2 (by rw [e2]; exact h3)
    · show ∃ i, num (putK y.sure (.inr (S d.name)) (.int mx)) z = .int i ∧ 0 ≤ i
      rw [num_put]
      split
      · exact ⟨mx, rfl, m0⟩
      · exact h.sure1 z
    · have hi2 : num (putK y.sure (.inr (S d.name)) (.int mx)) (S d2.name) = .int i := hi
      rw [num_put] at hi2
      rcases hm d2 h2 with rfl | h3
      · rw [if_pos rfl] at hi2
        have := V.int.inj hi2
        show s ≤ i
        rcases hs with rfl | ⟨rfl, _, _⟩ <;> omega
      · split at hi2
        · rename_i q
          have ed := name_inj nd hd h3 (S_inj q)
          subst ed
          have := V.int.inj hi2
          omega
        · exact h.sure2 d2 h3 hg2 i hi2
    · obtain ⟨d0, h0, j, c, ek, hc, ev⟩ := base.signs k v hv
      obtain ⟨d3, h3, g1, g2, g3⟩ := b2 d0 h0
      exact ⟨d3, h3, j, c, by rw [ek, g1, g2], by rw [g3]; exact hc, ev⟩
  exact step
/-- states by name -/
theorem stK_some {rs : List Rw} (nd : (rs.map (·.name)).Nodup) {d : Rw} (h : d ∈ rs) : valV (rs.map fun d => ((.inr (S d.name) : Key), V.str d.st)) (.inr (S d.name)) = some (.str d.st) := by
  have nk : ((rs.map fun d => ((.inr (S d.name) : Key), V.str d.st)).map (·.1)).Nodup := by
    have e : (rs.map fun d => ((.inr (S d.name) : Key), V.str d.st)).map (·.1) = (rs.map (·.name)).map fun n => (Sum.inr (S n) : Key) := by
      rw [List.map_map, List.map_map]
      rfl
    rw [e]
    exact List.Pairwise.map _ (fun a b hab z => hab (S_inj (Sum.inr.inj z))) nd
  exact val_nodup nk (.inr (S d.name), .str d.st) (List.mem_map.mpr ⟨d, h, rfl⟩)
theorem stK_get {rs : List Rw} {n : List Nat} {v : V} (h : valV (rs.map fun d => ((.inr (S d.name) : Key), V.str d.st)) (.inr (S n)) = some v) : ∃ d ∈ rs, d.name = n := by
  have h1 := valV_in h
  rw [List.map_map] at h1
  obtain ⟨d, hd, ez⟩ := List.mem_map.mp h1
  exact ⟨d, hd, S_inj (Sum.inr.inj ez)⟩
/-! ### places apart -/
theorem PT_foot {K : PySem.W.Frag} {H : Hp} {x : Wr} (hT : TabsB K H) (hx : WrH K H x) : PT K ∉ foot x ∧ PT K ≠ x.la := by
  obtain ⟨ps, hps⟩ := hT.tbl
  obtain ⟨dx, ho⟩ := hx.o
  refine ⟨fun hp => ?_, ne_of hps hx.la (fun z => nomatch z)⟩
  unfold foot at hp
  rcases List.mem_cons.mp hp with z | hp
  · exact ne_of hps ho (fun z => nomatch z) z
  · rcases List.mem_cons.mp hp with z | hp
    · exact ne_of hps hx.dr (fun z => nomatch z) z
    · obtain ⟨d, hd, hc⟩ := List.mem_flatMap.mp hp
      have hr := hx.rd d hd
      obtain ⟨d1, o1⟩ := hr.r
      obtain ⟨d2, o2⟩ := hr.w.o
      have hc2 : PT K = d.r ∨ PT K = d.wy ∨ PT K = d.la ∨ PT K = d.pa := by simpa [rf] using hc
      rcases hc2 with z | z | z | z
      · exact ne_of hps o1 (fun z => nomatch z) z
      · exact ne_of hps o2 (fun z => nomatch z) z
      · exact ne_of hps hr.w.ls (fun z => nomatch z) z
      · exact ne_of hps hr.w.ps (fun z => nomatch z) z
theorem pool_la {K : PySem.W.Frag} {H : Hp} {x : Wr} {p : Addr} (hp : PoolAt H p) (hx : WrH K H x) : p ≠ x.la := by
  obtain ⟨c, s, h1, _⟩ := hp
  intro z
  have h2 := hx.la
  rw [← z, h1] at h2
  have h3 := HO.lst.inj (Option.some.inj h2)
  cases hq : x.anew with
  | nil => rw [hq] at h3; cases h3
  | cons e r =>
    rw [hq] at h3
    have := (List.cons.inj h3).1
    cases this
theorem seen_la {K : PySem.W.Frag} {H : Hp} {x : Wr} {y : Seen} (hy : SeenAt H y) (hx : WrH K H x) : ∀ c ∈ sadr y, c ≠ x.la := by
  intro c hc z
  have hc2 : c = y.sd ∨ c = y.b ∨ c = y.g ∨ c = y.l ∨ c = y.s := by simpa [sadr] using hc
  have h2 := hx.la
  rw [← z] at h2
  rcases hc2 with rfl | rfl | rfl | rfl | rfl
  · rw [hy.sd] at h2; cases h2
  · rw [hy.b] at h2; cases h2
  · rw [hy.g] at h2; cases h2
  · rw [hy.l] at h2; cases h2
  · rw [hy.s] at h2; cases h2
theorem PT_sadr {K : PySem.W.Frag} {H : Hp} {y : Seen} (hT : TabsB K H) (hy : SeenAt H y) : PT K ∉ sadr y := by
  obtain ⟨ps, hps⟩ := hT.tbl
  intro hc
  have hc2 : PT K = y.sd ∨ PT K = y.b ∨ PT K = y.g ∨ PT K = y.l ∨ PT K = y.s := by simpa [sadr] using hc
  rcases hc2 with z | z | z | z | z
  · exact ne_of hps hy.sd (fun z => nomatch z) z
  · exact ne_of hps hy.b (fun z => nomatch z) z
  · exact ne_of hps hy.g (fun z => nomatch z) z
  · exact ne_of hps hy.l (fun z => nomatch z) z
  · exact ne_of hps hy.s (fun z => nomatch z) z
theorem PT_pool {K : PySem.W.Frag} {H : Hp} {p : Addr} (hT : TabsB K H) (hp : PoolAt H p) : PT K ≠ p := by
  obtain ⟨ps, hps⟩ := hT.tbl
  obtain ⟨c, s, h1, _⟩ := hp
  exact ne_of hps h1 (fun z => nomatch z)

/-! ### told */ -/
def LLet (H : Hp) (x : Wr) (t : Addr) : Prop := (∃ d ∈ x.roads, H t = some (.tup [.str "join", tx d.name, .int d.base])) ∨ (∃ (wd : Str) (xs : List V), wd ≠ "join" ∧ wd ≠ "signs" ∧ xs.length ≤ 10 ∧ H t = some (.tup (.str wd :: xs))) ∨ ∃ d ∈ x.roads, d.st = "up" ∧ ∃ e ∈ d.ents, LetH H t d e (decide (x.mode = "plain"))
theorem LLet.fr {F : List Addr} {H H' : Hp} {x : Wr} {t : Addr} (h : LLet H x t) (f : Fr F H H') : LLet H' x t := by
  rcases h with ⟨d, hd, e⟩ | ⟨wd, xs, n1, n2, n3, e⟩ | ⟨d, hd, hu, e, he, hL⟩
  · exact .inl ⟨d, hd, f.tup e⟩
  · exact .inr (.inl ⟨wd, xs, n1, n2, n3, f.tup e⟩)
  · exact .inr (.inr ⟨d, hd, hu, e, he, hL.fr f⟩)
theorem TLet.l {H : Hp} {x : Wr} {t : Addr} (h : TLet H x t) : LLet H x t := by
  rcases h with h | ⟨d, hd, e⟩ | h
  · exact .inl h
  · exact .inr (.inl ⟨"ask", _, by decide +kernel, by decide +kernel, by show 1 ≤ 10; decide, e⟩)
  · exact .inr (.inr h)
def ToldQ (K : PySem.W.Frag) (H : Hp) (x : Wr) (y : Seen) (p : Addr) (n M : Nat) (Q : VK) : Prop := ∀ (x' : Wr) (sr : List (Key × V)) (m : Str) (r : Addr) (ts : List Addr) (H' : Hp), x'.p = x.p → WrH K H' x' → WI (n + 1) x' → SeenAt H' { y with sure := sr, mode := m } → sr.length ≤ M + 1 → TabsB K H' → PoolAt H' p →
  Fr (PT K :: p :: y.sd :: y.s :: foot x) H H' → (∀ c ∈ foot x', c ∈ foot x ∨ H c = none) → H' r = some (.lst (ts.map V.ref)) → ts.length ≤ 3 →
  ((SI x' { y with sure := sr, mode := m } ∧ ∀ t ∈ ts, LLet H' x' t) ∨ ∃ (t : Addr) (name : List Nat) (b : Int), ts = [t] ∧ H' t = some (.tup [.str "join", tx name, .int b]) ∧ SI x' { y with sure := sr, mode := m, bases := putK y.bases (.inr (S name)) (.int b) }) → Q (.ref r) H'
theorem if_next {c : TT} {A R : TS} {D : Ends} {σ : L2.St} {H : Hp} (Pre : Hp → Prop) (hR : ∀ H2, Pre H2 → R D σ H2) (hc : ∀ N : Hp → Prop, (∀ H2, Pre H2 → N H2) → c σ H fun b H1 => if b = true then A { D with nx := R D } σ H1 else N H1) : tSeq (tIfS c A tNext) R D σ H := hc (R D σ) hR
theorem foot_mid {x : Wr} {a b : List Rw} {d d' : Rw} (e : x.roads = a ++ d :: b) (h : rf d' = rf d) : x.p :: x.dr :: (a ++ d' :: b).flatMap rf = foot x := by
  unfold foot
  rw [e, List.flatMap_append, List.flatMap_append, List.flatMap_cons, List.flatMap_cons, h]
section
variable {P : Program} {w : World} {K : PySem.W.Frag} {mg : Str → Option Value} {base : Heap}
def sp_law_told (K : PySem.W.Frag) : Sp := fun vs H Q _ => ∃ (p : Addr) (x : Wr) (y : Seen) (n M : Nat), vs = [.ref p, .ref x.p, .ref y.sd] ∧ PoolAt H p ∧ WrH K H x ∧ WI n x ∧ n ≤ 500 ∧ SeenAt H y ∧ SI x y ∧ Sz M y ∧ M ≤ 1000000 ∧ TabsB K H ∧ p ∉ foot x ∧ (∀ c ∈ sadr y, c ∉ foot x) ∧ (sadr y).Nodup ∧ ToldQ K H x y p n M Q
theorem sc_law_told : FnScope ["_law_pool_here", "_law_writer", "_law_seen", "_law_way", "_law_name", "_law_letter", "_law_told_here", "_law_own"] ["_law_pool_here", "_law_writer", "_law_seen"] (defScope s_law_told) := ⟨rfl, rfl, rfl, by decide +kernel, rfl, by decide +kernel, by decide +kernel⟩
theorem ok_law_told (T : TX P w K mg base) : PR P w K mg base 8 (He.ga K "_law_told") ["_law_pool_here", "_law_writer", "_law_seen"] (sp_law_told K) := by
  have G_Writer_begin := ok_Writer_begin T
  have G_Writer_go := ok_Writer_go T
  have G_Writer_mode := ok_Writer_mode T
  have G_Writer_roads := ok_Writer_roads T
  have G_Writer_send := ok_Writer_send T
  have G_Writer_spare := ok_Writer_spare T
  have G_Writer_take := ok_Writer_take T
  have G_Writer_tick := ok_Writer_tick T
  have G_Writer_write := ok_Writer_write T
  have G_law_answer := ok_law_answer T
  have G_law_take := ok_law_take T
  have G_law_text := ok_law_text T
  refine T.prom d_law_told (List.mem_of_getElem? (i := 63) (by rfl)) ⟨rfl, rfl⟩ sc_law_told (fun vs H Q E h => ?_) (fun _ _ _ _ _ _ us hl => match us, hl with | [_, _, _], _ => rfl) (fun cdv A outer s H vs Q E hr h => ?_)
  · obtain ⟨_, _, _, _, _, rfl, _⟩ := h
    rfl
  · have hu := hu_of hr
    obtain ⟨p, x, y, n, M, rfl, hp, hx, hI, hn, hy, hS, hz, hM, hT, hpf, hsep, hnd, k⟩ := h
    refine ⟨_, (pss_cons (ps_set (i := 3) sc_law_told.nd rfl (by first | exact Or.inl rfl | exact Or.inr rfl) (pe_callP G_law_take (hr.mono (by decide)) rfl T.g_law_take (pa_cons (pv 0) (pa_cons pe_int pa_nil))))
      (pss_cons (ps_if (pt_cmpR op_lt (pv 3) pe_int (nomark _))
        (pss_cons (ps_expr (pe_methP (pv 1) T.cl_Writer T.m_Writer_write G_Writer_write (hr.mono (by decide)) (pa_cons (pe_callP G_law_text (hr.mono (by decide)) rfl T.g_law_text (pa_cons (pv 0) (pa_cons pe_int pa_nil))) pa_nil)))
        (pss_one (ps_ret (pe_lst pa_nil))))
        pss_nil)
      (pss_cons (ps_if (pt_cmpR op_lt (pv 3) pe_int (nomark _))
        (pss_one (ps_ret (pe_methP0 (pv 1) T.cl_Writer T.m_Writer_send G_Writer_send (hr.mono (by decide)))))
        pss_nil)
      (pss_cons (ps_if (pt_cmpR op_lt (pv 3) pe_int (nomark _))
        (pss_cons (ps_set (i := 5) sc_law_told.nd rfl (by first | exact Or.inl rfl | exact Or.inr rfl) (pe_callP G_law_answer (hr.mono (by decide)) rfl T.g_law_answer (pa_cons (pv 0) (pa_cons (pv 2) (pa_cons (pv 1) pa_nil)))))
        (pss_cons (ps_set (i := 6) sc_law_told.nd rfl (by first | exact Or.inl rfl | exact Or.inr rfl) (pe_methP (pv 1) T.cl_Writer T.m_Writer_take G_Writer_take (hr.mono (by decide)) (pa_cons (pv 5) pa_nil)))
        (pss_cons (ps_if (PW.pt (pw_and (pt_cmpR op_eq (pe_ix ix_tup (pv 5) pe_int (fun _ _ => rfl)) pe_str (nomark _)) (pw_and (pt_cmp (pc_din hu (pe_ix ix_tup (pv 5) pe_int (fun _ _ => rfl)) (pe_dget hu (pv 2) pe_str (fun _ _ => rfl)))) (pw_and1 (pt_cmpR op_ne (pe_dget hu (pe_methP0 (pv 1) T.cl_Writer T.m_Writer_roads G_Writer_roads (hr.mono (by decide))) (pe_ix ix_tup (pv 5) pe_int (fun _ _ => rfl)) (fun _ _ => rfl)) pe_str (nomark _))))))
          (pss_cons (ps_set (i := 7) sc_law_told.nd rfl (by first | exact Or.inl rfl | exact Or.inr rfl) (pe_ifExp (pt_cmpR op_le (pe_ix ix_tup (pv 5) pe_int (fun _ _ => rfl)) (pe_dget2 hu (pe_dget hu (pv 2) pe_str (fun _ _ => rfl)) (pe_ix ix_tup (pv 5) pe_int (fun _ _ => rfl)) pe_int ⟨rfl, rfl, rfl, rfl⟩) (nomark _)) (pe_ix ix_tup (pv 5) pe_int (fun _ _ => rfl)) pe_int))
          (pss_one (ps_dput hu (pe_dget hu (pv 2) pe_str (fun _ _ => rfl)) (pe_ix ix_tup (pv 5) pe_int (fun _ _ => rfl)) (pe_callB (call_max2 rfl) (by rfl) T.f_max (by decide +kernel) (pa_cons (pe_dget2 hu (pe_dget hu (pv 2) pe_str (fun _ _ => rfl)) (pe_ix ix_tup (pv 5) pe_int (fun _ _ => rfl)) pe_int ⟨rfl, rfl, rfl, rfl⟩) (pa_cons (pv 7) pa_nil))) rfl)))
          pss_nil)
        (pss_cons (ps_dput hu (pv 2) pe_str (pe_methP0 (pv 1) T.cl_Writer T.m_Writer_mode G_Writer_mode (hr.mono (by decide))) rfl)
        (pss_one (ps_ret (pv 6)))))))
        pss_nil)
      (pss_cons (ps_if (pt_cmpR op_lt (pv 3) pe_int (nomark _))
        (pss_one (ps_ret (pe_methP0 (pv 1) T.cl_Writer T.m_Writer_tick G_Writer_tick (hr.mono (by decide)))))
        pss_nil)
      (pss_cons (ps_set (i := 4) sc_law_told.nd rfl (by first | exact Or.inl rfl | exact Or.inr rfl) (pe_ix ix_list (pe_lst (pa_cons pe_str (pa_cons pe_str pa_nil))) (pe_callP G_law_take (hr.mono (by decide)) rfl T.g_law_take (pa_cons (pv 0) (pa_cons pe_int pa_nil))) (fun _ _ => rfl)))
      (pss_cons (ps_if (PW.pt (pw_and (pt_cmpR op_eq (pv 3) pe_int (nomark _)) (pw_and (pt_cmp (pc_dnotin hu (pv 4) (pe_methP0 (pv 1) T.cl_Writer T.m_Writer_roads G_Writer_roads (hr.mono (by decide))))) (pw_and1 (pt_cmpR op_eq (pe_methP0 (pv 1) T.cl_Writer T.m_Writer_mode G_Writer_mode (hr.mono (by decide))) pe_str (nomark _))))))
        (pss_one (ps_ret (pe_methP (pv 1) T.cl_Writer T.m_Writer_begin G_Writer_begin (hr.mono (by decide)) (pa_cons (pv 4) (pa_cons (pe_callP G_law_take (hr.mono (by decide)) rfl T.g_law_take (pa_cons (pv 0) (pa_cons pe_int pa_nil))) pa_nil)))))
        pss_nil)
      (pss_cons (ps_if (pt_cmpR op_eq (pe_dget2 hu (pe_methP0 (pv 1) T.cl_Writer T.m_Writer_roads G_Writer_roads (hr.mono (by decide))) (pv 4) pe_str ⟨rfl, rfl, rfl, rfl⟩) pe_str (nomark _))
        (pss_one (ps_ret (pe_lst pa_nil)))
        pss_nil)
      (pss_cons (ps_if (pt_cmpR op_gt (pe_callP G_law_take (hr.mono (by decide)) rfl T.g_law_take (pa_cons (pv 0) (pa_cons pe_int pa_nil))) pe_int (nomark _))
        (pss_one (ps_ret (pe_methP (pv 1) T.cl_Writer T.m_Writer_spare G_Writer_spare (hr.mono (by decide)) (pa_cons (pv 4) (pa_cons (pe_cmpR op_eq (pe_callP G_law_take (hr.mono (by decide)) rfl T.g_law_take (pa_cons (pv 0) (pa_cons pe_int pa_nil))) pe_int (nomark _)) pa_nil)))))
        pss_nil)
      (pss_one (ps_ret (pe_methP (pv 1) T.cl_Writer T.m_Writer_go G_Writer_go (hr.mono (by decide)) (pa_cons (pv 4) pa_nil))))))))))))), ?_⟩
    have nfp : ∀ {H1 : Hp}, PoolAt H1 p → ∀ {H2 : Hp}, Kp [p] H1 H2 → Fr [p] H1 H2 := fun h _ k => Fr.ofKp k h.nf
    have hb := hI.b (by omega)
    obtain ⟨hPf, hPla⟩ := PT_foot hT hx
    have hPs := PT_sadr hT hy
    have hPp := PT_pool hT hp
    have hpla := pool_la hp hx
    have hps := hp.sadr hy
    have hn1 : ∀ c ∈ [p], c ∉ x.la :: foot x := fun c hc z => by
      rw [List.mem_singleton.mp hc] at z
      rcases List.mem_cons.mp z with z | z
      · exact hpla z
      · exact hpf z
    have hn2 : ∀ c ∈ [p], c ∉ sadr y := fun c hc => by rw [List.mem_singleton.mp hc]; exact hps
    have hn3 : ∀ c ∈ foot x, c ∉ sadr y := fun c hc z => hsep c z hc
    have hn4 : ∀ c ∈ PT K :: foot x, c ∉ sadr y := fun c hc z => by
      rcases List.mem_cons.mp hc with rfl | hc
      · exact hPs z
      · exact hn3 c hc z
    have c_p : ∀ c ∈ [p], c ∈ PT K :: p :: y.sd :: y.s :: foot x := by simp
    have c_sd : ∀ c ∈ [y.sd], c ∈ PT K :: p :: y.sd :: y.s :: foot x := by simp
    have c_s : ∀ c ∈ [y.s], c ∈ PT K :: p :: y.sd :: y.s :: foot x := by simp
    have c_f : ∀ c ∈ foot x, c ∈ PT K :: p :: y.sd :: y.s :: foot x := fun c hc => by simp [hc]
    have c_P : ∀ c ∈ [PT K], c ∈ PT K :: p :: y.sd :: y.s :: foot x := by simp
    have c_Pf : ∀ c ∈ PT K :: foot x, c ∈ PT K :: p :: y.sd :: y.s :: foot x := fun c hc => by
      rcases List.mem_cons.mp hc with rfl | hc
      · simp
      · exact c_f c hc
    have hpP : p ∉ PT K :: foot x := fun z => by
      rcases List.mem_cons.mp z with z | z
      · exact hPp z.symm
      · exact hpf z
    have hsM : y.sure.length ≤ M + 1 := Nat.le_succ_of_le hz.s
    -- the kind of deed
    refine ⟨_, rfl, p, 16, rfl, hp, ⟨by decide, by decide⟩, fun w0 H0 w1 w2 hp0 k0 => ?_⟩
    have f0 : Fr [p] H H0 := nfp hp k0
    have f0' : Fr (PT K :: p :: y.sd :: y.s :: foot x) H H0 := f0.mono c_p
    have hx0 := hx.fr f0 hn1
    have hy0 := hy.fr f0 hn2
    have hT0 := hT.fr f0 (by simpa using hPp)
    obtain ⟨dx, ho⟩ := hx0.o
    clear k0
    refine ⟨_, rfl, _, _, rfl, rfl, _, rfl, ite2 (fun _ => ?_) (fun _ => ?_)⟩
    · -- write
      refine ⟨_, rfl, _, _, _, rfl, ho, noWriter_write (x), _, rfl, p, 24, rfl, hp0, ⟨by decide, by decide⟩, fun l H1 hL hl1 hl2 hp1 k1 => ?_⟩
      have f1 : Fr [p] H0 H1 := nfp hp0 k1
      have hx1 := hx0.fr f1 hn1
      refine ⟨x, l, rfl, hx1, hb, hL, by omega, fun H2 hx2 f2 => ⟨line5 (by decide), fun r hr => ?_⟩⟩
      have cf : ∀ c ∈ [x.p], c ∈ foot x := by simp [foot]
      have f2' := f2.mono cf
      have s3 : Same H2 (upd H2 r (.lst [])) := Same.upd hr
      have hp2 := hp1.fr f2' hpf
      have hy2 := (hy0.fr f1 hn2).fr f2' hn3
      have hT2 := (hT0.fr f1 (by simpa using hPp)).fr f2' hPf
      exact k { x with W := x.W ++ l } y.sure y.mode r [] _ rfl (hx2.same s3) (hI.write hL (by omega)) (hy2.fr (Fr.of [] s3) (by simp)) hsM (hT2.fr (Fr.of [] s3) (by simp)) (hp2.fr (Fr.of [] s3) (by simp))
        (((f0'.trans (f1.mono c_p)).trans (f2'.mono c_f)).trans (Fr.of _ s3)) (fun c hc => .inl hc) upd_same (by decide) (.inl ⟨hS.other rfl, by intro t ht; cases ht⟩)
    refine ⟨_, rfl, _, _, rfl, rfl, _, rfl, ite2 (fun _ => ?_) (fun _ => ?_)⟩
    · -- send
      refine ⟨_, rfl, _, _, _, rfl, ho, noWriter_send (x), x, rfl, hx0, hb, hI.rule, ⟨_, hI.first⟩, hT0, fun r H1 f1 hT1 hr hr1 => ?_, fun a b d r t q lt la f l es nx H1 hab hup hmode hx1 f1 hT1 hl0 hl8 hlim hsub hwin hcase hr hr1 hLet => ?_⟩
      · have hxP : ∀ c ∈ [PT K], c ∉ x.la :: foot x := fun c hc z => by
          rw [List.mem_singleton.mp hc] at z
          rcases List.mem_cons.mp z with z | z
          · exact hPla z
          · exact hPf z
        exact k x y.sure y.mode r [] H1 rfl (hx0.fr f1 hxP) (hI.up (Nat.le_succ n)) (hy0.fr f1 (fun c hc z => hPs (by rw [List.mem_singleton.mp hc] at z; exact z))) hsM hT1 (hp0.fr f1 (by simpa using hPp.symm)) (f0'.trans (f1.mono c_P)) (fun c hc => .inl hc) hr1 (by show 0 ≤ 3; decide) (.inl ⟨hS, by intro t ht; cases ht⟩)
      · refine k { x with roads := a ++ layD d lt q f l :: b, last := some d.name, la := la, anew := es, next := nx } y.sure y.mode r [t] H1 rfl hx1 (hI.send hab hup hl8 hlim hsub hwin hcase) (hy0.fr f1 hn4) hsM hT1 (hp0.fr f1 hpP) (f0'.trans (f1.mono c_Pf)) (fun c hc => .inl ?_) hr1 (by show 1 ≤ 3; decide) (.inl ⟨?_, fun t2 ht2 => ?_⟩)
        · rw [← foot_mid (d := d) (d' := layD d lt q f l) hab rfl]
          exact hc
        · exact hS.mid (d := d) (d' := layD d lt q f l) hab rfl rfl rfl ⟨l, rfl⟩ fun z => ⟨z, Int.le_refl _⟩
        · rw [List.mem_singleton.mp ht2]
          exact .inr (.inr ⟨layD d lt q f l, (by show _ ∈ a ++ _ :: b; simp), hup, ⟨lt, q, d.txt.length, f, l⟩, (by show _ ∈ d.ents ++ [_]; simp), hLet⟩)
    refine ⟨_, rfl, _, _, rfl, rfl, _, rfl, ite2 (fun _ => ?_) (fun _ => ?_)⟩
    · -- an answer, taken
      refine ⟨_, rfl, _, rfl, _, rfl, p, x, y, rfl, hp0, hx0, hb, hI.known, hy0, fun z => ?_, hS.mode, hn1 p (by simp), fun q name H1 f1 hp1 hnm hq => ?_⟩
      · obtain ⟨i, hi, hi0⟩ := hS.laid1 z
        refine ⟨i, hi, hi0, ?_⟩
        by_cases hex : ∃ d ∈ x.roads, z = S d.name
        · obtain ⟨d, hd, rfl⟩ := hex
          have h1 := hS.laid2 d hd i hi
          have h2 := (hI.ents d hd).2
          unfold Rw.laid at h1
          omega
        · have h1 := hS.laid3 z fun d hd e => hex ⟨d, hd, e⟩
          rw [hi] at h1
          have := V.int.inj h1
          omega
      have hx1 := hx0.fr f1 hn1
      have hy1 := hy0.fr f1 hn2
      have hT1 := hT0.fr f1 (by simpa using hPp)
      have f1' : Fr (PT K :: p :: y.sd :: y.s :: foot x) H H1 := f0'.trans (f1.mono c_p)
      obtain ⟨dx1, ho1⟩ := hx1.o
      obtain ⟨hnl, hn81, hn82⟩ := hnm.ok
      refine ⟨_, rfl, _, _, _, rfl, ho1, noWriter_take (x), _, rfl, x, q, name, rfl, hx1, hb, hI.sole1, hI.anew0, ⟨_, hI.first⟩, hnl, ⟨hn81, hn82⟩, ?_⟩
      rcases hq with ⟨word, hw, hq⟩ | ⟨own, known, room, m, o1, o2, o3, hm, hown, hq⟩
      · refine .inl ⟨word, hw, hq, fun r H2 hx2 f2 hr hr2 => ?_, fun d r t H2 g1 g2 g3 g4 g5 g6 g7 g8 hx2 f2 hfr hr hr2 ht2 => ?_, fun a b d m' la es r H2 hab hdn hg hm' hx2 f2 hes hr hr2 => ?_⟩
        · have hq2 := f2.tup hq
          refine ⟨_, rfl, q, _, 0, .str word, rfl, rfl, SqT.of hq2, rfl, rfl, _, rfl, iffF (by rcases hw with rfl | rfl <;> decide +kernel) (iffF (by rfl) ?_)⟩
          have hy2 := hy1.fr f2 hn3
          have hT2 := hT1.fr f2 hPf
          have hp2 := hp1.fr f2 hpf
          have f2' := f1'.trans (f2.mono c_f)
          obtain ⟨dxm, hom⟩ := hx2.o
          refine ⟨_, rfl, _, _, _, rfl, hom, noWriter_mode (x), x, rfl, hx2, _, rfl, y.sd, _, rfl, .k (k := .inr ("mode" : Str)) hy2.sd (by rw [sizeLine_eq]; show 5 < _; decide), ?_⟩
          rw [pk_mode]
          have fM : Fr [y.sd] H2 (upd H2 y.sd (.dK (seenK { y with mode := (x).mode }))) := Fr.putD (by simp) hy2.sd
          have hyM : SeenAt (upd H2 y.sd (.dK (seenK { y with mode := (x).mode }))) { y with mode := (x).mode } := by
            unfold sadr at hnd
            simp at hnd
            obtain ⟨⟨q1, q2, q3, q4⟩, _⟩ := hnd
            exact ⟨upd_same, by show upd _ _ _ y.b = _; rw [upd_ne (fun z => q1 z.symm)]; exact hy2.b, by show upd _ _ _ y.g = _; rw [upd_ne (fun z => q2 z.symm)]; exact hy2.g, by show upd _ _ _ y.l = _; rw [upd_ne (fun z => q3 z.symm)]; exact hy2.l, by show upd _ _ _ y.s = _; rw [upd_ne (fun z => q4 z.symm)]; exact hy2.s⟩
          have fE := f2'.trans (fM.mono c_sd)
          have hfoot2 : ∀ c ∈ foot (x), c ∈ foot x ∨ H c = none := fun c hc => .inl hc
          have hsdn : ∀ c ∈ [y.sd], c ∉ (x).la :: foot (x) := fun c hc z => by
            rw [List.mem_singleton.mp hc] at z
            rcases List.mem_cons.mp z with z | z
            · exact seen_la hy2 hx2 y.sd (by simp [sadr]) z
            · rcases hfoot2 _ z with z | z
              · exact hsep y.sd (by simp [sadr]) z
              · rw [hy.sd] at z; cases z
          have hPsd : PT K ∉ [y.sd] := fun z => hPs (by rw [List.mem_singleton.mp z]; simp [sadr])
          have hpsd : p ∉ [y.sd] := fun z => hps (by rw [List.mem_singleton.mp z]; simp [sadr])
          have hrsd : r ≠ y.sd := ne_of hr2 hy2.sd (fun z => nomatch z)
          refine ⟨_, rfl, ?_⟩
          exact k (x) (y.sure) (x).mode r [] _ rfl (hx2.fr fM hsdn) (hI.up (Nat.le_succ n)) hyM (hsM) (hT2.fr fM hPsd) (hp2.fr fM hpsd) fE hfoot2 (fM.at (by simpa using hrsd) hr2) (by show 0 ≤ 3; decide) (.inl ⟨hS.mode' hI.mode, by intro t ht; cases ht⟩)
        · have hq2 := f2.tup hq
          refine ⟨_, rfl, q, _, 0, .str word, rfl, rfl, SqT.of hq2, rfl, rfl, _, rfl, iffF (by rcases hw with rfl | rfl <;> decide +kernel) (iffF (by rfl) ?_)⟩
          have hy2 := hy1.fr f2 hn3
          have hT2 := hT1.fr f2 hPf
          have hp2 := hp1.fr f2 hpf
          have f2' := f1'.trans (f2.mono c_f)
          obtain ⟨dxm, hom⟩ := hx2.o
          refine ⟨_, rfl, _, _, _, rfl, hom, noWriter_mode ({ x with first := some (x.first.getD name), roads := x.roads ++ [d] }), { x with first := some (x.first.getD name), roads := x.roads ++ [d] }, rfl, hx2, _, rfl, y.sd, _, rfl, .k (k := .inr ("mode" : Str)) hy2.sd (by rw [sizeLine_eq]; show 5 < _; decide), ?_⟩
          rw [pk_mode]
          have fM : Fr [y.sd] H2 (upd H2 y.sd (.dK (seenK { y with mode := ({ x with first := some (x.first.getD name), roads := x.roads ++ [d] }).mode }))) := Fr.putD (by simp) hy2.sd
          have hyM : SeenAt (upd H2 y.sd (.dK (seenK { y with mode := ({ x with first := some (x.first.getD name), roads := x.roads ++ [d] }).mode }))) { y with mode := ({ x with first := some (x.first.getD name), roads := x.roads ++ [d] }).mode } := by
            unfold sadr at hnd
            simp at hnd
            obtain ⟨⟨q1, q2, q3, q4⟩, _⟩ := hnd
            exact ⟨upd_same, by show upd _ _ _ y.b = _; rw [upd_ne (fun z => q1 z.symm)]; exact hy2.b, by show upd _ _ _ y.g = _; rw [upd_ne (fun z => q2 z.symm)]; exact hy2.g, by show upd _ _ _ y.l = _; rw [upd_ne (fun z => q3 z.symm)]; exact hy2.l, by show upd _ _ _ y.s = _; rw [upd_ne (fun z => q4 z.symm)]; exact hy2.s⟩
          have fE := f2'.trans (fM.mono c_sd)
          have hfoot2 : ∀ c ∈ foot ({ x with first := some (x.first.getD name), roads := x.roads ++ [d] }), c ∈ foot x ∨ H c = none := by
            intro c hc
            unfold foot at hc
            rcases List.mem_cons.mp hc with z | hc
            · exact .inl (by rw [z]; simp [foot])
            rcases List.mem_cons.mp hc with z | hc
            · exact .inl (by rw [z]; simp [foot])
            have hc2 : c ∈ (x.roads ++ [d]).flatMap rf := hc
            rw [List.flatMap_append] at hc2
            rcases List.mem_append.mp hc2 with hc3 | hc3
            · refine .inl ?_
              unfold foot
              exact List.mem_cons_of_mem _ (List.mem_cons_of_mem _ hc3)
            · have hc4 : c ∈ rf d := by simpa using hc3
              have h9 := hfr c hc4
              refine .inr ((f0.trans f1).free (fun z => ?_) h9)
              obtain ⟨q1, q2, q3, _⟩ := hp1
              rw [List.mem_singleton.mp z, q3] at h9
              cases h9
          have hsdn : ∀ c ∈ [y.sd], c ∉ ({ x with first := some (x.first.getD name), roads := x.roads ++ [d] }).la :: foot ({ x with first := some (x.first.getD name), roads := x.roads ++ [d] }) := fun c hc z => by
            rw [List.mem_singleton.mp hc] at z
            rcases List.mem_cons.mp z with z | z
            · exact seen_la hy2 hx2 y.sd (by simp [sadr]) z
            · rcases hfoot2 _ z with z | z
              · exact hsep y.sd (by simp [sadr]) z
              · rw [hy.sd] at z; cases z
          have hPsd : PT K ∉ [y.sd] := fun z => hPs (by rw [List.mem_singleton.mp z]; simp [sadr])
          have hpsd : p ∉ [y.sd] := fun z => hps (by rw [List.mem_singleton.mp z]; simp [sadr])
          have hrsd : r ≠ y.sd := ne_of hr2 hy2.sd (fun z => nomatch z)
          refine ⟨_, rfl, ?_⟩
          exact k ({ x with first := some (x.first.getD name), roads := x.roads ++ [d] }) (y.sure) ({ x with first := some (x.first.getD name), roads := x.roads ++ [d] }).mode r [t] _ rfl (hx2.fr fM hsdn) ((hI.begin hnm g1 g2 g3 g5 g6 g7).up (Nat.le_succ n)) hyM (hsM) (hT2.fr fM hPsd) (hp2.fr fM hpsd) fE hfoot2 (fM.at (by simpa using hrsd) hr2) (by show 1 ≤ 3; decide) (.inr ⟨t, name, 0, rfl, fM.tup ht2, by have h9 := (hS.begin (x' := { x with first := some (x.first.getD name), roads := x.roads ++ [d] }) (d := d) rfl (by rw [g3]; exact g1) g5 g7).mode' (m := x.mode) hI.mode; rw [g3, g4] at h9; exact h9⟩)
        · have hq2 := f2.tup hq
          refine ⟨_, rfl, q, _, 0, .str word, rfl, rfl, SqT.of hq2, rfl, rfl, _, rfl, iffF (by rcases hw with rfl | rfl <;> decide +kernel) (iffF (by rfl) ?_)⟩
          have hy2 := hy1.fr f2 hn3
          have hT2 := hT1.fr f2 hPf
          have hp2 := hp1.fr f2 hpf
          have f2' := f1'.trans (f2.mono c_f)
          obtain ⟨dxm, hom⟩ := hx2.o
          refine ⟨_, rfl, _, _, _, rfl, hom, noWriter_mode ({ x with mode := m', roads := a ++ { d with st := "gone", put := true } :: b, la := la, anew := es }), { x with mode := m', roads := a ++ { d with st := "gone", put := true } :: b, la := la, anew := es }, rfl, hx2, _, rfl, y.sd, _, rfl, .k (k := .inr ("mode" : Str)) hy2.sd (by rw [sizeLine_eq]; show 5 < _; decide), ?_⟩
          rw [pk_mode]
          have fM : Fr [y.sd] H2 (upd H2 y.sd (.dK (seenK { y with mode := ({ x with mode := m', roads := a ++ { d with st := "gone", put := true } :: b, la := la, anew := es }).mode }))) := Fr.putD (by simp) hy2.sd
          have hyM : SeenAt (upd H2 y.sd (.dK (seenK { y with mode := ({ x with mode := m', roads := a ++ { d with st := "gone", put := true } :: b, la := la, anew := es }).mode }))) { y with mode := ({ x with mode := m', roads := a ++ { d with st := "gone", put := true } :: b, la := la, anew := es }).mode } := by
            unfold sadr at hnd
            simp at hnd
            obtain ⟨⟨q1, q2, q3, q4⟩, _⟩ := hnd
            exact ⟨upd_same, by show upd _ _ _ y.b = _; rw [upd_ne (fun z => q1 z.symm)]; exact hy2.b, by show upd _ _ _ y.g = _; rw [upd_ne (fun z => q2 z.symm)]; exact hy2.g, by show upd _ _ _ y.l = _; rw [upd_ne (fun z => q3 z.symm)]; exact hy2.l, by show upd _ _ _ y.s = _; rw [upd_ne (fun z => q4 z.symm)]; exact hy2.s⟩
          have fE := f2'.trans (fM.mono c_sd)
          have hfoot2 : ∀ c ∈ foot ({ x with mode := m', roads := a ++ { d with st := "gone", put := true } :: b, la := la, anew := es }), c ∈ foot x ∨ H c = none := fun c hc => .inl (by rw [← foot_mid (d := d) (d' := { d with st := "gone", put := true }) hab rfl]; exact hc)
          have hsdn : ∀ c ∈ [y.sd], c ∉ ({ x with mode := m', roads := a ++ { d with st := "gone", put := true } :: b, la := la, anew := es }).la :: foot ({ x with mode := m', roads := a ++ { d with st := "gone", put := true } :: b, la := la, anew := es }) := fun c hc z => by
            rw [List.mem_singleton.mp hc] at z
            rcases List.mem_cons.mp z with z | z
            · exact seen_la hy2 hx2 y.sd (by simp [sadr]) z
            · rcases hfoot2 _ z with z | z
              · exact hsep y.sd (by simp [sadr]) z
              · rw [hy.sd] at z; cases z
          have hPsd : PT K ∉ [y.sd] := fun z => hPs (by rw [List.mem_singleton.mp z]; simp [sadr])
          have hpsd : p ∉ [y.sd] := fun z => hps (by rw [List.mem_singleton.mp z]; simp [sadr])
          have hrsd : r ≠ y.sd := ne_of hr2 hy2.sd (fun z => nomatch z)
          refine ⟨_, rfl, ?_⟩
          exact k ({ x with mode := m', roads := a ++ { d with st := "gone", put := true } :: b, la := la, anew := es }) (y.sure) ({ x with mode := m', roads := a ++ { d with st := "gone", put := true } :: b, la := la, anew := es }).mode r [] _ rfl (hx2.fr fM hsdn) ((hI.gone hab hes hm').up (Nat.le_succ n)) hyM (hsM) (hT2.fr fM hPsd) (hp2.fr fM hpsd) fE hfoot2 (fM.at (by simpa using hrsd) hr2) (by show 0 ≤ 3; decide) (.inl ⟨(hS.mid (x' := { x with mode := m', roads := a ++ { d with st := "gone", put := true } :: b, la := la, anew := es }) (d := d) (d' := { d with st := "gone", put := true }) hab rfl rfl rfl ⟨[], (List.append_nil _).symm⟩ (fun z => absurd rfl z)).mode' (hI.gone (la := la) hab hes hm').mode, by intro t ht; cases ht⟩)
      · refine .inr ⟨own, known, room, m, o1, o2, o3, hm, hq, fun r H2 hno hx2 f2 hr hr2 => ?_, fun a b d d' kn lim m' la es r H2 hab hdn hx2 f2 q1 q2 q3 q4 q5 hr hr2 => ?_⟩
        · have hq2 := f2.tup hq
          refine ⟨_, rfl, q, _, 0, .str "sure", rfl, rfl, SqT.of hq2, rfl, rfl, _, rfl, ift (by decide +kernel) ?_⟩
          have hy2 := hy1.fr f2 hn3
          have hT2 := hT1.fr f2 hPf
          have hp2 := hp1.fr f2 hpf
          have f2' := f1'.trans (f2.mono c_f)
          refine ⟨_, rfl, q, _, 1, tx name, rfl, rfl, SqT.of hq2, rfl, _, rfl, y.sd, .ref y.b, rfl, hy2.get (sk_bases y), y.b, valV y.bases (.inr (S name)), rfl, DGet.of hy2.b, _, rfl, ?_⟩
          have hnb : valV y.bases (.inr (S name)) = none := by
            cases e : valV y.bases (.inr (S name)) with
            | none => rfl
            | some v =>
              obtain ⟨d, hd, ez⟩ := hS.bases2 _ _ e
              exact absurd (S_inj ez).symm (hno d hd)
          rw [hnb]
          refine iffF (by rfl) (iffF (by rfl) ?_)
          obtain ⟨dxm, hom⟩ := hx2.o
          refine ⟨_, rfl, _, _, _, rfl, hom, noWriter_mode (x), x, rfl, hx2, _, rfl, y.sd, _, rfl, .k (k := .inr ("mode" : Str)) hy2.sd (by rw [sizeLine_eq]; show 5 < _; decide), ?_⟩
          rw [pk_mode]
          have fM : Fr [y.sd] H2 (upd H2 y.sd (.dK (seenK { y with mode := (x).mode }))) := Fr.putD (by simp) hy2.sd
          have hyM : SeenAt (upd H2 y.sd (.dK (seenK { y with mode := (x).mode }))) { y with mode := (x).mode } := by
            unfold sadr at hnd
            simp at hnd
            obtain ⟨⟨q1, q2, q3, q4⟩, _⟩ := hnd
            exact ⟨upd_same, by show upd _ _ _ y.b = _; rw [upd_ne (fun z => q1 z.symm)]; exact hy2.b, by show upd _ _ _ y.g = _; rw [upd_ne (fun z => q2 z.symm)]; exact hy2.g, by show upd _ _ _ y.l = _; rw [upd_ne (fun z => q3 z.symm)]; exact hy2.l, by show upd _ _ _ y.s = _; rw [upd_ne (fun z => q4 z.symm)]; exact hy2.s⟩
          have fE := f2'.trans (fM.mono c_sd)
          have hfoot2 : ∀ c ∈ foot (x), c ∈ foot x ∨ H c = none := fun c hc => .inl hc
          have hsdn : ∀ c ∈ [y.sd], c ∉ (x).la :: foot (x) := fun c hc z => by
            rw [List.mem_singleton.mp hc] at z
            rcases List.mem_cons.mp z with z | z
            · exact seen_la hy2 hx2 y.sd (by simp [sadr]) z
            · rcases hfoot2 _ z with z | z
              · exact hsep y.sd (by simp [sadr]) z
              · rw [hy.sd] at z; cases z
          have hPsd : PT K ∉ [y.sd] := fun z => hPs (by rw [List.mem_singleton.mp z]; simp [sadr])
          have hpsd : p ∉ [y.sd] := fun z => hps (by rw [List.mem_singleton.mp z]; simp [sadr])
          have hrsd : r ≠ y.sd := ne_of hr2 hy2.sd (fun z => nomatch z)
          refine ⟨_, rfl, ?_⟩
          exact k (x) (y.sure) (x).mode r [] _ rfl (hx2.fr fM hsdn) (hI.up (Nat.le_succ n)) hyM (hsM) (hT2.fr fM hPsd) (hp2.fr fM hpsd) fE hfoot2 (fM.at (by simpa using hrsd) hr2) (by show 0 ≤ 3; decide) (.inl ⟨hS.mode' hI.mode, by intro t ht; cases ht⟩)
        · have hq2 := f2.tup hq
          refine ⟨_, rfl, q, _, 0, .str "sure", rfl, rfl, SqT.of hq2, rfl, rfl, _, rfl, ift (by decide +kernel) ?_⟩
          have hy2 := hy1.fr f2 hn3
          have hT2 := hT1.fr f2 hPf
          have hp2 := hp1.fr f2 hpf
          have f2' := f1'.trans (f2.mono c_f)
          refine ⟨_, rfl, q, _, 1, tx name, rfl, rfl, SqT.of hq2, rfl, _, rfl, y.sd, .ref y.b, rfl, hy2.get (sk_bases y), y.b, valV y.bases (.inr (S name)), rfl, DGet.of hy2.b, _, rfl, ?_⟩
          have hd : d ∈ x.roads := by rw [hab]; simp
          have hnb : valV y.bases (.inr (S name)) = some (.int d.base) := by rw [← hdn]; exact hS.bases1 d hd
          rw [hnb]
          have hI2 : WI (n + 1) { x with roads := a ++ d' :: b, known := kn, limit := lim, mode := m', la := la, anew := es } := (hI.sure hab q1 q2 q3 hm q4 q5).up (Nat.le_succ n)
          have hd' : d' ∈ ({ x with roads := a ++ d' :: b, known := kn, limit := lim, mode := m', la := la, anew := es } : Wr).roads := by show _ ∈ a ++ d' :: b; simp
          have hrf : rf d' = rf d := by rcases q5 with ⟨_, rfl⟩ | ⟨_, s, ag, pu, rfl, _⟩ <;> rfl
          have hdn' : d'.name = name := by rw [← hdn]; rcases q5 with ⟨_, rfl⟩ | ⟨_, s, ag, pu, rfl, _⟩ <;> rfl
          have hbs : d'.base = d.base ∧ d'.txt = d.txt := by rcases q5 with ⟨_, rfl⟩ | ⟨_, s, ag, pu, rfl, _⟩ <;> exact ⟨rfl, rfl⟩
          have hfoot : ∀ c ∈ foot { x with roads := a ++ d' :: b, known := kn, limit := lim, mode := m', la := la, anew := es }, c ∈ foot x := fun c hc => by
            rw [← foot_mid (d := d) (d' := d') hab hrf]
            exact hc
          obtain ⟨dx2, ho2⟩ := hx2.o
          refine ift (by rfl) ⟨_, rfl, _, _, _, rfl, ho2, noWriter_roads ({ x with roads := a ++ d' :: b, known := kn, limit := lim, mode := m', la := la, anew := es }), { x with roads := a ++ d' :: b, known := kn, limit := lim, mode := m', la := la, anew := es }, rfl, hx2, hI2.b (by omega), fun rr H3 s3 hrr0 hrr => ?_⟩
          have hst := stK_some hI2.nd hd'
          rw [hdn'] at hst
          have hq3 := s3 _ _ hq2
          have hx3 := hx2.same s3
          have hy3 := hy2.fr (Fr.of [] s3) (by simp)
          have hT3 := hT2.fr (Fr.of [] s3) (by simp)
          have hp3 := hp2.fr (Fr.of [] s3) (by simp)
          have f3' := f2'.trans (Fr.of _ s3)
          have hr3 := s3 _ _ hr2
          refine ⟨_, rfl, q, _, 1, tx name, rfl, rfl, SqT.of hq3, rfl, rr, .str d'.st, rfl, .inl ⟨_, .inr (S name), .inl hrr, rfl, hst.symm⟩, rfl, _, rfl, ?_⟩
          by_cases hg : d'.st = "gone"
          · refine iffF (by show (!decide (V.str d'.st = V.str "gone")) = false; rw [hg]; decide +kernel) ?_
            have hdg : d' = d := by
              rcases q5 with ⟨_, z⟩ | ⟨_, s, ag, pu, z, _⟩
              · exact z
              · rw [z] at hg
                exact absurd (show ("up" : Str) = "gone" from hg) (by decide +kernel)
            obtain ⟨dxm, hom⟩ := hx3.o
            refine ⟨_, rfl, _, _, _, rfl, hom, noWriter_mode ({ x with roads := a ++ d' :: b, known := kn, limit := lim, mode := m', la := la, anew := es }), { x with roads := a ++ d' :: b, known := kn, limit := lim, mode := m', la := la, anew := es }, rfl, hx3, _, rfl, y.sd, _, rfl, .k (k := .inr ("mode" : Str)) hy3.sd (by rw [sizeLine_eq]; show 5 < _; decide), ?_⟩
            rw [pk_mode]
            have fM : Fr [y.sd] H3 (upd H3 y.sd (.dK (seenK { y with mode := ({ x with roads := a ++ d' :: b, known := kn, limit := lim, mode := m', la := la, anew := es }).mode }))) := Fr.putD (by simp) hy3.sd
            have hyM : SeenAt (upd H3 y.sd (.dK (seenK { y with mode := ({ x with roads := a ++ d' :: b, known := kn, limit := lim, mode := m', la := la, anew := es }).mode }))) { y with mode := ({ x with roads := a ++ d' :: b, known := kn, limit := lim, mode := m', la := la, anew := es }).mode } := by
              unfold sadr at hnd
              simp at hnd
              obtain ⟨⟨q1, q2, q3, q4⟩, _⟩ := hnd
              exact ⟨upd_same, by show upd _ _ _ y.b = _; rw [upd_ne (fun z => q1 z.symm)]; exact hy3.b, by show upd _ _ _ y.g = _; rw [upd_ne (fun z => q2 z.symm)]; exact hy3.g, by show upd _ _ _ y.l = _; rw [upd_ne (fun z => q3 z.symm)]; exact hy3.l, by show upd _ _ _ y.s = _; rw [upd_ne (fun z => q4 z.symm)]; exact hy3.s⟩
            have fE := f3'.trans (fM.mono c_sd)
            have hfoot2 : ∀ c ∈ foot ({ x with roads := a ++ d' :: b, known := kn, limit := lim, mode := m', la := la, anew := es }), c ∈ foot x ∨ H c = none := fun c hc => .inl (hfoot c hc)
            have hsdn : ∀ c ∈ [y.sd], c ∉ ({ x with roads := a ++ d' :: b, known := kn, limit := lim, mode := m', la := la, anew := es }).la :: foot ({ x with roads := a ++ d' :: b, known := kn, limit := lim, mode := m', la := la, anew := es }) := fun c hc z => by
              rw [List.mem_singleton.mp hc] at z
              rcases List.mem_cons.mp z with z | z
              · exact seen_la hy3 hx3 y.sd (by simp [sadr]) z
              · rcases hfoot2 _ z with z | z
                · exact hsep y.sd (by simp [sadr]) z
                · rw [hy.sd] at z; cases z
            have hPsd : PT K ∉ [y.sd] := fun z => hPs (by rw [List.mem_singleton.mp z]; simp [sadr])
            have hpsd : p ∉ [y.sd] := fun z => hps (by rw [List.mem_singleton.mp z]; simp [sadr])
            have hrsd : r ≠ y.sd := ne_of hr3 hy3.sd (fun z => nomatch z)
            refine ⟨_, rfl, ?_⟩
            exact k ({ x with roads := a ++ d' :: b, known := kn, limit := lim, mode := m', la := la, anew := es }) (y.sure) ({ x with roads := a ++ d' :: b, known := kn, limit := lim, mode := m', la := la, anew := es }).mode r [] _ rfl (hx3.fr fM hsdn) (hI2) hyM (hsM) (hT3.fr fM hPsd) (hp3.fr fM hpsd) fE hfoot2 (fM.at (by simpa using hrsd) hr3) (by show 0 ≤ 3; decide) (.inl ⟨(hS.mid (x' := { x with roads := a ++ d' :: b, known := kn, limit := lim, mode := m', la := la, anew := es }) (d := d) (d' := d') hab rfl (by rw [hdg]) (by rw [hdg]) ⟨[], by rw [hdg, List.append_nil]⟩ (fun z => absurd hg z)).mode' hI2.mode, by intro t ht; cases ht⟩)
          · refine ift (by show (!decide (V.str d'.st = V.str "gone")) = true; rw [decide_eq_false (fun z => hg (V.str.inj z))]; rfl) ?_
            have hdg : d.st ≠ "gone" := by
              rcases q5 with ⟨z, rfl⟩ | ⟨z, _⟩
              · exact absurd z hg
              · exact z
            obtain ⟨il, hil, hil0⟩ := hS.laid1 (S name)
            have hil' : (valV y.laid (.inr (S name))).getD (.int 0) = .int il := hil
            have ho9 := hown il hil
            -- what the letter said is what was laid at most
            refine ⟨_, rfl, q, _, 2, .int own, rfl, rfl, SqT.of hq3, rfl, _, rfl, y.sd, .ref y.l, rfl, hy3.get (sk_laid y), y.l, rfl, IsD.of hy3.l, _, rfl, q, _, 1, tx name, rfl, rfl, SqT.of hq3, rfl, _, DGet.of hy3.l, ?_⟩
            rw [hil']
            refine ⟨_, _, rfl, rfl, _, rfl, ift (decide_eq_true ho9) ⟨_, rfl, q, _, 2, .int own, rfl, rfl, SqT.of hq3, rfl, ?_⟩⟩
            obtain ⟨js, hjs, hjs0⟩ := hS.sure1 (S name)
            have hjs' : (valV y.sure (.inr (S name))).getD (.int 0) = .int js := hjs
            refine ⟨_, rfl, y.sd, .ref y.s, rfl, hy3.get (sk_sure y), y.s, rfl, IsD.of hy3.s, _, rfl, q, _, 1, tx name, rfl, rfl, SqT.of hq3, rfl, _, DGet.of hy3.s, ?_⟩
            rw [hjs']
            refine ⟨_, rfl, _, _, rfl, ?_⟩
            have hmx : js ≤ (if own > js then own else js) ∧ own ≤ (if own > js then own else js) := by split <;> omega
            generalize (if own > js then own else js) = mx at hmx ⊢
            refine ⟨_, rfl, y.sd, .ref y.s, rfl, hy3.get (sk_sure y), _, rfl, q, _, 1, tx name, rfl, rfl, SqT.of hq3, rfl, y.s, _, rfl, .k (k := .inr (S name)) hy3.s (by rw [sizeLine_eq]; have := hz.s; omega), ?_⟩
            have f4 : Fr [y.s] H3 (upd H3 y.s (.dK (putK y.sure (.inr (S name)) (.int mx)))) := Fr.putD (by simp) hy3.s
            have hy4 : SeenAt (upd H3 y.s (.dK (putK y.sure (.inr (S name)) (.int mx)))) { y with sure := putK y.sure (.inr (S name)) (.int mx) } := by
              unfold sadr at hnd
              simp at hnd
              obtain ⟨⟨a1, a2, a3, a4⟩, ⟨b1, b2, b3⟩, ⟨c1, c2⟩, d1⟩ := hnd
              exact ⟨by show upd _ _ _ y.sd = _; rw [upd_ne a4]; exact hy3.sd, by show upd _ _ _ y.b = _; rw [upd_ne b3]; exact hy3.b, by show upd _ _ _ y.g = _; rw [upd_ne c2]; exact hy3.g, by show upd _ _ _ y.l = _; rw [upd_ne d1]; exact hy3.l, upd_same⟩
            have hssn : ∀ c ∈ [y.s], c ∉ la :: foot { x with roads := a ++ d' :: b, known := kn, limit := lim, mode := m', la := la, anew := es } := fun c hc z => by
              rw [List.mem_singleton.mp hc] at z
              rcases List.mem_cons.mp z with z | z
              · exact seen_la hy3 hx3 y.s (by simp [sadr]) z
              · exact hsep y.s (by simp [sadr]) (hfoot _ z)
            have hx4 := hx3.fr f4 hssn
            have hT4 := hT3.fr f4 (fun z => hPs (by rw [List.mem_singleton.mp z]; simp [sadr]))
            have hp4 := hp3.fr f4 (fun z => hps (by rw [List.mem_singleton.mp z]; simp [sadr]))
            have hrs : r ≠ y.s := ne_of hr3 hy3.s (fun z => nomatch z)
            have hr4 : (upd H3 y.s (.dK (putK y.sure (.inr (S name)) (.int mx)))) r = some (.lst []) := by rw [upd_ne hrs]; exact hr3
            have f4' := f3'.trans (f4.mono c_s)
            have hSI : SI { x with roads := a ++ d' :: b, known := kn, limit := lim, mode := m', la := la, anew := es } { y with sure := putK y.sure (.inr (S name)) (.int mx) } := by
              have := hS.sure' (x' := { x with roads := a ++ d' :: b, known := kn, limit := lim, mode := m', la := la, anew := es }) hab rfl hI.nd q5 hdg (by rw [hdn]; exact hjs) hmx.1 hmx.2 (by omega)
              rw [hdn] at this
              exact this
            generalize (upd H3 y.s (.dK (putK y.sure (.inr (S name)) (.int mx)))) = H4 at f4 hy4 hx4 hT4 hp4 hr4 f4' ⊢
            obtain ⟨dxm, hom⟩ := hx4.o
            refine ⟨_, rfl, _, _, _, rfl, hom, noWriter_mode ({ x with roads := a ++ d' :: b, known := kn, limit := lim, mode := m', la := la, anew := es }), { x with roads := a ++ d' :: b, known := kn, limit := lim, mode := m', la := la, anew := es }, rfl, hx4, _, rfl, y.sd, _, rfl, .k (k := .inr ("mode" : Str)) hy4.sd (by rw [sizeLine_eq]; show 5 < _; decide), ?_⟩
            rw [pk_mode]
            have fM : Fr [y.sd] H4 (upd H4 y.sd (.dK (seenK { { y with sure := (putK y.sure (.inr (S name)) (.int mx)) } with mode := ({ x with roads := a ++ d' :: b, known := kn, limit := lim, mode := m', la := la, anew := es }).mode }))) := Fr.putD (by simp) hy4.sd
            have hyM : SeenAt (upd H4 y.sd (.dK (seenK { { y with sure := (putK y.sure (.inr (S name)) (.int mx)) } with mode := ({ x with roads := a ++ d' :: b, known := kn, limit := lim, mode := m', la := la, anew := es }).mode }))) { { y with sure := (putK y.sure (.inr (S name)) (.int mx)) } with mode := ({ x with roads := a ++ d' :: b, known := kn, limit := lim, mode := m', la := la, anew := es }).mode } := by
              unfold sadr at hnd
              simp at hnd
              obtain ⟨⟨q1, q2, q3, q4⟩, _⟩ := hnd
              exact ⟨upd_same, by show upd _ _ _ y.b = _; rw [upd_ne (fun z => q1 z.symm)]; exact hy4.b, by show upd _ _ _ y.g = _; rw [upd_ne (fun z => q2 z.symm)]; exact hy4.g, by show upd _ _ _ y.l = _; rw [upd_ne (fun z => q3 z.symm)]; exact hy4.l, by show upd _ _ _ y.s = _; rw [upd_ne (fun z => q4 z.symm)]; exact hy4.s⟩
            have fE := f4'.trans (fM.mono c_sd)
            have hfoot2 : ∀ c ∈ foot ({ x with roads := a ++ d' :: b, known := kn, limit := lim, mode := m', la := la, anew := es }), c ∈ foot x ∨ H c = none := fun c hc => .inl (hfoot c hc)
            have hsdn : ∀ c ∈ [y.sd], c ∉ ({ x with roads := a ++ d' :: b, known := kn, limit := lim, mode := m', la := la, anew := es }).la :: foot ({ x with roads := a ++ d' :: b, known := kn, limit := lim, mode := m', la := la, anew := es }) := fun c hc z => by
              rw [List.mem_singleton.mp hc] at z
              rcases List.mem_cons.mp z with z | z
              · exact seen_la hy4 hx4 y.sd (by simp [sadr]) z
              · rcases hfoot2 _ z with z | z
                · exact hsep y.sd (by simp [sadr]) z
                · rw [hy.sd] at z; cases z
            have hPsd : PT K ∉ [y.sd] := fun z => hPs (by rw [List.mem_singleton.mp z]; simp [sadr])
            have hpsd : p ∉ [y.sd] := fun z => hps (by rw [List.mem_singleton.mp z]; simp [sadr])
            have hrsd : r ≠ y.sd := ne_of hr4 hy4.sd (fun z => nomatch z)
            refine ⟨_, rfl, ?_⟩
            exact k ({ x with roads := a ++ d' :: b, known := kn, limit := lim, mode := m', la := la, anew := es }) ((putK y.sure (.inr (S name)) (.int mx))) ({ x with roads := a ++ d' :: b, known := kn, limit := lim, mode := m', la := la, anew := es }).mode r [] _ rfl (hx4.fr fM hsdn) (hI2) hyM (by have := length_putK y.sure (.inr (S name)) (.int mx); have := hz.s; omega) (hT4.fr fM hPsd) (hp4.fr fM hpsd) fE hfoot2 (fM.at (by simpa using hrsd) hr4) (by show 0 ≤ 3; decide) (.inl ⟨hSI.mode' hI2.mode, by intro t ht; cases ht⟩)
    refine ⟨_, rfl, _, _, rfl, rfl, _, rfl, ite2 (fun _ => ?_) (fun _ => ?_)⟩
    · -- tick
      refine ⟨_, rfl, _, _, _, rfl, ho, noWriter_tick (x), x, rfl, hx0, hb, fun rs la es r ts H1 hx1 f1 hc hes hes2 hr hr1 hts hlen => ?_⟩
      refine k { x with roads := rs, la := la, anew := es } y.sure y.mode r ts H1 rfl hx1 ((hI.tick hc hes hes2).up (Nat.le_succ n)) (hy0.fr f1 hn3) hsM (hT0.fr f1 hPf) (hp0.fr f1 hpf) (f0'.trans (f1.mono c_f)) (fun c hc2 => .inl ?_) hr1 (by have := hI.few; omega) (.inl ⟨hS.core hc, fun t ht => (hts t ht).l⟩)
      rw [← foot_core (la := la) (es := es) hc]
      exact hc2
    -- a or z
    refine ⟨line5 (by show 2 ≤ _; decide), fun l1 hl1 => ?_⟩
    have s1 := Same.upd (o := .lst [.str "a", .str "z"]) hl1
    have hp0' := hp0.fr (Fr.of [] s1) (by simp)
    have hlp : l1 ≠ p := by
      obtain ⟨c, s, e, _⟩ := hp0
      exact (ne_of_none e hl1).symm
    refine ⟨_, rfl, p, 2, rfl, hp0', ⟨by decide, by decide⟩, fun r1 H1 a1 b1 hp1 k1 => ?_⟩
    have f01 : Fr [p] H0 H1 := (Fr.of _ s1).trans (nfp hp0' k1)
    have hl1' : H1 l1 = some (.lst [.str "a", .str "z"]) := k1 l1 _ (by simpa using hlp) upd_same
    obtain ⟨name, hat, hnm, hnm2⟩ := at_az a1 b1
    refine ⟨l1, _, r1, tx name, rfl, rfl, SqL.of hl1', hat, ?_⟩
    clear k1 hl1' hat hp0'
    have f1 : Fr (PT K :: p :: y.sd :: y.s :: foot x) H H1 := f0'.trans (f01.mono c_p)
    have hx1 := hx0.fr f01 hn1
    have hy1 := hy0.fr f01 hn2
    have hT1 := hT0.fr f01 (by simpa using hPp)
    obtain ⟨dx1, ho1⟩ := hx1.o
    obtain ⟨hnl, hn81, hn82⟩ := hnm.ok
    have em : ∀ z : Str, decide (V.str x.mode = V.str z) = decide (x.mode = z) := fun z => by
      by_cases h : x.mode = z
      · rw [decide_eq_true h]; exact decide_eq_true (by rw [h])
      · rw [decide_eq_false h]; exact decide_eq_false fun q => h (V.str.inj q)
    -- what is told behind the first test, wherever the heap is by then
    have noroad : ∀ H2 : Hp, Same H1 H2 → ∀ r, H2 r = none → Q (.ref r) (upd H2 r (.lst [])) := fun H2 s2 r hr => by
      have s3 := s2.trans (Same.upd (o := .lst []) hr)
      exact k x y.sure y.mode r [] _ rfl (hx1.same s3) (hI.up (Nat.le_succ n)) (hy1.fr (Fr.of [] s3) (by simp)) hsM (hT1.fr (Fr.of [] s3) (by simp)) (hp1.fr (Fr.of [] s3) (by simp)) (f1.trans (Fr.of _ s3)) (fun c hc => .inl hc) upd_same (by show 0 ≤ 3; decide) (.inl ⟨hS, by intro t ht; cases ht⟩)
    have kbeg : x.mode = "led" → (∀ d ∈ x.roads, d.name ≠ name) → ∀ (H2 : Hp), Fr [p] H1 H2 → PoolAt H2 p → ∀ (b : Int) (d : Rw) (r t : Addr) (H3 : Hp), d.name = name → d.base = b → d.txt = [] → d.ents = [] → d.sure = 0 →
        WrH K H3 { x with first := some (x.first.getD name), roads := x.roads ++ [d] } → Fr (foot x) H2 H3 → (∀ c ∈ rf d, H2 c = none) → H3 r = some (.lst [.ref t]) → H3 t = some (.tup [.str "join", tx name, .int b]) → Q (.ref r) H3 := by
      intro hled hno H2 f2 hp2 b d r t H3 g3 g4 g5 g6 g7 hx3 f3 hfr hr3 ht3
      have hy2 := hy1.fr f2 hn2
      have hT2 := hT1.fr f2 (by simpa using hPp)
      have SIb : SI { x with first := some (x.first.getD name), roads := x.roads ++ [d] } { y with bases := putK y.bases (.inr (S name)) (.int b) } := by
        have h9 := hS.begin (x' := { x with first := some (x.first.getD name), roads := x.roads ++ [d] }) (d := d) rfl (by rw [g3]; exact hno) g5 g7
        rw [g3, g4] at h9
        exact h9
      refine k { x with first := some (x.first.getD name), roads := x.roads ++ [d] } y.sure y.mode r [t] H3 rfl hx3 ((hI.begin hnm hno (.inr hled) g3 g5 g6 g7).up (Nat.le_succ n)) (hy2.fr f3 hn3) hsM (hT2.fr f3 hPf) (hp2.fr f3 hpf) ((f1.trans (f2.mono c_p)).trans (f3.mono c_f)) ?_ hr3 (by show 1 ≤ 3; decide) (.inr ⟨t, name, b, rfl, ht3, SIb⟩)
      intro c hc
      unfold foot at hc
      rcases List.mem_cons.mp hc with z | hc
      · exact .inl (by rw [z]; simp [foot])
      rcases List.mem_cons.mp hc with z | hc
      · exact .inl (by rw [z]; simp [foot])
      have hc2 : c ∈ (x.roads ++ [d]).flatMap rf := hc
      rw [List.flatMap_append] at hc2
      rcases List.mem_append.mp hc2 with hc3 | hc3
      · refine .inl ?_
        unfold foot
        exact List.mem_cons_of_mem _ (List.mem_cons_of_mem _ hc3)
      · have hc4 : c ∈ rf d := by simpa using hc3
        have h9 := hfr c hc4
        refine .inr (((f0.trans f01).trans f2).free (fun z => ?_) h9)
        obtain ⟨q1, q2, q3, _⟩ := hp2
        rw [List.mem_singleton.mp z, q3] at h9
        cases h9
    have few := hI.few
    simp only [gName]
    refine if_next (fun H2 => Same H1 H2) (fun H2 s2 => ?_) (fun N hN => ?_)
    · -- is the road there
      have hx2 := hx1.same s2
      have ho2 := s2 _ _ ho1
      have hy2 := hy1.fr (Fr.of [] s2) (by simp)
      have hT2 := hT1.fr (Fr.of [] s2) (by simp)
      have hp2 := hp1.fr (Fr.of [] s2) (by simp)
      have f2 := f1.trans (Fr.of _ s2)
      refine ⟨_, rfl, _, _, _, rfl, ho2, noWriter_roads (x), x, rfl, hx2, hb, fun rr H3 s3 hrr0 hrr => ⟨rr, rfl, IsD.of hrr, _, rfl, valV (x.roads.map fun d => ((.inr (S d.name) : Key), V.str d.st)) (.inr (S name)), DGet.of hrr, ?_⟩⟩
      have s23 := s2.trans s3
      have hx3 := hx2.same s3
      have ho3 := s3 _ _ ho2
      have hp3 := hp2.fr (Fr.of [] s3) (by simp)
      have hy3 := hy2.fr (Fr.of [] s3) (by simp)
      have hT3 := hT2.fr (Fr.of [] s3) (by simp)
      have f3 := f2.trans (Fr.of _ s3)
      cases hv : valV (x.roads.map fun d => ((.inr (S d.name) : Key), V.str d.st)) (.inr (S name)) with
      | none => exact ⟨rfl, _, rfl, ift (by decide +kernel) ⟨line5 (by decide), fun r hr => noroad H3 s23 r hr⟩⟩
      | some v =>
        obtain ⟨d, hd, hdn⟩ := stK_get hv
        have hv2 := stK_some hI.nd hd
        rw [hdn, hv] at hv2
        obtain rfl := Option.some.inj hv2
        refine ⟨rfl, _, rfl, ?_⟩
        by_cases hg : d.st = "gone"
        · exact ift (show decide (V.str d.st = V.str "gone") = true from decide_eq_true (by rw [hg])) ⟨line5 (by decide), fun r hr => noroad H3 s23 r hr⟩
        · refine iffF (show decide (V.str d.st = V.str "gone") = false from decide_eq_false fun z => hg (V.str.inj z)) ?_
          obtain ⟨a, b, hab⟩ := List.append_of_mem hd
          refine ⟨_, rfl, p, 3, rfl, hp3, ⟨by decide, by decide⟩, fun r3 H4 a3 b3 hp4 k4 => ⟨_, _, rfl, rfl, _, rfl, ?_⟩⟩
          have f34 : Fr [p] H3 H4 := nfp hp3 k4
          have hx4 := hx3.fr f34 hn1
          have hy4 := hy3.fr f34 hn2
          have hT4 := hT3.fr f34 (by simpa using hPp)
          have f4 := f3.trans (f34.mono c_p)
          obtain ⟨dx4, ho4⟩ := hx4.o
          refine ite2 (fun _ => ?_) (fun _ => ?_)
          · -- spare
            refine ⟨_, rfl, _, _, _, rfl, ho4, noWriter_spare (x), _, rfl, _, rfl, p, 2, rfl, hp4, ⟨by decide, by decide⟩, fun r5 H5 a5 b5 hp5 k5 => ?_⟩
            have f45 : Fr [p] H4 H5 := nfp hp4 k5
            have hx5 := hx4.fr f45 hn1
            refine ⟨rfl, x, a, b, d, decide (V.int r5 = V.int 0), (by rw [hdn]; rfl), hx5, hb, hab, hg, fun r t H6 hx6 f6 hr0 hr6 ht6 => ?_⟩
            have hy6 := (hy4.fr f45 hn2).fr f6 hn3
            have hT6 := (hT4.fr f45 (by simpa using hPp)).fr f6 hPf
            have hp6 := hp5.fr f6 hpf
            refine k { x with roads := a ++ { d with spare := decide (V.int r5 = V.int 0) } :: b } y.sure y.mode r [t] H6 rfl hx6 ((hI.spare hab).up (Nat.le_succ n)) hy6 hsM hT6 hp6 ((f4.trans (f45.mono c_p)).trans (f6.mono c_f)) (fun c hc => .inl ?_) hr6 (by show 1 ≤ 3; decide) (.inl ⟨?_, fun t2 ht2 => ?_⟩)
            · rw [← foot_mid (d := d) (d' := { d with spare := decide (V.int r5 = V.int 0) }) hab rfl]
              exact hc
            · exact hS.mid (d := d) (d' := { d with spare := decide (V.int r5 = V.int 0) }) hab rfl rfl rfl ⟨[], (List.append_nil _).symm⟩ fun z => ⟨z, Int.le_refl _⟩
            · rw [List.mem_singleton.mp ht2]
              exact .inr (.inl ⟨"spare", _, by decide +kernel, by decide +kernel, by show 2 ≤ 10; decide, ht6⟩)
          · -- go
            have hled : x.mode = "led" := by
              by_cases h : x.mode = "led"
              · exact h
              · exact absurd ((hI.sole h d hd).symm.trans hdn).symm hnm2
            refine ⟨_, rfl, _, _, _, rfl, ho4, noWriter_go (x), _, rfl, x, a, b, d, (by rw [hdn]; rfl), hx4, hb, hab, hg, fun la r t es H6 hx6 f6 hes hla hr0 hr6 ht6 => ?_⟩
            have hy6 := hy4.fr f6 hn3
            have hT6 := hT4.fr f6 hPf
            have hp6 := hp4.fr f6 hpf
            have hgone : WI n { x with mode := x.mode, roads := a ++ { d with st := "gone", put := true } :: b, la := la, anew := es } := hI.gone hab hes (.inl ⟨rfl, by rw [hled]; decide +kernel⟩)
            refine k { x with roads := a ++ { d with st := "gone", put := true } :: b, la := la, anew := es } y.sure y.mode r [t] H6 rfl hx6 (hgone.up (Nat.le_succ n)) hy6 hsM hT6 hp6 (f4.trans (f6.mono c_f)) (fun c hc => .inl ?_) hr6 (by show 1 ≤ 3; decide) (.inl ⟨?_, fun t2 ht2 => ?_⟩)
            · rw [← foot_mid (d := d) (d' := { d with st := "gone", put := true }) hab rfl]
              exact hc
            · exact hS.mid (d := d) (d' := { d with st := "gone", put := true }) hab rfl rfl rfl ⟨[], (List.append_nil _).symm⟩ fun z => absurd rfl z
            · rw [List.mem_singleton.mp ht2]
              exact .inr (.inl ⟨"gone", _, by decide +kernel, by decide +kernel, by show 1 ≤ 10; decide, ht6⟩)
    · -- a road begun by the law
      refine ⟨_, rfl, rfl, _, rfl, ?_⟩
      refine ite2 (fun _ => ?_) (fun _ => hN H1 (Same.refl _))
      refine ⟨_, rfl, _, rfl, _, _, _, rfl, ho1, noWriter_roads (x), x, rfl, hx1, hb, fun rr H2 s2 hrr0 hrr => ⟨rr, valV (x.roads.map fun d => ((.inr (S d.name) : Key), V.str d.st)) (.inr (S name)), rfl, .inl ⟨_, .inr (S name), .inl hrr, rfl, rfl⟩, _, rfl, ?_⟩⟩
      have hx2 := hx1.same s2
      have ho2 := s2 _ _ ho1
      have hp2 := hp1.fr (Fr.of [] s2) (by simp)
      cases hv : valV (x.roads.map fun d => ((.inr (S d.name) : Key), V.str d.st)) (.inr (S name)) with
      | some v => exact iffF (by rfl) (hN H2 s2)
      | none =>
        have hno : ∀ d ∈ x.roads, d.name ≠ name := fun d hd e => by
          have := stK_some hI.nd hd
          rw [e, hv] at this
          cases this
        refine ift (by rfl) ⟨_, rfl, _, _, _, rfl, ho2, noWriter_mode (x), x, rfl, hx2, rfl, _, rfl, ?_⟩
        by_cases hled : x.mode = "led"
        · refine ift (show decide (V.str x.mode = V.str "led") = true from decide_eq_true (by rw [hled])) ?_
          refine ⟨_, rfl, _, _, _, rfl, ho2, noWriter_begin (x), _, rfl, _, rfl, p, 10000, rfl, hp2, ⟨by decide, by decide⟩, fun b H3 a3 b3 hp3 k3 => ?_⟩
          have f23 : Fr [p] H2 H3 := nfp hp2 k3
          have hx3 := hx2.fr f23 hn1
          refine ⟨x, name, b, rfl, hx3, by omega, hnl, ⟨hn81, hn82⟩, ⟨by omega, by omega⟩, hno, .inr hled, fun d r t H4 g3 g4 g5 g6 g7 g8 hx4 f4 hfr hr hr4 ht4 => ?_⟩
          exact kbeg hled hno H3 ((Fr.of _ s2).trans f23) hp3 b d r t H4 g3 g4 g5 g6 g7 hx4 f4 hfr hr4 ht4
        · exact iffF (show decide (V.str x.mode = V.str "led") = false from decide_eq_false fun z => hled (V.str.inj z)) (hN H2 s2)
end

/-! ### law -/
theorem SqL.ak {K : PySem.W.Frag} {H00 H : Hp} {a : Addr} {xs : List V} (h : SqL K H00 a xs) (k : ∀ u, H00 a = some u → H a = some u) : SqL K H a xs := h.imp (fun r => r.imp (k _) fun ⟨o, e⟩ => ⟨o, k _ e⟩) id
theorem un {H : Hp} {a b : Addr} {o : HO} (h : upd H a o b = none) : b ≠ a ∧ H b = none := by
  have n : b ≠ a := fun z => by rw [z, upd_same] at h; cases h
  exact ⟨n, by rw [upd_ne n] at h; exact h⟩
/-- all that the law carries from turn to turn -/
structure LI (K : PySem.W.Frag) (H00 : Hp) (a : Addr) (H : Hp) (x : Wr) (y : Seen) (n M : Nat) : Prop where
  wr : WrH K H x
  wi : WI n x
  se : SeenAt H y
  sz : Sz M y
  tab : TabsB K H
  sep : ∀ c ∈ sadr y, c ∉ foot x
  nd : (sadr y).Nodup
  ak : ∀ u, H00 a = some u → H a = some u
  al : ∀ b, H b = none → H00 b = none
  ff : ∀ c ∈ foot x, H00 c = none
  fs : ∀ c ∈ sadr y, H00 c = none
theorem LI.fr {K : PySem.W.Frag} {H00 : Hp} {a : Addr} {H H' : Hp} {x : Wr} {y : Seen} {n M : Nat} {F : List Addr} (h : LI K H00 a H x y n M) (f : Fr F H H') (n1 : ∀ c ∈ F, c ∉ x.la :: foot x) (n2 : ∀ c ∈ F, c ∉ sadr y) (n3 : PT K ∉ F) (n4 : ∀ c ∈ F, H00 c = none) : LI K H00 a H' x y n M := by
  refine ⟨h.wr.fr f n1, h.wi, h.se.fr f n2, h.sz, h.tab.fr f n3, h.sep, h.nd, fun u e => ?_, fun b e => ?_, h.ff, h.fs⟩
  · refine f.at (fun z => ?_) (h.ak u e)
    rw [n4 a z] at e
    cases e
  · by_cases z : b ∈ F
    · exact n4 b z
    · exact h.al b (f.free z e)
theorem LI.same {K : PySem.W.Frag} {H00 : Hp} {a : Addr} {H H' : Hp} {x : Wr} {y : Seen} {n M : Nat} (h : LI K H00 a H x y n M) (s : Same H H') : LI K H00 a H' x y n M := h.fr (Fr.of [] s) (by simp) (by simp) (by simp) (by simp)
theorem LI.up {K : PySem.W.Frag} {H00 : Hp} {a : Addr} {H : Hp} {x : Wr} {y : Seen} {n M n' M' : Nat} (h : LI K H00 a H x y n M) (e1 : n ≤ n') (e2 : M ≤ M') : LI K H00 a H x y n' M' :=
  ⟨h.wr, h.wi.up e1, h.se, ⟨Nat.le_trans h.sz.b e2, Nat.le_trans h.sz.g e2, Nat.le_trans h.sz.l e2, Nat.le_trans h.sz.s e2⟩, h.tab, h.sep, h.nd, h.ak, h.al, h.ff, h.fs⟩
/-- a pool apart from all -/
theorem LI.pool {K : PySem.W.Frag} {H00 : Hp} {a : Addr} {H H' : Hp} {x : Wr} {y : Seen} {n M : Nat} {p : Addr} (h : LI K H00 a H x y n M) (hp : PoolAt H p) (hpf : p ∉ foot x) (hp0 : H00 p = none) (f : Fr [p] H H') : LI K H00 a H' x y n M := by
  refine h.fr f (fun c hc z => ?_) (fun c hc z => ?_) (fun z => ?_) (fun c hc => ?_)
  · rw [List.mem_singleton.mp hc] at z
    rcases List.mem_cons.mp z with z | z
    · exact pool_la hp h.wr z
    · exact hpf z
  · rw [List.mem_singleton.mp hc] at z
    exact hp.sadr h.se z
  · exact PT_pool h.tab hp (List.mem_singleton.mp z)
  · rw [List.mem_singleton.mp hc]; exact hp0
theorem at_rules {r : Int} (h0 : 0 ≤ r) (h1 : r < 3) : ∃ z : Str, atI [V.str "first", .str "few", .str "turns"] r = some (.str z) ∧ (z = "first" ∨ z = "few" ∨ z = "turns") := by
  have : r = 0 ∨ r = 1 ∨ r = 2 := by omega
  rcases this with rfl | rfl | rfl
  · exact ⟨_, rfl, .inl rfl⟩
  · exact ⟨_, rfl, .inr (.inl rfl)⟩
  · exact ⟨_, rfl, .inr (.inr rfl)⟩
section
variable {P : Program} {w : World} {K : PySem.W.Frag} {mg : Str → Option Value} {base : Heap}
/-- the same of a def as it stands -/
theorem promF (d : He.DefD) {fd : FuncData} {N ps : List Str} {k : Nat} {sp : Sp} {kws : List (Str × V)} (F : FunD K d.name d.qual d.params d.body d.scope [] kws (He.fAd K d.at_) fd) (S : FnScope N ps d.scope) (len : ∀ vs H Q E, sp vs H Q E → vs.length = ps.length)
    (hbody : ∀ (cdv : Value) (A : Around) (outer : List Env) (s : Shared) (H : Hp) (vs : List V) (Q : VK) (E : XK), Room k (A.deeper (envOfC d.qual d.scope s.heap.objs.size (He.fAd K d.at_) cdv)) → sp vs H Q E →
      ∃ t, PSs (cxOf CX0 P w K mg base N d.qual d.scope (He.fAd K d.at_) cdv A outer s H E).nox d.body t ∧ t { nx := fun _ H' => Q .non H', rt := Q } (start N vs) H) : FnOk P w K mg base CX0 (k + 1) (He.fAd K d.at_) fd ps sp :=
  F.ok S len fun cdv A outer s H vs Q E hr h => by
    obtain ⟨t, h1, h2⟩ := hbody cdv A outer s H vs Q E hr h
    exact ⟨t, PSs.nox h1, h2⟩
def sp_law (K : PySem.W.Frag) : Sp := fun vs H Q _ => ∃ (a : Addr) (ns : List Int), vs = [.ref a] ∧ SqL K H a (ns.map V.int) ∧ ns.length ≤ 63 ∧ TabsB K H ∧ K.lookup (PT K) = none ∧ ∀ H' : Hp, Q (.bl true) H'
theorem sc_law : FnScope ["_law_script", "_law_pool_here", "_law_writer", "_law_seen", "_law_k", "_law_turn", "_law_letter"] ["_law_script"] (defScope s_law) := ⟨rfl, rfl, rfl, by decide +kernel, rfl, by decide +kernel, by decide +kernel⟩
theorem ok_law (T : TX P w K mg base) {fd : FuncData} {kws : List (Str × V)} (F : FunD K d_law.name d_law.qual d_law.params d_law.body d_law.scope [] kws (He.fAd K d_law.at_) fd) : FnOk P w K mg base CX0 9 (He.fAd K d_law.at_) fd ["_law_script"] (sp_law K) := by
  have G_Writer_init := ok_Writer_init T
  have G_Writer_begin := ok_Writer_begin T
  have G_Writer_kept := ok_Writer_kept T
  have G_Writer_known := ok_Writer_known T
  have G_Writer_written := ok_Writer_written T
  have G_law_letter_right := ok_law_letter_right T
  have G_law_pool := ok_law_pool T
  have G_law_take := ok_law_take T
  have G_law_told := ok_law_told T
  refine promF d_law F sc_law (fun vs H Q E h => ?_) (fun cdv A outer s H vs Q E hr h => ?_)
  · obtain ⟨_, _, rfl, _⟩ := h
    rfl
  · have hu := hu_of hr
    obtain ⟨a, ns, rfl, hS, hl, hT, hPK, k⟩ := h
    refine ⟨_, (pss_cons (ps_set (i := 1) sc_law.nd rfl (by first | exact Or.inl rfl | exact Or.inr rfl) (pe_callP G_law_pool (hr.mono (by decide)) rfl T.g_law_pool (pa_cons (pv 0) (pa_cons pe_int pa_nil))))
      (pss_cons (ps_set (i := 2) sc_law.nd rfl (by first | exact Or.inl rfl | exact Or.inr rfl) (pe_makeKP T.mk_Writer G_Writer_init (hr.mono (by decide)) rfl T.g_Writer (pk_cons (pe_ix ix_list (pe_lst (pa_cons pe_str (pa_cons pe_str (pa_cons pe_str pa_nil)))) (pe_callP G_law_take (hr.mono (by decide)) rfl T.g_law_take (pa_cons (pv 1) (pa_cons pe_int pa_nil))) (fun _ _ => rfl)) pk_nil)))
      (pss_cons (ps_expr (pe_methP (pv 2) T.cl_Writer T.m_Writer_begin G_Writer_begin (hr.mono (by decide)) (pa_cons pe_str (pa_cons pe_int pa_nil))))
      (pss_cons (ps_set (i := 3) sc_law.nd rfl (by first | exact Or.inl rfl | exact Or.inr rfl) (pe_disp (pps_cons pe_str (pe_disp (pps_cons pe_str pe_int pps_nil) (by rfl) (by rfl) (fun z => by cases z) (by decide)) (pps_cons pe_str pe_dnewT (pps_cons pe_str pe_dnewK (pps_cons pe_str pe_dnewK (pps_cons pe_str pe_str pps_nil))))) (by rfl) (by rfl) (fun z => by cases z) (by decide)))
      (pss_cons (ps_for PassesOwn.never rfl (pi_range2 rfl T.f_range (pa_cons pe_int (pa_cons (pe_callB (call_max2 rfl) (by rfl) T.f_max (by decide +kernel) (pa_cons pe_int (pa_cons (pe_callB (call_min2 rfl) (by rfl) T.f_min (by decide +kernel) (pa_cons (pe_callB call_len (by rfl) T.f_len (by decide +kernel) (pa_cons (pv 0) pa_nil)) (pa_cons pe_int pa_nil))) pa_nil))) pa_nil))) (pg_name (i := 4) sc_law.nd rfl (by first | exact Or.inl rfl | exact Or.inr rfl))
        (pss_cons (ps_set (i := 1) sc_law.nd rfl (by first | exact Or.inl rfl | exact Or.inr rfl) (pe_callP G_law_pool (hr.mono (by decide)) rfl T.g_law_pool (pa_cons (pv 0) (pa_cons (pv 4) pa_nil))))
        (pss_one (ps_for PassesOwn.never rfl (pi_range1 rfl T.f_range (pa_cons (pe_op op_add pe_int (pe_callP G_law_take (hr.mono (by decide)) rfl T.g_law_take (pa_cons (pv 1) (pa_cons pe_int pa_nil)))) pa_nil)) (pg_name (i := 5) sc_law.nd rfl (by first | exact Or.inl rfl | exact Or.inr rfl))
          (pss_cons (ps_for PassesOwn.never rfl (pi_list (pe_callP G_law_told (hr.mono (by decide)) rfl T.g_law_told (pa_cons (pv 1) (pa_cons (pv 2) (pa_cons (pv 3) pa_nil))))) (pg_name (i := 6) sc_law.nd rfl (by first | exact Or.inl rfl | exact Or.inr rfl))
            (pss_cons (ps_if (pt_cmpR op_eq (pe_ix ix_tup (pv 6) pe_int (fun _ _ => rfl)) pe_str (nomark _))
              (pss_one (ps_dput hu (pe_dget hu (pv 3) pe_str (fun _ _ => rfl)) (pe_ix ix_tup (pv 6) pe_int (fun _ _ => rfl)) (pe_ix ix_tup (pv 6) pe_int (fun _ _ => rfl)) rfl))
              pss_nil)
            (pss_one (ps_if (PW.pt (pw_and (pt_cmpR op_eq (pe_ix ix_tup (pv 6) pe_int (fun _ _ => rfl)) pe_str (nomark _)) (pw_and1 (pt_not (pt_val (pe_callP G_law_letter_right (hr.mono (by decide)) rfl T.g_law_letter_right (pa_cons (pv 6) (pa_cons (pv 2) (pa_cons (pv 3) pa_nil)))))))))
              (pss_one (ps_ret pe_bl))
              pss_nil))))
          (pss_one (ps_if (pt_cmpR op_ne (pe_methP0 (pv 2) T.cl_Writer T.m_Writer_kept G_Writer_kept (hr.mono (by decide))) (pe_slice sl_str (pe_methP0 (pv 2) T.cl_Writer T.m_Writer_written G_Writer_written (hr.mono (by decide))) (po_some (pe_methP0 (pv 2) T.cl_Writer T.m_Writer_known G_Writer_known (hr.mono (by decide)))) po_none) (nomark _))
            (pss_one (ps_ret pe_bl))
            pss_nil)))))))
      (pss_one (ps_ret pe_bl))))))), ?_⟩
    have nfp : ∀ {p : Addr} {H1 : Hp}, PoolAt H1 p → ∀ {H2 : Hp}, Kp [p] H1 H2 → Fr [p] H1 H2 := fun h _ k => Fr.ofKp k h.nf
    refine ⟨_, rfl, a, 0, ns, rfl, hS, hl, ⟨by decide, by decide⟩, fun p0 H1 s1 hp00 hp0 => ?_⟩
    -- the writer
    refine ⟨line5 (by show 3 ≤ _; decide), fun l1 hl1 => ?_⟩
    have s2 := Same.upd (o := .lst [.str "first", .str "few", .str "turns"]) hl1
    have hp0' := hp0.fr (Fr.of [] s2) (by simp)
    have hlp : l1 ≠ p0 := by
      obtain ⟨c, s, e, _⟩ := hp0
      exact (ne_of_none e hl1).symm
    refine ⟨_, rfl, p0, 3, rfl, hp0', ⟨by decide, by decide⟩, fun r1 H2 a1 b1 hp1 k1 => ?_⟩
    have hl1' : H2 l1 = some (.lst [.str "first", .str "few", .str "turns"]) := k1 l1 _ (by simpa using hlp) upd_same
    obtain ⟨z, hat, hz⟩ := at_rules a1 b1
    have f2 : Fr [p0] H H2 := ((Fr.of _ s1).trans (Fr.of _ s2)).trans (nfp hp0' k1)
    have al2 : ∀ b, H2 b = none → H b = none := fun b e => f2.free (fun z => by
      obtain ⟨c, s, q, _⟩ := hp1
      rw [List.mem_singleton.mp z, q] at e
      cases e) e
    refine ⟨l1, _, r1, .str z, rfl, rfl, SqL.of hl1', hat, rfl, rfl, fun wp dx hwp hdx hne => ?_⟩
    refine ⟨wp, dx, z, rfl, upd_same, hz, fun dr la H3 hx3 f3 hdr hla => ⟨rfl, ?_⟩⟩
    have sm : Same H2 (upd (upd H2 dx (.own wp)) wp (.ins (He.ga K "Writer") dx [])) := (Same.upd hdx).trans (Same.upd (by rw [upd_ne hne.symm]; exact hwp))
    have s3 : Same H2 H3 := Same.of_fr sm f3 fun c hc => by rw [List.mem_singleton.mp hc]; exact hwp
    have f3' : Fr [p0] H H3 := f2.trans (Fr.of _ s3)
    have wp0 : H wp = none := al2 wp hwp
    have dr0 : H dr = none := al2 dr (sm.free hdr)
    -- the first road
    obtain ⟨dx3, ho3⟩ := hx3.o
    have m109 : V.str "m" = tx [109] := rfl
    refine ⟨_, rfl, _, _, _, rfl, ho3, noWriter_begin ⟨wp, dr, la, z, [], 0, 0, "none", [], none, none, 0, []⟩, ⟨wp, dr, la, z, [], 0, 0, "none", [], none, none, 0, []⟩, [109], 9, rfl, hx3, (by show 0 < 64; decide), (nm.ok (.inl rfl)).1, ⟨by decide, by decide⟩, ⟨by decide, by decide⟩, (by intro d hd; cases hd), .inl rfl, fun d r t H4 g1 g2 g3 g4 g5 g6 hx4 f4 hfr hr hr4 ht4 => ?_⟩
    have al3 : ∀ b, H3 b = none → H b = none := fun b e => al2 b (s3.free e)
    -- what is seen
    have gx : ∃ x0 : Wr, x0 = { (⟨wp, dr, la, z, [], 0, 0, "none", [], none, none, 0, []⟩ : Wr) with first := some ((none : Option (List Nat)).getD [109]), roads := [] ++ [d] } := ⟨_, rfl⟩
    obtain ⟨x0, ex0⟩ := gx
    rw [← ex0] at hx4
    have hwI : WI 0 x0 := by
      subst ex0
      refine ⟨hz, Nat.le_refl _, (by intro c hc; cases hc), Int.le_refl _, .inl rfl, rfl, fun d2 h2 => ?_, ?_, Nat.zero_le _, fun _ d2 h2 => ?_, fun _ => rfl, fun _ _ _ _ => rfl, fun _ d2 h2 => ?_, fun d2 h2 => ?_, fun d2 h2 e he => ?_, fun d2 h2 => ?_⟩
      all_goals first
        | (have e2 : d2 = d := List.mem_singleton.mp h2
           subst e2)
        | skip
      · exact .inl g1
      · show [d.name].Nodup
        simp
      · exact g1
      · exact ⟨(by rw [g4]; intro e he; cases he), fun _ => (by rw [g3]; rfl)⟩
      · rw [g3, g4]; exact ⟨Nat.le_refl _, Nat.le_refl _⟩
      · rw [g4] at he; cases he
      · unfold Rw.laid
        rw [g3, g5]
        decide
    have hxp : x0.p = wp := by rw [ex0]
    have hroads : x0.roads = [d] := by rw [ex0]; rfl
    have hff0 : ∀ c ∈ foot x0, H c = none := by
      intro c hc
      rw [ex0] at hc
      have hc2 : c = wp ∨ c = dr ∨ c ∈ rf d := by
        unfold foot at hc
        simpa using hc
      rcases hc2 with rfl | rfl | hc2
      · exact wp0
      · exact dr0
      · exact al3 c (hfr c hc2)
    have al4 : ∀ b, H4 b = none → H b = none := fun b e => by
      by_cases zf : b ∈ foot x0
      · exact hff0 b zf
      · refine al3 b (f4.free (fun q => zf ?_) e)
        rw [ex0]
        have q2 : b = wp ∨ b = dr := by simpa [foot] using q
        rcases q2 with rfl | rfl <;> simp [foot]
    refine fun sd hsd => fun b hb => ⟨upd_same, [(.inr ("m" : Str), .int 9)], rfl, by decide, fun g hg => fun l hl0 => fun s hs => ?_⟩
    obtain ⟨b1n, hb4⟩ := un hb
    obtain ⟨gn1, hg1⟩ := un hg
    obtain ⟨gn2, hg2⟩ := un hg1
    obtain ⟨gn3, hg4⟩ := un hg2
    obtain ⟨ln1, hl1x⟩ := un hl0
    obtain ⟨ln2, hl2⟩ := un hl1x
    obtain ⟨ln3, hl3⟩ := un hl2
    obtain ⟨ln4, hl4⟩ := un hl3
    obtain ⟨sn1, hs1⟩ := un hs
    obtain ⟨sn2, hs2⟩ := un hs1
    obtain ⟨sn3, hs3⟩ := un hs2
    obtain ⟨sn4, hs4⟩ := un hs3
    obtain ⟨sn5, hs5⟩ := un hs4
    refine ⟨?_, [(.inr ("bases" : Str), .ref b), (.inr ("signs" : Str), .ref g), (.inr ("laid" : Str), .ref l), (.inr ("sure" : Str), .ref s), (.inr ("mode" : Str), .str "none")], rfl, (by show 5 ≤ 15; decide), ?_⟩
    · simp [upd, sn5.symm, ln4.symm, gn3.symm, b1n.symm]
    have gy : ∃ y0 : Seen, y0 = ⟨sd, b, g, l, s, [(.inr ("m" : Str), .int 9)], [], [], [], "none"⟩ := ⟨_, rfl⟩
    obtain ⟨y0, ey0⟩ := gy
    have hk0 : mergeK [] [((.inr ("bases" : Str) : Key), V.ref b), (.inr ("signs" : Str), .ref g), (.inr ("laid" : Str), .ref l), (.inr ("sure" : Str), .ref s), (.inr ("mode" : Str), .str "none")] = seenK y0 := by
      rw [ey0]
      kernel_rfl
    rw [hk0]
    have hse : SeenAt (upd (upd (upd (upd (upd (upd (upd H4 sd (.dK [])) b (.dK [])) b (.dK (mergeK [] [(.inr ("m" : Str), .int 9)]))) g (.dT [])) l (.dK [])) s (.dK [])) sd (.dK (seenK y0))) y0 := by
      have em : mergeK [] [((.inr ("m" : Str) : Key), V.int 9)] = [(.inr ("m" : Str), .int 9)] := by kernel_rfl
      rw [em]
      subst ey0
      exact ⟨upd_same, by simp [upd, b1n, gn1.symm, gn2.symm, ln2.symm, ln3.symm, sn3.symm, sn4.symm], by simp [upd, gn3, ln1.symm, sn2.symm], by simp [upd, ln4, sn1.symm], by simp [upd, sn5]⟩
    have sL : Same H4 (upd (upd (upd (upd (upd (upd (upd H4 sd (.dK [])) b (.dK [])) b (.dK (mergeK [] [(.inr ("m" : Str), .int 9)]))) g (.dT [])) l (.dK [])) s (.dK [])) sd (.dK (seenK y0))) := fun c o e => by
      have c1 := ne_of_none e hsd
      have c2 := ne_of_none e hb4
      have c3 := ne_of_none e hg4
      have c4 := ne_of_none e hl4
      have c5 := ne_of_none e hs5
      simp [upd, c1, c2, c3, c4, c5, e]
    generalize (upd (upd (upd (upd (upd (upd (upd H4 sd (.dK [])) b (.dK [])) b (.dK (mergeK [] [(.inr ("m" : Str), .int 9)]))) g (.dT [])) l (.dK [])) s (.dK [])) sd (.dK (seenK y0))) = H5 at hse sL ⊢
    have hfs : ∀ c ∈ sadr y0, H4 c = none := by
      intro c hc
      rw [ey0] at hc
      have hc2 : c = sd ∨ c = b ∨ c = g ∨ c = l ∨ c = s := by simpa [sadr] using hc
      rcases hc2 with rfl | rfl | rfl | rfl | rfl <;> assumption
    have hsep0 : ∀ c ∈ sadr y0, c ∉ foot x0 := fun c hc => not_foot hx4 (hfs c hc)
    have hnd0 : (sadr y0).Nodup := by
      rw [ey0]
      show [sd, b, g, l, s].Nodup
      simp [b1n.symm, gn3.symm, ln4.symm, sn5.symm, gn1.symm, gn2.symm, ln1.symm, ln2.symm, ln3.symm, sn1.symm, sn2.symm, sn3.symm, sn4.symm]
    have hT2 : TabsB K H2 := by
      have h1 := hT.fr (Fr.of [] s1) (by simp)
      have h2 := h1.fr (Fr.of [] s2) (by simp)
      exact h2.fr (nfp hp0' k1) (by simpa using PT_pool h2 hp0')
    have hT3 := hT2.fr (Fr.of [] s3) (by simp)
    have hT4 := hT3.fr f4 (PT_foot hT3 hx3).1
    have hT5 := hT4.fr (Fr.of [] sL) (by simp)
    have hak : ∀ u, H a = some u → H5 a = some u := fun u e => by
      have e2 := f2.at (fun q => by rw [List.mem_singleton.mp q, hp00] at e; cases e) e
      have e3 := s3 _ _ e2
      have e4 := f4.at (fun q => by
        have q2 : a = wp ∨ a = dr := by simpa [foot] using q
        rcases q2 with rfl | rfl
        · rw [wp0] at e; cases e
        · rw [dr0] at e; cases e) e3
      exact sL _ _ e4
    have hLI : LI K H a H5 x0 y0 0 10 := ⟨hx4.same sL, hwI, hse, (by rw [ey0]; exact ⟨by show 1 ≤ 10; decide, by show 0 ≤ 10; decide, by show 0 ≤ 10; decide, by show 0 ≤ 10; decide⟩), hT5, hsep0, hnd0, hak, fun c e => al4 c (sL.free e), hff0, fun c hc => al4 c (hfs c hc)⟩
    have hSI : SI x0 y0 := by
      rw [ey0]
      have hd1 : d ∈ x0.roads := by rw [hroads]; simp
      have em : ("m" : Str) = S [109] := rfl
      refine ⟨fun d2 h2 => ?_, fun z2 v hv => ?_, .inl rfl, fun z2 => ⟨0, rfl, Int.le_refl _⟩, fun d2 h2 i hi => ?_, fun z2 _ => rfl, fun z2 => ⟨0, rfl, Int.le_refl _⟩, fun d2 h2 _ i hi => ?_, fun k2 v hv => by cases hv⟩
      · rw [hroads] at h2
        rw [List.mem_singleton.mp h2, g1, g2]
        show valV [((.inr ("m" : Str) : Key), V.int 9)] (.inr (S [109])) = some (.int 9)
        decide +kernel
      · have hv2 : valV [((.inr ("m" : Str) : Key), V.int 9)] (.inr z2) = some v := hv
        by_cases q : ("m" : Str) = z2
        · exact ⟨d, hd1, by rw [← q, g1]; rfl⟩
        · rw [valV_neg (fun w => q (Sum.inr.inj w))] at hv2
          cases hv2
      · have : (0 : Int) = i := V.int.inj (show V.int 0 = V.int i from hi)
        unfold Rw.laid
        omega
      · have : (0 : Int) = i := V.int.inj (show V.int 0 = V.int i from hi)
        rw [hroads] at h2
        rw [List.mem_singleton.mp h2, g5]
        omega
    have hp5 : H p0 = none := hp00
    have hsdy : y0.sd = sd := by rw [ey0]
    rw [← hxp, ← hsdy]
    -- turn by turn
    have hll : ns.length ≤ 63 := hl
    refine ⟨_, rfl, _, _, rfl, .inl ⟨_, SqL.ak hS hak, rfl⟩, _, _, rfl, _, _, rfl, 1, _, rfl, ?_, ?_⟩
    · split <;> split <;> omega
    have hn30 : ((if (if (31 : Int) < ((ns.map V.int).length : Int) then (31 : Int) else ((ns.map V.int).length : Int)) > 5 then (if (31 : Int) < ((ns.map V.int).length : Int) then (31 : Int) else ((ns.map V.int).length : Int)) else 5) - 1).toNat ≤ 30 := by split <;> split <;> omega
    generalize ((if (if (31 : Int) < ((ns.map V.int).length : Int) then (31 : Int) else ((ns.map V.int).length : Int)) > 5 then (if (31 : Int) < ((ns.map V.int).length : Int) then (31 : Int) else ((ns.map V.int).length : Int)) else 5) - 1).toNat = N at hn30 ⊢
    refine for_by (n := N) (fun i σ H6 => ∃ v1 v4 v5 v6 x y, σ = [some (.ref a), v1, some (.ref x.p), some (.ref y.sd), v4, v5, v6] ∧ LI K H a H6 x y (6 * i) (10 + 600 * i) ∧ SI x y) (fun i σ H6 _ hi => hi) (fun σ H6 _ => Nat.le_refl _) ⟨_, _, _, _, x0, y0, rfl, hLI, hSI⟩ ?_ ?_
    · rintro i v σ H6 H7 hi ⟨v1, v4, v5, v6, x, y, rfl, hL, hSy⟩ ⟨rfl, rfl⟩
      refine ⟨_, rfl, _, rfl, a, 1 + (i : Int), ns, rfl, SqL.ak hS hL.ak, hl, ⟨by omega, by omega⟩, fun p H8 s8 hp70 hp8 => ?_⟩
      have hL8 := hL.same s8
      have hpf8 : p ∉ foot x := not_foot hL.wr hp70
      have hp00' : H p = none := hL.al p hp70
      refine ⟨_, rfl, p, 6, rfl, hp8, ⟨by decide, by decide⟩, fun r H9 a9 b9 hp9 k9 => ⟨_, _, rfl, rfl, _, rfl, by omega, by omega, ?_⟩⟩
      have hL9 := hL8.pool hp8 hpf8 hp00' (nfp hp8 k9)
      have hr6 : (1 + r).toNat ≤ 6 := by omega
      generalize (1 + r).toNat = R6 at hr6 ⊢
      refine for_by (n := R6) (fun j σ H10 => ∃ v5 v6 x y, σ = [some (.ref a), some (.ref p), some (.ref x.p), some (.ref y.sd), some (.int (1 + (i : Int))), v5, v6] ∧ LI K H a H10 x y (6 * i + j) (10 + 600 * i + 100 * j) ∧ SI x y ∧ PoolAt H10 p ∧ p ∉ foot x) (fun j σ H10 _ hj => hj) (fun σ H10 _ => Nat.le_refl _) ⟨_, _, x, y, rfl, hL9, hSy, hp9, hpf8⟩ ?_ ?_
      · rintro j v2 σ H10 H11 hj ⟨v5', v6', x, y, rfl, hL, hSy, hp, hpf⟩ ⟨rfl, rfl⟩
        refine ⟨_, rfl, _, rfl, _, rfl, p, x, y, 6 * i + j, 10 + 600 * i + 100 * j, rfl, hp, hL.wr, hL.wi, by omega, hL.se, hSy, hL.sz, by omega, hL.tab, hpf, hL.sep, hL.nd, ?_⟩
        intro x2 sr m rr ts H12 hxp2 hx2 hw2 hy2 hsr hT12 hp12 f12 hfoot hrr hts hcase
        -- all of it stands
        have hfF : ∀ c ∈ PT K :: p :: y.sd :: y.s :: foot x, c ≠ PT K → H c = none := fun c hc hne => by
          have hc2 : c = p ∨ c = y.sd ∨ c = y.s ∨ c ∈ foot x := by
            rcases List.mem_cons.mp hc with z | hc
            · exact absurd z hne
            · simpa using hc
          rcases hc2 with rfl | rfl | rfl | hc2
          · exact hp00'
          · exact hL.fs _ (by simp [sadr])
          · exact hL.fs _ (by simp [sadr])
          · exact hL.ff c hc2
        have haP : ∀ u, H a = some u → a ≠ PT K := fun u e z => by
          obtain ⟨ps, hps⟩ := hT.tbl
          rcases hS with (q | ⟨o, q⟩) | ⟨o, its, n9, q, _⟩
          · rw [z, hps] at q; cases q
          · rw [z, hps] at q; cases q
          · rw [z] at q
            rw [show List.lookup (PT K) K = none from hPK] at q
            cases q
        have hL12 : LI K H a H12 x2 { y with sure := sr, mode := m } (6 * i + j + 1) (10 + 600 * i + 100 * j + 1) := by
          refine ⟨hx2, hw2, hy2, ⟨Nat.le_succ_of_le hL.sz.b, Nat.le_succ_of_le hL.sz.g, Nat.le_succ_of_le hL.sz.l, hsr⟩, hT12, fun c hc z => ?_, hL.nd, fun u e => ?_, fun b0 e => ?_, fun c hc => ?_, hL.fs⟩
          · rcases hfoot c z with q | q
            · exact hL.sep c hc q
            · have hc2 : c = y.sd ∨ c = y.b ∨ c = y.g ∨ c = y.l ∨ c = y.s := by simpa [sadr] using hc
              rcases hc2 with rfl | rfl | rfl | rfl | rfl
              · rw [hL.se.sd] at q; cases q
              · rw [hL.se.b] at q; cases q
              · rw [hL.se.g] at q; cases q
              · rw [hL.se.l] at q; cases q
              · rw [hL.se.s] at q; cases q
          · refine f12.at (fun q => ?_) (hL.ak u e)
            have := hfF a q (haP u e)
            rw [this] at e
            cases e
          · by_cases q : b0 ∈ PT K :: p :: y.sd :: y.s :: foot x
            · by_cases q2 : b0 = PT K
              · obtain ⟨ps, hps⟩ := hT12.tbl
                rw [q2, hps] at e
                cases e
              · exact hfF b0 q q2
            · exact hL.al b0 (f12.free q e)
          · rcases hfoot c hc with q | q
            · exact hL.ff c q
            · exact hL.al c q
        have hpf2 : p ∉ foot x2 := fun z => by
          rcases hfoot p z with q | q
          · exact hpf q
          · obtain ⟨c9, s9, e9, _⟩ := hp
            rw [q] at e9
            cases e9
        have hsub : ∀ c ∈ [y.b, y.g, y.l], c ∈ sadr y := by simp [sadr]
        have nfoot : ∀ c ∈ [y.b, y.g, y.l], c ∉ x2.la :: foot x2 := fun c hc z => by
          rcases List.mem_cons.mp z with z | z
          · exact seen_la hy2 hx2 c (hsub c hc) z
          · exact hL12.sep c (hsub c hc) z
        have nPT : PT K ∉ [y.b, y.g, y.l] := fun z => PT_sadr hT12 hy2 (hsub _ z)
        have npool : p ∉ [y.b, y.g, y.l] := fun z => hp12.sadr hy2 (hsub _ z)
        have hrn : rr ∉ [y.b, y.g, y.l] := fun z => by
          have z2 : rr = y.b ∨ rr = y.g ∨ rr = y.l := by simpa using z
          rcases z2 with z2 | z2 | z2
          · exact ne_of hrr hy2.b (fun z => nomatch z) z2
          · exact ne_of hrr hy2.g (fun z => nomatch z) z2
          · exact ne_of hrr hy2.l (fun z => nomatch z) z2
        -- letter by letter
        refine ⟨rr, rfl, ⟨_, SqL.of hrr⟩, for_by (n := ts.length) (fun l σ H => ∃ v6 y2, σ = [some (.ref a), some (.ref p), some (.ref x.p), some (.ref y.sd), some (.int (1 + (i : Int))), some (.int (0 + (j : Int))), v6] ∧ SeenAt H y2 ∧ sadr y2 = sadr y ∧ Sz (10 + 600 * i + 100 * j + 1 + 25 * l) y2 ∧ Fr [y.b, y.g, y.l] H12 H ∧
          ((SI x2 y2 ∧ ∀ t ∈ ts.drop l, LLet H12 x2 t) ∨ (l = 0 ∧ ∃ (t : Addr) (name : List Nat) (b : Int), ts = [t] ∧ H12 t = some (.tup [.str "join", tx name, .int b]) ∧ SI x2 { y2 with bases := putK y2.bases (.inr (S name)) (.int b) }))) (fun l σ H13 h hl13 => ?_) (fun σ H13 h => ?_) ⟨_, { y with sure := sr, mode := m }, rfl, hy2, rfl, hL12.sz, Fr.refl _ _, ?_⟩ ?_ ?_⟩
        · obtain ⟨_, _, _, _, _, _, f, _⟩ := h
          exact ⟨_, _, SqL.of (f.at hrn hrr), List.getElem?_eq_getElem (by rw [List.length_map]; exact hl13)⟩
        · obtain ⟨_, _, _, _, _, _, f, _⟩ := h
          exact ⟨_, SqL.of (f.at hrn hrr), by rw [List.length_map]; exact Nat.le_refl _⟩
        · rcases hcase with h | h
          · exact .inl h
          · exact .inr ⟨rfl, h⟩
        · rintro l v σ H13 H14 hl13 ⟨v6, y2, rfl, hse2, hsad, hsz2, f13, hcs⟩ ⟨rfl, hv⟩
          have ev := hv _ (SqL.of (f13.at hrn hrr))
          rw [List.getElem?_map, List.getElem?_eq_getElem hl13] at ev
          obtain rfl := Option.some.inj ev
          have hx13 := hx2.fr f13 nfoot
          have hysd : y2.sd = y.sd := (List.cons.inj hsad).1
          have hyb : y2.b = y.b := (List.cons.inj (List.cons.inj hsad).2).1
          have hyg : y2.g = y.g := (List.cons.inj (List.cons.inj (List.cons.inj hsad).2).2).1
          have hyl : y2.l = y.l := (List.cons.inj (List.cons.inj (List.cons.inj (List.cons.inj hsad).2).2).2).1
          have hnd2 : (sadr y2).Nodup := by rw [hsad]; exact hL.nd
          have hsep2 : ∀ c ∈ sadr y2, c ∉ x2.la :: foot x2 := fun c hc z => by
            rcases List.mem_cons.mp z with z | z
            · exact seen_la hse2 hx13 c hc z
            · rw [hsad] at hc; exact hL12.sep c hc z
          have hgo : ∀ {k2 : Str} {v2 : V}, valV (seenK y2) (.inr k2) = some v2 → DGet H14 y.sd (.str k2) (some v2) := fun e => by rw [← hysd]; exact hse2.get e
          -- a join is put down
          have joined : ∀ (t : Addr) (name : List Nat) (b : Int), H14 t = some (.tup [.str "join", tx name, .int b]) → SeenAt (upd H14 y.b (.dK (putK y2.bases (.inr (S name)) (.int b)))) { y2 with bases := putK y2.bases (.inr (S name)) (.int b) } ∧ Sz (10 + 600 * i + 100 * j + 1 + 25 * (l + 1)) { y2 with bases := putK y2.bases (.inr (S name)) (.int b) } ∧ Fr [y.b, y.g, y.l] H12 (upd H14 y.b (.dK (putK y2.bases (.inr (S name)) (.int b)))) ∧
              (upd H14 y.b (.dK (putK y2.bases (.inr (S name)) (.int b)))) t = some (.tup [.str "join", tx name, .int b]) := by
            intro t name b ht
            have hb2 := hse2.b
            rw [hyb] at hb2
            have nd := hnd2
            unfold sadr at nd
            simp at nd
            obtain ⟨⟨q1, q2, q3, q4⟩, ⟨r1, r2, r3⟩, _⟩ := nd
            rw [hyb] at q1 r1 r2 r3
            refine ⟨⟨?_, ?_, ?_, ?_, ?_⟩, ⟨?_, Nat.le_trans hsz2.g (by omega), Nat.le_trans hsz2.l (by omega), Nat.le_trans hsz2.s (by omega)⟩, f13.trans (Fr.putD (by simp) hb2), ?_⟩
            · show upd _ _ _ y2.sd = _
              rw [upd_ne q1]; exact hse2.sd
            · show upd _ _ _ y2.b = _
              rw [hyb]; exact upd_same
            · show upd _ _ _ y2.g = _
              rw [upd_ne (fun z => r1 z.symm)]; exact hse2.g
            · show upd _ _ _ y2.l = _
              rw [upd_ne (fun z => r2 z.symm)]; exact hse2.l
            · show upd _ _ _ y2.s = _
              rw [upd_ne (fun z => r3 z.symm)]; exact hse2.s
            · show (putK y2.bases (.inr (S name)) (.int b)).length ≤ _
              have := length_putK y2.bases (.inr (S name)) (.int b)
              have := hsz2.b
              omega
            · rw [upd_ne (ne_of ht hb2 (fun z => nomatch z))]; exact ht
          have hbl : ∀ z, (putK y2.bases z (.int 0)).length ≤ 100000 := fun z => by
            have := length_putK y2.bases z (.int 0)
            have := hsz2.b
            omega
          have hbs : y2.bases.length < sizeLine := by rw [sizeLine_eq]; have := hsz2.b; omega
          have hb14 : H14 y.b = some (.dK y2.bases) := by rw [← hyb]; exact hse2.b
          -- the way of a join, whatever is known behind it
          have pend : ∀ (t : Addr) (name : List Nat) (b : Int), H14 t = some (.tup [.str "join", tx name, .int b]) → True := fun _ _ _ _ => trivial
          rcases hcs with ⟨hSI2, hLl⟩ | ⟨rfl, t, name, b, ets, ht, hSI2⟩
          · have hmem : ts[l] ∈ ts.drop l := by
              rw [List.drop_eq_getElem_cons hl13]
              exact List.mem_cons_self
            have hrest : ∀ t ∈ ts.drop (l + 1), LLet H12 x2 t := fun t ht => hLl t (by rw [List.drop_eq_getElem_cons hl13]; exact List.mem_cons_of_mem _ ht)
            have hlt := (hLl _ hmem).fr f13
            generalize ts[l] = t at hlt ⊢
            rcases hlt with ⟨d, hd, ht⟩ | ⟨wd, xs, w1, w2, w3, ht⟩ | ⟨d, hd, hup, e, he, hLt⟩
            · obtain ⟨j1, j2, j3, j4⟩ := joined t d.name d.base ht
              refine ⟨_, rfl, t, _, 0, .str "join", rfl, rfl, SqT.of ht, rfl, rfl, _, rfl, ift (by decide +kernel) ?_⟩
              refine ⟨_, rfl, t, _, 2, .int d.base, rfl, rfl, SqT.of ht, rfl, _, rfl, y.sd, .ref y2.b, rfl, hgo (sk_bases y2), _, rfl, t, _, 1, tx d.name, rfl, rfl, SqT.of ht, rfl, y2.b, _, rfl, .k (k := .inr (S d.name)) hse2.b hbs, ?_⟩
              rw [hyb]
              refine ⟨_, rfl, t, _, 0, .str "join", rfl, rfl, SqT.of j4, rfl, rfl, _, rfl, iffF (by decide +kernel) (iffF (by rfl) ?_)⟩
              exact ⟨_, _, rfl, j1, hsad, j2, j3, .inl ⟨hSI2.join hd, hrest⟩⟩
            · have hxl : atI (V.str wd :: xs) ((0 : Nat) : Int) = some (.str wd) := atI_nat rfl
              have n1 : decide (V.str wd = V.str "join") = false := decide_eq_false fun z => w1 (V.str.inj z)
              have n2 : decide (V.str wd = V.str "signs") = false := decide_eq_false fun z => w2 (V.str.inj z)
              refine ⟨_, rfl, t, _, 0, .str wd, rfl, rfl, SqT.of ht, hxl, rfl, _, rfl, iffF n1 ?_⟩
              refine ⟨_, rfl, t, _, 0, .str wd, rfl, rfl, SqT.of ht, hxl, rfl, _, rfl, iffF n2 (iffF (by rfl) ?_)⟩
              exact ⟨_, y2, rfl, hse2, hsad, ⟨Nat.le_trans hsz2.b (by omega), Nat.le_trans hsz2.g (by omega), Nat.le_trans hsz2.l (by omega), Nat.le_trans hsz2.s (by omega)⟩, f13, .inl ⟨hSI2, hrest⟩⟩
            · obtain ⟨u, hu1, hu2⟩ := hLt
              refine ⟨_, rfl, t, _, 0, .str "signs", rfl, rfl, SqT.of hu1, rfl, rfl, _, rfl, iffF (by decide +kernel) ?_⟩
              refine ⟨_, rfl, t, _, 0, .str "signs", rfl, rfl, SqT.of hu1, rfl, rfl, _, rfl, ift (by decide +kernel) ?_⟩
              refine ⟨_, rfl, _, rfl, _, rfl, x2, y2, d, e, t, 6 * i + j + 1, 10 + 600 * i + 100 * j + 1 + 25 * l, (by rw [hxp2, hysd]; rfl), hx13, hw2, by omega, hse2, hSI2, hsz2, by omega, hd, (by rw [hup]; decide +kernel), he, ⟨u, hu1, hu2⟩, hsep2, hnd2, fun sg ld H15 hse3 hSI3 hsz3 f15 => ⟨_, rfl, iffF (by rfl) ?_⟩⟩
              rw [hyg, hyl] at f15
              exact ⟨_, _, rfl, hse3, hsad, ⟨Nat.le_trans hsz3.b (by omega), Nat.le_trans hsz3.g (by omega), Nat.le_trans hsz3.l (by omega), Nat.le_trans hsz3.s (by omega)⟩, f13.trans (f15.mono (by simp)), .inl ⟨hSI3, hrest⟩⟩
          · have et : ts[0] = t := by
              subst ets
              rfl
            rw [et]
            have ht := f13.tup ht
            obtain ⟨j1, j2, j3, j4⟩ := joined t name b ht
            refine ⟨_, rfl, t, _, 0, .str "join", rfl, rfl, SqT.of ht, rfl, rfl, _, rfl, ift (by decide +kernel) ?_⟩
            refine ⟨_, rfl, t, _, 2, .int b, rfl, rfl, SqT.of ht, rfl, _, rfl, y.sd, .ref y2.b, rfl, hgo (sk_bases y2), _, rfl, t, _, 1, tx name, rfl, rfl, SqT.of ht, rfl, y2.b, _, rfl, .k (k := .inr (S name)) hse2.b hbs, ?_⟩
            rw [hyb]
            refine ⟨_, rfl, t, _, 0, .str "join", rfl, rfl, SqT.of j4, rfl, rfl, _, rfl, iffF (by decide +kernel) (iffF (by rfl) ?_)⟩
            exact ⟨_, _, rfl, j1, hsad, j2, j3, .inl ⟨hSI2, by rw [ets]; intro t2 ht2; cases ht2⟩⟩
        · rintro σ H13 ⟨v6, y2, rfl, hse2, hsad, hsz2, f13, hcs⟩
          have hSI2 : SI x2 y2 := by
            rcases hcs with ⟨h, _⟩ | ⟨h, t, name, b, ets, _⟩
            · exact h
            · rw [ets] at h; cases h
          have hx13 := hx2.fr f13 nfoot
          have hb2 := hw2.b (by omega)
          obtain ⟨dx13, ho13⟩ := hx13.o
          have hW := hb2.W
          have ho13' : H13 x.p = some (.ins (He.ga K "Writer") dx13 (wrF x2)) := by rw [← hxp2]; exact ho13
          refine ⟨_, rfl, _, _, _, rfl, ho13', noWriter_kept x2, x2, (by rw [hxp2]; rfl), hx13, hb2, _, rfl, _, _, _, rfl, ho13', noWriter_written x2, x2, (by rw [hxp2]; rfl), hx13, _, rfl, _, _, _, rfl, ho13', noWriter_known x2, x2, (by rw [hxp2]; rfl), hx13, _, rfl, _, rfl, line5 (by rw [S_len]; omega), rfl, _, rfl, iffF ?_ ?_⟩
          · show (!decide (V.str (cutS (S x2.W) (some x2.known) none) = V.str (cutS (S x2.W) (some x2.known) none))) = false
            rw [decide_eq_true rfl]
            rfl
          have hysd : y2.sd = y.sd := (List.cons.inj hsad).1
          refine ⟨_, _, x2, y2, by rw [hxp2, hysd], ⟨hx13, hw2, hse2, ⟨Nat.le_trans hsz2.b (by omega), Nat.le_trans hsz2.g (by omega), Nat.le_trans hsz2.l (by omega), Nat.le_trans hsz2.s (by omega)⟩, hT12.fr f13 nPT, by rw [hsad]; exact hL12.sep, by rw [hsad]; exact hL.nd, fun u e => ?_, fun b0 e => ?_, hL12.ff, by rw [hsad]; exact hL.fs⟩, hSI2, hp12.fr f13 npool, hpf2⟩
          · refine f13.at (fun q => ?_) (hL12.ak u e)
            rw [hL.fs a (hsub a q)] at e
            cases e
          · by_cases q : b0 ∈ [y.b, y.g, y.l]
            · exact hL.fs b0 (hsub b0 q)
            · exact hL12.al b0 (f13.free q e)
      · rintro σ H10 ⟨v5', v6', x, y, rfl, hL, hSy, hp, hpf⟩
        exact ⟨_, _, _, _, x, y, rfl, hL.up (by omega) (by omega), hSy⟩
    · rintro σ H6 ⟨v1, v4, v5, v6, x, y, rfl, hL, hSy⟩
      exact k H6
end

/-! ### the end -/
theorem facts {w : World} {K : PySem.W.Frag} {h : Heap} {mg : Str → Option Value} {f : Addr} (X : K.In h) (G : h.Ns mainGlobals mg) (hfa : mg ("law" : Str) = some (.ref f)) (c : He.SaysX fa fn ts tf ex w h K) :
    LamX.LawAtS PySem.Challenge.rw_roadbundle_k40_whole_what_writers_say w K CX0 9 63 "_law_script" mg f h := by
  obtain ⟨fd, F⟩ := c.t.d.defs (d := d_law) (List.mem_of_getElem? (i := 64) (by rfl))
  have e1 : d_law.dvs K = [] := rfl
  rw [e1] at F
  have e := hfa.symm.trans (He.glo_ok X G (c.t.d.fact 21 (f := .glo "law") rfl))
  have e2 : f = He.fAd K d_law.at_ := by
    have := Option.some.inj e
    exact Value.ref.inj this
  subst e2
  have b := FunD.bindsA (ps := ["_law_script"]) F fun _ _ _ _ _ _ us hl => match us, hl with | [_], _ => rfl
  have mem : He.cT K ("by_rule", none) ∈ tf.map (He.cT K) := List.mem_map.mpr ⟨_, List.mem_singleton.mpr rfl, rfl⟩
  refine ⟨fd, tf.map (He.cT K), sp_law K, fun p hp => ?_, fun p hp => ?_, fun p hp => ?_, fun s v => b s [v] rfl, fun H a ns hl _ hT hS => ⟨a, ns, rfl, hS, hl, ?_, ?_, fun _ => rfl⟩, fun base KB GB hB => ok_law ⟨c.t, c.more, KB, GB, c.hd, fun p hp => hB _ (List.mem_map.mpr ⟨p, hp, rfl⟩)⟩ F⟩
  · obtain ⟨q, hq, rfl⟩ := List.mem_map.mp hp
    exact c.empty q hq
  · obtain ⟨q, hq, rfl⟩ := List.mem_map.mp hp
    exact c.out q hq
  · obtain ⟨q, hq, rfl⟩ := List.mem_map.mp hp
    exact PySem.W.codeHd_of_K X (c.hd q hq)
  · intro p hp
    rw [List.mem_singleton.mp hp]
    exact LamX.TabS.nil (hT _ mem)
  · exact c.out _ (List.mem_singleton.mpr rfl)

end RB
open PySem PySem.W PySem.Calls PyProof.Rows
theorem PySem.Challenge.cw_roadbundle_k40_whole_what_writers_say_holds : PySem.Challenge.rw_roadbundle_k40_whole_what_writers_say.Holds := by
  w_on; o_law
  refine HandSHeadRun.head_any (r := OpenLaw.row PySem.Challenge.rw_roadbundle_k40_whole_what_writers_say) (q := view (OpenLaw.row PySem.Challenge.rw_roadbundle_k40_whole_what_writers_say).prog [49]) (H := RB.hk) (ob := RB.ob) (M := 6000) (loose := RB.loose) (d := HandSHeadRun.topDef (OpenLaw.row PySem.Challenge.rw_roadbundle_k40_whole_what_writers_say).prog 49) (kwd := []) RB.ob_eq
    (by kernel_rfl) (fun s => by kernel_rfl) RB.run (by kernel_rfl) (by kernel_rfl) (by kernel_rfl) (by rfl) (by first | assumption | decide +kernel) (by decide +kernel) ⟨rfl, rfl, rfl, rfl, rfl, by decide +kernel⟩ ?hw ?hc
  case hw => w_witness2
  case hc =>
    refine LamX.walk_ofTsE (l := PySem.Challenge.rw_roadbundle_k40_whole_what_writers_say) (n := 63) (k := 9) (x := "_law_script") (CX := fun _ => L2.CX0) rfl (by decide) (by kernel_rfl) ⟨rfl, by decide, by decide⟩ ?F (fun _ _ _ _ _ z => z)
    intro w mg fa h Y G hmg0
    obtain ⟨K, KX, c⟩ := Y
    have hmg : mg ("law" : PySem.Str) = some (.ref fa) := by
      have e : (HandSHeadRun.topDef (OpenLaw.row PySem.Challenge.rw_roadbundle_k40_whole_what_writers_say).prog 49).name = ("law" : PySem.Str) := by kernel_rfl
      rw [← e]
      exact hmg0
    exact ⟨K, KX, RB.facts KX G hmg c⟩
namespace RB

end RB
