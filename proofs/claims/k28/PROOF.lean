import PyProof.Rows.All
import Wide.All
import OpenK.AllK
import Wide.FinOn
import HandS.ForMost
import HandS.Exc
import HandS.ExcOwn
import HandS.TryOnly
import HandS.WordsExc
import HandS.ExcIs
import HandS.Defaults
import HandS.HeadHook1
import HandS.HeadHook2
import HandS.HeadHook3
import HandS.HeadHook4
import PySem.Challenge.RW_knotless_k28_net_refused
import KE.KStateDown
import Lean
import HandS.Head0
import HandS.Head1
import HandS.Head2
import HandS.HeadEnd
import HandS.CallRecv
import HandS.Walk
import HandS.Style
import HandS.Wide
import HandS.DictTup
import HandS.Strs
import HandS.SetFor
import KE.LtSeq
import HandS.Finally
set_option Elab.async false
set_option linter.all false
set_option maxRecDepth 100000
/-! The text by places; the facts that the head is asked for. -/
namespace Kn
open PySem L2
def top (i : Nat) : Stmt := PySem.Challenge.pw_knotless_k28_net_refused.main.body.getD i (.Pass ⟨0, 0, 0, 0⟩)
abbrev s_Book_init : Stmt := inClass (top 1) 0
abbrev s_Book_learn : Stmt := inClass (top 1) 1
abbrev s_Book_known : Stmt := inClass (top 1) 2
abbrev s_Book_notes : Stmt := inClass (top 1) 3
abbrev s_Book_forget : Stmt := inClass (top 1) 4
abbrev s_ropes_on : Stmt := top 3
abbrev s_targets : Stmt := top 4
abbrev s_Letter_init : Stmt := inClass (top 17) 0
abbrev s_Letter_meant : Stmt := inClass (top 17) 1
abbrev s_Letter_seeks : Stmt := inClass (top 17) 2
abbrev s_Letter_number : Stmt := inClass (top 17) 3
abbrev s_ToOne_init : Stmt := inClass (top 18) 0
abbrev s_ToOne_meant : Stmt := inClass (top 18) 1
abbrev s_ToOne_seeks : Stmt := inClass (top 18) 2
abbrev s_ToOne_number : Stmt := inClass (top 18) 3
abbrev s_ToAll_meant : Stmt := inClass (top 19) 0
abbrev s_own_row : Stmt := top 21
abbrev s_offer : Stmt := top 22
abbrev s_due : Stmt := top 23
abbrev s_resting : Stmt := top 24
abbrev s_up : Stmt := top 27
abbrev s_ups : Stmt := top 28
abbrev s_opens : Stmt := top 29
abbrev s_open_at : Stmt := top 31
abbrev s_Strands_init : Stmt := inClass (top 33) 0
abbrev s_Strands_wires_of : Stmt := inClass (top 33) 1
abbrev s_Strands_turn : Stmt := inClass (top 33) 2
abbrev s_Strands_fall : Stmt := inClass (top 33) 3
abbrev s_Strands_lay : Stmt := inClass (top 33) 4
abbrev s_Strands_standing : Stmt := inClass (top 33) 5
abbrev s_Strands_wire_for : Stmt := inClass (top 33) 6
abbrev s_Strands_live : Stmt := inClass (top 33) 7
abbrev s_told_callers : Stmt := top 37
abbrev s_Net_init : Stmt := inClass (top 38) 0
abbrev s_Net_table : Stmt := inClass (top 38) 1
abbrev s_Net_rows : Stmt := inClass (top 38) 2
abbrev s_Net_live : Stmt := inClass (top 38) 3
abbrev s_Net_opens : Stmt := inClass (top 38) 4
abbrev s_Net_notes : Stmt := inClass (top 38) 5
abbrev s_Net_resting : Stmt := inClass (top 38) 6
abbrev s_Net_news : Stmt := inClass (top 38) 7
abbrev s_Net_news_of : Stmt := inClass (top 38) 8
abbrev s_Net_call : Stmt := inClass (top 38) 9
abbrev s_Net_fall : Stmt := inClass (top 38) 10
abbrev s_Net_lay : Stmt := inClass (top 38) 11
abbrev s_Net_place : Stmt := inClass (top 38) 12
abbrev s_Net_had : Stmt := inClass (top 38) 13
abbrev s_Net_move : Stmt := inClass (top 38) 14
abbrev s_Net_post : Stmt := inClass (top 38) 15
abbrev s_Net_work : Stmt := inClass (top 38) 16
abbrev s_Net_flying : Stmt := inClass (top 38) 17
abbrev s_Net_pass_on : Stmt := inClass (top 38) 18
abbrev s_Net_story : Stmt := inClass (top 38) 19
abbrev s_ask_names : Stmt := top 42
abbrev s_ask_rope : Stmt := top 43
abbrev s_Town_init : Stmt := inClass (top 44) 0
abbrev s_Town_name : Stmt := inClass (top 44) 1
abbrev s_Town_rope : Stmt := inClass (top 44) 2
abbrev s_Town_ropes_at : Stmt := inClass (top 44) 3
abbrev s_Town_far_end : Stmt := inClass (top 44) 4
abbrev s_Town_lets : Stmt := inClass (top 44) 5
abbrev s_law_cell_at : Stmt := top 46
abbrev s_law_names : Stmt := top 47
abbrev s_law_ropes : Stmt := top 48
abbrev s_law_callers : Stmt := top 49
abbrev s_law_asked : Stmt := top 50
abbrev s_law_done : Stmt := top 51
abbrev s_law_refusal : Stmt := top 52
abbrev s_law_out : Stmt := top 53
abbrev s_law_wrong_wire : Stmt := top 54
abbrev s_law_wrong_net : Stmt := top 55
abbrev s_law_wrong : Stmt := top 56
abbrev s_law_told : Stmt := top 57
abbrev s_law_made_good : Stmt := top 58
abbrev s_law : Stmt := top 59
def d_Book_init : He.DefD := ⟨("Book", some "__init__"), "__init__", "Book.__init__", defArgs s_Book_init, defBody s_Book_init, defScope s_Book_init, [], []⟩
def d_Book_learn : He.DefD := ⟨("Book", some "learn"), "learn", "Book.learn", defArgs s_Book_learn, defBody s_Book_learn, defScope s_Book_learn, [], []⟩
def d_Book_notes : He.DefD := ⟨("Book", some "notes"), "notes", "Book.notes", defArgs s_Book_notes, defBody s_Book_notes, defScope s_Book_notes, [], []⟩
def d_Book_forget : He.DefD := ⟨("Book", some "forget"), "forget", "Book.forget", defArgs s_Book_forget, defBody s_Book_forget, defScope s_Book_forget, [], []⟩
def d_ropes_on : He.DefD := ⟨("ropes_on", none), "ropes_on", "ropes_on", defArgs s_ropes_on, defBody s_ropes_on, defScope s_ropes_on, [], []⟩
def d_targets : He.DefD := ⟨("targets", none), "targets", "targets", defArgs s_targets, defBody s_targets, defScope s_targets, [], []⟩
def d_Letter_init : He.DefD := ⟨("ToAll", some "__init__"), "__init__", "Letter.__init__", defArgs s_Letter_init, defBody s_Letter_init, defScope s_Letter_init, [], []⟩
def d_Letter_seeks : He.DefD := ⟨("ToAll", some "seeks"), "seeks", "Letter.seeks", defArgs s_Letter_seeks, defBody s_Letter_seeks, defScope s_Letter_seeks, [], []⟩
def d_Letter_number : He.DefD := ⟨("ToAll", some "number"), "number", "Letter.number", defArgs s_Letter_number, defBody s_Letter_number, defScope s_Letter_number, [], []⟩
def d_ToAll_meant : He.DefD := ⟨("ToAll", some "meant"), "meant", "ToAll.meant", defArgs s_ToAll_meant, defBody s_ToAll_meant, defScope s_ToAll_meant, [], []⟩
def d_own_row : He.DefD := ⟨("own_row", none), "own_row", "own_row", defArgs s_own_row, defBody s_own_row, defScope s_own_row, [], []⟩
def d_offer : He.DefD := ⟨("offer", none), "offer", "offer", defArgs s_offer, defBody s_offer, defScope s_offer, [], []⟩
def d_due : He.DefD := ⟨("due", none), "due", "due", defArgs s_due, defBody s_due, defScope s_due, [], []⟩
def d_resting : He.DefD := ⟨("resting_rows", none), "resting", "resting", defArgs s_resting, defBody s_resting, defScope s_resting, [], []⟩
def d_up : He.DefD := ⟨("up", none), "up", "up", defArgs s_up, defBody s_up, defScope s_up, [], []⟩
def d_ups : He.DefD := ⟨("ups", none), "ups", "ups", defArgs s_ups, defBody s_ups, defScope s_ups, [], []⟩
def d_opens : He.DefD := ⟨("opens_opens", none), "opens", "opens", defArgs s_opens, defBody s_opens, defScope s_opens, [], []⟩
def d_open_at : He.DefD := ⟨("open_at", none), "open_at", "open_at", defArgs s_open_at, defBody s_open_at, defScope s_open_at, [], []⟩
def d_Strands_init : He.DefD := ⟨("Strands", some "__init__"), "__init__", "Strands.__init__", defArgs s_Strands_init, defBody s_Strands_init, defScope s_Strands_init, [], []⟩
def d_Strands_wires_of : He.DefD := ⟨("Strands", some "wires_of"), "wires_of", "Strands.wires_of", defArgs s_Strands_wires_of, defBody s_Strands_wires_of, defScope s_Strands_wires_of, [], []⟩
def d_Strands_turn : He.DefD := ⟨("Strands", some "turn"), "turn", "Strands.turn", defArgs s_Strands_turn, defBody s_Strands_turn, defScope s_Strands_turn, [], []⟩
def d_Strands_fall : He.DefD := ⟨("Strands", some "fall"), "fall", "Strands.fall", defArgs s_Strands_fall, defBody s_Strands_fall, defScope s_Strands_fall, [], []⟩
def d_Strands_lay : He.DefD := ⟨("Strands", some "lay"), "lay", "Strands.lay", defArgs s_Strands_lay, defBody s_Strands_lay, defScope s_Strands_lay, [], []⟩
def d_Strands_standing : He.DefD := ⟨("Strands", some "standing"), "standing", "Strands.standing", defArgs s_Strands_standing, defBody s_Strands_standing, defScope s_Strands_standing, [], []⟩
def d_Strands_wire_for : He.DefD := ⟨("Strands", some "wire_for"), "wire_for", "Strands.wire_for", defArgs s_Strands_wire_for, defBody s_Strands_wire_for, defScope s_Strands_wire_for, [], []⟩
def d_Strands_live : He.DefD := ⟨("Strands", some "live"), "live", "Strands.live", defArgs s_Strands_live, defBody s_Strands_live, defScope s_Strands_live, [], []⟩
def d_told_callers : He.DefD := ⟨("told_callers", none), "told_callers", "told_callers", defArgs s_told_callers, defBody s_told_callers, defScope s_told_callers, [], []⟩
def d_Net_init : He.DefD := ⟨("Net", some "__init__"), "__init__", "Net.__init__", defArgs s_Net_init, defBody s_Net_init, defScope s_Net_init, [], []⟩
def d_Net_table : He.DefD := ⟨("Net", some "table"), "table", "Net.table", defArgs s_Net_table, defBody s_Net_table, defScope s_Net_table, [], []⟩
def d_Net_rows : He.DefD := ⟨("Net", some "rows"), "rows", "Net.rows", defArgs s_Net_rows, defBody s_Net_rows, defScope s_Net_rows, [], []⟩
def d_Net_live : He.DefD := ⟨("Net", some "live"), "live", "Net.live", defArgs s_Net_live, defBody s_Net_live, defScope s_Net_live, [], []⟩
def d_Net_opens : He.DefD := ⟨("Net", some "opens"), "opens", "Net.opens", defArgs s_Net_opens, defBody s_Net_opens, defScope s_Net_opens, [], []⟩
def d_Net_notes : He.DefD := ⟨("Net", some "notes"), "notes", "Net.notes", defArgs s_Net_notes, defBody s_Net_notes, defScope s_Net_notes, [], []⟩
def d_Net_resting : He.DefD := ⟨("Net", some "resting"), "resting", "Net.resting", defArgs s_Net_resting, defBody s_Net_resting, defScope s_Net_resting, [], []⟩
def d_Net_news : He.DefD := ⟨("Net", some "news"), "news", "Net.news", defArgs s_Net_news, defBody s_Net_news, defScope s_Net_news, [], []⟩
def d_Net_news_of : He.DefD := ⟨("Net", some "news_of"), "news_of", "Net.news_of", defArgs s_Net_news_of, defBody s_Net_news_of, defScope s_Net_news_of, [], []⟩
def d_Net_call : He.DefD := ⟨("Net", some "call"), "call", "Net.call", defArgs s_Net_call, defBody s_Net_call, defScope s_Net_call, [], []⟩
def d_Net_fall : He.DefD := ⟨("Net", some "fall"), "fall", "Net.fall", defArgs s_Net_fall, defBody s_Net_fall, defScope s_Net_fall, [], []⟩
def d_Net_lay : He.DefD := ⟨("Net", some "lay"), "lay", "Net.lay", defArgs s_Net_lay, defBody s_Net_lay, defScope s_Net_lay, [], []⟩
def d_Net_place : He.DefD := ⟨("Net", some "place"), "place", "Net.place", defArgs s_Net_place, defBody s_Net_place, defScope s_Net_place, [], []⟩
def d_Net_had : He.DefD := ⟨("Net", some "had"), "had", "Net.had", defArgs s_Net_had, defBody s_Net_had, defScope s_Net_had, [], []⟩
def d_Net_move : He.DefD := ⟨("Net", some "move"), "move", "Net.move", defArgs s_Net_move, defBody s_Net_move, defScope s_Net_move, [], []⟩
def d_Net_post : He.DefD := ⟨("Net", some "post"), "post", "Net.post", defArgs s_Net_post, defBody s_Net_post, defScope s_Net_post, [.non], []⟩
def d_Net_work : He.DefD := ⟨("Net", some "work"), "work", "Net.work", defArgs s_Net_work, defBody s_Net_work, defScope s_Net_work, [], []⟩
def d_Net_flying : He.DefD := ⟨("Net", some "flying"), "flying", "Net.flying", defArgs s_Net_flying, defBody s_Net_flying, defScope s_Net_flying, [], []⟩
def d_Net_pass_on : He.DefD := ⟨("Net", some "pass_on"), "pass_on", "Net.pass_on", defArgs s_Net_pass_on, defBody s_Net_pass_on, defScope s_Net_pass_on, [.int 0], []⟩
def d_Net_story : He.DefD := ⟨("Net", some "story"), "story", "Net.story", defArgs s_Net_story, defBody s_Net_story, defScope s_Net_story, [], []⟩
def d_ask_names : He.DefD := ⟨("ask_names", none), "ask_names", "ask_names", defArgs s_ask_names, defBody s_ask_names, defScope s_ask_names, [], []⟩
def d_ask_rope : He.DefD := ⟨("ask_rope", none), "ask_rope", "ask_rope", defArgs s_ask_rope, defBody s_ask_rope, defScope s_ask_rope, [], []⟩
def d_Town_init : He.DefD := ⟨("Town", some "__init__"), "__init__", "Town.__init__", defArgs s_Town_init, defBody s_Town_init, defScope s_Town_init, [], []⟩
def d_Town_name : He.DefD := ⟨("Town", some "name"), "name", "Town.name", defArgs s_Town_name, defBody s_Town_name, defScope s_Town_name, [], []⟩
def d_Town_rope : He.DefD := ⟨("Town", some "rope"), "rope", "Town.rope", defArgs s_Town_rope, defBody s_Town_rope, defScope s_Town_rope, [], []⟩
def d_Town_ropes_at : He.DefD := ⟨("Town", some "ropes_at"), "ropes_at", "Town.ropes_at", defArgs s_Town_ropes_at, defBody s_Town_ropes_at, defScope s_Town_ropes_at, [], []⟩
def d_Town_far_end : He.DefD := ⟨("Town", some "far_end"), "far_end", "Town.far_end", defArgs s_Town_far_end, defBody s_Town_far_end, defScope s_Town_far_end, [], []⟩
def d_Town_lets : He.DefD := ⟨("Town", some "lets"), "lets", "Town.lets", defArgs s_Town_lets, defBody s_Town_lets, defScope s_Town_lets, [], []⟩
def d_law_cell_at : He.DefD := ⟨("_law_cell_at", none), "_law_cell_at", "_law_cell_at", defArgs s_law_cell_at, defBody s_law_cell_at, defScope s_law_cell_at, [], []⟩
def d_law_names : He.DefD := ⟨("_law_names", none), "_law_names", "_law_names", defArgs s_law_names, defBody s_law_names, defScope s_law_names, [], []⟩
def d_law_ropes : He.DefD := ⟨("_law_ropes", none), "_law_ropes", "_law_ropes", defArgs s_law_ropes, defBody s_law_ropes, defScope s_law_ropes, [], []⟩
def d_law_callers : He.DefD := ⟨("_law_callers", none), "_law_callers", "_law_callers", defArgs s_law_callers, defBody s_law_callers, defScope s_law_callers, [], []⟩
def d_law_asked : He.DefD := ⟨("_law_asked", none), "_law_asked", "_law_asked", defArgs s_law_asked, defBody s_law_asked, defScope s_law_asked, [], []⟩
def d_law_done : He.DefD := ⟨("_law_done", none), "_law_done", "_law_done", defArgs s_law_done, defBody s_law_done, defScope s_law_done, [], []⟩
def d_law_refusal : He.DefD := ⟨("_law_refusal", none), "_law_refusal", "_law_refusal", defArgs s_law_refusal, defBody s_law_refusal, defScope s_law_refusal, [], []⟩
def d_law_out : He.DefD := ⟨("_law_out", none), "_law_out", "_law_out", defArgs s_law_out, defBody s_law_out, defScope s_law_out, [], []⟩
def d_law_wrong_wire : He.DefD := ⟨("_law_wrong_wire", none), "_law_wrong_wire", "_law_wrong_wire", defArgs s_law_wrong_wire, defBody s_law_wrong_wire, defScope s_law_wrong_wire, [], []⟩
def d_law_wrong_net : He.DefD := ⟨("_law_wrong_net", none), "_law_wrong_net", "_law_wrong_net", defArgs s_law_wrong_net, defBody s_law_wrong_net, defScope s_law_wrong_net, [], []⟩
def d_law_wrong : He.DefD := ⟨("_law_wrong", none), "_law_wrong", "_law_wrong", defArgs s_law_wrong, defBody s_law_wrong, defScope s_law_wrong, [], []⟩
def d_law_told : He.DefD := ⟨("_law_told", none), "_law_told", "_law_told", defArgs s_law_told, defBody s_law_told, defScope s_law_told, [], []⟩
def d_law_made_good : He.DefD := ⟨("_law_made_good", none), "_law_made_good", "_law_made_good", defArgs s_law_made_good, defBody s_law_made_good, defScope s_law_made_good, [], []⟩
def d_law : He.DefD := ⟨("law", none), "law", "law", defArgs s_law, defBody s_law, defScope s_law, [], []⟩
def dn : List He.DefD := [d_Book_init, d_Book_learn, d_Book_notes, d_Book_forget, d_ropes_on, d_targets, d_Letter_init, d_Letter_seeks, d_Letter_number, d_ToAll_meant, d_own_row, d_offer, d_due, d_resting, d_up, d_ups, d_opens, d_open_at, d_Strands_init, d_Strands_wires_of, d_Strands_turn, d_Strands_fall, d_Strands_lay, d_Strands_standing, d_Strands_wire_for, d_Strands_live, d_told_callers, d_Net_init, d_Net_table, d_Net_rows, d_Net_live, d_Net_opens, d_Net_notes, d_Net_resting, d_Net_news, d_Net_news_of, d_Net_call, d_Net_fall, d_Net_lay, d_Net_place, d_Net_had, d_Net_move, d_Net_post, d_Net_work, d_Net_flying, d_Net_pass_on, d_Net_story, d_ask_names, d_ask_rope, d_Town_init, d_Town_name, d_Town_rope, d_Town_ropes_at, d_Town_far_end, d_Town_lets, d_law_cell_at, d_law_names, d_law_ropes, d_law_callers, d_law_asked, d_law_done, d_law_refusal, d_law_out, d_law_wrong_wire, d_law_wrong_net, d_law_wrong, d_law_told, d_law_made_good, d_law]
def fa : List He.Fa := [.glo "ropes_on",
  .glo "targets",
  .glo "own_row",
  .glo "offer",
  .glo "due",
  .glo "resting_rows",
  .glo "up",
  .glo "ups",
  .glo "opens_opens",
  .glo "open_at",
  .glo "told_callers",
  .glo "ask_names",
  .glo "ask_rope",
  .glo "_law_cell_at",
  .glo "_law_names",
  .glo "_law_ropes",
  .glo "_law_callers",
  .glo "_law_asked",
  .glo "_law_done",
  .glo "_law_refusal",
  .glo "_law_out",
  .glo "_law_wrong_wire",
  .glo "_law_wrong_net",
  .glo "_law_wrong",
  .glo "_law_told",
  .glo "_law_made_good",
  .glo "law",
  .glo "Book",
  .glo "ToAll",
  .glo "ToOne",
  .glo "Letter",
  .glo "Strands",
  .glo "Net",
  .glo "Town",
  .glo "KnotError",
  .glo "BadTown",
  .glo "NoHouse",
  .glo "NoGroup",
  .glo "NoWire",
  .glo "NoCaller",
  .glo "Apart",
  .glo "NoCopy",
  .glo "NoLetter",
  .glo "NoText",
  .free "len",
  .free "range",
  .free "list",
  .free "sorted",
  .free "set",
  .free "enumerate",
  .free "isinstance",
  .free "all",
  .free "ValueError",
  .int "GROUPS" 3,
  .int "MOST_CALLERS" 20,
  .int "MOST_HOUSES" 10,
  .int "MOST_ROPES" 20,
  .cls "Book",
  .mkr "Book",
  .noat "Book" "kept",
  .meth "Book" "learn",
  .meth "Book" "notes",
  .meth "Book" "forget",
  .cls "ToAll",
  .mkr "ToAll",
  .noat "ToAll" "sender",
  .meth "ToAll" "meant",
  .meth "ToAll" "seeks",
  .meth "ToAll" "number",
  .cls "Strands",
  .mkr "Strands",
  .noat "Strands" "town",
  .noat "Strands" "up",
  .meth "Strands" "wires_of",
  .meth "Strands" "turn",
  .meth "Strands" "fall",
  .meth "Strands" "lay",
  .meth "Strands" "standing",
  .meth "Strands" "wire_for",
  .meth "Strands" "live",
  .cls "Net",
  .mkr "Net",
  .noat "Net" "people",
  .noat "Net" "town",
  .noat "Net" "strands",
  .noat "Net" "tables",
  .noat "Net" "books",
  .noat "Net" "news_by",
  .noat "Net" "sent",
  .noat "Net" "stories",
  .noat "Net" "hands",
  .noat "Net" "done",
  .noat "Net" "air",
  .meth "Net" "table",
  .meth "Net" "rows",
  .meth "Net" "live",
  .meth "Net" "opens",
  .meth "Net" "notes",
  .meth "Net" "resting",
  .meth "Net" "news",
  .meth "Net" "news_of",
  .meth "Net" "call",
  .meth "Net" "fall",
  .meth "Net" "lay",
  .meth "Net" "place",
  .meth "Net" "had",
  .meth "Net" "move",
  .meth "Net" "post",
  .meth "Net" "work",
  .meth "Net" "flying",
  .meth "Net" "pass_on",
  .meth "Net" "story",
  .cls "Town",
  .mkr "Town",
  .noat "Town" "size",
  .noat "Town" "many",
  .noat "Town" "names",
  .noat "Town" "kept",
  .noat "Town" "near",
  .meth "Town" "name",
  .meth "Town" "rope",
  .meth "Town" "ropes_at",
  .meth "Town" "far_end",
  .meth "Town" "lets",
  .exc "BadTown",
  .exm "BadTown" "KnotError" true,
  .exc "NoHouse",
  .exm "NoHouse" "KnotError" true,
  .exc "NoGroup",
  .exm "NoGroup" "KnotError" true,
  .exc "NoWire",
  .exm "NoWire" "KnotError" true,
  .exc "NoCaller",
  .exm "NoCaller" "KnotError" true,
  .exc "Apart",
  .exm "Apart" "KnotError" true,
  .exc "NoCopy",
  .exm "NoCopy" "KnotError" true,
  .exc "NoLetter",
  .exm "NoLetter" "KnotError" true]
def eqA {α : Type} [DecidableEq α] (a b : α) : Bool := decide (a = b)
/-- what isinstance asks of an instance of the class named x -/
def excB (K : PySem.W.Frag) (x : Str) : Bool :=
  He.eqO (PySem.W.findIn K (.ref (He.ga K x)) "__getattribute__") (some (some (.builtin "BaseException.__getattribute__"))) &&
  (He.eqO (PySem.W.findIn K (.ref (He.ga K x)) "__getattr__") (some none) &&
  (decide (PySem.W.subIn K (.ref (He.ga K x)) (.type "BaseException") = some true) &&
  (PySem.W.hasDictIn K (He.ga K x) &&
  (He.eqO (PySem.W.findIn K (.ref (He.ga K x)) "__class__") (some (some (.builtin "object.__class__"))) &&
  (He.eqO (PySem.W.specialIn K (.builtin "object.__class__") "__get__") (some (some (.builtin "getset_descriptor.__get__"))) &&
  (decide (PySem.W.takesIn K (.builtin "object.__class__") = some true) &&
   decide (PySem.W.mroIn K (He.ga K x) (.type "object") = some true)))))))
def kinds : List Str := ["BadTown", "NoHouse", "NoGroup", "NoWire", "NoCaller", "Apart", "NoCopy", "NoLetter", "NoText"]
def kitB (K : PySem.W.Frag) (x : Str) : Bool :=
  (kinds.all fun y => decide (PySem.W.kitOne K (.ref (He.ga K x)) (.ref (He.ga K y)) = some (decide (x = y)))) &&
  decide (PySem.W.kitOne K (.ref (He.ga K x)) (.type "ValueError") = some true)
def raised : List Str := ["BadTown", "NoHouse", "NoGroup", "NoWire", "NoCaller", "Apart", "NoCopy", "NoLetter"]
def ex (K : PySem.W.Frag) : Bool := raised.all fun x => excB K x && kitB K x
end Kn
set_option Elab.async false
set_option linter.all false
set_option maxRecDepth 100000
set_option maxHeartbeats 0
namespace Kn
open PySem PySem.Spec PyProof.Rows L2
abbrev R : PySem.W.OpenRow := PySem.W.OpenLaw.row PySem.Challenge.rw_knotless_k28_net_refused
abbrev hk : PySem.W.Hook := He.hookX 5 fa dn [] [] ex
def ob (s : PySem.W.SharedT) : He.AlX := He.obsX 5 fa dn [] [] ex (HandSHeadRun.getT s)
theorem ob_eq (s : PySem.W.SharedT) : ob s = hk.obs s.abs := He.obsX_eq (HandSHeadRun.getT_eq s)
def loose1 : List Str := ["Book", "ropes_on", "targets", "KnotError", "BadTown", "NoHouse", "NoGroup", "NoWire", "NoCaller", "Apart", "NoCopy", "NoLetter", "NoText", "Letter", "ToOne", "ToAll", "own_row", "offer", "due", "resting", "resting_rows", "up", "ups", "opens", "opens_opens"]
def loose2 : List Str := ["open_at", "Strands", "GROUPS", "MOST_CALLERS", "told_callers", "Net", "MOST_HOUSES", "MOST_ROPES", "ask_names", "ask_rope", "Town", "_law_cell_at", "_law_names", "_law_ropes", "_law_callers", "_law_asked", "_law_done", "_law_refusal", "_law_out", "_law_wrong_wire", "_law_wrong_net", "_law_wrong", "_law_told", "_law_made_good"]
def loose : List Str := loose1 ++ loose2
theorem run (w : World) : HandSHeadRun.RunEq R (PySem.W.view R.prog [59]) hk ob 8000 loose w := by
  intro os
  kernel_rfl
end Kn
set_option Elab.async false
set_option linter.all false
set_option maxRecDepth 100000
set_option maxHeartbeats 2000000
/-! Words of this proof: a def's promise in short, fields by place, readings step by step. -/
namespace Kn
open PySem PySem.Spec PyProof.Rows L2

/-! ### heaps that grow -/
theorem Same.new {H : Hp} {p : Addr} {o : HO} (h : H p = none) : Same H (upd H p o) := fun a u e => by rw [upd_ne (ne_of_none e h)]; exact e
theorem Same.mut {G H : Hp} {p : Addr} {o : HO} (e : Same G H) (h : G p = none) : Same G (upd H p o) := fun a u ha => by rw [upd_ne (ne_of_none ha h)]; exact e a u ha
theorem Same.new' {G H : Hp} {p : Addr} {o : HO} (e : Same G H) (h : H p = none) : Same G (upd H p o) := e.trans (Same.new h)
theorem Same.up {G H : Hp} {p : Addr} {o : HO} (e : Same G H) (h : H p = some o) : Same (upd G p o) H := fun a u ha => by
  by_cases q : a = p
  · rw [q, upd_same] at ha; cases ha; rw [q]; exact h
  · rw [upd_ne q] at ha; exact e a u ha
theorem szl {n : Nat} (h : n ≤ 100000) : n ≤ sizeLine := Nat.le_trans h (by decide)
theorem sll {n : Nat} (h : n < 100000) : n < sizeLine := Nat.lt_of_lt_of_le h (by decide)

/-! ### fields by place -/
theorem zlook {v : V} {f : Str} : ∀ {L : List Str} {vs : List V} {i : Nat}, L.findIdx? (fun g => f == g) = some i → vs[i]? = some v → (L.zip vs).lookup f = some v
  | [], _, _, h, _ => by simp at h
  | g :: L, [], i, h, hv => by simp at hv
  | g :: L, x :: vs, i, h, hv => by
    rw [List.findIdx?_cons] at h
    show (List.lookup f ((g, x) :: L.zip vs)) = some v
    rw [List.lookup_cons]
    by_cases e : (f == g) = true
    · rw [if_pos e] at h
      rw [e]
      have : i = 0 := (Option.some.inj h).symm
      subst this
      simpa using hv
    · have e' : (f == g) = false := by simpa using e
      rw [if_neg e] at h
      rw [e']
      cases i with
      | zero => simp at h
      | succ i =>
        have h2 : L.findIdx? (fun g => f == g) = some i := by
          cases q : L.findIdx? (fun g => f == g) with
          | none => rw [q] at h; simp at h
          | some j => rw [q] at h; simp at h; rw [h]
        exact zlook h2 (by simpa using hv)
theorem znone {f : Str} : ∀ {L : List Str} {vs : List V}, L.findIdx? (fun g => f == g) = none → (L.zip vs).lookup f = none
  | [], _, _ => by simp
  | g :: L, [], h => by simp
  | g :: L, x :: vs, h => by
    rw [List.findIdx?_cons] at h
    show (List.lookup f ((g, x) :: L.zip vs)) = none
    rw [List.lookup_cons]
    by_cases e : (f == g) = true
    · rw [if_pos e] at h; cases h
    · have e' : (f == g) = false := by simpa using e
      rw [if_neg e] at h
      rw [e']
      exact znone (by simpa using h)
theorem zput {y : V} {f : Str} : ∀ {L : List Str} {vs : List V} {i : Nat}, L.findIdx? (fun g => f == g) = some i → i < vs.length → putF f y (L.zip vs) = L.zip (vs.set i y)
  | [], _, _, h, _ => by simp at h
  | g :: L, [], i, h, hv => by simp at hv
  | g :: L, x :: vs, i, h, hv => by
    rw [List.findIdx?_cons] at h
    show putF f y ((g, x) :: L.zip vs) = _
    show (if g = f then (g, y) :: L.zip vs else (g, x) :: putF f y (L.zip vs)) = _
    by_cases e : f = g
    · subst e
      rw [if_pos (by simp)] at h
      have : i = 0 := (Option.some.inj h).symm
      subst this
      rw [if_pos rfl]; rfl
    · have e' : ¬ (f == g) = true := by simpa using e
      rw [if_neg e'] at h
      rw [if_neg (fun z => e z.symm)]
      cases i with
      | zero => simp at h
      | succ i =>
        have h2 : L.findIdx? (fun g => f == g) = some i := by
          cases q : L.findIdx? (fun g => f == g) with
          | none => rw [q] at h; simp at h
          | some j => rw [q] at h; simp at h; rw [h]
        rw [zput h2 (by simpa using hv)]; rfl
theorem zadd {y : V} {f : Str} : ∀ {L : List Str} {vs : List V}, L.findIdx? (fun g => f == g) = none → L.length = vs.length → putF f y (L.zip vs) = (L ++ [f]).zip (vs ++ [y])
  | [], [], _, _ => rfl
  | [], _ :: _, _, h => by simp at h
  | _ :: _, [], _, h => by simp at h
  | g :: L, x :: vs, h, hl => by
    rw [List.findIdx?_cons] at h
    show (if g = f then (g, y) :: L.zip vs else (g, x) :: putF f y (L.zip vs)) = _
    by_cases e : f = g
    · subst e
      rw [if_pos (by simp)] at h; cases h
    · have e' : ¬ (f == g) = true := by simpa using e
      rw [if_neg e'] at h
      rw [if_neg (fun z => e z.symm), zadd (by simpa using h) (by simpa using hl)]; rfl

/-! ### a def's promise -/
/-- the def at f keeps the promise sp, by at most level k; dvs fill up its last parameters -/
def Fn (P : Program) (w : World) (K : PySem.W.Frag) (mg : Str → Option Value) (base : Heap) (k : Nat) (f : Addr) (dvs : List V) (sp : Sp) : Prop :=
  ∃ fd ps ds, FnOk P w K mg base (L2.CX P w) k f fd ps sp ∧ Vals dvs ds ∧ Binds K fd ps ds ∧ PySem.W.keepIn K (.ref f) = true
theorem Fn.imp {P : Program} {w : World} {K : PySem.W.Frag} {mg : Str → Option Value} {base : Heap} {k : Nat} {f : Addr} {dvs : List V} {sp sp' : Sp} (F : Fn P w K mg base k f dvs sp)
    (h : ∀ vs H Q E, sp' vs H Q E → sp vs H Q E) : Fn P w K mg base k f dvs sp' := by
  obtain ⟨fd, ps, ds, F, hd, hb, hk⟩ := F
  exact ⟨fd, ps, ds, F.imp h, hd, hb, hk⟩
/-- out of the text: no defaults -/
theorem mkFn {P : Program} {w : World} {K : PySem.W.Frag} {mg : Str → Option Value} {base : Heap} {x qual : Str} {params : Arguments} {body : List Stmt} {scope : Scope} {f : Addr} {N ps : List Str} {k : Nat} {sp : Sp}
    (F : ∃ fd, FunD K x qual params body scope [] [] f fd) (S : FnScope N ps scope)
    (hb : ∀ (D : Value) (doc pm : Value) (an : Option Addr) (cdv ct : Value) (us : List Value), us.length = ps.length → bindArgs (PySem.W.fnOf x qual params body scope .none D doc pm an cdv ct) ⟨us, []⟩ = pure (ps.zip us))
    (len : ∀ vs H Q E, sp vs H Q E → vs.length = ps.length)
    (hbody : ∀ (cdv : Value) (A : Around) (outer : List Env) (s : Shared) (H : Hp) (vs : List V) (Q : VK) (E : XK), Room k (A.deeper (envOfC qual scope s.heap.objs.size f cdv)) → sp vs H Q E →
      ∃ t, PSs (cxOf (L2.CX P w) P w K mg base N qual scope f cdv A outer s H E) body t ∧ t { nx := fun _ H' => Q .non H', rt := Q } (start N vs) H) : Fn P w K mg base (k + 1) f [] sp := by
  obtain ⟨fd, F⟩ := F
  refine ⟨fd, ps, [], F.ok S len hbody, .nil, ?_, F.kp⟩
  obtain ⟨oc, od, dV, kV, doc, pm, an, cdv, ct, osl, rfl, lk, hcd, hD, _⟩ := F.ex
  obtain rfl : dV = .none := hD.elim (fun z => z.2) fun z => absurd rfl z.1
  exact .all fun us hl => hb _ _ _ _ _ _ us hl

section
variable {X : Cx} {k j : Nat} {f C : Addr} {sp : Sp} {dvs : List V} {E : XK} {x m : Str} {p pos apos : Pos} {e o : Expr} {es : List Expr} {ta : TE} {t : TA}
/-- f(e, ..) -/
theorem cf (F : Fn X.prog X.w X.K X.mg X.base k f dvs sp) (hr : Room j X.A) (hm : X.mg x = some (.ref f)) (hx : Passes (L2.CX X.prog X.w) X E) (ha : PA X (e :: es) t) (hkj : k ≤ j := by decide) (hg : Gl X x := by rfl)
    (hdb : (x == ("__debug__" : Str)) = false := by decide) (he : starEach (e :: es) X.env = (false, eval e X.env) :: starEach es X.env := by rfl) (hpl : (backTo pos (starEach es X.env)).any (·.1) = false := by rfl) :
    PE X (.Call (.Name x p) (e :: es) [] pos) (tCall sp dvs E t) := by
  obtain ⟨fd, ps, ds, F, hd, hb, hk⟩ := F
  exact pe_call F (hr.mono hkj) hg hm hk hb hd hx ha hdb he hpl
/-- o.m(e, ..) -/
theorem cm {pl : Sem Bool} (he : PE X o ta) (c : Cls X.K C) (hm : Meth X.K C m f) (F : Fn X.prog X.w X.K X.mg X.base k f dvs sp) (hr : Room j X.A) (hx : Passes (L2.CX X.prog X.w) X E) (ha : PA X (e :: es) t) (hkj : k ≤ j := by decide)
    (hst : starEach (e :: es) X.env = (false, eval e X.env) :: starEach es X.env := by rfl) (hpl : (backTo pos (starEach es X.env)).any (·.1) = false := by rfl)
    (ht : eval (.Call (.Attribute o m apos) (e :: es) [] pos) X.env = (do
      let ov ← eval o X.env
      standAt apos.atName
      let (f, first) ← holding [ov] (getMethod ov m pl)
      callWith pos f first (backTo pos (starEach (e :: es) X.env)) (backToKw pos (keywordEach [] X.env))) := by rfl) :
    PE X (.Call (.Attribute o m apos) (e :: es) [] pos) (tMeth C m sp dvs E ta t) := by
  obtain ⟨fd, ps, ds, F, hd, hb, hk⟩ := F
  exact pe_meth he c hm F (hr.mono hkj) hb hd hx ha hst hpl ht
/-- o.m() -/
theorem cm0 {pl : Sem Bool} (he : PE X o ta) (c : Cls X.K C) (hm : Meth X.K C m f) (F : Fn X.prog X.w X.K X.mg X.base k f dvs sp) (hr : Room j X.A) (hx : Passes (L2.CX X.prog X.w) X E) (hkj : k ≤ j := by decide)
    (ht : eval (.Call (.Attribute o m apos) [] [] pos) X.env = (do
      let ov ← eval o X.env
      standAt apos.atName
      let (f, first) ← holding [ov] (getMethod ov m pl)
      callWith pos f first (backTo pos (starEach [] X.env)) (backToKw pos (keywordEach [] X.env))) := by rfl) :
    PE X (.Call (.Attribute o m apos) [] [] pos) (tMeth C m sp dvs E ta tNil) := by
  obtain ⟨fd, ps, ds, F, hd, hb, hk⟩ := F
  exact pe_meth0 he c hm F (hr.mono hkj) hb hd hx ht
/-- C(e, ..), C() -/
theorem ck (M : Mk X.K C f) (F : Fn X.prog X.w X.K X.mg X.base k f dvs sp) (hr : Room j X.A) (hm : X.mg x = some (.ref C)) (hx : Passes (L2.CX X.prog X.w) X E) (ha : PA X (e :: es) t) (hkj : k + 1 ≤ j := by decide) (hg : Gl X x := by rfl)
    (hdb : (x == ("__debug__" : Str)) = false := by decide) (he : starEach (e :: es) X.env = (false, eval e X.env) :: starEach es X.env := by rfl) (hpl : (backTo pos (starEach es X.env)).any (·.1) = false := by rfl) :
    PE X (.Call (.Name x p) (e :: es) [] pos) (tMake C sp dvs E t) := by
  obtain ⟨fd, ps, ds, F, hd, hb, hk⟩ := F
  exact pe_make M F (hr.mono hkj) hg hm hb hd hx ha hdb he hpl
theorem ck0 (M : Mk X.K C f) (F : Fn X.prog X.w X.K X.mg X.base k f dvs sp) (hr : Room j X.A) (hm : X.mg x = some (.ref C)) (hx : Passes (L2.CX X.prog X.w) X E) (hkj : k + 1 ≤ j := by decide) (hg : Gl X x := by rfl)
    (hdb : (x == ("__debug__" : Str)) = false := by decide) : PE X (.Call (.Name x p) [] [] pos) (tMake C sp dvs E tNil) := by
  obtain ⟨fd, ps, ds, F, hd, hb, hk⟩ := F
  exact pe_make0 M F (hr.mono hkj) hg hm hb hd hx hdb
/-- a field -/
theorem pf {i : Str} (he : PE X e ta) (hb : attributeBase e i X.env (eval e X.env) = eval e X.env := by rfl) : PE X (.Attribute e i pos) (tFld X.K ta i) := pe_fld he hb
end
/-- in a def's body: what is raised goes on -/
theorem pX {X : Cx} {E : XK} (hs : X.stack = X.env :: X.outer := by rfl) (hf : X.env.frame = some X.env.locals := by rfl) (hex : X.ex = [] := by rfl) {E₁ : Value → Shared → Prop}
    (hx : X.xe = fun e s' => wpAny (model X.prog X.w) X.A (leaving X.env e) (fun _ s'' => L2.CX X.prog X.w X.outer X.H_0 X.s_0 E e s'') E₁ s' := by rfl) : Passes (L2.CX X.prog X.w) X E :=
  passes_call (takes_of hs hf hex hx) fun _ _ _ _ h => h

/-! ### readings, step by step -/
section
variable {K : PySem.W.Frag} {σ : L2.St} {H : Hp} {Q : VK} {D : Ends} {ta tb te tx : TE} {t u : TT} {t1 t2 : TS} {v x y : V} {g : TG} {l l2 : TA}
theorem r_seq (h : t1 { D with nx := t2 D } σ H) : tSeq t1 t2 D σ H := h
theorem r_set {i : Nat} (h : te σ H fun x H1 => D.nx (σ.set i (some x)) H1) : tAsg te (gName i) D σ H := h
theorem r_ret (h : te σ H D.rt) : tRet te D σ H := h
theorem r_retN (h : D.rt .non H) : tRetN D σ H := h
theorem r_drop (h : te σ H fun _ H1 => D.nx σ H1) : tDrop te D σ H := h
theorem r_next (h : D.nx σ H) : tNext D σ H := h
theorem r_if (h : t σ H fun b H1 => if b = true then t1 D σ H1 else t2 D σ H1) : tIfS t t1 t2 D σ H := h
theorem r_var {i : Nat} (h : σ[i]? = some (some v)) (q : Q v H) : tVar i σ H Q := ⟨v, h, q⟩
theorem r_c (q : Q v H) : tC v σ H Q := q
theorem r_op {r : R2} (h : ta σ H fun x H1 => tb σ H1 fun y H2 => r x y H2 Q) : tOp r ta tb σ H Q := h
theorem r_I0 {f : Int → Int → V} {i j : Int} (q : Q (f i j) H) : rI0 f (.int i) (.int j) H Q := ⟨i, j, rfl, rfl, q⟩
theorem r_I {C : Int → Int → Prop} {f : Int → Int → V} {i j : Int} (hc : C i j) (q : Q (f i j) H) : rI C f (.int i) (.int j) H Q := ⟨i, j, rfl, rfl, hc, q⟩
theorem r_test {Q : Bool → Hp → Prop} (h : ta σ H fun x H' => ∃ k, x = .bl k ∧ Q k H') : tTest ta σ H Q := h
theorem r_B {Q : Bool → Hp → Prop} (h : ta σ H fun x H' => ∃ k, x = .bl k ∧ Q k H') : tB ta σ H Q := h
theorem r_bl {b : Bool} {Q : Bool → Hp → Prop} (h : Q b H) : ∃ k, V.bl b = .bl k ∧ Q k H := ⟨b, rfl, h⟩
theorem r_not {Q : Bool → Hp → Prop} (h : t σ H fun c H1 => Q (!c) H1) : tNot t σ H Q := h
theorem r_or {Q : Bool → Hp → Prop} (h : t σ H fun c H1 => if c = true then Q true H1 else u σ H1 Q) : tOr t u σ H Q := h
theorem r_and {Q : Bool → Hp → Prop} (h : t σ H fun c H1 => if c = true then u σ H1 Q else Q false H1) : tAnd t u σ H Q := h
theorem r_fld {f : Str} (h : ta σ H fun x H1 => ∃ a C dx fs v, x = .ref a ∧ H1 a = some (.ins C dx fs) ∧ Cls K C ∧ NoAttr K C f ∧ fs.lookup f = some v ∧ Q v H1) : tFld K ta f σ H Q := h
theorem r_nil {Q : List V → Hp → Prop} (q : Q [] H) : tNil σ H Q := q
theorem r_cons {Q : List V → Hp → Prop} (h : ta σ H fun x H1 => l σ H1 fun xs H2 => Q (x :: xs) H2) : tCons ta l σ H Q := h
theorem r_call {sp : Sp} {dvs : List V} {E : XK} (h : l σ H fun vs H1 => sp (vs ++ dvs) H1 Q E) : tCall sp dvs E l σ H Q := h
theorem r_cb {r : List V → Hp → VK → Prop} (h : l σ H fun vs H1 => r vs H1 Q) : tCB r l σ H Q := h
theorem r_tup (h : l σ H fun xs H1 => xs.length ≤ sizeLine ∧ ∀ p, H1 p = none → Q (.ref p) (upd H1 p (.tup xs))) : tTup l σ H Q := h
theorem r_lst (h : l σ H fun xs H1 => xs.length ≤ sizeLine ∧ ∀ p, H1 p = none → Q (.ref p) (upd H1 p (.lst xs))) : tLst l σ H Q := h
theorem r_meth {C : Addr} {m : Str} {sp : Sp} {dvs : List V} {E : XK} (h : ta σ H fun x H1 => ∃ a dx fs, x = .ref a ∧ H1 a = some (.ins C dx fs) ∧ fs.lookup m = none ∧ l σ H1 fun vs H2 => sp (x :: (vs ++ dvs)) H2 Q E) :
    tMeth C m sp dvs E ta l σ H Q := h
end
local macro_rules | `(tactic| walk_at "st") => `(tactic| repeat' (first
  | with_reducible refine r_seq ?_ | with_reducible refine r_set ?_ | with_reducible refine r_ret ?_ | with_reducible refine r_retN ?_ | with_reducible refine r_drop ?_ | with_reducible refine r_next ?_
  | with_reducible refine r_if ?_ | ((with_reducible refine r_var (v := ?_) ?hs ?_); (case hs => exact rfl)) | with_reducible refine r_c ?_ | with_reducible refine r_op ?_ | with_reducible refine r_I0 ?_
  | with_reducible refine r_test ?_ | with_reducible refine r_B ?_ | with_reducible refine ⟨_, (rfl : V.bl _ = V.bl _), ?_⟩ | with_reducible refine r_not ?_ | with_reducible refine r_or ?_ | with_reducible refine r_and ?_
  | with_reducible refine r_nil ?_ | with_reducible refine r_cons ?_ | with_reducible refine r_call ?_ | with_reducible refine r_cb ?_ | with_reducible refine r_tup ?_ | with_reducible refine r_lst ?_))
end Kn
set_option Elab.async false
set_option linter.all false
set_option maxRecDepth 100000
set_option maxHeartbeats 2000000
/-! The facts of the text, each by its name. -/
namespace Kn
open PySem L2
structure Tx (K : PySem.W.Frag) (mg : Str → Option Value) : Prop where
  g_ropes_on : mg "ropes_on" = some (.ref (He.ga K "ropes_on"))
  g_targets : mg "targets" = some (.ref (He.ga K "targets"))
  g_own_row : mg "own_row" = some (.ref (He.ga K "own_row"))
  g_offer : mg "offer" = some (.ref (He.ga K "offer"))
  g_due : mg "due" = some (.ref (He.ga K "due"))
  g_resting_rows : mg "resting_rows" = some (.ref (He.ga K "resting_rows"))
  g_up : mg "up" = some (.ref (He.ga K "up"))
  g_ups : mg "ups" = some (.ref (He.ga K "ups"))
  g_opens_opens : mg "opens_opens" = some (.ref (He.ga K "opens_opens"))
  g_open_at : mg "open_at" = some (.ref (He.ga K "open_at"))
  g_told_callers : mg "told_callers" = some (.ref (He.ga K "told_callers"))
  g_ask_names : mg "ask_names" = some (.ref (He.ga K "ask_names"))
  g_ask_rope : mg "ask_rope" = some (.ref (He.ga K "ask_rope"))
  g_law_cell_at : mg "_law_cell_at" = some (.ref (He.ga K "_law_cell_at"))
  g_law_names : mg "_law_names" = some (.ref (He.ga K "_law_names"))
  g_law_ropes : mg "_law_ropes" = some (.ref (He.ga K "_law_ropes"))
  g_law_callers : mg "_law_callers" = some (.ref (He.ga K "_law_callers"))
  g_law_asked : mg "_law_asked" = some (.ref (He.ga K "_law_asked"))
  g_law_done : mg "_law_done" = some (.ref (He.ga K "_law_done"))
  g_law_refusal : mg "_law_refusal" = some (.ref (He.ga K "_law_refusal"))
  g_law_out : mg "_law_out" = some (.ref (He.ga K "_law_out"))
  g_law_wrong_wire : mg "_law_wrong_wire" = some (.ref (He.ga K "_law_wrong_wire"))
  g_law_wrong_net : mg "_law_wrong_net" = some (.ref (He.ga K "_law_wrong_net"))
  g_law_wrong : mg "_law_wrong" = some (.ref (He.ga K "_law_wrong"))
  g_law_told : mg "_law_told" = some (.ref (He.ga K "_law_told"))
  g_law_made_good : mg "_law_made_good" = some (.ref (He.ga K "_law_made_good"))
  g_law : mg "law" = some (.ref (He.ga K "law"))
  g_Book : mg "Book" = some (.ref (He.ga K "Book"))
  g_ToAll : mg "ToAll" = some (.ref (He.ga K "ToAll"))
  g_ToOne : mg "ToOne" = some (.ref (He.ga K "ToOne"))
  g_Letter : mg "Letter" = some (.ref (He.ga K "Letter"))
  g_Strands : mg "Strands" = some (.ref (He.ga K "Strands"))
  g_Net : mg "Net" = some (.ref (He.ga K "Net"))
  g_Town : mg "Town" = some (.ref (He.ga K "Town"))
  g_KnotError : mg "KnotError" = some (.ref (He.ga K "KnotError"))
  g_BadTown : mg "BadTown" = some (.ref (He.ga K "BadTown"))
  g_NoHouse : mg "NoHouse" = some (.ref (He.ga K "NoHouse"))
  g_NoGroup : mg "NoGroup" = some (.ref (He.ga K "NoGroup"))
  g_NoWire : mg "NoWire" = some (.ref (He.ga K "NoWire"))
  g_NoCaller : mg "NoCaller" = some (.ref (He.ga K "NoCaller"))
  g_Apart : mg "Apart" = some (.ref (He.ga K "Apart"))
  g_NoCopy : mg "NoCopy" = some (.ref (He.ga K "NoCopy"))
  g_NoLetter : mg "NoLetter" = some (.ref (He.ga K "NoLetter"))
  g_NoText : mg "NoText" = some (.ref (He.ga K "NoText"))
  b_len : mg "len" = none
  b_range : mg "range" = none
  b_list : mg "list" = none
  b_sorted : mg "sorted" = none
  b_set : mg "set" = none
  b_enumerate : mg "enumerate" = none
  b_isinstance : mg "isinstance" = none
  b_all : mg "all" = none
  b_ValueError : mg "ValueError" = none
  i_GROUPS : ∃ t, mg "GROUPS" = some (.int 3 t)
  i_MOST_CALLERS : ∃ t, mg "MOST_CALLERS" = some (.int 20 t)
  i_MOST_HOUSES : ∃ t, mg "MOST_HOUSES" = some (.int 10 t)
  i_MOST_ROPES : ∃ t, mg "MOST_ROPES" = some (.int 20 t)
  c_Book : Cls K (He.ga K "Book")
  k_Book : Mk K (He.ga K "Book") (He.ma K (He.ga K "Book") "__init__")
  n_Book_kept : NoAttr K (He.ga K "Book") "kept"
  m_Book_learn : Meth K (He.ga K "Book") "learn" (He.ma K (He.ga K "Book") "learn")
  m_Book_notes : Meth K (He.ga K "Book") "notes" (He.ma K (He.ga K "Book") "notes")
  m_Book_forget : Meth K (He.ga K "Book") "forget" (He.ma K (He.ga K "Book") "forget")
  c_ToAll : Cls K (He.ga K "ToAll")
  k_ToAll : Mk K (He.ga K "ToAll") (He.ma K (He.ga K "ToAll") "__init__")
  n_ToAll_sender : NoAttr K (He.ga K "ToAll") "sender"
  m_ToAll_meant : Meth K (He.ga K "ToAll") "meant" (He.ma K (He.ga K "ToAll") "meant")
  m_ToAll_seeks : Meth K (He.ga K "ToAll") "seeks" (He.ma K (He.ga K "ToAll") "seeks")
  m_ToAll_number : Meth K (He.ga K "ToAll") "number" (He.ma K (He.ga K "ToAll") "number")
  c_Strands : Cls K (He.ga K "Strands")
  k_Strands : Mk K (He.ga K "Strands") (He.ma K (He.ga K "Strands") "__init__")
  n_Strands_town : NoAttr K (He.ga K "Strands") "town"
  n_Strands_up : NoAttr K (He.ga K "Strands") "up"
  m_Strands_wires_of : Meth K (He.ga K "Strands") "wires_of" (He.ma K (He.ga K "Strands") "wires_of")
  m_Strands_turn : Meth K (He.ga K "Strands") "turn" (He.ma K (He.ga K "Strands") "turn")
  m_Strands_fall : Meth K (He.ga K "Strands") "fall" (He.ma K (He.ga K "Strands") "fall")
  m_Strands_lay : Meth K (He.ga K "Strands") "lay" (He.ma K (He.ga K "Strands") "lay")
  m_Strands_standing : Meth K (He.ga K "Strands") "standing" (He.ma K (He.ga K "Strands") "standing")
  m_Strands_wire_for : Meth K (He.ga K "Strands") "wire_for" (He.ma K (He.ga K "Strands") "wire_for")
  m_Strands_live : Meth K (He.ga K "Strands") "live" (He.ma K (He.ga K "Strands") "live")
  c_Net : Cls K (He.ga K "Net")
  k_Net : Mk K (He.ga K "Net") (He.ma K (He.ga K "Net") "__init__")
  n_Net_people : NoAttr K (He.ga K "Net") "people"
  n_Net_town : NoAttr K (He.ga K "Net") "town"
  n_Net_strands : NoAttr K (He.ga K "Net") "strands"
  n_Net_tables : NoAttr K (He.ga K "Net") "tables"
  n_Net_books : NoAttr K (He.ga K "Net") "books"
  n_Net_news_by : NoAttr K (He.ga K "Net") "news_by"
  n_Net_sent : NoAttr K (He.ga K "Net") "sent"
  n_Net_stories : NoAttr K (He.ga K "Net") "stories"
  n_Net_hands : NoAttr K (He.ga K "Net") "hands"
  n_Net_done : NoAttr K (He.ga K "Net") "done"
  n_Net_air : NoAttr K (He.ga K "Net") "air"
  m_Net_table : Meth K (He.ga K "Net") "table" (He.ma K (He.ga K "Net") "table")
  m_Net_rows : Meth K (He.ga K "Net") "rows" (He.ma K (He.ga K "Net") "rows")
  m_Net_live : Meth K (He.ga K "Net") "live" (He.ma K (He.ga K "Net") "live")
  m_Net_opens : Meth K (He.ga K "Net") "opens" (He.ma K (He.ga K "Net") "opens")
  m_Net_notes : Meth K (He.ga K "Net") "notes" (He.ma K (He.ga K "Net") "notes")
  m_Net_resting : Meth K (He.ga K "Net") "resting" (He.ma K (He.ga K "Net") "resting")
  m_Net_news : Meth K (He.ga K "Net") "news" (He.ma K (He.ga K "Net") "news")
  m_Net_news_of : Meth K (He.ga K "Net") "news_of" (He.ma K (He.ga K "Net") "news_of")
  m_Net_call : Meth K (He.ga K "Net") "call" (He.ma K (He.ga K "Net") "call")
  m_Net_fall : Meth K (He.ga K "Net") "fall" (He.ma K (He.ga K "Net") "fall")
  m_Net_lay : Meth K (He.ga K "Net") "lay" (He.ma K (He.ga K "Net") "lay")
  m_Net_place : Meth K (He.ga K "Net") "place" (He.ma K (He.ga K "Net") "place")
  m_Net_had : Meth K (He.ga K "Net") "had" (He.ma K (He.ga K "Net") "had")
  m_Net_move : Meth K (He.ga K "Net") "move" (He.ma K (He.ga K "Net") "move")
  m_Net_post : Meth K (He.ga K "Net") "post" (He.ma K (He.ga K "Net") "post")
  m_Net_work : Meth K (He.ga K "Net") "work" (He.ma K (He.ga K "Net") "work")
  m_Net_flying : Meth K (He.ga K "Net") "flying" (He.ma K (He.ga K "Net") "flying")
  m_Net_pass_on : Meth K (He.ga K "Net") "pass_on" (He.ma K (He.ga K "Net") "pass_on")
  m_Net_story : Meth K (He.ga K "Net") "story" (He.ma K (He.ga K "Net") "story")
  c_Town : Cls K (He.ga K "Town")
  k_Town : Mk K (He.ga K "Town") (He.ma K (He.ga K "Town") "__init__")
  n_Town_size : NoAttr K (He.ga K "Town") "size"
  n_Town_many : NoAttr K (He.ga K "Town") "many"
  n_Town_names : NoAttr K (He.ga K "Town") "names"
  n_Town_kept : NoAttr K (He.ga K "Town") "kept"
  n_Town_near : NoAttr K (He.ga K "Town") "near"
  m_Town_name : Meth K (He.ga K "Town") "name" (He.ma K (He.ga K "Town") "name")
  m_Town_rope : Meth K (He.ga K "Town") "rope" (He.ma K (He.ga K "Town") "rope")
  m_Town_ropes_at : Meth K (He.ga K "Town") "ropes_at" (He.ma K (He.ga K "Town") "ropes_at")
  m_Town_far_end : Meth K (He.ga K "Town") "far_end" (He.ma K (He.ga K "Town") "far_end")
  m_Town_lets : Meth K (He.ga K "Town") "lets" (He.ma K (He.ga K "Town") "lets")
  x_BadTown : PySem.W.excIn K (He.ga K "BadTown") He.veBase "ValueError.__new__" = true ∧ PySem.W.keepIn K (.ref (He.ga K "BadTown")) = true ∧ PySem.W.subIn K (.ref (He.ga K "BadTown")) (.type "BaseException") = some true ∧ PySem.W.typeIn K (.ref (He.ga K "BadTown")) = some (.type "type")
  e_BadTown : PySem.W.exmOne K (.ref (He.ga K "BadTown")) (.ref (He.ga K "KnotError")) = some true
  x_NoHouse : PySem.W.excIn K (He.ga K "NoHouse") He.veBase "ValueError.__new__" = true ∧ PySem.W.keepIn K (.ref (He.ga K "NoHouse")) = true ∧ PySem.W.subIn K (.ref (He.ga K "NoHouse")) (.type "BaseException") = some true ∧ PySem.W.typeIn K (.ref (He.ga K "NoHouse")) = some (.type "type")
  e_NoHouse : PySem.W.exmOne K (.ref (He.ga K "NoHouse")) (.ref (He.ga K "KnotError")) = some true
  x_NoGroup : PySem.W.excIn K (He.ga K "NoGroup") He.veBase "ValueError.__new__" = true ∧ PySem.W.keepIn K (.ref (He.ga K "NoGroup")) = true ∧ PySem.W.subIn K (.ref (He.ga K "NoGroup")) (.type "BaseException") = some true ∧ PySem.W.typeIn K (.ref (He.ga K "NoGroup")) = some (.type "type")
  e_NoGroup : PySem.W.exmOne K (.ref (He.ga K "NoGroup")) (.ref (He.ga K "KnotError")) = some true
  x_NoWire : PySem.W.excIn K (He.ga K "NoWire") He.veBase "ValueError.__new__" = true ∧ PySem.W.keepIn K (.ref (He.ga K "NoWire")) = true ∧ PySem.W.subIn K (.ref (He.ga K "NoWire")) (.type "BaseException") = some true ∧ PySem.W.typeIn K (.ref (He.ga K "NoWire")) = some (.type "type")
  e_NoWire : PySem.W.exmOne K (.ref (He.ga K "NoWire")) (.ref (He.ga K "KnotError")) = some true
  x_NoCaller : PySem.W.excIn K (He.ga K "NoCaller") He.veBase "ValueError.__new__" = true ∧ PySem.W.keepIn K (.ref (He.ga K "NoCaller")) = true ∧ PySem.W.subIn K (.ref (He.ga K "NoCaller")) (.type "BaseException") = some true ∧ PySem.W.typeIn K (.ref (He.ga K "NoCaller")) = some (.type "type")
  e_NoCaller : PySem.W.exmOne K (.ref (He.ga K "NoCaller")) (.ref (He.ga K "KnotError")) = some true
  x_Apart : PySem.W.excIn K (He.ga K "Apart") He.veBase "ValueError.__new__" = true ∧ PySem.W.keepIn K (.ref (He.ga K "Apart")) = true ∧ PySem.W.subIn K (.ref (He.ga K "Apart")) (.type "BaseException") = some true ∧ PySem.W.typeIn K (.ref (He.ga K "Apart")) = some (.type "type")
  e_Apart : PySem.W.exmOne K (.ref (He.ga K "Apart")) (.ref (He.ga K "KnotError")) = some true
  x_NoCopy : PySem.W.excIn K (He.ga K "NoCopy") He.veBase "ValueError.__new__" = true ∧ PySem.W.keepIn K (.ref (He.ga K "NoCopy")) = true ∧ PySem.W.subIn K (.ref (He.ga K "NoCopy")) (.type "BaseException") = some true ∧ PySem.W.typeIn K (.ref (He.ga K "NoCopy")) = some (.type "type")
  e_NoCopy : PySem.W.exmOne K (.ref (He.ga K "NoCopy")) (.ref (He.ga K "KnotError")) = some true
  x_NoLetter : PySem.W.excIn K (He.ga K "NoLetter") He.veBase "ValueError.__new__" = true ∧ PySem.W.keepIn K (.ref (He.ga K "NoLetter")) = true ∧ PySem.W.subIn K (.ref (He.ga K "NoLetter")) (.type "BaseException") = some true ∧ PySem.W.typeIn K (.ref (He.ga K "NoLetter")) = some (.type "type")
  e_NoLetter : PySem.W.exmOne K (.ref (He.ga K "NoLetter")) (.ref (He.ga K "KnotError")) = some true
  F_Book_init : ∃ fd, FunD K "__init__" "Book.__init__" (defArgs s_Book_init) (defBody s_Book_init) (defScope s_Book_init) [] [] (He.ma K (He.ga K "Book") "__init__") fd
  F_Book_learn : ∃ fd, FunD K "learn" "Book.learn" (defArgs s_Book_learn) (defBody s_Book_learn) (defScope s_Book_learn) [] [] (He.ma K (He.ga K "Book") "learn") fd
  F_Book_notes : ∃ fd, FunD K "notes" "Book.notes" (defArgs s_Book_notes) (defBody s_Book_notes) (defScope s_Book_notes) [] [] (He.ma K (He.ga K "Book") "notes") fd
  F_Book_forget : ∃ fd, FunD K "forget" "Book.forget" (defArgs s_Book_forget) (defBody s_Book_forget) (defScope s_Book_forget) [] [] (He.ma K (He.ga K "Book") "forget") fd
  F_ropes_on : ∃ fd, FunD K "ropes_on" "ropes_on" (defArgs s_ropes_on) (defBody s_ropes_on) (defScope s_ropes_on) [] [] (He.ga K "ropes_on") fd
  F_targets : ∃ fd, FunD K "targets" "targets" (defArgs s_targets) (defBody s_targets) (defScope s_targets) [] [] (He.ga K "targets") fd
  F_Letter_init : ∃ fd, FunD K "__init__" "Letter.__init__" (defArgs s_Letter_init) (defBody s_Letter_init) (defScope s_Letter_init) [] [] (He.ma K (He.ga K "ToAll") "__init__") fd
  F_Letter_seeks : ∃ fd, FunD K "seeks" "Letter.seeks" (defArgs s_Letter_seeks) (defBody s_Letter_seeks) (defScope s_Letter_seeks) [] [] (He.ma K (He.ga K "ToAll") "seeks") fd
  F_Letter_number : ∃ fd, FunD K "number" "Letter.number" (defArgs s_Letter_number) (defBody s_Letter_number) (defScope s_Letter_number) [] [] (He.ma K (He.ga K "ToAll") "number") fd
  F_ToAll_meant : ∃ fd, FunD K "meant" "ToAll.meant" (defArgs s_ToAll_meant) (defBody s_ToAll_meant) (defScope s_ToAll_meant) [] [] (He.ma K (He.ga K "ToAll") "meant") fd
  F_own_row : ∃ fd, FunD K "own_row" "own_row" (defArgs s_own_row) (defBody s_own_row) (defScope s_own_row) [] [] (He.ga K "own_row") fd
  F_offer : ∃ fd, FunD K "offer" "offer" (defArgs s_offer) (defBody s_offer) (defScope s_offer) [] [] (He.ga K "offer") fd
  F_due : ∃ fd, FunD K "due" "due" (defArgs s_due) (defBody s_due) (defScope s_due) [] [] (He.ga K "due") fd
  F_resting : ∃ fd, FunD K "resting" "resting" (defArgs s_resting) (defBody s_resting) (defScope s_resting) [] [] (He.ga K "resting_rows") fd
  F_up : ∃ fd, FunD K "up" "up" (defArgs s_up) (defBody s_up) (defScope s_up) [] [] (He.ga K "up") fd
  F_ups : ∃ fd, FunD K "ups" "ups" (defArgs s_ups) (defBody s_ups) (defScope s_ups) [] [] (He.ga K "ups") fd
  F_opens : ∃ fd, FunD K "opens" "opens" (defArgs s_opens) (defBody s_opens) (defScope s_opens) [] [] (He.ga K "opens_opens") fd
  F_open_at : ∃ fd, FunD K "open_at" "open_at" (defArgs s_open_at) (defBody s_open_at) (defScope s_open_at) [] [] (He.ga K "open_at") fd
  F_Strands_init : ∃ fd, FunD K "__init__" "Strands.__init__" (defArgs s_Strands_init) (defBody s_Strands_init) (defScope s_Strands_init) [] [] (He.ma K (He.ga K "Strands") "__init__") fd
  F_Strands_wires_of : ∃ fd, FunD K "wires_of" "Strands.wires_of" (defArgs s_Strands_wires_of) (defBody s_Strands_wires_of) (defScope s_Strands_wires_of) [] [] (He.ma K (He.ga K "Strands") "wires_of") fd
  F_Strands_turn : ∃ fd, FunD K "turn" "Strands.turn" (defArgs s_Strands_turn) (defBody s_Strands_turn) (defScope s_Strands_turn) [] [] (He.ma K (He.ga K "Strands") "turn") fd
  F_Strands_fall : ∃ fd, FunD K "fall" "Strands.fall" (defArgs s_Strands_fall) (defBody s_Strands_fall) (defScope s_Strands_fall) [] [] (He.ma K (He.ga K "Strands") "fall") fd
  F_Strands_lay : ∃ fd, FunD K "lay" "Strands.lay" (defArgs s_Strands_lay) (defBody s_Strands_lay) (defScope s_Strands_lay) [] [] (He.ma K (He.ga K "Strands") "lay") fd
  F_Strands_standing : ∃ fd, FunD K "standing" "Strands.standing" (defArgs s_Strands_standing) (defBody s_Strands_standing) (defScope s_Strands_standing) [] [] (He.ma K (He.ga K "Strands") "standing") fd
  F_Strands_wire_for : ∃ fd, FunD K "wire_for" "Strands.wire_for" (defArgs s_Strands_wire_for) (defBody s_Strands_wire_for) (defScope s_Strands_wire_for) [] [] (He.ma K (He.ga K "Strands") "wire_for") fd
  F_Strands_live : ∃ fd, FunD K "live" "Strands.live" (defArgs s_Strands_live) (defBody s_Strands_live) (defScope s_Strands_live) [] [] (He.ma K (He.ga K "Strands") "live") fd
  F_told_callers : ∃ fd, FunD K "told_callers" "told_callers" (defArgs s_told_callers) (defBody s_told_callers) (defScope s_told_callers) [] [] (He.ga K "told_callers") fd
  F_Net_init : ∃ fd, FunD K "__init__" "Net.__init__" (defArgs s_Net_init) (defBody s_Net_init) (defScope s_Net_init) [] [] (He.ma K (He.ga K "Net") "__init__") fd
  F_Net_table : ∃ fd, FunD K "table" "Net.table" (defArgs s_Net_table) (defBody s_Net_table) (defScope s_Net_table) [] [] (He.ma K (He.ga K "Net") "table") fd
  F_Net_rows : ∃ fd, FunD K "rows" "Net.rows" (defArgs s_Net_rows) (defBody s_Net_rows) (defScope s_Net_rows) [] [] (He.ma K (He.ga K "Net") "rows") fd
  F_Net_live : ∃ fd, FunD K "live" "Net.live" (defArgs s_Net_live) (defBody s_Net_live) (defScope s_Net_live) [] [] (He.ma K (He.ga K "Net") "live") fd
  F_Net_opens : ∃ fd, FunD K "opens" "Net.opens" (defArgs s_Net_opens) (defBody s_Net_opens) (defScope s_Net_opens) [] [] (He.ma K (He.ga K "Net") "opens") fd
  F_Net_notes : ∃ fd, FunD K "notes" "Net.notes" (defArgs s_Net_notes) (defBody s_Net_notes) (defScope s_Net_notes) [] [] (He.ma K (He.ga K "Net") "notes") fd
  F_Net_resting : ∃ fd, FunD K "resting" "Net.resting" (defArgs s_Net_resting) (defBody s_Net_resting) (defScope s_Net_resting) [] [] (He.ma K (He.ga K "Net") "resting") fd
  F_Net_news : ∃ fd, FunD K "news" "Net.news" (defArgs s_Net_news) (defBody s_Net_news) (defScope s_Net_news) [] [] (He.ma K (He.ga K "Net") "news") fd
  F_Net_news_of : ∃ fd, FunD K "news_of" "Net.news_of" (defArgs s_Net_news_of) (defBody s_Net_news_of) (defScope s_Net_news_of) [] [] (He.ma K (He.ga K "Net") "news_of") fd
  F_Net_call : ∃ fd, FunD K "call" "Net.call" (defArgs s_Net_call) (defBody s_Net_call) (defScope s_Net_call) [] [] (He.ma K (He.ga K "Net") "call") fd
  F_Net_fall : ∃ fd, FunD K "fall" "Net.fall" (defArgs s_Net_fall) (defBody s_Net_fall) (defScope s_Net_fall) [] [] (He.ma K (He.ga K "Net") "fall") fd
  F_Net_lay : ∃ fd, FunD K "lay" "Net.lay" (defArgs s_Net_lay) (defBody s_Net_lay) (defScope s_Net_lay) [] [] (He.ma K (He.ga K "Net") "lay") fd
  F_Net_place : ∃ fd, FunD K "place" "Net.place" (defArgs s_Net_place) (defBody s_Net_place) (defScope s_Net_place) [] [] (He.ma K (He.ga K "Net") "place") fd
  F_Net_had : ∃ fd, FunD K "had" "Net.had" (defArgs s_Net_had) (defBody s_Net_had) (defScope s_Net_had) [] [] (He.ma K (He.ga K "Net") "had") fd
  F_Net_move : ∃ fd, FunD K "move" "Net.move" (defArgs s_Net_move) (defBody s_Net_move) (defScope s_Net_move) [] [] (He.ma K (He.ga K "Net") "move") fd
  F_Net_post : ∃ fd, FunD K "post" "Net.post" (defArgs s_Net_post) (defBody s_Net_post) (defScope s_Net_post) [.non] [] (He.ma K (He.ga K "Net") "post") fd
  F_Net_work : ∃ fd, FunD K "work" "Net.work" (defArgs s_Net_work) (defBody s_Net_work) (defScope s_Net_work) [] [] (He.ma K (He.ga K "Net") "work") fd
  F_Net_flying : ∃ fd, FunD K "flying" "Net.flying" (defArgs s_Net_flying) (defBody s_Net_flying) (defScope s_Net_flying) [] [] (He.ma K (He.ga K "Net") "flying") fd
  F_Net_pass_on : ∃ fd, FunD K "pass_on" "Net.pass_on" (defArgs s_Net_pass_on) (defBody s_Net_pass_on) (defScope s_Net_pass_on) [.int 0] [] (He.ma K (He.ga K "Net") "pass_on") fd
  F_Net_story : ∃ fd, FunD K "story" "Net.story" (defArgs s_Net_story) (defBody s_Net_story) (defScope s_Net_story) [] [] (He.ma K (He.ga K "Net") "story") fd
  F_ask_names : ∃ fd, FunD K "ask_names" "ask_names" (defArgs s_ask_names) (defBody s_ask_names) (defScope s_ask_names) [] [] (He.ga K "ask_names") fd
  F_ask_rope : ∃ fd, FunD K "ask_rope" "ask_rope" (defArgs s_ask_rope) (defBody s_ask_rope) (defScope s_ask_rope) [] [] (He.ga K "ask_rope") fd
  F_Town_init : ∃ fd, FunD K "__init__" "Town.__init__" (defArgs s_Town_init) (defBody s_Town_init) (defScope s_Town_init) [] [] (He.ma K (He.ga K "Town") "__init__") fd
  F_Town_name : ∃ fd, FunD K "name" "Town.name" (defArgs s_Town_name) (defBody s_Town_name) (defScope s_Town_name) [] [] (He.ma K (He.ga K "Town") "name") fd
  F_Town_rope : ∃ fd, FunD K "rope" "Town.rope" (defArgs s_Town_rope) (defBody s_Town_rope) (defScope s_Town_rope) [] [] (He.ma K (He.ga K "Town") "rope") fd
  F_Town_ropes_at : ∃ fd, FunD K "ropes_at" "Town.ropes_at" (defArgs s_Town_ropes_at) (defBody s_Town_ropes_at) (defScope s_Town_ropes_at) [] [] (He.ma K (He.ga K "Town") "ropes_at") fd
  F_Town_far_end : ∃ fd, FunD K "far_end" "Town.far_end" (defArgs s_Town_far_end) (defBody s_Town_far_end) (defScope s_Town_far_end) [] [] (He.ma K (He.ga K "Town") "far_end") fd
  F_Town_lets : ∃ fd, FunD K "lets" "Town.lets" (defArgs s_Town_lets) (defBody s_Town_lets) (defScope s_Town_lets) [] [] (He.ma K (He.ga K "Town") "lets") fd
  F_law_cell_at : ∃ fd, FunD K "_law_cell_at" "_law_cell_at" (defArgs s_law_cell_at) (defBody s_law_cell_at) (defScope s_law_cell_at) [] [] (He.ga K "_law_cell_at") fd
  F_law_names : ∃ fd, FunD K "_law_names" "_law_names" (defArgs s_law_names) (defBody s_law_names) (defScope s_law_names) [] [] (He.ga K "_law_names") fd
  F_law_ropes : ∃ fd, FunD K "_law_ropes" "_law_ropes" (defArgs s_law_ropes) (defBody s_law_ropes) (defScope s_law_ropes) [] [] (He.ga K "_law_ropes") fd
  F_law_callers : ∃ fd, FunD K "_law_callers" "_law_callers" (defArgs s_law_callers) (defBody s_law_callers) (defScope s_law_callers) [] [] (He.ga K "_law_callers") fd
  F_law_asked : ∃ fd, FunD K "_law_asked" "_law_asked" (defArgs s_law_asked) (defBody s_law_asked) (defScope s_law_asked) [] [] (He.ga K "_law_asked") fd
  F_law_done : ∃ fd, FunD K "_law_done" "_law_done" (defArgs s_law_done) (defBody s_law_done) (defScope s_law_done) [] [] (He.ga K "_law_done") fd
  F_law_refusal : ∃ fd, FunD K "_law_refusal" "_law_refusal" (defArgs s_law_refusal) (defBody s_law_refusal) (defScope s_law_refusal) [] [] (He.ga K "_law_refusal") fd
  F_law_out : ∃ fd, FunD K "_law_out" "_law_out" (defArgs s_law_out) (defBody s_law_out) (defScope s_law_out) [] [] (He.ga K "_law_out") fd
  F_law_wrong_wire : ∃ fd, FunD K "_law_wrong_wire" "_law_wrong_wire" (defArgs s_law_wrong_wire) (defBody s_law_wrong_wire) (defScope s_law_wrong_wire) [] [] (He.ga K "_law_wrong_wire") fd
  F_law_wrong_net : ∃ fd, FunD K "_law_wrong_net" "_law_wrong_net" (defArgs s_law_wrong_net) (defBody s_law_wrong_net) (defScope s_law_wrong_net) [] [] (He.ga K "_law_wrong_net") fd
  F_law_wrong : ∃ fd, FunD K "_law_wrong" "_law_wrong" (defArgs s_law_wrong) (defBody s_law_wrong) (defScope s_law_wrong) [] [] (He.ga K "_law_wrong") fd
  F_law_told : ∃ fd, FunD K "_law_told" "_law_told" (defArgs s_law_told) (defBody s_law_told) (defScope s_law_told) [] [] (He.ga K "_law_told") fd
  F_law_made_good : ∃ fd, FunD K "_law_made_good" "_law_made_good" (defArgs s_law_made_good) (defBody s_law_made_good) (defScope s_law_made_good) [] [] (He.ga K "_law_made_good") fd
  F_law : ∃ fd, FunD K "law" "law" (defArgs s_law) (defBody s_law) (defScope s_law) [] [] (He.ga K "law") fd
  xe : ∀ x ∈ raised, ExcC K (He.ga K x)
  kit : ∀ x ∈ raised, ∀ y ∈ kinds, PySem.W.kitOne K (.ref (He.ga K x)) (.ref (He.ga K y)) = some (decide (x = y))
  kitV : ∀ x ∈ raised, PySem.W.kitOne K (.ref (He.ga K x)) (.type "ValueError") = some true
theorem ex_at {K : PySem.W.Frag} (h : ex K = true) {x : Str} (hx : x ∈ raised) : excB K x = true ∧ kitB K x = true := He.ba (List.all_eq_true.mp h x hx)
theorem xe_of {K : PySem.W.Frag} {x : Str} (h : excB K x = true) : ExcC K (He.ga K x) := by
  unfold excB at h
  obtain ⟨h1, h⟩ := He.ba h
  obtain ⟨h2, h⟩ := He.ba h
  obtain ⟨h3, h⟩ := He.ba h
  obtain ⟨h4, h⟩ := He.ba h
  obtain ⟨h5, h⟩ := He.ba h
  obtain ⟨h6, h⟩ := He.ba h
  obtain ⟨h7, h8⟩ := He.ba h
  exact ⟨He.eqO_ok h1, He.eqO_ok h2, of_decide_eq_true h3, h4, He.eqO_ok h5, He.eqO_ok h6, of_decide_eq_true h7, of_decide_eq_true h8⟩
theorem tx_of {K : PySem.W.Frag} {mg : Str → Option Value} {h : Heap} (X : K.In h) (G : h.Ns mainGlobals mg) (c : He.SaysD fa dn K) (hx : ex K = true) : Tx K mg :=
  ⟨He.glo_ok X G (c.fact 0 (f := .glo "ropes_on") rfl),
   He.glo_ok X G (c.fact 1 (f := .glo "targets") rfl),
   He.glo_ok X G (c.fact 2 (f := .glo "own_row") rfl),
   He.glo_ok X G (c.fact 3 (f := .glo "offer") rfl),
   He.glo_ok X G (c.fact 4 (f := .glo "due") rfl),
   He.glo_ok X G (c.fact 5 (f := .glo "resting_rows") rfl),
   He.glo_ok X G (c.fact 6 (f := .glo "up") rfl),
   He.glo_ok X G (c.fact 7 (f := .glo "ups") rfl),
   He.glo_ok X G (c.fact 8 (f := .glo "opens_opens") rfl),
   He.glo_ok X G (c.fact 9 (f := .glo "open_at") rfl),
   He.glo_ok X G (c.fact 10 (f := .glo "told_callers") rfl),
   He.glo_ok X G (c.fact 11 (f := .glo "ask_names") rfl),
   He.glo_ok X G (c.fact 12 (f := .glo "ask_rope") rfl),
   He.glo_ok X G (c.fact 13 (f := .glo "_law_cell_at") rfl),
   He.glo_ok X G (c.fact 14 (f := .glo "_law_names") rfl),
   He.glo_ok X G (c.fact 15 (f := .glo "_law_ropes") rfl),
   He.glo_ok X G (c.fact 16 (f := .glo "_law_callers") rfl),
   He.glo_ok X G (c.fact 17 (f := .glo "_law_asked") rfl),
   He.glo_ok X G (c.fact 18 (f := .glo "_law_done") rfl),
   He.glo_ok X G (c.fact 19 (f := .glo "_law_refusal") rfl),
   He.glo_ok X G (c.fact 20 (f := .glo "_law_out") rfl),
   He.glo_ok X G (c.fact 21 (f := .glo "_law_wrong_wire") rfl),
   He.glo_ok X G (c.fact 22 (f := .glo "_law_wrong_net") rfl),
   He.glo_ok X G (c.fact 23 (f := .glo "_law_wrong") rfl),
   He.glo_ok X G (c.fact 24 (f := .glo "_law_told") rfl),
   He.glo_ok X G (c.fact 25 (f := .glo "_law_made_good") rfl),
   He.glo_ok X G (c.fact 26 (f := .glo "law") rfl),
   He.glo_ok X G (c.fact 27 (f := .glo "Book") rfl),
   He.glo_ok X G (c.fact 28 (f := .glo "ToAll") rfl),
   He.glo_ok X G (c.fact 29 (f := .glo "ToOne") rfl),
   He.glo_ok X G (c.fact 30 (f := .glo "Letter") rfl),
   He.glo_ok X G (c.fact 31 (f := .glo "Strands") rfl),
   He.glo_ok X G (c.fact 32 (f := .glo "Net") rfl),
   He.glo_ok X G (c.fact 33 (f := .glo "Town") rfl),
   He.glo_ok X G (c.fact 34 (f := .glo "KnotError") rfl),
   He.glo_ok X G (c.fact 35 (f := .glo "BadTown") rfl),
   He.glo_ok X G (c.fact 36 (f := .glo "NoHouse") rfl),
   He.glo_ok X G (c.fact 37 (f := .glo "NoGroup") rfl),
   He.glo_ok X G (c.fact 38 (f := .glo "NoWire") rfl),
   He.glo_ok X G (c.fact 39 (f := .glo "NoCaller") rfl),
   He.glo_ok X G (c.fact 40 (f := .glo "Apart") rfl),
   He.glo_ok X G (c.fact 41 (f := .glo "NoCopy") rfl),
   He.glo_ok X G (c.fact 42 (f := .glo "NoLetter") rfl),
   He.glo_ok X G (c.fact 43 (f := .glo "NoText") rfl),
   He.free_ok X G (c.fact 44 (f := .free "len") rfl),
   He.free_ok X G (c.fact 45 (f := .free "range") rfl),
   He.free_ok X G (c.fact 46 (f := .free "list") rfl),
   He.free_ok X G (c.fact 47 (f := .free "sorted") rfl),
   He.free_ok X G (c.fact 48 (f := .free "set") rfl),
   He.free_ok X G (c.fact 49 (f := .free "enumerate") rfl),
   He.free_ok X G (c.fact 50 (f := .free "isinstance") rfl),
   He.free_ok X G (c.fact 51 (f := .free "all") rfl),
   He.free_ok X G (c.fact 52 (f := .free "ValueError") rfl),
   He.int_ok X G (c.fact 53 (f := .int "GROUPS" 3) rfl),
   He.int_ok X G (c.fact 54 (f := .int "MOST_CALLERS" 20) rfl),
   He.int_ok X G (c.fact 55 (f := .int "MOST_HOUSES" 10) rfl),
   He.int_ok X G (c.fact 56 (f := .int "MOST_ROPES" 20) rfl),
   He.cls_ok (c.fact 57 (f := .cls "Book") rfl),
   He.mkr_ok (c.fact 58 (f := .mkr "Book") rfl),
   He.noat_ok (c.fact 59 (f := .noat "Book" "kept") rfl),
   He.meth_ok (c.fact 60 (f := .meth "Book" "learn") rfl),
   He.meth_ok (c.fact 61 (f := .meth "Book" "notes") rfl),
   He.meth_ok (c.fact 62 (f := .meth "Book" "forget") rfl),
   He.cls_ok (c.fact 63 (f := .cls "ToAll") rfl),
   He.mkr_ok (c.fact 64 (f := .mkr "ToAll") rfl),
   He.noat_ok (c.fact 65 (f := .noat "ToAll" "sender") rfl),
   He.meth_ok (c.fact 66 (f := .meth "ToAll" "meant") rfl),
   He.meth_ok (c.fact 67 (f := .meth "ToAll" "seeks") rfl),
   He.meth_ok (c.fact 68 (f := .meth "ToAll" "number") rfl),
   He.cls_ok (c.fact 69 (f := .cls "Strands") rfl),
   He.mkr_ok (c.fact 70 (f := .mkr "Strands") rfl),
   He.noat_ok (c.fact 71 (f := .noat "Strands" "town") rfl),
   He.noat_ok (c.fact 72 (f := .noat "Strands" "up") rfl),
   He.meth_ok (c.fact 73 (f := .meth "Strands" "wires_of") rfl),
   He.meth_ok (c.fact 74 (f := .meth "Strands" "turn") rfl),
   He.meth_ok (c.fact 75 (f := .meth "Strands" "fall") rfl),
   He.meth_ok (c.fact 76 (f := .meth "Strands" "lay") rfl),
   He.meth_ok (c.fact 77 (f := .meth "Strands" "standing") rfl),
   He.meth_ok (c.fact 78 (f := .meth "Strands" "wire_for") rfl),
   He.meth_ok (c.fact 79 (f := .meth "Strands" "live") rfl),
   He.cls_ok (c.fact 80 (f := .cls "Net") rfl),
   He.mkr_ok (c.fact 81 (f := .mkr "Net") rfl),
   He.noat_ok (c.fact 82 (f := .noat "Net" "people") rfl),
   He.noat_ok (c.fact 83 (f := .noat "Net" "town") rfl),
   He.noat_ok (c.fact 84 (f := .noat "Net" "strands") rfl),
   He.noat_ok (c.fact 85 (f := .noat "Net" "tables") rfl),
   He.noat_ok (c.fact 86 (f := .noat "Net" "books") rfl),
   He.noat_ok (c.fact 87 (f := .noat "Net" "news_by") rfl),
   He.noat_ok (c.fact 88 (f := .noat "Net" "sent") rfl),
   He.noat_ok (c.fact 89 (f := .noat "Net" "stories") rfl),
   He.noat_ok (c.fact 90 (f := .noat "Net" "hands") rfl),
   He.noat_ok (c.fact 91 (f := .noat "Net" "done") rfl),
   He.noat_ok (c.fact 92 (f := .noat "Net" "air") rfl),
   He.meth_ok (c.fact 93 (f := .meth "Net" "table") rfl),
   He.meth_ok (c.fact 94 (f := .meth "Net" "rows") rfl),
   He.meth_ok (c.fact 95 (f := .meth "Net" "live") rfl),
   He.meth_ok (c.fact 96 (f := .meth "Net" "opens") rfl),
   He.meth_ok (c.fact 97 (f := .meth "Net" "notes") rfl),
   He.meth_ok (c.fact 98 (f := .meth "Net" "resting") rfl),
   He.meth_ok (c.fact 99 (f := .meth "Net" "news") rfl),
   He.meth_ok (c.fact 100 (f := .meth "Net" "news_of") rfl),
   He.meth_ok (c.fact 101 (f := .meth "Net" "call") rfl),
   He.meth_ok (c.fact 102 (f := .meth "Net" "fall") rfl),
   He.meth_ok (c.fact 103 (f := .meth "Net" "lay") rfl),
   He.meth_ok (c.fact 104 (f := .meth "Net" "place") rfl),
   He.meth_ok (c.fact 105 (f := .meth "Net" "had") rfl),
   He.meth_ok (c.fact 106 (f := .meth "Net" "move") rfl),
   He.meth_ok (c.fact 107 (f := .meth "Net" "post") rfl),
   He.meth_ok (c.fact 108 (f := .meth "Net" "work") rfl),
   He.meth_ok (c.fact 109 (f := .meth "Net" "flying") rfl),
   He.meth_ok (c.fact 110 (f := .meth "Net" "pass_on") rfl),
   He.meth_ok (c.fact 111 (f := .meth "Net" "story") rfl),
   He.cls_ok (c.fact 112 (f := .cls "Town") rfl),
   He.mkr_ok (c.fact 113 (f := .mkr "Town") rfl),
   He.noat_ok (c.fact 114 (f := .noat "Town" "size") rfl),
   He.noat_ok (c.fact 115 (f := .noat "Town" "many") rfl),
   He.noat_ok (c.fact 116 (f := .noat "Town" "names") rfl),
   He.noat_ok (c.fact 117 (f := .noat "Town" "kept") rfl),
   He.noat_ok (c.fact 118 (f := .noat "Town" "near") rfl),
   He.meth_ok (c.fact 119 (f := .meth "Town" "name") rfl),
   He.meth_ok (c.fact 120 (f := .meth "Town" "rope") rfl),
   He.meth_ok (c.fact 121 (f := .meth "Town" "ropes_at") rfl),
   He.meth_ok (c.fact 122 (f := .meth "Town" "far_end") rfl),
   He.meth_ok (c.fact 123 (f := .meth "Town" "lets") rfl),
   He.exc_ok (c.fact 124 (f := .exc "BadTown") rfl),
   He.exm_ok (c.fact 125 (f := .exm "BadTown" "KnotError" true) rfl),
   He.exc_ok (c.fact 126 (f := .exc "NoHouse") rfl),
   He.exm_ok (c.fact 127 (f := .exm "NoHouse" "KnotError" true) rfl),
   He.exc_ok (c.fact 128 (f := .exc "NoGroup") rfl),
   He.exm_ok (c.fact 129 (f := .exm "NoGroup" "KnotError" true) rfl),
   He.exc_ok (c.fact 130 (f := .exc "NoWire") rfl),
   He.exm_ok (c.fact 131 (f := .exm "NoWire" "KnotError" true) rfl),
   He.exc_ok (c.fact 132 (f := .exc "NoCaller") rfl),
   He.exm_ok (c.fact 133 (f := .exm "NoCaller" "KnotError" true) rfl),
   He.exc_ok (c.fact 134 (f := .exc "Apart") rfl),
   He.exm_ok (c.fact 135 (f := .exm "Apart" "KnotError" true) rfl),
   He.exc_ok (c.fact 136 (f := .exc "NoCopy") rfl),
   He.exm_ok (c.fact 137 (f := .exm "NoCopy" "KnotError" true) rfl),
   He.exc_ok (c.fact 138 (f := .exc "NoLetter") rfl),
   He.exm_ok (c.fact 139 (f := .exm "NoLetter" "KnotError" true) rfl),
   c.def_ 0 (d := d_Book_init) rfl,
   c.def_ 1 (d := d_Book_learn) rfl,
   c.def_ 2 (d := d_Book_notes) rfl,
   c.def_ 3 (d := d_Book_forget) rfl,
   c.def_ 4 (d := d_ropes_on) rfl,
   c.def_ 5 (d := d_targets) rfl,
   c.def_ 6 (d := d_Letter_init) rfl,
   c.def_ 7 (d := d_Letter_seeks) rfl,
   c.def_ 8 (d := d_Letter_number) rfl,
   c.def_ 9 (d := d_ToAll_meant) rfl,
   c.def_ 10 (d := d_own_row) rfl,
   c.def_ 11 (d := d_offer) rfl,
   c.def_ 12 (d := d_due) rfl,
   c.def_ 13 (d := d_resting) rfl,
   c.def_ 14 (d := d_up) rfl,
   c.def_ 15 (d := d_ups) rfl,
   c.def_ 16 (d := d_opens) rfl,
   c.def_ 17 (d := d_open_at) rfl,
   c.def_ 18 (d := d_Strands_init) rfl,
   c.def_ 19 (d := d_Strands_wires_of) rfl,
   c.def_ 20 (d := d_Strands_turn) rfl,
   c.def_ 21 (d := d_Strands_fall) rfl,
   c.def_ 22 (d := d_Strands_lay) rfl,
   c.def_ 23 (d := d_Strands_standing) rfl,
   c.def_ 24 (d := d_Strands_wire_for) rfl,
   c.def_ 25 (d := d_Strands_live) rfl,
   c.def_ 26 (d := d_told_callers) rfl,
   c.def_ 27 (d := d_Net_init) rfl,
   c.def_ 28 (d := d_Net_table) rfl,
   c.def_ 29 (d := d_Net_rows) rfl,
   c.def_ 30 (d := d_Net_live) rfl,
   c.def_ 31 (d := d_Net_opens) rfl,
   c.def_ 32 (d := d_Net_notes) rfl,
   c.def_ 33 (d := d_Net_resting) rfl,
   c.def_ 34 (d := d_Net_news) rfl,
   c.def_ 35 (d := d_Net_news_of) rfl,
   c.def_ 36 (d := d_Net_call) rfl,
   c.def_ 37 (d := d_Net_fall) rfl,
   c.def_ 38 (d := d_Net_lay) rfl,
   c.def_ 39 (d := d_Net_place) rfl,
   c.def_ 40 (d := d_Net_had) rfl,
   c.def_ 41 (d := d_Net_move) rfl,
   c.def_ 42 (d := d_Net_post) rfl,
   c.def_ 43 (d := d_Net_work) rfl,
   c.def_ 44 (d := d_Net_flying) rfl,
   c.def_ 45 (d := d_Net_pass_on) rfl,
   c.def_ 46 (d := d_Net_story) rfl,
   c.def_ 47 (d := d_ask_names) rfl,
   c.def_ 48 (d := d_ask_rope) rfl,
   c.def_ 49 (d := d_Town_init) rfl,
   c.def_ 50 (d := d_Town_name) rfl,
   c.def_ 51 (d := d_Town_rope) rfl,
   c.def_ 52 (d := d_Town_ropes_at) rfl,
   c.def_ 53 (d := d_Town_far_end) rfl,
   c.def_ 54 (d := d_Town_lets) rfl,
   c.def_ 55 (d := d_law_cell_at) rfl,
   c.def_ 56 (d := d_law_names) rfl,
   c.def_ 57 (d := d_law_ropes) rfl,
   c.def_ 58 (d := d_law_callers) rfl,
   c.def_ 59 (d := d_law_asked) rfl,
   c.def_ 60 (d := d_law_done) rfl,
   c.def_ 61 (d := d_law_refusal) rfl,
   c.def_ 62 (d := d_law_out) rfl,
   c.def_ 63 (d := d_law_wrong_wire) rfl,
   c.def_ 64 (d := d_law_wrong_net) rfl,
   c.def_ 65 (d := d_law_wrong) rfl,
   c.def_ 66 (d := d_law_told) rfl,
   c.def_ 67 (d := d_law_made_good) rfl,
   c.def_ 68 (d := d_law) rfl,
   fun _ h => xe_of (ex_at hx h).1,
   fun x h y hy => of_decide_eq_true (List.all_eq_true.mp (He.ba (ex_at hx h).2).1 y hy),
   fun x h => of_decide_eq_true (He.ba (ex_at hx h).2).2⟩
end Kn
set_option Elab.async false
set_option linter.all false
set_option maxRecDepth 100000
set_option maxHeartbeats 4000000
/-! set(xs) of a list of ints (turned from the tuple's case, which the hand layer has), and what follows. -/
namespace Kn
open PySem PySem.Spec PyProof.Rows L2
section
variable {P : Program} {w : World} {A : Around} {E : Value → Shared → Prop} {s : Shared}
/-- the bare set that set() lays -/
abbrev bare0 (w : World) : Obj := { cls := .type "set", dict := none, data := .set #[] 0 (.fresh 0 0 (!w.params.followText "set-order")) }
theorem set_of_list {l : Addr} {items : Array Value} (ns : List Int) {Q : Value → Shared → Prop} (hh : A.handled = none) (hl : s.heap.IsList l items) (hit : IntsAre items.toList ns) (hb : ns.length + 1 < scanBound)
    (h : ∀ (h' : Heap) (tk c : Nat), SetR w h' s.heap.objs.size (fun j => decide (j ∈ ns)) c → c ≤ ns.length → (∀ b o, s.heap.get? b = some o → h'.get? b = some o) → Q (.ref s.heap.objs.size) { s with heap := h', toks := tk }) :
    wpAny (model P w) A (call (.type "set") [.ref l]) Q E s := by
  have hlen : items.size = ns.length := by have q := IntsAre.length hit; rwa [Array.length_toList] at q
  obtain ⟨c, tl, hmro⟩ := F.called_set.mro
  have hmade := F.called_set.made
  have hsub := F.called_set.sub
  have h1 := F.called_set.notType
  have h2 := F.called_set.canCreate
  have hct := F.typeCall_set_1 (.ref l)
  refine wpAny_call (codeAny_of_tree (?_ : wpAny _ _ (callAny (.type "set") _) _ _ _))
  refine wpAny_pure ⟨Code.quiet_builtin _ (by decide +kernel), codeAny_builtin F.entry_type_call ?_⟩
  rw [Around.under_plain (weight_type_call_type "set" [.ref l] []) rfl]
  repeat (any_goals (first | assumption | wp_step))
  refine codeAny_mono (code_set_led1 (.ref l) (E := E) (Q₁ := fun ob z => ob = .ref s.heap.objs.size ∧ z = { s with heap := s.heap.push (bare0 w) }) ⟨rfl, rfl⟩) fun r z hr => ?_
  rcases r with e | (ob | _ | _ | _) <;> first | exact hr | exact hr.elim | skip
  obtain ⟨rfl, rfl⟩ := hr
  have hS : (s.heap.push (bare0 w)).get? s.heap.objs.size = some (bare0 w) := Heap.get?_push_size _ rfl
  have hT : Shared.TypeIs { s with heap := s.heap.push (bare0 w) } (.ref s.heap.objs.size) "set" := ⟨_, hS, rfl⟩
  have hli := F.called_set.init.lookup
  have hbi := F.called_set.init.bind (.ref s.heap.objs.size)
  repeat (any_goals (first | assumption | wp_step))
  refine codeAny_mono (codeAny_call_builtin (R := wants (fun r z => r = .none ∧ ∃ h' tk c, z = { s with heap := h', toks := tk } ∧ SetR w h' s.heap.objs.size (fun j => decide (j ∈ ns)) c ∧ c ≤ ns.length ∧
      (∀ b o, s.heap.get? b = some o → h'.get? b = some o)) E) F.called_set.init.plain F.entry_set_init (check_set_init_1 hT ?_)) fun r2 z2 hr2 => ?_
  · obtain ⟨⟨kc, kd, kt, ks⟩, hol, hcl, nl, hdl⟩ := hl
    simp only at hcl hdl
    subst hcl; subst hdl
    have hol' : (s.heap.push (bare0 w)).get? l = some { cls := .type "list", dict := kd, data := .seq items nl, slots := ks } := Heap.get?_push_of_some _ hol
    have hsls := F.sub_list_set
    have hslf := F.sub_list_frozenset
    have hne : (Value.type "list" == Value.type "dict") = false := by decide
    have hl1 : (s.heap.push (bare0 w)).IsList l items := ⟨_, hol', rfl, nl, rfl⟩
    have lt : l < s.heap.objs.size := Heap.lt_size hol
    unfold Builtin.«set.__init__» noKeywords Builtin.Frozenset.updateFrom
    generalize hPI : pyIter = PI
    wp_walk
    subst hPI
    refine wpAny_pyIter_list hl1 (wpAny_bind (wpAny_runValue ?_))
    have hh3 : A.in1.in1.in1.handled = none := by simp [hh]
    have nI : l ≠ (s.heap.push (bare0 w)).objs.size := by rw [Heap.size_push]; exact Nat.ne_of_lt (Nat.lt_succ_of_lt lt)
    have nF : s.heap.objs.size ∉ [(s.heap.push (bare0 w)).objs.size, l] := by
      rw [Heap.size_push]
      intro m
      rcases List.mem_cons.mp m with e | m
      · exact absurd e (Nat.ne_of_lt (Nat.lt_succ_self _))
      · exact absurd (List.mem_singleton.mp m) (Nat.ne_of_gt lt)
    have hval : ∀ (i : Nat) (v : Value), items[i]? = some v → ∃ k t, ns[i]? = some k ∧ v = .int k t := fun i v hv => by
      have hi : i < ns.length := by rw [← hlen]; exact (Array.getElem?_eq_some_iff.mp hv).1
      obtain ⟨t, e⟩ := IntsAre.int_at hit i v (by rw [Array.getElem?_toList]; exact hv)
      exact ⟨ns[i], t, List.getElem?_eq_getElem hi, by rw [e, List.getD_eq_getElem?_getD, List.getElem?_eq_getElem hi]; rfl⟩
    refine set_update_ints ((Walks.list hh3 _ l nI items).toS) s.heap.objs.size nF ns hlen hb hval (items.size - 0) 0 _ (by omega) (Nat.zero_le _)
      ⟨⟨_, Heap.get?_push_size _ rfl, rfl, rfl⟩, (hl1.push _)⟩ ?kS0 ?kR
    case kS0 => exact ⟨0, Nat.le_refl 0, setR_new_at (Heap.get?_push_of_some _ hS)⟩
    case kR =>
      rintro ⟨h', g2, d', tk', os'⟩ c' hm hc' hS'
      obtain rfl : g2 = s.gens := hm.gens
      obtain rfl : d' = s.drawn := hm.drawn
      obtain rfl : os' = s.os := hm.os
      rw [hlen] at hc'
      refine (wpAny_pure ?_ : wpAny _ _ _ _ _ _)
      show wpAny _ _ (ret Value.none) _ _ _
      refine wpAny_pure ⟨rfl, h', tk', c', rfl, hS', hc', fun b o e => ?_⟩
      have b0 : b < s.heap.objs.size := Heap.lt_size e
      refine hm.heap b o (fun m => ?_) (Heap.get?_push_of_some _ (Heap.get?_push_of_some _ e))
      rcases List.mem_cons.mp m with z | m
      · exact absurd z (Nat.ne_of_lt b0)
      · have z := List.mem_singleton.mp m
        rw [Heap.size_push] at z
        exact absurd z (Nat.ne_of_lt (Nat.lt_succ_of_lt b0))
  · rcases r2 with e | (rv | _ | _ | _) <;> first | exact hr2 | exact hr2.elim | skip
    obtain ⟨rfl, h', tk, c', rfl, hS', hc', hk'⟩ := hr2
    repeat (any_goals (first | assumption | wp_step))
    exact h _ _ _ hS' hc' hk'
end
/-- set(xs), a list of ints -/
def rSetL (K : PySem.W.Frag) (w : World) : List V → Hp → VK → Prop := fun xs H Q => ∃ (l : Addr) (ns : List Int), xs = [.ref l] ∧ SqL K H l (ns.map V.int) ∧ ns.length < 1000 ∧ ∀ p c, H p = none → c ≤ ns.length → Q (.ref p) (upd H p (SetO w p (fun j => decide (j ∈ ns)) c))
theorem cr_setL {X : Cx} (hc : X.calm = true) : CallR X (.type "set") (rSetL X.K X.w) := by
  intro pins s σ H xs us Q I r h
  obtain ⟨l, ns, rfl, hl, hz, q⟩ := h
  rw [Vals.ref1 r]
  obtain ⟨its, rv, p, _⟩ := I.list hl
  have hi : IntsAre its.toArray.toList ns := intsAre_of rv
  refine set_of_list (w := X.w) ns (I.ok.hd hc) p.isList hi (by unfold scanBound; omega) fun h' tk c R hc' kk => ?_
  exact ⟨.ref _, upd H s.heap.objs.size (SetO X.w s.heap.objs.size (fun j => decide (j ∈ ns)) c), I.laid (t' := tk) kk (Nat.le_refl _) (setO_new R), rfl, q _ _ (I.hok.fresh (Nat.le_refl _)) hc'⟩
end Kn
set_option Elab.async false
set_option linter.all false
set_option maxRecDepth 100000
set_option maxHeartbeats 4000000
/-! Rules that the layer lacks: t < u where the first unlike place is of ints, xs[i] op= e, isinstance of whatever error was caught, an empty dict taken as of the other kind. -/
namespace Kn
open PySem PySem.Spec PyProof.Rows L2
/-! ### t < u -/
/-- the first places are ints; the first that differs decides, or all are alike and of one length -/
inductive Lex : List V → List V → Bool → Prop where
  | nil : Lex [] [] false
  | eq {i : Int} {xs ys : List V} {b : Bool} : Lex xs ys b → Lex (.int i :: xs) (.int i :: ys) b
  | ne {i j : Int} (xs ys : List V) : i ≠ j → Lex (.int i :: xs) (.int j :: ys) (decide (i < j))
inductive LexV : List Value → List Value → Bool → Prop where
  | nil : LexV [] [] false
  | eq {i : Int} {t u : Tok} {xs ys : List Value} {b : Bool} : LexV xs ys b → LexV (.int i t :: xs) (.int i u :: ys) b
  | ne {i j : Int} {t u : Tok} (xs ys : List Value) : i ≠ j → LexV (.int i t :: xs) (.int j u :: ys) (decide (i < j))
theorem Lex.v {xs ys : List V} {b : Bool} (h : Lex xs ys b) : ∀ {us ws : List Value}, Vals xs us → Vals ys ws → LexV us ws b := by
  induction h with
  | nil => intro us ws a c; cases a; cases c; exact .nil
  | eq _ ih =>
    intro us ws a c
    cases a with
    | cons r a =>
      cases c with
      | cons r' c =>
        obtain ⟨t, rfl⟩ := r
        obtain ⟨t', rfl⟩ := r'
        exact .eq (ih a c)
  | ne xs ys n =>
    intro us ws a c
    cases a with
    | cons r a =>
      cases c with
      | cons r' c =>
        obtain ⟨t, rfl⟩ := r
        obtain ⟨t', rfl⟩ := r'
        exact .ne _ _ n
section
open PySem.SeqAt
open PySem.AutoSeq1 (wpAny_loadPart')
open PySem.MeetsSeq PySem.MeetsSeq2 PySem.MeetsSeq3
theorem lex_len {us ws : List Value} {b : Bool} (h : LexV us ws b) : us.zip ws = [] → us = [] ∧ ws = [] ∧ b = false := by
  cases h with
  | nil => intro _; exact ⟨rfl, rfl, rfl⟩
  | eq _ => intro z; simp at z
  | ne _ _ _ => intro z; simp at z
theorem tup_lt (l b : Addr) (items items2 : Array Value) (n n2 : Nat) (dd dd2 : Option Addr) (sl sl2 : Array (Option Value)) (r : Bool) (hx : LexV items.toList items2.toList r) (hz : items.size = items2.size) :
    Meets (Builtin.«tuple.__lt__» ⟨[.ref l, .ref b], []⟩)
      (fun _ R s => s.heap.get? l = some { cls := .type "tuple", dict := dd, data := .seq items n, slots := sl } ∧ s.heap.get? b = some { cls := .type "tuple", dict := dd2, data := .seq items2 n2, slots := sl2 } ∧
        R (.ok (.ret (.bool r))) s) :=
  .of_wp fun prog w A R s h => by
    obtain ⟨hp, g, d, tk, os⟩ := s; obtain ⟨hl, hb, h⟩ := h
    have f2 := AutoSeq1.sub_tuple_tuple
    wp_walk using wpAny_loadPart' hl, wpAny_loadPart' hb, wpAny_forIn_list _ (fun rest b s' => b.1 = none ∧ s' = ⟨hp, g, d, tk, os⟩ ∧ ∃ (vs ws : List Value) (r' : Bool), rest = vs.zip ws ∧
      LexV vs ws r' ∧ R (.ok (.ret (.bool r'))) ⟨hp, g, d, tk, os⟩) _
    case turn =>
      rintro ⟨y, x⟩ rest b s' ⟨hb', rfl, vs, ws, r', hz', hv, hR⟩
      cases hv with
      | nil => rw [List.zip_nil_left] at hz'; cases hz'
      | @eq i t u xs ys _ hv =>
        rw [List.zip_cons_cons] at hz'
        obtain ⟨e1, hrest⟩ := List.cons.inj hz'
        obtain ⟨rfl, rfl⟩ := Prod.mk.inj e1
        have he : EqAt A.in1 ⟨hp, g, d, tk, os⟩ (.int i t) (.int i u) true := by
          have q : EqAt A.in1 ⟨hp, g, d, tk, os⟩ (.int i t) (.int i u) (i == i) := SeqAt.EqAt.int_int i t i u
          rwa [beq_self_eq_true] at q
        refine wpAny_bind (he prog w _ _ ?_)
        wp_walk
        exact ⟨rfl, rfl, _, _, _, hrest, hv, hR⟩
      | @ne i j t u xs ys hij =>
        rw [List.zip_cons_cons] at hz'
        obtain ⟨e1, hrest⟩ := List.cons.inj hz'
        obtain ⟨rfl, rfl⟩ := Prod.mk.inj e1
        have he : EqAt A.in1 ⟨hp, g, d, tk, os⟩ (.int i t) (.int j u) false := by
          have q : EqAt A.in1 ⟨hp, g, d, tk, os⟩ (.int i t) (.int j u) (i == j) := SeqAt.EqAt.int_int i t j u
          rwa [show (i == j) = false by simpa using hij] at q
        refine wpAny_bind (he prog w _ _ ?_)
        have hri := HT.rcLt_int A.in1 ⟨hp, g, d, tk, os⟩ i t j u prog w
        wp_walk using hri
        exact ⟨_, rfl, by simpa using hR⟩
    case fin =>
      rintro ⟨b1, b2⟩ s' ⟨hb', rfl, vs, ws, r', hz', hv, hR⟩
      simp only at hb'
      subst hb'
      obtain ⟨_, _, rfl⟩ := lex_len hv hz'.symm
      wp_walk
      exact ⟨_, rfl, by simpa [Builtin.Tuple.tupleCompareSizes, hz] using hR⟩
    case h =>
      exact ⟨rfl, rfl, items.toList, items2.toList, r, rfl, hx, h⟩
end
def rLtX (K : PySem.W.Frag) : R2 := fun x y H Q => ∃ a b xs ys r, x = .ref a ∧ y = .ref b ∧ SqT K H a xs ∧ SqT K H b ys ∧ xs.length = ys.length ∧ Lex xs ys r ∧ Q (.bl r) H
theorem op_ltX {X : Cx} (hu : X.A.units < cLine) : OpR X (compareOp .Lt) (rLtX X.K) := by
  intro pins s σ H x y v u Q I rx ry h
  obtain ⟨a, b, xs, ys, r, rfl, rfl, ha, hb, hz, hx, q⟩ := h
  cases rx
  cases ry
  obtain ⟨its, r1, p1, _⟩ := I.tuple ha
  obtain ⟨its2, r2, p2, _⟩ := I.tuple hb
  obtain ⟨⟨cls, dd, data, sl⟩, ho, hc, n, hd⟩ := id p1
  obtain ⟨⟨cls2, dd2, data2, sl2⟩, ho2, hc2, n2, hd2⟩ := id p2
  simp only at hc hd hc2 hd2
  subst hc hd hc2 hd2
  have zz : its.toArray.size = its2.toArray.size := by simp only [List.size_toArray]; rw [← r1.length, ← r2.length, hz]
  exact richCompare_meets_room (op := .Lt) ⟨_, ho, rfl⟩ ⟨_, ho2, rfl⟩ PySem.F.slot_tuple_lt PySem.F.entry_tuple_lt (PySem.F.args_tuple_lt_2 _ _) (tup_lt a b its.toArray its2.toArray n n2 dd dd2 sl sl2 r (by simpa using hx.v r1 r2) zz)
    ⟨ho, ho2, show Value.bool r ≠ Value.notImplemented ∧ EP X pins σ Q (.bool r) s from ⟨(fun x => nomatch x), ⟨.bl r, H, I, rfl, q⟩⟩⟩ hu
end Kn
set_option Elab.async false
set_option linter.all false
set_option maxRecDepth 100000
set_option maxHeartbeats 4000000
/-! More rules. -/
namespace Kn
open PySem PySem.Spec PyProof.Rows L2
/-! ### xs[i] op= e -/
theorem get_list {X : Cx} : PGet X (rIxL X.K) := by
  intro pins s σ H o i ov iv Q I ro ri h
  obtain ⟨p, xs, z, v, rfl, rfl, hq, he, q⟩ := h
  cases ro
  obtain ⟨t, rfl⟩ := ri
  obtain ⟨its, r, pl, hz⟩ := I.list hq
  obtain ⟨j, h1, h2, h3, h4, h5⟩ := atI_get he
  obtain ⟨w, ew, rw'⟩ := r.get h2
  have hl := r.length
  have hn := line63
  have fin : EP X pins σ Q w s := ⟨v, H, I, rw', q⟩
  by_cases h0 : 0 ≤ z
  · have hj : z.toNat = j := by
      rw [seqIndex_of h0 h5] at h1
      exact Option.some.inj h1
    exact wpAny_getItem_list pl.isList h0 (by omega) (by rw [hj]; simpa using ew) fin
  · have hj : (z + (its.toArray.size : Int)).toNat = j := by
      rw [seqIndex_neg (by omega) h4] at h1
      rw [List.size_toArray, ← hl]
      exact Option.some.inj h1
    exact wpAny_getItem_list_neg pl.isList (by omega) (by rw [List.size_toArray] <;> omega) (by omega) (by rw [hj]; simpa using ew) fin
/-! ### an empty dict, of whichever kind -/
theorem empty_kind {P : Program} {w : World} {H H' : Hp} {h : Heap} {d : Addr} (x : ObjOk P w H h d (.dT [])) : ObjOk P w H' h d (.dK []) := by
  obtain ⟨z, y, xs, r, o, es, ep, e, hx, hd, hl, nd⟩ := x
  cases r
  refine ⟨z, y, [], .nil, o, es, ep, e, hx, hd, ?_⟩
  simp at hl
  subst hl
  exact ⟨fun x hx => by simp at hx, .nil, List.nodup_nil⟩
theorem empty_back {P : Program} {w : World} {H H' : Hp} {h : Heap} {d : Addr} (x : ObjOk P w H h d (.dK [])) : ObjOk P w H' h d (.dT []) := by
  obtain ⟨z, y, vs, r, o, es, ep, e, hx, hd, _, hl, nd⟩ := x
  cases r
  have hl' := hl.length
  have he : es.toList = [] := List.eq_nil_of_length_eq_zero hl'
  exact ⟨z, y, [], .nil, o, es, ep, e, hx, hd, he, List.nodup_nil⟩
def tAsK (t : TE) : TE := fun σ H Q => ∃ d, H d = some (.dT []) ∧ t σ (upd H d (.dK [])) fun v H' => H' d = some (.dK []) ∧ Q v (upd H' d (.dT []))
theorem pe_asK {X : Cx} {e : Expr} {t : TE} (h : PE X e t) : PE X e (tAsK t) := by
  refine ⟨fun pins s σ H Q I hw => ?_⟩
  obtain ⟨d, hd, hw⟩ := hw
  have o1 := I.hok d _ hd
  have I1 : Inv X pins σ (upd H d (.dK [])) s := I.write (x := d) (e := d) (t' := s.toks) (by rw [hd]; trivial) (.inl rfl) (fun _ _ _ z => z) (objOk_get o1) (empty_kind o1)
  refine thn (h.run pins s σ _ _ I1 hw) fun v s1 ⟨x, H1, I2, r, e2, q⟩ => ?_
  have o2 := I2.hok d _ e2
  exact ⟨x, _, I2.write (x := d) (e := d) (t' := s1.toks) (by rw [e2]; trivial) (.inl rfl) (fun _ _ _ z => z) (objOk_get o2) (empty_back o2), r, q⟩
/-! ### isinstance(e, c) of what was caught, its class told by the reading -/
def rIsX (K : PySem.W.Frag) (a : Addr) (cls : Value) (d : Option Addr) : List V → Hp → VK → Prop := fun xs H Q => ∃ D, cls = .ref D ∧ d = none ∧ ExcC K D ∧ rIsE K D a xs H Q
theorem call_isX {X : Cx} {a : Addr} {cls : Value} {d : Option Addr} {oe : Obj} {pn : List (Addr × Obj)} (hz : Zc cls d oe) (hf : ∃ vs, oe.data = .fields vs) : CallR (X.suite a ((a, oe) :: pn)) (.builtin "isinstance") (rIsX X.K a cls d) := by
  intro pins s σ H xs us Q I r h
  obtain ⟨D, rfl, rfl, C, h⟩ := h
  exact call_isE C hz hf pins s σ H xs us Q I r h
/-! ### raise X('..') of a class under an own class under ValueError -/
theorem pRaise {X : Cx} {x m : Str} {j : Nat} {p p2 pos pos2 : Pos} {C : Addr} {W : WX} (hc : X.calm = true) (tk : Takes X W)
    (hx : PySem.W.excIn X.K C He.veBase "ValueError.__new__" = true ∧ PySem.W.keepIn X.K (.ref C) = true ∧ PySem.W.subIn X.K (.ref C) (.type "BaseException") = some true ∧ PySem.W.typeIn X.K (.ref C) = some (.type "type"))
    (gC : X.mg x = some (.ref C)) (hg : Gl X x := by rfl) (hdb : (x == ("__debug__" : Str)) = false := by decide) :
    PS X (.Raise (some (.Call (.Name x p) [.Constant (.str m) j p2] [] pos)) none pos2) (fun _ σ H => W (.ref C) none σ H) :=
  ps_raise hc tk (pmk_own PySem.F.excBase_ValueError hx.1 gC hx.2.1 (raises_own hx.2.2.1 hx.2.2.2) hg hdb)
end Kn
set_option Elab.async false
set_option linter.all false
set_option maxRecDepth 100000
set_option maxHeartbeats 4000000
/-! The data: towns, rows, how they lie in the heap. -/
namespace Kn
open PySem L2
/-! ### what a promise says of its end -/
/-- a new tuple, a new list, a value: all that stood stands -/
def NewT (xs : List V) (H : Hp) (Q : VK) : Prop := ∀ p H', H p = none → Same H H' → H' p = some (.tup xs) → Q (.ref p) H'
def NewL (xs : List V) (H : Hp) (Q : VK) : Prop := ∀ p H', H p = none → Same H H' → H' p = some (.lst xs) → Q (.ref p) H'
def Val (v : V) (H : Hp) (Q : VK) : Prop := ∀ H', Same H H' → Q v H'
theorem NewT.go {xs : List V} {H H' : Hp} {Q : VK} {p : Addr} (k : NewT xs H Q) (e : Same H H') (hp : H' p = none) : Q (.ref p) (upd H' p (.tup xs)) := k p _ (e.free hp) (Same.new' e hp) upd_same
theorem NewL.go {xs : List V} {H H' : Hp} {Q : VK} {p : Addr} (k : NewL xs H Q) (e : Same H H') (hp : H' p = none) : Q (.ref p) (upd H' p (.lst xs)) := k p _ (e.free hp) (Same.new' e hp) upd_same
theorem NewL.at {xs : List V} {H H' H2 : Hp} {Q : VK} {p : Addr} (k : NewL xs H Q) (e : Same H H') (hp : H' p = none) (e2 : Same H' H2) (h : H2 p = some (.lst xs)) : Q (.ref p) H2 := k p _ (e.free hp) (e.trans e2) h
theorem Val.go {v : V} {H H' : Hp} {Q : VK} (k : Val v H Q) (e : Same H H') : Q v H' := k _ e
theorem at_ix {xs : List V} {z : Int} {v : V} (h0 : 0 ≤ z) (h : xs[z.toNat]? = some v) : atI xs z = some v := by
  have e : z = ((z.toNat : Nat) : Int) := by omega
  rw [e]; exact atI_nat h
theorem ix_ok {n : Nat} {z : Int} (h0 : 0 ≤ z) (h1 : z < n) : ixN n z = some z.toNat := by unfold ixN; rw [if_pos h0, if_pos h1]
theorem get_some {α : Type} {l : List α} {z : Int} (h0 : 0 ≤ z) (h1 : z < l.length) : ∃ x, l[z.toNat]? = some x ∧ x ∈ l := by
  have h : z.toNat < l.length := by omega
  exact ⟨l[z.toNat], List.getElem?_eq_getElem h, List.getElem_mem h⟩
theorem get_map {α β : Type} {f : α → β} {l : List α} {i : Nat} {x : α} (h : l[i]? = some x) : (l.map f)[i]? = some (f x) := by rw [List.getElem?_map, h]; rfl
/-! ### lists of tuples, lists of lists -/
def Tups (H : Hp) (ps : List Addr) (xss : List (List V)) : Prop := ps.length = xss.length ∧ ∀ (i : Nat) p xs, ps[i]? = some p → xss[i]? = some xs → H p = some (.tup xs)
def Lsts (H : Hp) (ps : List Addr) (xss : List (List V)) : Prop := ps.length = xss.length ∧ ∀ (i : Nat) p xs, ps[i]? = some p → xss[i]? = some xs → H p = some (.lst xs)
section
variable {H H' : Hp} {ps : List Addr} {xss : List (List V)}
theorem Tups.mono (h : Tups H ps xss) (e : Same H H') : Tups H' ps xss := ⟨h.1, fun i p xs a b => e _ _ (h.2 i p xs a b)⟩
theorem Lsts.mono (h : Lsts H ps xss) (e : Same H H') : Lsts H' ps xss := ⟨h.1, fun i p xs a b => e _ _ (h.2 i p xs a b)⟩
theorem Tups.at (h : Tups H ps xss) {i : Nat} {xs : List V} (hx : xss[i]? = some xs) : ∃ p, ps[i]? = some p ∧ H p = some (.tup xs) := by
  have hi : i < ps.length := by rw [h.1]; exact (List.getElem?_eq_some_iff.mp hx).1
  exact ⟨ps[i], List.getElem?_eq_getElem hi, h.2 i _ _ (List.getElem?_eq_getElem hi) hx⟩
theorem Lsts.at (h : Lsts H ps xss) {i : Nat} {xs : List V} (hx : xss[i]? = some xs) : ∃ p, ps[i]? = some p ∧ H p = some (.lst xs) := by
  have hi : i < ps.length := by rw [h.1]; exact (List.getElem?_eq_some_iff.mp hx).1
  exact ⟨ps[i], List.getElem?_eq_getElem hi, h.2 i _ _ (List.getElem?_eq_getElem hi) hx⟩
theorem Tups.nil : Tups H [] [] := ⟨rfl, fun i p xs h => by simp at h⟩
theorem Lsts.nil : Lsts H [] [] := ⟨rfl, fun i p xs h => by simp at h⟩
theorem snoc_get {α : Type} {l : List α} {x y : α} {i : Nat} (h : (l ++ [x])[i]? = some y) : l[i]? = some y ∨ (i = l.length ∧ y = x) := by
  by_cases c : i < l.length
  · rw [List.getElem?_append_left c] at h; exact .inl h
  · rw [List.getElem?_append_right (by omega)] at h
    obtain ⟨h1, h2⟩ := List.getElem?_eq_some_iff.mp h
    have e : i = l.length := by simp at h1; omega
    subst e
    simp at h2
    exact .inr ⟨rfl, h2.symm⟩
theorem Tups.snoc {p : Addr} {xs : List V} (h : Tups H ps xss) (hp : H p = some (.tup xs)) : Tups H (ps ++ [p]) (xss ++ [xs]) := by
  refine ⟨by rw [List.length_append, List.length_append, h.1]; rfl, fun i q ys a b => ?_⟩
  rcases snoc_get a with a | ⟨a, rfl⟩
  · rcases snoc_get b with b | ⟨b, rfl⟩
    · exact h.2 i q ys a b
    · have := (List.getElem?_eq_some_iff.mp a).1; have := h.1; omega
  · rcases snoc_get b with b | ⟨b, rfl⟩
    · have := (List.getElem?_eq_some_iff.mp b).1; have := h.1; omega
    · exact hp
theorem Lsts.snoc {p : Addr} {xs : List V} (h : Lsts H ps xss) (hp : H p = some (.lst xs)) : Lsts H (ps ++ [p]) (xss ++ [xs]) := by
  refine ⟨by rw [List.length_append, List.length_append, h.1]; rfl, fun i q ys a b => ?_⟩
  rcases snoc_get a with a | ⟨a, rfl⟩
  · rcases snoc_get b with b | ⟨b, rfl⟩
    · exact h.2 i q ys a b
    · have := (List.getElem?_eq_some_iff.mp a).1; have := h.1; omega
  · rcases snoc_get b with b | ⟨b, rfl⟩
    · have := (List.getElem?_eq_some_iff.mp b).1; have := h.1; omega
    · exact hp
theorem Tups.set {p : Addr} {xs : List V} {j : Nat} (h : Tups H ps xss) (hp : H p = some (.tup xs)) : Tups H (ps.set j p) (xss.set j xs) := by
  refine ⟨by rw [List.length_set, List.length_set, h.1], fun i q ys a b => ?_⟩
  by_cases e : j = i
  · subst e
    have ha : j < ps.length := by have := (List.getElem?_eq_some_iff.mp a).1; simpa using this
    have hb : j < xss.length := by have := h.1; omega
    rw [List.getElem?_set_self ha] at a
    rw [List.getElem?_set_self hb] at b
    cases a; cases b; exact hp
  · rw [List.getElem?_set_ne e] at a b
    exact h.2 i q ys a b
theorem Tups.erase {j : Nat} (h : Tups H ps xss) : Tups H (ps.eraseIdx j) (xss.eraseIdx j) := by
  refine ⟨by rw [List.length_eraseIdx, List.length_eraseIdx, h.1], fun i q ys a b => ?_⟩
  rw [List.getElem?_eraseIdx] at a b
  split at a
  · rename_i c; rw [if_pos c] at b; exact h.2 i q ys a b
  · rename_i c; rw [if_neg c] at b; exact h.2 _ q ys a b
end
/-! ### towns -/
structure Rope where
  one : Int
  other : Int
  cost : Int
  wires : Int
  lets : Int
def Rope.v (r : Rope) : List V := [.int r.one, .int r.other, .int r.cost, .int r.wires, .int r.lets]
structure TownD where
  size : Nat
  names : List Int
  ropes : List Rope
  near : List (List Int)
structure TownD.Ok (D : TownD) : Prop where
  s1 : 1 ≤ D.size
  s2 : D.size ≤ 10
  nl : D.names.length = D.size
  rl : D.ropes.length ≤ 20
  el : D.near.length = D.size
  rp : ∀ r ∈ D.ropes, 0 ≤ r.one ∧ r.one < D.size ∧ 0 ≤ r.other ∧ r.other < D.size ∧ 1 ≤ r.wires ∧ r.wires ≤ 4
  nr : ∀ l ∈ D.near, l.length ≤ 40 ∧ ∀ r ∈ l, 0 ≤ r ∧ r < D.ropes.length
def townL : List Str := ["size", "many", "names", "kept", "near"]
structure TownAt (K : PySem.W.Frag) (H : Hp) (t : Addr) (D : TownD) : Prop where
  ok : D.Ok
  ex : ∃ dx ln lk lr pk pn, H t = some (.ins (He.ga K "Town") dx (townL.zip [.int D.size, .int D.ropes.length, .ref ln, .ref lk, .ref lr])) ∧ H ln = some (.lst (D.names.map .int)) ∧
    H lk = some (.lst (pk.map .ref)) ∧ Tups H pk (D.ropes.map Rope.v) ∧ H lr = some (.lst (pn.map .ref)) ∧ Lsts H pn (D.near.map fun l => l.map .int)
theorem TownAt.mono {K : PySem.W.Frag} {H H' : Hp} {t : Addr} {D : TownD} (h : TownAt K H t D) (e : Same H H') : TownAt K H' t D := by
  obtain ⟨ok, dx, ln, lk, lr, pk, pn, h1, h2, h3, h4, h5, h6⟩ := h
  exact ⟨ok, dx, ln, lk, lr, pk, pn, e _ _ h1, e _ _ h2, e _ _ h3, h4.mono e, e _ _ h5, h6.mono e⟩
/-! ### rows -/
structure Row where
  head : Int
  cost : Int
  hops : Int
  by_ : Option Int
def oV : Option Int → V
  | none => .non
  | some r => .int r
def Row.v (r : Row) : List V := [.int r.head, .int r.cost, .int r.hops, oV r.by_]
theorem get_int {l : List Int} {z : Int} (h0 : 0 ≤ z) (h1 : z < l.length) : (l.map V.int)[z.toNat]? = some (.int (l.getD z.toNat 0)) := by
  have h : z.toNat < l.length := by omega
  rw [List.getElem?_map, List.getElem?_eq_getElem h, List.getD_eq_getElem?_getD, List.getElem?_eq_getElem h]; rfl
/-! ### fields and methods of an instance whose fields stand in order -/
section
variable {K : PySem.W.Frag} {σ : L2.St} {H : Hp} {Q : VK} {a C dx : Addr} {L : List Str} {vs : List V} {v : V} {f m : Str} {i : Nat} {l : TA} {sp : Sp} {dvs : List V} {E : XK}
/-- self.f, where self stands in slot k -/
theorem fz {k : Nat} (ho : H a = some (.ins C dx (L.zip vs))) (c : Cls K C) (n : NoAttr K C f) (hl : L.findIdx? (fun g => f == g) = some i) (hv : vs[i]? = some v) (q : Q v H) (hs : σ[k]? = some (some (.ref a)) := by exact rfl) :
    tFld K (tVar k) f σ H Q := ⟨.ref a, hs, a, C, dx, _, v, rfl, ho, c, n, zlook hl hv, q⟩
/-- x.m(..), where x stands in slot k -/
theorem mz {k : Nat} (ho : H a = some (.ins C dx (L.zip vs))) (hl : L.findIdx? (fun g => m == g) = none) (q : l σ H fun ws H2 => sp (.ref a :: (ws ++ dvs)) H2 Q E) (hs : σ[k]? = some (some (.ref a)) := by exact rfl) :
    tMeth C m sp dvs E (tVar k) l σ H Q := ⟨.ref a, hs, a, dx, _, rfl, ho, znone hl, q⟩
end
theorem r_gname {i : Nat} {v : V} {σ : L2.St} {H : Hp} {Q : L2.St → Hp → Prop} (h : Q (σ.set i (some v)) H) : gName i v σ H Q := h
theorem r_for {wi : TI} {g : TG} {tb : TS} {D : Ends} {σ : L2.St} {H : Hp} (h : wi σ H fun J H1 => ∃ W : Nat → Nat → L2.St → Hp → Prop, (∃ m, W 0 m σ H1) ∧ ∀ i m σ H, W i m σ H →
  (J.stop i H ∧ D.nx σ H) ∨ (J.go i H ∧ ∃ N : L2.St → Hp → Prop, (∀ σ' H', N σ' H' → ∃ m', m' < m ∧ W (i + 1) m' σ' H') ∧ ∀ x H', J.yld i H x H' → g x σ H' fun σ2 H2 => tb { D with nx := N, ct := N, bk := D.nx } σ2 H2)) : tFor wi g tb D σ H := h
theorem r_iList {K : PySem.W.Frag} {tl : TE} {σ : L2.St} {H : Hp} {R : It → Hp → Prop} (h : tl σ H fun x H1 => ∃ a, x = .ref a ∧ (∃ xs, SqL K H1 a xs) ∧ R (Itl K a) H1) : iList K tl σ H R := h
theorem r_iRng1 {ta : TA} {σ : L2.St} {H : Hp} {R : It → Hp → Prop} (h : ta σ H fun vs H1 => ∃ j : Int, vs = [.int j] ∧ -(2 ^ 62) ≤ j ∧ j < 2 ^ 62 ∧ R (Itr 0 j.toNat) H1) : iRng1 ta σ H R := h
theorem r_lc {wi : TI} {g : TG} {tt : TT} {te : TE} {vs : List Nat} {σ : L2.St} {H : Hp} {Q : VK} (h : wi σ H fun J H1 => ∀ D, H1 D = none → ∃ W : Nat → Nat → Hp → Prop, (∃ m, W 0 m (upd H1 D (.lst []))) ∧ ∀ i m H, W i m H →
  (J.stop i H ∧ Q (.ref D) H) ∨ (J.go i H ∧ ∃ Nx : Hp → Prop, (∀ H', Nx H' → ∃ m', m' < m ∧ W (i + 1) m' H') ∧ ∀ x H', J.yld i H x H' → g x (wipe σ vs) H' fun σ2 H2 => wipe σ2 vs = wipe σ vs ∧ tt σ2 H2 fun b H3 =>
    if b = true then te σ2 H3 fun y H4 => ∃ acc, H4 D = some (.lst acc) ∧ acc.length < sizeLine ∧ Nx (upd H4 D (.lst (acc ++ [y]))) else Nx H3)) : tLc wi g tt te vs σ H Q := h
theorem r_yes {σ : L2.St} {H : Hp} {Q : Bool → Hp → Prop} (h : Q true H) : tYes σ H Q := h
end Kn
set_option Elab.async false
set_option linter.all false
set_option maxRecDepth 100000
set_option maxHeartbeats 4000000
/-! Towns: their methods; rows. -/
namespace Kn
open PySem L2
local macro_rules | `(tactic| walk_at "st") => `(tactic| repeat' (first
  | with_reducible refine r_seq ?_ | with_reducible refine r_set ?_ | with_reducible refine r_ret ?_ | with_reducible refine r_retN ?_ | with_reducible refine r_drop ?_ | with_reducible refine r_next ?_
  | with_reducible refine r_if ?_ | ((with_reducible refine r_var (v := ?_) ?hs ?_); (case hs => exact rfl)) | with_reducible refine r_c ?_ | with_reducible refine r_op ?_ | with_reducible refine r_I0 ?_
  | with_reducible refine r_test ?_ | with_reducible refine r_B ?_ | with_reducible refine ⟨_, (rfl : V.bl _ = V.bl _), ?_⟩ | with_reducible refine r_not ?_ | with_reducible refine r_or ?_ | with_reducible refine r_and ?_
  | with_reducible refine r_nil ?_ | with_reducible refine r_cons ?_ | with_reducible refine r_call ?_ | with_reducible refine r_cb ?_ | with_reducible refine r_tup ?_ | with_reducible refine r_lst ?_
  | with_reducible refine r_gname ?_ | with_reducible refine r_for ?_ | with_reducible refine r_iList ?_ | with_reducible refine r_iRng1 ?_ | with_reducible refine r_lc ?_ | with_reducible refine r_yes ?_))
theorem two_of {l : List V} {i : Nat} {x : V} (h : l[i]? = some x) : l[i]? = some x := h
section
variable {P : Program} {w : World} {K : PySem.W.Frag} {mg : Str → Option Value} {base : Heap}
/-! ### Town.name -/
def spName (K : PySem.W.Frag) : Sp := fun vs H Q _ => ∃ t D h, vs = [.ref t, .int h] ∧ TownAt K H t D ∧ 0 ≤ h ∧ h < D.size ∧ Q (.int (D.names.getD h.toNat 0)) H
theorem sc_Town_name : FnScope ["self", "house"] ["self", "house"] (defScope s_Town_name) := ⟨rfl, rfl, rfl, by decide +kernel, rfl, by decide +kernel, by decide +kernel⟩
theorem ok_Town_name (T : Tx K mg) : Fn P w K mg base 1 (He.ma K (He.ga K "Town") "name") [] (spName K) := by
  refine mkFn T.F_Town_name sc_Town_name (fun _ _ _ _ _ _ us hl => match us, hl with | [_, _], _ => rfl) (fun vs H Q E h => ?_) (fun cdv A outer s H vs Q E hr h => ?_)
  · obtain ⟨t, D, h, rfl, _⟩ := h; rfl
  · obtain ⟨t, D, h, rfl, hT, h0, h1, k⟩ := h
    obtain ⟨ok, dx, ln, lk, lr, pk, pn, ht, hn, hk, hpk, hl, hpn⟩ := hT
    refine ⟨_, pss_one (ps_ret (pe_ix ix_list (pf (pv 0)) (pv 1) (fun _ _ => rfl))), ?_⟩
    walk_at "st"
    refine fz ht T.c_Town T.n_Town_names (i := 2) (by decide +kernel) rfl ?_
    walk_at "st"
    exact ⟨ln, _, h, _, rfl, rfl, SqL.of hn, at_ix h0 (get_int h0 (by rw [ok.nl]; exact h1)), k⟩
/-! ### Town.rope -/
def spRope (K : PySem.W.Frag) : Sp := fun vs H Q _ => ∃ t D r, vs = [.ref t, .int r] ∧ TownAt K H t D ∧ 0 ≤ r ∧ r < D.ropes.length ∧ ∀ p rp, D.ropes[r.toNat]? = some rp → H p = some (.tup rp.v) → Q (.ref p) H
theorem sc_Town_rope : FnScope ["self", "number"] ["self", "number"] (defScope s_Town_rope) := ⟨rfl, rfl, rfl, by decide +kernel, rfl, by decide +kernel, by decide +kernel⟩
theorem rope_at {H : Hp} {pk : List Addr} {l : List Rope} {r : Int} (hpk : Tups H pk (l.map Rope.v)) (h0 : 0 ≤ r) (h1 : r < l.length) : ∃ p rp, (pk.map V.ref)[r.toNat]? = some (.ref p) ∧ l[r.toNat]? = some rp ∧ rp ∈ l ∧ H p = some (.tup rp.v) := by
  obtain ⟨rp, e, hm⟩ := get_some h0 h1
  obtain ⟨p, e1, e2⟩ := hpk.at (get_map (f := Rope.v) e)
  exact ⟨p, rp, get_map e1, e, hm, e2⟩
theorem ok_Town_rope (T : Tx K mg) : Fn P w K mg base 1 (He.ma K (He.ga K "Town") "rope") [] (spRope K) := by
  refine mkFn T.F_Town_rope sc_Town_rope (fun _ _ _ _ _ _ us hl => match us, hl with | [_, _], _ => rfl) (fun vs H Q E h => ?_) (fun cdv A outer s H vs Q E hr h => ?_)
  · obtain ⟨t, D, r, rfl, _⟩ := h; rfl
  · obtain ⟨t, D, r, rfl, hT, h0, h1, k⟩ := h
    obtain ⟨ok, dx, ln, lk, lr, pk, pn, ht, hn, hk, hpk, hl, hpn⟩ := hT
    obtain ⟨p, rp, e1, e2, hm, hp⟩ := rope_at hpk h0 h1
    refine ⟨_, pss_one (ps_ret (pe_ix ix_list (pf (pv 0)) (pv 1) (fun _ _ => rfl))), ?_⟩
    walk_at "st"
    refine fz ht T.c_Town T.n_Town_kept (i := 3) (by decide +kernel) rfl ?_
    walk_at "st"
    exact ⟨lk, _, r, _, rfl, rfl, SqL.of hk, at_ix h0 e1, k p rp e2 hp⟩
/-! ### Town.ropes_at -/
def spRopesAt (K : PySem.W.Frag) : Sp := fun vs H Q _ => ∃ t D h, vs = [.ref t, .int h] ∧ TownAt K H t D ∧ 0 ≤ h ∧ h < D.size ∧ NewL ((D.near.getD h.toNat []).map .int) H Q
theorem sc_Town_ropes_at : FnScope ["self", "house"] ["self", "house"] (defScope s_Town_ropes_at) := ⟨rfl, rfl, rfl, by decide +kernel, rfl, by decide +kernel, by decide +kernel⟩
theorem near_at {H : Hp} {pn : List Addr} {l : List (List Int)} {h : Int} (hpn : Lsts H pn (l.map fun l => l.map .int)) (h0 : 0 ≤ h) (h1 : h < l.length) : ∃ p, (pn.map V.ref)[h.toNat]? = some (.ref p) ∧ H p = some (.lst ((l.getD h.toNat []).map .int)) := by
  obtain ⟨x, e, _⟩ := get_some h0 h1
  obtain ⟨p, e1, e2⟩ := hpn.at (get_map (f := fun l : List Int => l.map V.int) e)
  exact ⟨p, get_map e1, by rw [List.getD_eq_getElem?_getD, e]; exact e2⟩
theorem ok_Town_ropes_at (T : Tx K mg) : Fn P w K mg base 1 (He.ma K (He.ga K "Town") "ropes_at") [] (spRopesAt K) := by
  refine mkFn T.F_Town_ropes_at sc_Town_ropes_at (fun _ _ _ _ _ _ us hl => match us, hl with | [_, _], _ => rfl) (fun vs H Q E h => ?_) (fun cdv A outer s H vs Q E hr h => ?_)
  · obtain ⟨t, D, h, rfl, _⟩ := h; rfl
  · obtain ⟨t, D, h, rfl, hT, h0, h1, k⟩ := h
    obtain ⟨ok, dx, ln, lk, lr, pk, pn, ht, hn, hk, hpk, hl, hpn⟩ := hT
    obtain ⟨p, e1, hp⟩ := near_at hpn h0 (by rw [ok.el]; exact h1)
    refine ⟨_, pss_one (ps_ret (pe_callTy call_list_of (by rfl) T.b_list (by decide +kernel) (pa_cons (pe_ix ix_list (pf (pv 0)) (pv 1) (fun _ _ => rfl)) pa_nil))), ?_⟩
    walk_at "st"
    refine fz ht T.c_Town T.n_Town_near (i := 4) (by decide +kernel) rfl ?_
    walk_at "st"
    refine ⟨lr, _, h, _, rfl, rfl, SqL.of hl, at_ix h0 e1, ?_⟩
    walk_at "st"
    exact ⟨p, _, rfl, .inl (SqL.of hp), fun l nl => k.go (Same.refl _) nl⟩
/-! ### Town.far_end -/
def farI (rp : Rope) (h : Int) : Int := if rp.one = h then rp.other else rp.one
def spFar (K : PySem.W.Frag) : Sp := fun vs H Q _ => ∃ t D r h, vs = [.ref t, .int r, .int h] ∧ TownAt K H t D ∧ 0 ≤ r ∧ r < D.ropes.length ∧ ∀ rp, D.ropes[r.toNat]? = some rp → Q (.int (farI rp h)) H
theorem sc_Town_far_end : FnScope ["self", "rope", "house", "told"] ["self", "rope", "house"] (defScope s_Town_far_end) := ⟨rfl, rfl, rfl, by decide +kernel, rfl, by decide +kernel, by decide +kernel⟩
theorem ok_Town_far_end (T : Tx K mg) : Fn P w K mg base 1 (He.ma K (He.ga K "Town") "far_end") [] (spFar K) := by
  refine mkFn T.F_Town_far_end sc_Town_far_end (fun _ _ _ _ _ _ us hl => match us, hl with | [_, _, _], _ => rfl) (fun vs H Q E h => ?_) (fun cdv A outer s H vs Q E hr h => ?_)
  · obtain ⟨t, D, r, h, rfl, _⟩ := h; rfl
  · obtain ⟨t, D, r, h, rfl, hT, h0, h1, k⟩ := h
    obtain ⟨ok, dx, ln, lk, lr, pk, pn, ht, hn, hk, hpk, hl, hpn⟩ := hT
    obtain ⟨p, rp, e1, e2, hm, hp⟩ := rope_at hpk h0 h1
    have k := k rp e2
    refine ⟨_, pss_cons (ps_set (i := 3) sc_Town_far_end.nd rfl (.inl rfl) (pe_ix ix_list (pf (pv 0)) (pv 1) (fun _ _ => rfl)))
      (pss_cons (ps_if (pt_cmpR op_eq (pe_ix ix_tup (pv 3) pe_int (fun _ _ => rfl)) (pv 2) (nomark _)) (pss_one (ps_ret (pe_ix ix_tup (pv 3) pe_int (fun _ _ => rfl)))) pss_nil)
      (pss_one (ps_ret (pe_ix ix_tup (pv 3) pe_int (fun _ _ => rfl))))), ?_⟩
    walk_at "st"
    refine fz ht T.c_Town T.n_Town_kept (i := 3) (by decide +kernel) rfl ?_
    walk_at "st"
    refine ⟨lk, _, r, _, rfl, rfl, SqL.of hk, at_ix h0 e1, ?_⟩
    walk_at "st"
    refine ⟨p, _, 0, _, rfl, rfl, SqT.of hp, at_ix (by decide) rfl, ?_⟩
    walk_at "st"
    refine ⟨rfl, _, rfl, ?_⟩
    rw [show decide (V.int rp.one = V.int h) = decide (rp.one = h) by simp]
    by_cases c : rp.one = h
    · rw [decide_eq_true c]
      refine iteT ?_
      walk_at "st"
      refine ⟨p, _, 1, _, rfl, rfl, SqT.of hp, at_ix (by decide) rfl, ?_⟩
      unfold farI at k
      rw [if_pos c] at k
      exact k
    · rw [decide_eq_false c]
      refine iteF ?_
      walk_at "st"
      refine ⟨p, _, 0, _, rfl, rfl, SqT.of hp, at_ix (by decide) rfl, ?_⟩
      unfold farI at k
      rw [if_neg c] at k
      exact k
/-! ### Town.lets -/
def letsB (rp : Rope) (g : Int) : Bool := decide (V.int (Builtin.bitAnd (rp.lets / 2 ^ g.toNat) 1) = V.int 1)
def spLets (K : PySem.W.Frag) : Sp := fun vs H Q _ => ∃ t D r g, vs = [.ref t, .int r, .int g] ∧ TownAt K H t D ∧ 0 ≤ r ∧ r < D.ropes.length ∧ 0 ≤ g ∧ ∀ rp, D.ropes[r.toNat]? = some rp → Q (.bl (letsB rp g)) H
theorem sc_Town_lets : FnScope ["self", "rope", "group"] ["self", "rope", "group"] (defScope s_Town_lets) := ⟨rfl, rfl, rfl, by decide +kernel, rfl, by decide +kernel, by decide +kernel⟩
theorem ok_Town_lets (T : Tx K mg) : Fn P w K mg base 1 (He.ma K (He.ga K "Town") "lets") [] (spLets K) := by
  refine mkFn T.F_Town_lets sc_Town_lets (fun _ _ _ _ _ _ us hl => match us, hl with | [_, _, _], _ => rfl) (fun vs H Q E h => ?_) (fun cdv A outer s H vs Q E hr h => ?_)
  · obtain ⟨t, D, r, g, rfl, _⟩ := h; rfl
  · obtain ⟨t, D, r, g, rfl, hT, h0, h1, hg, k⟩ := h
    obtain ⟨ok, dx, ln, lk, lr, pk, pn, ht, hn, hk, hpk, hl, hpn⟩ := hT
    obtain ⟨p, rp, e1, e2, hm, hp⟩ := rope_at hpk h0 h1
    refine ⟨_, pss_one (ps_ret (pe_cmpR op_eq (pe_op op_and (pe_op op_shr (pe_ix ix_tup (pe_ix ix_list (pf (pv 0)) (pv 1) (fun _ _ => rfl)) pe_int (fun _ _ => rfl)) (pv 2)) pe_int) pe_int (nomark _))), ?_⟩
    walk_at "st"
    refine fz ht T.c_Town T.n_Town_kept (i := 3) (by decide +kernel) rfl ?_
    walk_at "st"
    refine ⟨lk, _, r, _, rfl, rfl, SqL.of hk, at_ix h0 e1, ?_⟩
    walk_at "st"
    refine ⟨p, _, 4, _, rfl, rfl, SqT.of hp, at_ix (by decide) rfl, ?_⟩
    walk_at "st"
    refine ⟨_, _, rfl, rfl, hg, ?_⟩
    walk_at "st"
    exact ⟨rfl, k rp e2⟩
end
end Kn
set_option Elab.async false
set_option linter.all false
set_option maxRecDepth 100000
set_option maxHeartbeats 4000000
/-! Rows: own_row, offer, due. -/
namespace Kn
open PySem L2
local macro_rules | `(tactic| walk_at "st") => `(tactic| repeat' (first
  | with_reducible refine r_seq ?_ | with_reducible refine r_set ?_ | with_reducible refine r_ret ?_ | with_reducible refine r_retN ?_ | with_reducible refine r_drop ?_ | with_reducible refine r_next ?_
  | with_reducible refine r_if ?_ | ((with_reducible refine r_var (v := ?_) ?hs ?_); (case hs => exact rfl)) | with_reducible refine r_c ?_ | with_reducible refine r_op ?_ | with_reducible refine r_I0 ?_
  | with_reducible refine r_test ?_ | with_reducible refine r_B ?_ | with_reducible refine ⟨_, (rfl : V.bl _ = V.bl _), ?_⟩ | with_reducible refine r_not ?_ | with_reducible refine r_or ?_ | with_reducible refine r_and ?_
  | with_reducible refine r_nil ?_ | with_reducible refine r_cons ?_ | with_reducible refine r_call ?_ | with_reducible refine r_cb ?_ | with_reducible refine r_tup ?_ | with_reducible refine r_lst ?_
  | with_reducible refine r_gname ?_ | with_reducible refine r_for ?_ | with_reducible refine r_iList ?_ | with_reducible refine r_iRng1 ?_ | with_reducible refine r_lc ?_ | with_reducible refine r_yes ?_))
section
variable {P : Program} {w : World} {K : PySem.W.Frag} {mg : Str → Option Value} {base : Heap}
/-! ### own_row -/
def ownF (D : TownD) (h : Int) : Row := ⟨D.names.getD h.toNat 0, 0, 0, none⟩
def spOwn (K : PySem.W.Frag) : Sp := fun vs H Q _ => ∃ t D h, vs = [.ref t, .int h] ∧ TownAt K H t D ∧ 0 ≤ h ∧ h < D.size ∧ NewT (ownF D h).v H Q
theorem sc_own_row : FnScope ["town", "house"] ["town", "house"] (defScope s_own_row) := ⟨rfl, rfl, rfl, by decide +kernel, rfl, by decide +kernel, by decide +kernel⟩
theorem ok_own_row (T : Tx K mg) : Fn P w K mg base 2 (He.ga K "own_row") [] (spOwn K) := by
  refine mkFn T.F_own_row sc_own_row (fun _ _ _ _ _ _ us hl => match us, hl with | [_, _], _ => rfl) (fun vs H Q E h => ?_) (fun cdv A outer s H vs Q E hr h => ?_)
  · obtain ⟨t, D, h, rfl, _⟩ := h; rfl
  · obtain ⟨t, D, h, rfl, hT, h0, h1, k⟩ := h
    obtain ⟨ok, dx, ln, lk, lr, pk, pn, ht, hn, hk, hpk, hl, hpn⟩ := id hT
    refine ⟨_, pss_one (ps_ret (pe_tup (pa_cons (cm (pv 0) T.c_Town T.m_Town_name (ok_Town_name T) hr passL (pa_cons (pv 1) pa_nil)) (pa_cons pe_int (pa_cons pe_int (pa_cons pe_non pa_nil)))))), ?_⟩
    walk_at "st"
    refine mz ht (by decide +kernel) ?_
    walk_at "st"
    refine ⟨t, D, h, rfl, hT, h0, h1, ?_⟩
    walk_at "st"
    exact ⟨szl (by show 4 ≤ 100000; decide), fun p hp => k.go (Same.refl _) hp⟩
/-! ### offer -/
def offerF (D : TownD) (row : Row) (r : Int) (rp : Rope) : Option Row := if (D.size : Int) ≤ row.hops + 1 then none else some ⟨row.head, row.cost + rp.cost, row.hops + 1, some r⟩
def spOffer (K : PySem.W.Frag) : Sp := fun vs H Q _ => ∃ t D p row r rp, vs = [.ref t, .ref p, .int r] ∧ TownAt K H t D ∧ H p = some (.tup (Row.v row)) ∧ 0 ≤ r ∧ r < D.ropes.length ∧ D.ropes[r.toNat]? = some rp ∧
  (offerF D row r rp = none → Q .non H) ∧ ∀ row', offerF D row r rp = some row' → NewT row'.v H Q
theorem sc_offer : FnScope ["town", "row", "rope", "head", "cost", "hops", "by"] ["town", "row", "rope"] (defScope s_offer) := ⟨rfl, rfl, rfl, by decide +kernel, rfl, by decide +kernel, by decide +kernel⟩
theorem ok_offer (T : Tx K mg) : Fn P w K mg base 2 (He.ga K "offer") [] (spOffer K) := by
  refine mkFn T.F_offer sc_offer (fun _ _ _ _ _ _ us hl => match us, hl with | [_, _, _], _ => rfl) (fun vs H Q E h => ?_) (fun cdv A outer s H vs Q E hr h => ?_)
  · obtain ⟨t, D, p, row, r, rp, rfl, _⟩ := h; rfl
  · obtain ⟨t, D, p, row, r, rp, rfl, hT, hp, h0, h1, hrp, kn, ks⟩ := h
    obtain ⟨ok, dx, ln, lk, lr, pk, pn, ht, hn, hk, hpk, hl, hpn⟩ := id hT
    refine ⟨_, pss_cons (ps_asg (pv 1) (pg_tup rfl (pgs_cons (pg_name (i := 3) sc_offer.nd rfl (.inl rfl)) (pgs_cons (pg_name (i := 4) sc_offer.nd rfl (.inl rfl)) (pgs_cons (pg_name (i := 5) sc_offer.nd rfl (.inl rfl)) (pgs_cons (pg_name (i := 6) sc_offer.nd rfl (.inl rfl)) pgs_nil))))))
      (pss_cons (ps_if (pt_cmpR op_ge (pe_op op_add (pv 5) pe_int) (pf (pv 0)) (nomark _)) (pss_one (ps_ret pe_non)) pss_nil)
      (pss_one (ps_ret (pe_tup (pa_cons (pv 3) (pa_cons (pe_op op_add (pv 4) (pe_ix ix_tup (cm (pv 0) T.c_Town T.m_Town_rope (ok_Town_rope T) hr passL (pa_cons (pv 2) pa_nil)) pe_int (fun _ _ => rfl)))
        (pa_cons (pe_op op_add (pv 5) pe_int) (pa_cons (pv 2) pa_nil)))))))), ?_⟩
    walk_at "st"
    refine ⟨_, rfl, p, _, rfl, SqT.of hp, rfl, ?_⟩
    refine ⟨_, _, rfl, _, _, rfl, _, _, rfl, _, _, rfl, rfl, ?_⟩
    walk_at "st"
    refine fz ht T.c_Town T.n_Town_size (i := 0) (by decide +kernel) rfl ?_
    walk_at "st"
    refine ite2 (fun c => ?_) (fun c => ?_)
    · walk_at "st"
      exact kn (if_pos (of_decide_eq_true c))
    · walk_at "st"
      refine mz ht (by decide +kernel) ?_
      walk_at "st"
      refine ⟨t, D, r, rfl, hT, h0, h1, fun q rp' e hq => ?_⟩
      obtain rfl : rp' = rp := Option.some.inj (e.symm.trans hrp)
      walk_at "st"
      refine ⟨q, _, 2, _, rfl, rfl, SqT.of hq, at_ix (by decide) rfl, ?_⟩
      walk_at "st"
      exact ⟨szl (by show 4 ≤ 100000; decide), fun p hp => (ks _ (if_neg fun z => c (decide_eq_true z))).go (Same.refl _) hp⟩
end
end Kn
set_option Elab.async false
set_option linter.all false
set_option maxRecDepth 100000
set_option maxHeartbeats 4000000
/-! due. -/
namespace Kn
open PySem L2
local macro_rules | `(tactic| walk_at "st") => `(tactic| repeat' (first
  | with_reducible refine r_seq ?_ | with_reducible refine r_set ?_ | with_reducible refine r_ret ?_ | with_reducible refine r_retN ?_ | with_reducible refine r_drop ?_ | with_reducible refine r_next ?_
  | with_reducible refine r_if ?_ | ((with_reducible refine r_var (v := ?_) ?hs ?_); (case hs => exact rfl)) | with_reducible refine r_c ?_ | with_reducible refine r_op ?_ | with_reducible refine r_I0 ?_
  | with_reducible refine r_test ?_ | with_reducible refine r_B ?_ | with_reducible refine ⟨_, (rfl : V.bl _ = V.bl _), ?_⟩ | with_reducible refine r_not ?_ | with_reducible refine r_or ?_ | with_reducible refine r_and ?_
  | with_reducible refine r_nil ?_ | with_reducible refine r_cons ?_ | with_reducible refine r_call ?_ | with_reducible refine r_cb ?_ | with_reducible refine r_tup ?_ | with_reducible refine r_lst ?_
  | with_reducible refine r_gname ?_ | with_reducible refine r_for ?_ | with_reducible refine r_iList ?_ | with_reducible refine r_iRng1 ?_ | with_reducible refine r_lc ?_ | with_reducible refine r_yes ?_))
theorem flat_ints (l : List Int) : (l.map V.int).all flatV = true := by
  induction l with
  | nil => rfl
  | cons a l ih => rw [List.map_cons, List.all_cons, ih]; rfl
/-- a row that a house may hold -/
def Good (r : Row) : Prop := 0 ≤ r.hops ∧ (r.by_ = none → r.hops = 0)
theorem lex_rows {a b : Row} {r : Int} (ha : 1 ≤ a.hops) (hr : a.by_ = some r) (hb : b.by_ = none → b.hops = 0) : ∃ c, Lex a.v b.v c := by
  obtain ⟨h1, c1, k1, y1⟩ := a
  obtain ⟨h2, c2, k2, y2⟩ := b
  dsimp only at ha hr hb
  subst hr
  unfold Row.v
  dsimp only
  by_cases e1 : h1 = h2
  · subst e1
    by_cases e2 : c1 = c2
    · subst e2
      by_cases e3 : k1 = k2
      · subst e3
        cases y2 with
        | none => have := hb rfl; omega
        | some y =>
          by_cases e4 : r = y
          · subst e4
            exact ⟨_, .eq (.eq (.eq (.eq .nil)))⟩
          · exact ⟨_, .eq (.eq (.eq (.ne [] [] e4)))⟩
      · exact ⟨_, .eq (.eq (.ne _ _ e3))⟩
    · exact ⟨_, .eq (.ne _ _ e2)⟩
  · exact ⟨_, .ne _ _ e1⟩
theorem far_ok {D : TownD} (ok : D.Ok) {rp : Rope} (h : rp ∈ D.ropes) (x : Int) : 0 ≤ farI rp x ∧ farI rp x < D.size := by
  obtain ⟨a, b, c, d, _⟩ := ok.rp rp h
  unfold farI
  split <;> exact ⟨by omega, by omega⟩
theorem near_ok {D : TownD} (ok : D.Ok) {h : Int} {i : Nat} {x : V} (e : ((D.near.getD h.toNat []).map V.int)[i]? = some x) : ∃ r, x = .int r ∧ 0 ≤ r ∧ r < D.ropes.length := by
  rw [List.getElem?_map] at e
  cases q : (D.near.getD h.toNat [])[i]? with
  | none => rw [q] at e; cases e
  | some r =>
    rw [q] at e
    have hm := List.mem_of_getElem? q
    rw [List.getD_eq_getElem?_getD] at hm
    cases q2 : D.near[h.toNat]? with
    | none => rw [q2] at hm; simp at hm
    | some l =>
      rw [q2] at hm
      exact ⟨r, (Option.some.inj e).symm, (ok.nr l (List.mem_of_getElem? q2)).2 r hm⟩
section
variable {P : Program} {w : World} {K : PySem.W.Frag} {mg : Str → Option Value} {base : Heap}
def spDue (K : PySem.W.Frag) : Sp := fun vs H Q _ => ∃ t D lv ln rw ps rows h, vs = [.ref t, .ref lv, .ref rw, .int h] ∧ TownAt K H t D ∧ H lv = some (.lst ((ln : List Int).map .int)) ∧ H rw = some (.lst (ps.map .ref)) ∧ Tups H ps ((rows : List Row).map Row.v) ∧
  rows.length = D.size ∧ (∀ r ∈ rows, 0 ≤ r.hops) ∧ 0 ≤ h ∧ h < D.size ∧ ∀ p r H', Same H H' → H' p = some (.tup (Row.v r)) → 0 ≤ r.hops → Q (.ref p) H'
theorem sc_due : FnScope ["town", "live", "rows", "house", "best", "rope", "made"] ["town", "live", "rows", "house"] (defScope s_due) := ⟨rfl, rfl, rfl, by decide +kernel, rfl, by decide +kernel, by decide +kernel⟩
theorem ok_due (T : Tx K mg) : Fn P w K mg base 3 (He.ga K "due") [] (spDue K) := by
  refine mkFn T.F_due sc_due (fun _ _ _ _ _ _ us hl => match us, hl with | [_, _, _, _], _ => rfl) (fun vs H Q E h => ?_) (fun cdv A outer s H vs Q E hr h => ?_)
  · obtain ⟨t, D, lv, ln, rw, ps, rows, h, rfl, _⟩ := h; rfl
  · obtain ⟨t, D, lv, ln, rw, ps, rows, h, rfl, hT, hlv, hrw, hps, hz, hh, h0, h1, k⟩ := h
    refine ⟨_, pss_cons (ps_set (i := 4) sc_due.nd rfl (.inl rfl) (cf (ok_own_row T) hr T.g_own_row passL (pa_cons (pv 0) (pa_cons (pv 3) pa_nil))))
      (pss_cons (ps_for (passes_of rfl) rfl (pi_list (cm (pv 0) T.c_Town T.m_Town_ropes_at (ok_Town_ropes_at T) hr passL (pa_cons (pv 3) pa_nil))) (pg_name (i := 5) sc_due.nd rfl (.inl rfl))
        (pss_one (ps_if (pt_cmpR op_in_seq (pv 5) (pv 1) (by rfl))
          (pss_cons (ps_set (i := 6) sc_due.nd rfl (.inl rfl) (cf (ok_offer T) hr T.g_offer passL (pa_cons (pv 0) (pa_cons (pe_ix ix_list (pv 2) (cm (pv 0) T.c_Town T.m_Town_far_end (ok_Town_far_end T) hr passL (pa_cons (pv 5) (pa_cons (pv 3) pa_nil))) (fun _ _ => rfl)) (pa_cons (pv 5) pa_nil)))))
          (pss_one (ps_if (PW.pt (pw_and (pt_cmpR op_notN (pv 6) pe_non (nomark _)) (pw_and1 (pt_cmpR (op_ltX hr.units0) (pv 6) (pv 4) (nomark _))))) (pss_one (ps_set (i := 4) sc_due.nd rfl (.inl rfl) (pv 6))) pss_nil)))
          pss_nil)))
      (pss_one (ps_ret (pv 4)))), ?_⟩
    walk_at "st"
    refine ⟨t, D, h, rfl, hT, h0, h1, fun b H1 _ e1 hb => ?_⟩
    walk_at "st"
    have hT1 := hT.mono e1
    obtain ⟨ok, dx, la, lk, lr, pk, pn, ht, hn, hk, hpk, hl, hpn⟩ := id hT1
    refine mz ht (by decide +kernel) ?_
    walk_at "st"
    refine ⟨t, D, h, rfl, hT1, h0, h1, fun l H2 _ e2 hll => ?_⟩
    refine ⟨l, rfl, ⟨_, SqL.of hll⟩, for_it walk_list (fun i σ H' => ∃ b row x5 x6, Same H2 H' ∧ σ = [some (.ref t), some (.ref lv), some (.ref rw), some (.int h), some (.ref b), x5, x6] ∧ H' b = some (.tup (Row.v row)) ∧ Good row)
      ⟨b, ownF D h, none, none, Same.refl _, rfl, e2 _ _ hb, Int.le_refl 0, fun _ => rfl⟩ (fun i σ H' _ ⟨_, _, _, _, e3, _⟩ => e3.seq (SqL.of hll)) ?_ ?_⟩
    · rintro i x σ H3 H3' hi ⟨b, row, x5, x6, e3, rfl, hb, hg⟩ ⟨rfl, hx⟩
      obtain ⟨r, rfl, r0, r1⟩ := near_ok ok hx
      obtain ⟨rp, hrp, hm⟩ := get_some r0 r1
      have e03 : Same H H3' := (e1.trans e2).trans e3
      have hT3 := hT.mono e03
      obtain ⟨_, dx, la, lk, lr, pk, pn, ht, _⟩ := id hT3
      walk_at "st"
      refine ⟨lv, _, rfl, .inl (SqL.of (e03 _ _ hlv)), rfl, flat_ints _, _, rfl, ?_⟩
      refine ite2 (fun _ => ?_) (fun _ => ?_)
      · walk_at "st"
        refine mz ht (by decide +kernel) ?_
        walk_at "st"
        refine ⟨t, D, r, h, rfl, hT3, r0, r1, fun rp' e => ?_⟩
        obtain rfl : rp' = rp := Option.some.inj (e.symm.trans hrp)
        obtain ⟨f0, f1⟩ := far_ok ok hm h
        obtain ⟨row2, hr2, hm2⟩ := get_some (l := rows) f0 (by rw [hz]; exact f1)
        obtain ⟨q, q1, q2⟩ := hps.at (get_map (f := Row.v) hr2)
        refine ⟨rw, _, _, _, rfl, rfl, SqL.of (e03 _ _ hrw), at_ix f0 (get_map q1), ?_⟩
        walk_at "st"
        refine ⟨t, D, q, row2, r, rp', rfl, hT3, e03 _ _ q2, r0, r1, hrp, fun _ => ?_, fun row' hr' p H4 np e4 hp4 => ?_⟩
        · walk_at "st"
          refine ⟨rfl, ?_⟩
          walk_at "st"
          exact ⟨b, row, _, _, e3, rfl, hb, hg⟩
        · walk_at "st"
          refine ⟨rfl, ?_⟩
          have hof : row' = ⟨row2.head, row2.cost + rp'.cost, row2.hops + 1, some r⟩ := by
            unfold offerF at hr'
            split at hr'
            · cases hr'
            · exact (Option.some.inj hr').symm
          have h2 := hh row2 hm2
          obtain ⟨c, hc⟩ := lex_rows (a := row') (b := row) (r := r) (by rw [hof]; show 1 ≤ row2.hops + 1; omega) (by rw [hof]) hg.2
          walk_at "st"
          refine iteT ?_
          walk_at "st"
          refine ⟨p, b, _, _, c, rfl, rfl, SqT.of hp4, SqT.of (e4 _ _ hb), rfl, hc, ?_⟩
          walk_at "st"
          cases c with
          | true =>
            refine iteT ?_
            walk_at "st"
            exact ⟨p, row', _, _, e3.trans e4, rfl, hp4, by rw [hof]; show 0 ≤ row2.hops + 1; omega, fun z => by rw [hof] at z; cases z⟩
          | false =>
            refine iteF ?_
            walk_at "st"
            exact ⟨b, row, _, _, e3.trans e4, rfl, e4 _ _ hb, hg⟩
      · walk_at "st"
        exact ⟨b, row, _, _, e3, rfl, hb, hg⟩
    · rintro σ H3 ⟨b, row, x5, x6, e3, rfl, hb, hg⟩
      walk_at "st"
      exact k b row H3 ((e1.trans e2).trans e3) hb hg.1
end
end Kn
set_option Elab.async false
set_option linter.all false
set_option maxRecDepth 100000
set_option maxHeartbeats 4000000
namespace Kn
open PySem L2
local macro_rules | `(tactic| walk_at "st") => `(tactic| repeat' (first
  | with_reducible refine r_seq ?_ | with_reducible refine r_set ?_ | with_reducible refine r_ret ?_ | with_reducible refine r_retN ?_ | with_reducible refine r_drop ?_ | with_reducible refine r_next ?_
  | with_reducible refine r_if ?_ | ((with_reducible refine r_var (v := ?_) ?hs ?_); (case hs => exact rfl)) | with_reducible refine r_c ?_ | with_reducible refine r_op ?_ | with_reducible refine r_I0 ?_
  | with_reducible refine r_test ?_ | with_reducible refine r_B ?_ | with_reducible refine ⟨_, (rfl : V.bl _ = V.bl _), ?_⟩ | with_reducible refine r_not ?_ | with_reducible refine r_or ?_ | with_reducible refine r_and ?_
  | with_reducible refine r_nil ?_ | with_reducible refine r_cons ?_ | with_reducible refine r_call ?_ | with_reducible refine r_cb ?_ | with_reducible refine r_tup ?_ | with_reducible refine r_lst ?_
  | with_reducible refine r_gname ?_ | with_reducible refine r_for ?_ | with_reducible refine r_iList ?_ | with_reducible refine r_iRng1 ?_ | with_reducible refine r_lc ?_ | with_reducible refine r_yes ?_))
theorem inV_ints {r : Int} {l : List Int} : inV (.int r) (l.map .int) = decide (r ∈ l) := by
  unfold inV
  induction l with
  | nil => simp
  | cons a l ih =>
    rw [List.map_cons, List.any_cons, ih]
    show ((a == r) || decide (r ∈ l)) = decide (r ∈ a :: l)
    by_cases e : a = r
    · subst e; simp
    · have e2 : ¬ r = a := fun z => e z.symm
      simp [e, e2]
/-! ### rows as data -/
def oD : Option Int → PyData
  | none => .none
  | some r => .int r
def rowD (r : Row) : PyData := .tuple [.int r.head, .int r.cost, .int r.hops, oD r.by_]
theorem dp_o {K : PySem.W.Frag} {H : Hp} (o : Option Int) : Dp K H (oV o) (oD o) := by
  cases o with
  | none => exact .non
  | some r => exact .int r
theorem dp_row {K : PySem.W.Frag} {H : Hp} {p : Addr} {r : Row} (h : H p = some (.tup r.v)) : Dp K H (.ref p) (rowD r) := .tup (SqT.of h) (.cons (.int _) (.cons (.int _) (.cons (.int _) (.cons (dp_o _) .nil))))
theorem sh_row (r : Row) : SeqAt.shaped (rowD r) = true := by
  unfold rowD
  cases r.by_ <;> rfl
def neB (o : Option Row) (r : Row) : Bool := !PyData.eqv (match o with | none => .none | some x => rowD x) (rowD r)
/-! ### up -/
def upF (D : TownD) (ln : List Int) (rows : List Row) (h : Int) : Option (Int × Int) :=
  match rows[h.toNat]? with
  | none => none
  | some row =>
    match row.by_ with
    | none => none
    | some r =>
      if r ∈ ln ∧ r ∈ D.near.getD h.toNat [] then
        match D.ropes[r.toNat]? with
        | none => none
        | some rp =>
          match rows[(farI rp h).toNat]? with
          | none => none
          | some row2 => if neB (offerF D row2 r rp) row = true then none else some (r, farI rp h)
      else none
def UpV (H : Hp) (o : Option (Int × Int)) (u : V) : Prop := match o with
  | none => u = .non
  | some (r, x) => ∃ q, u = .ref q ∧ H q = some (.tup [.int r, .int x])
theorem UpV.mono {H H' : Hp} {o : Option (Int × Int)} {u : V} (h : UpV H o u) (e : Same H H') : UpV H' o u := by
  cases o with
  | none => exact h
  | some q => obtain ⟨p, h1, h2⟩ := h; exact ⟨p, h1, e _ _ h2⟩
/-- the rows of a town, in a list -/
structure RowsAt (H : Hp) (rw : Addr) (D : TownD) (rows : List Row) : Prop where
  ex : ∃ ps, H rw = some (.lst (ps.map .ref)) ∧ Tups H ps (rows.map Row.v)
  len : rows.length = D.size
theorem RowsAt.mono {H H' : Hp} {rw : Addr} {D : TownD} {rows : List Row} (h : RowsAt H rw D rows) (e : Same H H') : RowsAt H' rw D rows := by
  obtain ⟨⟨ps, h1, h2⟩, h3⟩ := h
  exact ⟨⟨ps, e _ _ h1, h2.mono e⟩, h3⟩
theorem RowsAt.at {H : Hp} {rw : Addr} {D : TownD} {rows : List Row} (h : RowsAt H rw D rows) {z : Int} (h0 : 0 ≤ z) (h1 : z < D.size) :
    ∃ xs p row, H rw = some (.lst xs) ∧ atI xs z = some (.ref p) ∧ rows[z.toNat]? = some row ∧ row ∈ rows ∧ H p = some (.tup row.v) := by
  obtain ⟨⟨ps, e1, e2⟩, e3⟩ := h
  obtain ⟨row, hr, hm⟩ := get_some (l := rows) h0 (by rw [e3]; exact h1)
  obtain ⟨q, q1, q2⟩ := e2.at (get_map (f := Row.v) hr)
  exact ⟨_, q, row, e1, at_ix h0 (get_map q1), hr, hm, q2⟩
section
variable {P : Program} {w : World} {K : PySem.W.Frag} {mg : Str → Option Value} {base : Heap}
def spUp (K : PySem.W.Frag) : Sp := fun vs H Q _ => ∃ t D lv ln rw rows h, vs = [.ref t, .ref lv, .ref rw, .int h] ∧ TownAt K H t D ∧ H lv = some (.lst ((ln : List Int).map .int)) ∧ RowsAt H rw D rows ∧
  0 ≤ h ∧ h < D.size ∧ ∀ u H', Same H H' → UpV H' (upF D ln rows h) u → Q u H'
theorem sc_up : FnScope ["town", "live", "rows", "house", "rope", "other"] ["town", "live", "rows", "house"] (defScope s_up) := ⟨rfl, rfl, rfl, by decide +kernel, rfl, by decide +kernel, by decide +kernel⟩
theorem ok_up (T : Tx K mg) : Fn P w K mg base 3 (He.ga K "up") [] (spUp K) := by
  refine mkFn T.F_up sc_up (fun _ _ _ _ _ _ us hl => match us, hl with | [_, _, _, _], _ => rfl) (fun vs H Q E h => ?_) (fun cdv A outer s H vs Q E hr h => ?_)
  · obtain ⟨t, D, lv, ln, rw, rows, h, rfl, _⟩ := h; rfl
  · obtain ⟨t, D, lv, ln, rw, rows, h, rfl, hT, hlv, hrw, h0, h1, k⟩ := h
    refine ⟨_, pss_cons (ps_set (i := 4) sc_up.nd rfl (.inl rfl) (pe_ix ix_tup (pe_ix ix_list (pv 2) (pv 3) (fun _ _ => rfl)) pe_int (fun _ _ => rfl)))
      (pss_cons (ps_if (PW.pt (pw_or (pt_cmpR op_isN (pv 4) pe_non (nomark _)) (pw_or (pt_cmpR op_notIn_seq (pv 4) (pv 1) (by rfl)) (pw_or1 (pt_cmpR op_notIn_seq (pv 4) (cm (pv 0) T.c_Town T.m_Town_ropes_at (ok_Town_ropes_at T) hr passL (pa_cons (pv 3) pa_nil)) (by rfl)))))) (pss_one (ps_ret pe_non)) pss_nil)
      (pss_cons (ps_set (i := 5) sc_up.nd rfl (.inl rfl) (cm (pv 0) T.c_Town T.m_Town_far_end (ok_Town_far_end T) hr passL (pa_cons (pv 4) (pa_cons (pv 3) pa_nil))))
      (pss_cons (ps_if (pt_cmpR (op_neD hr.units) (cf (ok_offer T) hr T.g_offer passL (pa_cons (pv 0) (pa_cons (pe_ix ix_list (pv 2) (pv 5) (fun _ _ => rfl)) (pa_cons (pv 4) pa_nil)))) (pe_ix ix_list (pv 2) (pv 3) (fun _ _ => rfl)) (nomark _)) (pss_one (ps_ret pe_non)) pss_nil)
      (pss_one (ps_ret (pe_tup (pa_cons (pv 4) (pa_cons (pv 5) pa_nil)))))))), ?_⟩
    obtain ⟨xs, p, row, e1, e2, hrow, hm, hp⟩ := hrw.at h0 h1
    obtain ⟨ok, dx, la, lk, lr, pk, pn, ht, _⟩ := id hT
    walk_at "st"
    refine ⟨rw, _, _, _, rfl, rfl, SqL.of e1, e2, ?_⟩
    walk_at "st"
    refine ⟨p, _, 3, _, rfl, rfl, SqT.of hp, at_ix (by decide) rfl, ?_⟩
    walk_at "st"
    refine ⟨rfl, ?_⟩
    cases hb : row.by_ with
    | none =>
      walk_at "st"
      refine iteT ?_
      refine iteT ?_
      walk_at "st"
      refine k _ _ (Same.refl _) ?_
      unfold upF
      rw [hrow]
      dsimp only
      rw [hb]
      rfl
    | some r =>
      dsimp only [oV]
      walk_at "st"
      refine iteF ?_
      walk_at "st"
      refine ⟨lv, _, rfl, .inl (SqL.of hlv), rfl, flat_ints _, _, rfl, ?_⟩
      rw [inV_ints]
      by_cases c1 : r ∈ ln
      · rw [decide_eq_true c1]
        refine iteF ?_
        walk_at "st"
        refine mz ht (by decide +kernel) ?_
        walk_at "st"
        refine ⟨t, D, h, rfl, hT, h0, h1, fun l H1 _ e3 hll => ?_⟩
        refine ⟨l, _, rfl, .inl (SqL.of hll), rfl, flat_ints _, _, rfl, ?_⟩
        rw [inV_ints]
        by_cases c2 : r ∈ D.near.getD h.toNat []
        · rw [decide_eq_true c2]
          refine iteF ?_
          walk_at "st"
          have hT1 := hT.mono e3
          obtain ⟨j, hj⟩ := List.mem_iff_getElem?.mp c2
          obtain ⟨r', er, r0, r1⟩ := near_ok ok (h := h) (get_map (f := V.int) hj)
          obtain rfl : r = r' := V.int.inj er
          obtain ⟨rp, hrp, hmp⟩ := get_some r0 r1
          refine mz (e3 _ _ ht) (by decide +kernel) ?_
          walk_at "st"
          refine ⟨t, D, r, h, rfl, hT1, r0, r1, fun rp' e => ?_⟩
          obtain rfl : rp' = rp := Option.some.inj (e.symm.trans hrp)
          obtain ⟨f0, f1⟩ := far_ok ok hmp h
          walk_at "st"
          obtain ⟨xs2, q, row2, e21, e22, hrow2, hm2, hq⟩ := hrw.at f0 f1
          refine ⟨rw, _, _, _, rfl, rfl, SqL.of (e3 _ _ e21), e22, ?_⟩
          walk_at "st"
          have hup : upF D ln rows h = if neB (offerF D row2 r rp') row = true then none else some (r, farI rp' h) := by
            unfold upF
            rw [hrow]
            dsimp only
            rw [hb]
            dsimp only
            rw [if_pos ⟨c1, c2⟩, hrp]
            dsimp only
            rw [hrow2]
          refine ⟨t, D, q, row2, r, rp', rfl, hT1, e3 _ _ hq, r0, r1, hrp, fun ho => ?_, fun row' ho p4 H4 np e4 hp4 => ?_⟩
          · walk_at "st"
            refine ⟨rw, _, _, _, rfl, rfl, SqL.of (e3 _ _ e1), e2, ?_⟩
            refine ⟨.none, rowD row, .non, dp_row (e3 _ _ hp), rfl, sh_row _, ?_⟩
            walk_at "st"
            refine ite2 (fun c => ?_) (fun c => ?_)
            · walk_at "st"
              exact k _ _ e3 (by rw [hup, ho, if_pos (show neB none row = true from c)]; rfl)
            · walk_at "st"
              exact ⟨szl (by show 2 ≤ 100000; decide), fun p' np => k _ _ (Same.new' e3 np) (by rw [hup, ho, if_neg (show ¬ neB none row = true from c)]; exact ⟨p', rfl, upd_same⟩)⟩
          · walk_at "st"
            refine ⟨rw, _, _, _, rfl, rfl, SqL.of (e4 _ _ (e3 _ _ e1)), e2, ?_⟩
            refine ⟨rowD row', rowD row, dp_row hp4, dp_row (e4 _ _ (e3 _ _ hp)), sh_row _, sh_row _, ?_⟩
            walk_at "st"
            refine ite2 (fun c => ?_) (fun c => ?_)
            · walk_at "st"
              exact k _ _ (e3.trans e4) (by rw [hup, ho, if_pos (show neB (some row') row = true from c)]; rfl)
            · walk_at "st"
              exact ⟨szl (by show 2 ≤ 100000; decide), fun p' np => k _ _ (Same.new' (e3.trans e4) np) (by rw [hup, ho, if_neg (show ¬ neB (some row') row = true from c)]; exact ⟨p', rfl, upd_same⟩)⟩
        · rw [decide_eq_false c2]
          refine iteT ?_
          walk_at "st"
          refine k _ _ e3 ?_
          unfold upF
          rw [hrow]
          dsimp only
          rw [hb]
          dsimp only
          rw [if_neg fun z => c2 z.2]
          rfl
      · rw [decide_eq_false c1]
        refine iteT ?_
        refine iteT ?_
        walk_at "st"
        refine k _ _ (Same.refl _) ?_
        unfold upF
        rw [hrow]
        dsimp only
        rw [hb]
        dsimp only
        rw [if_neg fun z => c1 z.1]
        rfl
end
end Kn
set_option Elab.async false
set_option linter.all false
set_option maxRecDepth 100000
set_option maxHeartbeats 4000000
namespace Kn
open PySem L2
local macro_rules | `(tactic| walk_at "st") => `(tactic| repeat' (first
  | with_reducible refine r_seq ?_ | with_reducible refine r_set ?_ | with_reducible refine r_ret ?_ | with_reducible refine r_retN ?_ | with_reducible refine r_drop ?_ | with_reducible refine r_next ?_
  | with_reducible refine r_if ?_ | ((with_reducible refine r_var (v := ?_) ?hs ?_); (case hs => exact rfl)) | with_reducible refine r_c ?_ | with_reducible refine r_op ?_ | with_reducible refine r_I0 ?_
  | with_reducible refine r_test ?_ | with_reducible refine r_B ?_ | with_reducible refine ⟨_, (rfl : V.bl _ = V.bl _), ?_⟩ | with_reducible refine r_not ?_ | with_reducible refine r_or ?_ | with_reducible refine r_and ?_
  | with_reducible refine r_nil ?_ | with_reducible refine r_cons ?_ | with_reducible refine r_call ?_ | with_reducible refine r_cb ?_ | with_reducible refine r_tup ?_ | with_reducible refine r_lst ?_
  | with_reducible refine r_gname ?_ | with_reducible refine r_for ?_ | with_reducible refine r_iList ?_ | with_reducible refine r_iRng1 ?_ | with_reducible refine r_lc ?_ | with_reducible refine r_yes ?_))
/-! ups, opens, open_at. -/
theorem up_ok {D : TownD} (ok : D.Ok) {ln : List Int} {rows : List Row} {h r x : Int} (e : upF D ln rows h = some (r, x)) : 0 ≤ r ∧ r < D.ropes.length := by
  unfold upF at e
  split at e
  · cases e
  · split at e
    · cases e
    · rename_i r' _
      split at e
      · rename_i c
        obtain ⟨j, hj⟩ := List.mem_iff_getElem?.mp c.2
        obtain ⟨r2, er, r0, r1⟩ := near_ok ok (h := h) (get_map (f := V.int) hj)
        obtain rfl : r' = r2 := V.int.inj er
        split at e
        · cases e
        · split at e
          · cases e
          · split at e
            · cases e
            · have z := (Prod.mk.inj (Option.some.inj e)).1
              rw [← z]; exact ⟨r0, r1⟩
      · cases e
/-- the open ropes, rising -/
structure OpensOf (D : TownD) (ln : List Int) (rows : List Row) (ns : List Int) : Prop where
  up : ns.Pairwise (· < ·)
  mem : ∀ k, k ∈ ns ↔ ∃ (i : Nat) (x : Int), i < D.size ∧ upF D ln rows i = some (k, x)
  len : ns.length ≤ 10
theorem strict_ext : ∀ {xs ys : List Int}, xs.Pairwise (· < ·) → ys.Pairwise (· < ·) → (∀ k, k ∈ xs ↔ k ∈ ys) → xs = ys
  | [], [], _, _, _ => rfl
  | [], y :: ys, _, _, h => absurd ((h y).mpr List.mem_cons_self) (by simp)
  | x :: xs, [], _, _, h => absurd ((h x).mp List.mem_cons_self) (by simp)
  | x :: xs, y :: ys, hx, hy, h => by
    obtain ⟨hx1, hx2⟩ := List.pairwise_cons.mp hx
    obtain ⟨hy1, hy2⟩ := List.pairwise_cons.mp hy
    have e : x = y := by
      rcases List.mem_cons.mp ((h x).mp List.mem_cons_self) with a | a
      · exact a
      · rcases List.mem_cons.mp ((h y).mpr List.mem_cons_self) with b | b
        · exact b.symm
        · have := hy1 x a; have := hx1 y b; omega
    subst e
    rw [strict_ext hx2 hy2 fun k => ?_]
    constructor
    · intro m
      rcases List.mem_cons.mp ((h k).mp (List.mem_cons_of_mem _ m)) with a | a
      · have := hx1 k m; omega
      · exact a
    · intro m
      rcases List.mem_cons.mp ((h k).mpr (List.mem_cons_of_mem _ m)) with a | a
      · have := hy1 k m; omega
      · exact a
theorem OpensOf.uniq {D : TownD} {ln : List Int} {rows : List Row} {ns ms : List Int} (a : OpensOf D ln rows ns) (b : OpensOf D ln rows ms) : ns = ms := strict_ext a.up b.up fun k => (a.mem k).trans (b.mem k).symm
theorem OpensOf.ok {D : TownD} (ok : D.Ok) {ln : List Int} {rows : List Row} {ns : List Int} (a : OpensOf D ln rows ns) {k : Int} (h : k ∈ ns) : 0 ≤ k ∧ k < D.ropes.length := by
  obtain ⟨i, x, _, e⟩ := (a.mem k).mp h
  exact up_ok ok e
/-- what ups hands back -/
structure UpsV (H : Hp) (D : TownD) (ln : List Int) (rows : List Row) (n : Nat) (us : List V) : Prop where
  len : us.length = n
  at_ : ∀ (i : Nat) u, us[i]? = some u → UpV H (upF D ln rows i) u
theorem UpsV.mono {H H' : Hp} {D : TownD} {ln : List Int} {rows : List Row} {n : Nat} {us : List V} (h : UpsV H D ln rows n us) (e : Same H H') : UpsV H' D ln rows n us := ⟨h.len, fun i u q => (h.at_ i u q).mono e⟩
theorem UpsV.snoc {H : Hp} {D : TownD} {ln : List Int} {rows : List Row} {n : Nat} {us : List V} {u : V} (h : UpsV H D ln rows n us) (hu : UpV H (upF D ln rows n) u) : UpsV H D ln rows (n + 1) (us ++ [u]) := by
  refine ⟨by rw [List.length_append, h.len]; rfl, fun i v e => ?_⟩
  rcases snoc_get e with a | ⟨a, rfl⟩
  · exact h.at_ i v a
  · rw [a, h.len]; exact hu
section
variable {P : Program} {w : World} {K : PySem.W.Frag} {mg : Str → Option Value} {base : Heap}
def spUps (K : PySem.W.Frag) : Sp := fun vs H Q _ => ∃ t D lv ln rw rows, vs = [.ref t, .ref lv, .ref rw] ∧ TownAt K H t D ∧ H lv = some (.lst ((ln : List Int).map .int)) ∧ RowsAt H rw D rows ∧
  ∀ p us H', Same H H' → H p = none → H' p = some (.lst us) → UpsV H' D ln rows D.size us → Q (.ref p) H'
theorem sc_ups : FnScope ["town", "live", "rows", "house"] ["town", "live", "rows"] (defScope s_ups) := ⟨rfl, rfl, rfl, by decide +kernel, rfl, by decide +kernel, by decide +kernel⟩
theorem ok_ups (T : Tx K mg) : Fn P w K mg base 4 (He.ga K "ups") [] (spUps K) := by
  refine mkFn T.F_ups sc_ups (fun _ _ _ _ _ _ us hl => match us, hl with | [_, _, _], _ => rfl) (fun vs H Q E h => ?_) (fun cdv A outer s H vs Q E hr h => ?_)
  · obtain ⟨t, D, lv, ln, rw, rows, rfl, _⟩ := h; rfl
  · obtain ⟨t, D, lv, ln, rw, rows, rfl, hT, hlv, hrw, k⟩ := h
    refine ⟨_, pss_one (ps_ret (pe_lc (own := [("house", 3)]) (g := gName 3) rfl sc_ups.nd (pi_range1 (by rfl) T.b_range (pa_cons (pf (pv 0)) pa_nil)) (blkOk_by (N := ["town", "live", "rows", "house"]) (sc := defScope s_ups) (by decide +kernel))
      (fun _ _ _ _ _ => pg_name (i := 3) sc_ups.nd rfl (Or.inl rfl)) (fun _ _ _ _ _ => pts_nil) (fun _ _ _ _ _ => cf (ok_up T) hr T.g_up passL (pa_cons (pv 0) (pa_cons (pv 1) (pa_cons (pv 2) (pa_cons (pv 3) pa_nil))))))), ?_⟩
    obtain ⟨ok, dx, la, lk, lr, pk, pn, ht, _⟩ := id hT
    have s2 := ok.s2
    walk_at "st"
    refine fz ht T.c_Town T.n_Town_size (i := 0) (by decide +kernel) rfl ?_
    walk_at "st"
    refine ⟨_, rfl, by omega, by omega, fun p np => ?_⟩
    refine lc_it walk_range (fun i H' => Same H H' ∧ ∃ us, H' p = some (.lst us) ∧ UpsV H' D ln rows i us) ⟨Same.new np, [], upd_same, rfl, fun i u e => by simp at e⟩ (fun _ _ _ _ => trivial) ?_ ?_
    · rintro i x H1 H1' hi ⟨e1, us, hp, hu⟩ ⟨rfl, rfl⟩
      walk_at "st"
      refine ⟨rfl, ?_⟩
      walk_at "st"
      refine iteT ?_
      walk_at "st"
      refine ⟨t, D, lv, ln, rw, rows, _, rfl, hT.mono e1, e1 _ _ hlv, hrw.mono e1, by omega, by omega, fun u H2 e2 h2 => ?_⟩
      refine ⟨us, e2 _ _ hp, sll (by rw [hu.len]; omega), ?_⟩
      have e3 : Same H1' (upd H2 p (.lst (us ++ [u]))) ∨ True := .inr trivial
      have h2' : UpV (upd H2 p (.lst (us ++ [u]))) (upF D ln rows i) u := by
        have : upF D ln rows ((0 : Int) + (i : Nat)) = upF D ln rows (i : Nat) := by rw [Int.zero_add]
        rw [this] at h2
        cases q : upF D ln rows (i : Nat) with
        | none => rw [q] at h2; exact h2
        | some a =>
          rw [q] at h2
          obtain ⟨z, z1, z2⟩ := h2
          exact ⟨z, z1, by rw [upd_ne (ne_of z2 (e2 _ _ hp) (by intro y; cases y))]; exact z2⟩
      have hu2 : UpsV (upd H2 p (.lst (us ++ [u]))) D ln rows i us := ⟨hu.len, fun j v e => by
        have h3 := (hu.at_ j v e).mono e2
        cases q : upF D ln rows (j : Nat) with
        | none => rw [q] at h3; exact h3
        | some a =>
          rw [q] at h3
          obtain ⟨z, z1, z2⟩ := h3
          exact ⟨z, z1, by rw [upd_ne (ne_of z2 (e2 _ _ hp) (by intro y; cases y))]; exact z2⟩⟩
      exact ⟨Same.mut (e1.trans e2) np, us ++ [u], upd_same, hu2.snoc h2'⟩
    · rintro H1 ⟨e1, us, hp, hu⟩
      exact k p us H1 e1 np hp (by rwa [show ((D.size : Nat) : Int).toNat = D.size by omega] at hu)
end
end Kn
set_option Elab.async false
set_option linter.all false
set_option maxRecDepth 100000
set_option maxHeartbeats 4000000
namespace Kn
open PySem L2
local macro_rules | `(tactic| walk_at "st") => `(tactic| repeat' (first
  | with_reducible refine r_seq ?_ | with_reducible refine r_set ?_ | with_reducible refine r_ret ?_ | with_reducible refine r_retN ?_ | with_reducible refine r_drop ?_ | with_reducible refine r_next ?_
  | with_reducible refine r_if ?_ | ((with_reducible refine r_var (v := ?_) ?hs ?_); (case hs => exact rfl)) | with_reducible refine r_c ?_ | with_reducible refine r_op ?_ | with_reducible refine r_I0 ?_
  | with_reducible refine r_test ?_ | with_reducible refine r_B ?_ | with_reducible refine ⟨_, (rfl : V.bl _ = V.bl _), ?_⟩ | with_reducible refine r_not ?_ | with_reducible refine r_or ?_ | with_reducible refine r_and ?_
  | with_reducible refine r_nil ?_ | with_reducible refine r_cons ?_ | with_reducible refine r_call ?_ | with_reducible refine r_cb ?_ | with_reducible refine r_tup ?_ | with_reducible refine r_lst ?_
  | with_reducible refine r_gname ?_ | with_reducible refine r_for ?_ | with_reducible refine r_iList ?_ | with_reducible refine r_iRng1 ?_ | with_reducible refine r_lc ?_ | with_reducible refine r_yes ?_))
section
variable {P : Program} {w : World} {K : PySem.W.Frag} {mg : Str → Option Value} {base : Heap}
def spOpens (K : PySem.W.Frag) : Sp := fun vs H Q _ => ∃ t D lv ln rw rows, vs = [.ref t, .ref lv, .ref rw] ∧ TownAt K H t D ∧ H lv = some (.lst ((ln : List Int).map .int)) ∧ RowsAt H rw D rows ∧
  ∀ ns, OpensOf D ln rows ns → NewL (ns.map .int) H Q
theorem sc_opens : FnScope ["town", "live", "rows", "one"] ["town", "live", "rows"] (defScope s_opens) := ⟨rfl, rfl, rfl, by decide +kernel, rfl, by decide +kernel, by decide +kernel⟩
theorem ok_opens (T : Tx K mg) : Fn P w K mg base 5 (He.ga K "opens_opens") [] (spOpens K) := by
  refine mkFn T.F_opens sc_opens (fun _ _ _ _ _ _ us hl => match us, hl with | [_, _, _], _ => rfl) (fun vs H Q E h => ?_) (fun cdv A outer s H vs Q E hr h => ?_)
  · obtain ⟨t, D, lv, ln, rw, rows, rfl, _⟩ := h; rfl
  · obtain ⟨t, D, lv, ln, rw, rows, rfl, hT, hlv, hrw, k⟩ := h
    refine ⟨_, pss_one (ps_ret (pe_callB (cr_sortedSet rfl) (by rfl) T.b_sorted (by decide +kernel) (pa_cons (pe_callTy (cr_setL rfl) (by rfl) T.b_set (by decide +kernel) (pa_cons
      (pe_lc (own := [("one", 3)]) (g := gName 3) rfl sc_opens.nd (pi_list (cf (ok_ups T) hr T.g_ups passL (pa_cons (pv 0) (pa_cons (pv 1) (pa_cons (pv 2) pa_nil))))) (blkOk_by (N := ["town", "live", "rows", "one"]) (sc := defScope s_opens) (by decide +kernel))
      (fun _ _ _ _ _ => pg_name (i := 3) sc_opens.nd rfl (Or.inl rfl)) (fun _ _ _ _ _ => pts_one (pt_cmpR op_notN (pv 3) pe_non (nomark _))) (fun _ _ _ _ _ => pe_ix (r := rIxT K) ix_tup (pv 3) pe_int (fun _ _ => rfl))) pa_nil)) pa_nil))), ?_⟩
    obtain ⟨ok, dx, la, lk, lr, pk, pn, ht, _⟩ := id hT
    have s2 := ok.s2
    walk_at "st"
    refine ⟨t, D, lv, ln, rw, rows, rfl, hT, hlv, hrw, fun u us H1 e1 nu hu hus => ?_⟩
    refine ⟨u, rfl, ⟨_, SqL.of hu⟩, fun p np => ?_⟩
    refine lc_it walk_list (fun i H' => Same H1 H' ∧ ∃ ns : List Int, H' p = some (.lst (ns.map .int)) ∧ ns.length ≤ i ∧ ∀ k, k ∈ ns ↔ ∃ (j : Nat) (x : Int), j < i ∧ upF D ln rows j = some (k, x))
      ⟨Same.new np, [], upd_same, Nat.le_refl _, fun k => ⟨fun h => by simp at h, fun ⟨j, x, h, _⟩ => absurd h (Nat.not_lt_zero _)⟩⟩ (fun i H' _ ⟨e, _⟩ => e.seq (SqL.of hu)) ?_ ?_
    · rintro i x H2 H2' hi ⟨e2, ns, hp, hl, hm⟩ ⟨rfl, hx⟩
      have hux := (hus.at_ i x hx).mono e2
      walk_at "st"
      refine ⟨rfl, ?_⟩
      walk_at "st"
      refine ⟨rfl, ?_⟩
      cases q : upF D ln rows (i : Nat) with
      | none =>
        rw [q] at hux
        obtain rfl : x = .non := hux
        walk_at "st"
        refine iteF ?_
        refine ⟨e2, ns, hp, Nat.le_succ_of_le hl, fun k => (hm k).trans ⟨fun ⟨j, x, h, e⟩ => ⟨j, x, by omega, e⟩, fun ⟨j, x, h, e⟩ => ⟨j, x, ?_, e⟩⟩⟩
        by_cases c : j = i
        · subst c; rw [q] at e; cases e
        · omega
      | some a =>
        rw [q] at hux
        obtain ⟨z, rfl, hz⟩ := hux
        walk_at "st"
        refine iteT ?_
        walk_at "st"
        refine ⟨z, _, 0, _, rfl, rfl, SqT.of hz, at_ix (by decide) rfl, ?_⟩
        refine ⟨_, hp, sll (by have := hus.len; rw [List.length_map]; omega), ?_⟩
        refine ⟨Same.mut e2 np, ns ++ [a.1], by rw [List.map_append]; exact upd_same, by rw [List.length_append]; simpa using hl, fun k => ?_⟩
        rw [List.mem_append, hm k, List.mem_singleton]
        constructor
        · rintro (⟨j, x, h, e⟩ | rfl)
          · exact ⟨j, x, by omega, e⟩
          · exact ⟨i, a.2, by omega, q⟩
        · rintro ⟨j, x, h, e⟩
          by_cases c : j = i
          · subst c
            rw [q] at e
            exact .inr (by rw [Option.some.inj e])
          · exact .inl ⟨j, x, by omega, e⟩
    · rintro H2 ⟨e2, ns, hp, hl, hm⟩
      walk_at "st"
      have hl' := hus.len
      refine ⟨p, ns, rfl, SqL.of hp, by omega, fun p2 c np2 hc => ?_⟩
      walk_at "st"
      refine ⟨p2, _, c, rfl, upd_same, by omega, fun ms p3 h1 h2 h3 np3 => ?_⟩
      refine (k ms ⟨h1, fun z => ?_, by omega⟩).go ((e1.trans e2).trans (Same.new np2)) np3
      rw [h2 z]
      rw [decide_eq_true_iff, hm z, hl']
end
end Kn
set_option Elab.async false
set_option linter.all false
set_option maxRecDepth 100000
set_option maxHeartbeats 4000000
namespace Kn
open PySem L2
local macro_rules | `(tactic| walk_at "st") => `(tactic| repeat' (first
  | with_reducible refine r_seq ?_ | with_reducible refine r_set ?_ | with_reducible refine r_ret ?_ | with_reducible refine r_retN ?_ | with_reducible refine r_drop ?_ | with_reducible refine r_next ?_
  | with_reducible refine r_if ?_ | ((with_reducible refine r_var (v := ?_) ?hs ?_); (case hs => exact rfl)) | with_reducible refine r_c ?_ | with_reducible refine r_op ?_ | with_reducible refine r_I0 ?_
  | with_reducible refine r_test ?_ | with_reducible refine r_B ?_ | with_reducible refine ⟨_, (rfl : V.bl _ = V.bl _), ?_⟩ | with_reducible refine r_not ?_ | with_reducible refine r_or ?_ | with_reducible refine r_and ?_
  | with_reducible refine r_nil ?_ | with_reducible refine r_cons ?_ | with_reducible refine r_call ?_ | with_reducible refine r_cb ?_ | with_reducible refine r_tup ?_ | with_reducible refine r_lst ?_
  | with_reducible refine r_gname ?_ | with_reducible refine r_for ?_ | with_reducible refine r_iList ?_ | with_reducible refine r_iRng1 ?_ | with_reducible refine r_lc ?_ | with_reducible refine r_yes ?_))
/-- some ropes of the town -/
def SomeRopes (D : TownD) (ms : List Int) : Prop := ms.length ≤ 10 ∧ ∀ k ∈ ms, 0 ≤ k ∧ k < D.ropes.length
section
variable {P : Program} {w : World} {K : PySem.W.Frag} {mg : Str → Option Value} {base : Heap}
def spOpenAt (K : PySem.W.Frag) : Sp := fun vs H Q _ => ∃ t D lv ln rw rows h, vs = [.ref t, .ref lv, .ref rw, .int h] ∧ TownAt K H t D ∧ H lv = some (.lst ((ln : List Int).map .int)) ∧ RowsAt H rw D rows ∧ 0 ≤ h ∧ h < D.size ∧
  ∀ ms, SomeRopes D ms → NewL (ms.map .int) H Q
theorem sc_open_at : FnScope ["town", "live", "rows", "house", "own", "rope"] ["town", "live", "rows", "house"] (defScope s_open_at) := ⟨rfl, rfl, rfl, by decide +kernel, rfl, by decide +kernel, by decide +kernel⟩
theorem ok_open_at (T : Tx K mg) : Fn P w K mg base 6 (He.ga K "open_at") [] (spOpenAt K) := by
  refine mkFn T.F_open_at sc_open_at (fun _ _ _ _ _ _ us hl => match us, hl with | [_, _, _, _], _ => rfl) (fun vs H Q E h => ?_) (fun cdv A outer s H vs Q E hr h => ?_)
  · obtain ⟨t, D, lv, ln, rw, rows, h, rfl, _⟩ := h; rfl
  · obtain ⟨t, D, lv, ln, rw, rows, h, rfl, hT, hlv, hrw, h0, h1, k⟩ := h
    refine ⟨_, pss_cons (ps_set (i := 4) sc_open_at.nd rfl (.inr rfl) (cm (pv 0) T.c_Town T.m_Town_ropes_at (ok_Town_ropes_at T) hr passL (pa_cons (pv 3) pa_nil)))
      (pss_one (ps_ret (pe_lc (own := [("rope", 5)]) (g := gName 5) rfl sc_open_at.nd (pi_list (cf (ok_opens T) hr T.g_opens_opens passL (pa_cons (pv 0) (pa_cons (pv 1) (pa_cons (pv 2) pa_nil))))) (blkOk_by (N := ["town", "live", "rows", "house", "own", "rope"]) (sc := defScope s_open_at) (by decide +kernel))
        (fun _ _ _ _ _ => pg_name (i := 5) sc_open_at.nd rfl (Or.inl rfl)) (fun _ _ _ _ _ => pts_one (pt_cmpR (r := rIn K false) op_in_seq (pv 5) (pv 4) (by rfl))) (fun _ _ _ _ _ => pv 5)))), ?_⟩
    obtain ⟨ok, dx, la, lk, lr, pk, pn, ht, _⟩ := id hT
    walk_at "st"
    refine mz ht (by decide +kernel) ?_
    walk_at "st"
    refine ⟨t, D, h, rfl, hT, h0, h1, fun l H1 _ e1 hl => ?_⟩
    walk_at "st"
    refine ⟨t, D, lv, ln, rw, rows, rfl, hT.mono e1, e1 _ _ hlv, hrw.mono e1, fun ns hns o H2 no e2 ho => ?_⟩
    refine ⟨o, rfl, ⟨_, SqL.of ho⟩, fun p np => ?_⟩
    refine lc_it walk_list (fun i H' => Same H2 H' ∧ ∃ ms : List Int, H' p = some (.lst (ms.map .int)) ∧ ms.length ≤ i ∧ ∀ k ∈ ms, k ∈ ns)
      ⟨Same.new np, [], upd_same, Nat.le_refl _, fun k h => by simp at h⟩ (fun i H' _ ⟨e, _⟩ => e.seq (SqL.of ho)) ?_ ?_
    · rintro i x H3 H3' hi ⟨e3, ms, hp, hl3, hm⟩ ⟨rfl, hx⟩
      obtain ⟨r, hr', rfl⟩ : ∃ r, ns[i]? = some r ∧ x = .int r := by
        rw [List.getElem?_map] at hx
        cases q : ns[i]? with
        | none => rw [q] at hx; cases hx
        | some r => rw [q] at hx; exact ⟨r, rfl, (Option.some.inj hx).symm⟩
      walk_at "st"
      refine ⟨rfl, ?_⟩
      walk_at "st"
      refine ⟨l, _, rfl, .inl (SqL.of (e3 _ _ (e2 _ _ hl))), rfl, flat_ints _, _, rfl, ?_⟩
      refine ite2 (fun _ => ?_) (fun _ => ?_)
      · walk_at "st"
        refine ⟨_, hp, sll (by have := hns.len; rw [List.length_map] at *; omega), Same.mut e3 np, ms ++ [r], by rw [List.map_append]; exact upd_same, by rw [List.length_append]; simpa using hl3, fun k hk => ?_⟩
        rcases List.mem_append.mp hk with a | a
        · exact hm k a
        · rw [List.mem_singleton.mp a]; exact List.mem_of_getElem? hr'
      · exact ⟨e3, ms, hp, Nat.le_succ_of_le hl3, hm⟩
    · rintro H3 ⟨e3, ms, hp, hl3, hm⟩
      exact k ms ⟨by have := hns.len; rw [List.length_map] at hl3; omega, fun k hk => hns.ok ok (hm k hk)⟩ p H3 ((e1.trans e2).free np) ((e1.trans e2).trans e3) hp
end
end Kn
set_option Elab.async false
set_option linter.all false
set_option maxRecDepth 100000
set_option maxHeartbeats 4000000
namespace Kn
open PySem L2
local macro_rules | `(tactic| walk_at "st") => `(tactic| repeat' (first
  | with_reducible refine r_seq ?_ | with_reducible refine r_set ?_ | with_reducible refine r_ret ?_ | with_reducible refine r_retN ?_ | with_reducible refine r_drop ?_ | with_reducible refine r_next ?_
  | with_reducible refine r_if ?_ | ((with_reducible refine r_var (v := ?_) ?hs ?_); (case hs => exact rfl)) | with_reducible refine r_c ?_ | with_reducible refine r_op ?_ | with_reducible refine r_I0 ?_
  | with_reducible refine r_test ?_ | with_reducible refine r_B ?_ | with_reducible refine ⟨_, (rfl : V.bl _ = V.bl _), ?_⟩ | with_reducible refine r_not ?_ | with_reducible refine r_or ?_ | with_reducible refine r_and ?_
  | with_reducible refine r_nil ?_ | with_reducible refine r_cons ?_ | with_reducible refine r_call ?_ | with_reducible refine r_cb ?_ | with_reducible refine r_tup ?_ | with_reducible refine r_lst ?_
  | with_reducible refine r_gname ?_ | with_reducible refine r_for ?_ | with_reducible refine r_iList ?_ | with_reducible refine r_iRng1 ?_ | with_reducible refine r_lc ?_ | with_reducible refine r_yes ?_))
section
variable {K : PySem.W.Frag} {σ : L2.St} {H : Hp} {Q : VK} {D : Ends} {ta tb tc tv : TE} {a C dx : Addr} {L L' : List Str} {vs vs' : List V} {v y : V} {f : Str} {i : Nat} {l : TA}
theorem r_chain {r r' : R2} (h : ta σ H fun x H1 => tb σ H1 fun y H2 => r x y H2 fun z H3 => ∃ k, z = .bl k ∧ (if k = true then tc σ H3 fun w' H4 => r' y w' H4 Q else Q (.bl false) H3)) : tChain r r' ta tb tc σ H Q := h
theorem r_sfld (h : tv σ H fun y H1 => ta σ H1 fun x H2 => ∃ a C dx fs, x = .ref a ∧ H2 a = some (.ins C dx fs) ∧ Cls K C ∧ NoAttr K C f ∧ fs.length < 1000 ∧ D.nx σ (upd H2 a (.ins C dx (putF f y fs)))) : sFld K ta tv f D σ H := h
theorem r_bm {T : String} {r : V → List V → Hp → VK → Prop} (h : ta σ H fun x H1 => tyV K T x H1 ∧ l σ H1 fun xs H2 => r x xs H2 Q) : tBM K T r ta l σ H Q := h
theorem r_bm0 {T : String} {r : V → List V → Hp → VK → Prop} (h : ta σ H fun x H1 => tyV K T x H1 ∧ r x [] H1 Q) : tBM0 K T r ta σ H Q := h
theorem r_make {sp : Sp} {dvs : List V} {E : XK} (h : l σ H fun vs H1 => ∀ x dx, H1 x = none → H1 dx = none → dx ≠ x → sp (.ref x :: (vs ++ dvs)) (upd (upd H1 dx (.own x)) x (.ins C dx [])) (fun v H2 => v = .non ∧ Q (.ref x) H2) E) : tMake C sp dvs E l σ H Q := h
theorem szf {R : L2.St → Hp → Prop} (ho : H a = some (.ins C dx (L.zip vs))) (c : Cls K C) (n : NoAttr K C f) (hl : L.findIdx? (fun g => f == g) = none) (hz : L.length = vs.length) (hs : L.length < 1000) (eL : L ++ [f] = L') (ev : vs ++ [y] = vs')
    (q : R σ (upd H a (.ins C dx (L'.zip vs')))) : ∃ a' C dx fs, V.ref a = .ref a' ∧ H a' = some (.ins C dx fs) ∧ Cls K C ∧ NoAttr K C f ∧ fs.length < 1000 ∧ R σ (upd H a' (.ins C dx (putF f y fs))) :=
  ⟨a, C, dx, _, rfl, ho, c, n, by rw [List.length_zip, ← hz, Nat.min_self]; exact hs, by rw [zadd hl hz, eL, ev]; exact q⟩
theorem szs {R : L2.St → Hp → Prop} (ho : H a = some (.ins C dx (L.zip vs))) (c : Cls K C) (n : NoAttr K C f) (hl : L.findIdx? (fun g => f == g) = some i) (hi : i < vs.length) (hs : L.length < 1000) (ev : vs.set i y = vs')
    (q : R σ (upd H a (.ins C dx (L.zip vs')))) : ∃ a' C dx fs, V.ref a = .ref a' ∧ H a' = some (.ins C dx fs) ∧ Cls K C ∧ NoAttr K C f ∧ fs.length < 1000 ∧ R σ (upd H a' (.ins C dx (putF f y fs))) :=
  ⟨a, C, dx, _, rfl, ho, c, n, by rw [List.length_zip]; omega, by rw [zput hl hi, ev]; exact q⟩
end
theorem r_sl {r : V → Option Int → Option Int → Hp → VK → Prop} {te : TE} {tl th : TO} {σ : L2.St} {H : Hp} {Q : VK} (h : te σ H fun x H1 => tl σ H1 fun l H2 => th σ H2 fun u H3 => r x l u H3 Q) : tSl r te tl th σ H Q := h
theorem r_nopart {σ : L2.St} {H : Hp} {Q : Option Int → Hp → Prop} (h : Q none H) : tNoPart σ H Q := h
theorem r_part {te : TE} {σ : L2.St} {H : Hp} {Q : Option Int → Hp → Prop} (h : te σ H fun x H1 => ∃ i, x = .int i ∧ Q (some i) H1) : tPart te σ H Q := h
theorem r_iEnum {K : PySem.W.Frag} {ta : TA} {σ : L2.St} {H : Hp} {R : It → Hp → Prop} (h : ta σ H fun vs H1 => ∃ a xs, vs = [.ref a] ∧ SqL K H1 a xs ∧ R (Ite K a) H1) : iEnum K ta σ H R := h
theorem r_iRng2 {ta : TA} {σ : L2.St} {H : Hp} {R : It → Hp → Prop} (h : ta σ H fun vs H1 => ∃ i j : Int, vs = [.int i, .int j] ∧ (-(2 ^ 62) ≤ i ∧ i < 2 ^ 62 ∧ -(2 ^ 62) ≤ j ∧ j < 2 ^ 62) ∧ R (Itr i (j - i).toNat) H1) : iRng2 ta σ H R := h
theorem Lsts.set {H : Hp} {ps : List Addr} {xss : List (List V)} {j : Nat} {p : Addr} {ys : List V} (h : Lsts H ps xss) (nd : ps.Nodup) (hj : ps[j]? = some p) : Lsts (upd H p (.lst ys)) ps (xss.set j ys) := by
  refine ⟨by rw [List.length_set, h.1], fun i q xs a b => ?_⟩
  by_cases e : j = i
  · subst e
    have hb : j < xss.length := by have := (List.getElem?_eq_some_iff.mp a).1; have := h.1; omega
    rw [List.getElem?_set_self hb] at b
    rw [hj] at a
    cases a; cases b
    exact upd_same
  · rw [List.getElem?_set_ne e] at b
    have ne : q ≠ p := fun z => e (nd_ix nd hj (z ▸ a))
    rw [upd_ne ne]
    exact h.2 i q xs a b
end Kn
set_option Elab.async false
set_option linter.all false
set_option maxRecDepth 100000
set_option maxHeartbeats 4000000
namespace Kn
open PySem L2
local macro_rules | `(tactic| walk_at "st") => `(tactic| repeat' (first
  | with_reducible refine r_seq ?_ | with_reducible refine r_set ?_ | with_reducible refine r_ret ?_ | with_reducible refine r_retN ?_ | with_reducible refine r_drop ?_ | with_reducible refine r_next ?_
  | with_reducible refine r_if ?_ | ((with_reducible refine r_var (v := ?_) ?hs ?_); (case hs => exact rfl)) | with_reducible refine r_c ?_ | with_reducible refine r_op ?_ | with_reducible refine r_I0 ?_
  | with_reducible refine r_test ?_ | with_reducible refine r_B ?_ | with_reducible refine ⟨_, (rfl : V.bl _ = V.bl _), ?_⟩ | with_reducible refine r_not ?_ | with_reducible refine r_or ?_ | with_reducible refine r_and ?_
  | with_reducible refine r_nil ?_ | with_reducible refine r_cons ?_ | with_reducible refine r_call ?_ | with_reducible refine r_cb ?_ | with_reducible refine r_tup ?_ | with_reducible refine r_lst ?_
  | with_reducible refine r_gname ?_ | with_reducible refine r_for ?_ | with_reducible refine r_iList ?_ | with_reducible refine r_iRng1 ?_ | with_reducible refine r_lc ?_ | with_reducible refine r_yes ?_
  | with_reducible refine r_chain ?_ | with_reducible refine r_sfld ?_ | with_reducible refine r_bm ?_ | with_reducible refine r_bm0 ?_ | with_reducible refine r_make ?_ | with_reducible refine r_sl ?_ | with_reducible refine r_nopart ?_ | with_reducible refine r_part ?_ | with_reducible refine r_iEnum ?_ | with_reducible refine r_iRng2 ?_))
structure Rope.Ok (r : Rope) (size : Nat) : Prop where
  a0 : 0 ≤ r.one
  a1 : r.one < size
  b0 : 0 ≤ r.other
  b1 : r.other < size
  ne : r.one ≠ r.other
  c : 1 ≤ r.cost
  w0 : 1 ≤ r.wires
  w1 : r.wires ≤ 4
  l0 : 1 ≤ r.lets
  l1 : r.lets ≤ 7
structure NamesOk (l : List Int) : Prop where
  s1 : 1 ≤ l.length
  s2 : l.length ≤ 10
  nd : l.Nodup
  pos : ∀ x ∈ l, 0 ≤ x
theorem take_ints (l : List Int) (k : Int) : ∃ m : List Int, cutV (l.map V.int) none (some k) = m.map V.int ∧ ∀ x ∈ m, ∃ j, j < HT.sIx l.length l.length (some k) ∧ l[j]? = some x := by
  unfold cutV
  rw [HT.sIx_none, List.drop_zero, List.length_map, Nat.sub_zero]
  refine ⟨l.take (HT.sIx l.length l.length (some k)), by rw [List.map_take], fun x hx => ?_⟩
  obtain ⟨j, hj⟩ := List.mem_iff_getElem?.mp hx
  rw [List.getElem?_take] at hj
  split at hj
  · rename_i c
    exact ⟨j, c, hj⟩
  · cases hj
section
variable {P : Program} {w : World} {K : PySem.W.Frag} {mg : Str → Option Value} {base : Heap}
def spAskNames : Sp := fun vs H Q _ => ∃ l ns, vs = [.ref l] ∧ H l = some (.lst ((ns : List Int).map .int)) ∧ NamesOk ns ∧ Val .non H Q
theorem sc_ask_names : FnScope ["names", "k"] ["names"] (defScope s_ask_names) := ⟨rfl, rfl, rfl, by decide +kernel, rfl, by decide +kernel, by decide +kernel⟩
theorem ok_ask_names (T : Tx K mg) : Fn P w K mg base 1 (He.ga K "ask_names") [] spAskNames := by
  refine mkFn T.F_ask_names sc_ask_names (fun _ _ _ _ _ _ us hl => match us, hl with | [_], _ => rfl) (fun vs H Q E h => ?_) (fun cdv A outer s H vs Q E hr h => ?_)
  · obtain ⟨l, ns, rfl, _⟩ := h; rfl
  · obtain ⟨l, ns, rfl, hl, ok, k⟩ := h
    obtain ⟨tk, gM⟩ := T.i_MOST_HOUSES
    refine ⟨_, pss_cons (ps_if (pt_not (pt_chain op_le op_le pe_int (pe_callB call_len (by rfl) T.b_len PySem.boot_len (pa_cons (pv 0) pa_nil)) (pe_glob (v := .int 10) (by rfl) gM ⟨_, rfl⟩))) (pss_one ps_never) pss_nil)
      (pss_one (ps_for (passes_of rfl) rfl (pi_range1 (by rfl) T.b_range (pa_cons (pe_callB call_len (by rfl) T.b_len PySem.boot_len (pa_cons (pv 0) pa_nil)) pa_nil)) (pg_name (i := 1) sc_ask_names.nd rfl (.inl rfl))
        (pss_one (ps_if (PW.pt (pw_or (pt_cmpR op_lt (pe_ix ix_list (pv 0) (pv 1) (fun _ _ => rfl)) pe_int (nomark _)) (pw_or1 (pt_cmpR op_in_seq (pe_ix ix_list (pv 0) (pv 1) (fun _ _ => rfl)) (pe_slice sl_list (pv 0) po_none (po_some (pv 1))) (by rfl))))) (pss_one ps_never) pss_nil)))), ?_⟩
    have h1 := ok.s1
    have h2 := ok.s2
    have hlen : (ns.map V.int).length = ns.length := List.length_map _
    walk_at "st"
    refine ⟨_, _, rfl, .inl ⟨_, SqL.of hl, rfl⟩, ?_⟩
    walk_at "st"
    rw [decide_eq_true (show (1 : Int) ≤ (((ns.map V.int).length : Nat) : Int) by rw [hlen]; omega)]
    refine iteT ?_
    walk_at "st"
    rw [decide_eq_true (show (((ns.map V.int).length : Nat) : Int) ≤ 10 by rw [hlen]; omega)]
    refine iteF ?_
    walk_at "st"
    refine ⟨_, _, rfl, .inl ⟨_, SqL.of hl, rfl⟩, ?_⟩
    walk_at "st"
    refine ⟨_, rfl, by rw [hlen]; omega, by rw [hlen]; omega, ?_⟩
    refine for_it walk_range (fun i σ H' => Same H H' ∧ ∃ x, σ = [some (.ref l), x]) ⟨Same.refl _, none, rfl⟩ (fun _ _ _ _ _ => trivial) ?_ ?_
    · rintro i x σ H1 H1' hi ⟨e1, x1, rfl⟩ ⟨rfl, rfl⟩
      have hi' : i < ns.length := by rw [hlen] at hi; omega
      have z0 : (0 : Int) ≤ 0 + (i : Nat) := by omega
      have zi : ((0 : Int) + (i : Nat)).toNat = i := by omega
      have hg : ns[i]? = some ns[i] := List.getElem?_eq_getElem hi'
      have hp := ok.pos ns[i] (List.getElem_mem hi')
      have ha : atI (ns.map V.int) (0 + (i : Nat)) = some (.int ns[i]) := at_ix z0 (by rw [zi]; exact get_map hg)
      walk_at "st"
      refine ⟨l, _, _, _, rfl, rfl, SqL.of (e1 _ _ hl), ha, ?_⟩
      walk_at "st"
      rw [decide_eq_false (show ¬ ns[i] < 0 by omega)]
      refine iteF ?_
      walk_at "st"
      refine ⟨l, _, _, _, rfl, rfl, SqL.of (e1 _ _ hl), ha, ?_⟩
      walk_at "st"
      refine ⟨_, rfl, ?_⟩
      obtain ⟨m, hm, hmm⟩ := take_ints ns (0 + (i : Nat))
      refine ⟨l, _, rfl, SqL.of (e1 _ _ hl), fun p np => ?_⟩
      rw [hm]
      refine ⟨p, _, rfl, .inl (SqL.of upd_same), rfl, flat_ints _, _, rfl, ?_⟩
      rw [inV_ints, decide_eq_false (fun z => ?_)]
      · refine iteF ?_
        walk_at "st"
        exact ⟨Same.new' e1 np, _, rfl⟩
      · obtain ⟨j, j1, j2⟩ := hmm _ z
        have j3 : j < i := by
          rw [show ((0 : Int) + (i : Nat)) = ((i : Nat) : Int) by omega, HT.sIx_nat] at j1
          omega
        have := nd_ix ok.nd j2 hg
        omega
    · rintro σ H1 ⟨e1, x1, rfl⟩
      exact k H1 e1
def spAskRope : Sp := fun vs H Q _ => ∃ (n : Nat) (p : Addr) (rp : Rope), vs = [.int n, .ref p] ∧ H p = some (.tup (Rope.v rp)) ∧ rp.Ok n ∧ Q .non H
theorem sc_ask_rope : FnScope ["size", "rope", "one", "other", "cost", "wires", "lets"] ["size", "rope"] (defScope s_ask_rope) := ⟨rfl, rfl, rfl, by decide +kernel, rfl, by decide +kernel, by decide +kernel⟩
theorem ok_ask_rope (T : Tx K mg) : Fn P w K mg base 1 (He.ga K "ask_rope") [] spAskRope := by
  refine mkFn T.F_ask_rope sc_ask_rope (fun _ _ _ _ _ _ us hl => match us, hl with | [_, _], _ => rfl) (fun vs H Q E h => ?_) (fun cdv A outer s H vs Q E hr h => ?_)
  · obtain ⟨n, p, rp, rfl, _⟩ := h; rfl
  · obtain ⟨n, p, rp, rfl, hp, ok, k⟩ := h
    have nd := sc_ask_rope.nd
    refine ⟨_, pss_cons (ps_asg (pv 1) (pg_tup rfl (pgs_cons (pg_name (i := 2) nd rfl (.inl rfl)) (pgs_cons (pg_name (i := 3) nd rfl (.inl rfl)) (pgs_cons (pg_name (i := 4) nd rfl (.inl rfl)) (pgs_cons (pg_name (i := 5) nd rfl (.inl rfl)) (pgs_cons (pg_name (i := 6) nd rfl (.inl rfl)) pgs_nil)))))))
      (pss_cons (ps_if (PW.pt (pw_or (pt_not (pt_chain op_le op_lt pe_int (pv 2) (pv 0))) (pw_or (pt_not (pt_chain op_le op_lt pe_int (pv 3) (pv 0))) (pw_or1 (pt_cmpR op_eq (pv 2) (pv 3) (nomark _)))))) (pss_one ps_never) pss_nil)
      (pss_one (ps_if (PW.pt (pw_or (pt_cmpR op_lt (pv 4) pe_int (nomark _)) (pw_or (pt_not (pt_chain op_le op_le pe_int (pv 5) pe_int)) (pw_or1 (pt_not (pt_chain op_le op_le pe_int (pv 6) pe_int)))))) (pss_one ps_never) pss_nil))), ?_⟩
    have a0 := ok.a0; have a1 := ok.a1; have b0 := ok.b0; have b1 := ok.b1; have ne := ok.ne; have c := ok.c; have w0 := ok.w0; have w1 := ok.w1; have l0 := ok.l0; have l1 := ok.l1
    walk_at "st"
    refine ⟨_, rfl, p, _, rfl, SqT.of hp, rfl, ?_⟩
    refine ⟨_, _, rfl, _, _, rfl, _, _, rfl, _, _, rfl, _, _, rfl, rfl, ?_⟩
    walk_at "st"
    rw [decide_eq_true a0]
    refine iteT ?_
    walk_at "st"
    rw [decide_eq_true a1]
    refine iteF ?_
    walk_at "st"
    rw [decide_eq_true b0]
    refine iteT ?_
    walk_at "st"
    rw [decide_eq_true b1]
    refine iteF ?_
    walk_at "st"
    refine ⟨rfl, _, rfl, ?_⟩
    rw [decide_eq_false (fun z => ne (V.int.inj z))]
    refine iteF ?_
    walk_at "st"
    rw [decide_eq_false (show ¬ rp.cost < 1 by omega)]
    refine iteF ?_
    walk_at "st"
    rw [decide_eq_true w0]
    refine iteT ?_
    walk_at "st"
    rw [decide_eq_true w1]
    refine iteF ?_
    walk_at "st"
    rw [decide_eq_true l0]
    refine iteT ?_
    walk_at "st"
    rw [decide_eq_true l1]
    refine iteF ?_
    walk_at "st"
    exact k
end
end Kn
set_option Elab.async false
set_option linter.all false
set_option maxRecDepth 100000
set_option maxHeartbeats 4000000
namespace Kn
open PySem L2
local macro_rules | `(tactic| walk_at "st") => `(tactic| repeat' (first
  | with_reducible refine r_seq ?_ | with_reducible refine r_set ?_ | with_reducible refine r_ret ?_ | with_reducible refine r_retN ?_ | with_reducible refine r_drop ?_ | with_reducible refine r_next ?_
  | with_reducible refine r_if ?_ | ((with_reducible refine r_var (v := ?_) ?hs ?_); (case hs => exact rfl)) | with_reducible refine r_c ?_ | with_reducible refine r_op ?_ | with_reducible refine r_I0 ?_
  | with_reducible refine r_test ?_ | with_reducible refine r_B ?_ | with_reducible refine ⟨_, (rfl : V.bl _ = V.bl _), ?_⟩ | with_reducible refine r_not ?_ | with_reducible refine r_or ?_ | with_reducible refine r_and ?_
  | with_reducible refine r_nil ?_ | with_reducible refine r_cons ?_ | with_reducible refine r_call ?_ | with_reducible refine r_cb ?_ | with_reducible refine r_tup ?_ | with_reducible refine r_lst ?_
  | with_reducible refine r_gname ?_ | with_reducible refine r_for ?_ | with_reducible refine r_iList ?_ | with_reducible refine r_iRng1 ?_ | with_reducible refine r_lc ?_ | with_reducible refine r_yes ?_
  | with_reducible refine r_chain ?_ | with_reducible refine r_sfld ?_ | with_reducible refine r_bm ?_ | with_reducible refine r_bm0 ?_ | with_reducible refine r_make ?_ | with_reducible refine r_sl ?_ | with_reducible refine r_nopart ?_ | with_reducible refine r_part ?_ | with_reducible refine r_iEnum ?_ | with_reducible refine r_iRng2 ?_))
def But (x : Addr) (H H' : Hp) : Prop := ∀ b o, H b = some o → b ≠ x → H' b = some o
theorem But.refl (x : Addr) (H : Hp) : But x H H := fun _ _ h _ => h
theorem But.trans {x : Addr} {H H1 H2 : Hp} (a : But x H H1) (b : But x H1 H2) : But x H H2 := fun c o h n => b c o (a c o h n) n
theorem But.self {x : Addr} {H : Hp} {o : HO} : But x H (upd H x o) := fun b u h n => by rw [upd_ne n]; exact h
theorem _root_.L2.Same.but {x : Addr} {H H' : Hp} (e : Same H H') : But x H H' := fun b o h _ => e b o h
theorem But.new {x p : Addr} {H : Hp} {o : HO} (h : H p = none) : But x H (upd H p o) := (Same.new h).but
theorem Tups.but {x : Addr} {H H' : Hp} {ps : List Addr} {xss : List (List V)} (h : Tups H ps xss) (e : But x H H') (hx : ∀ xs, H x ≠ some (.tup xs)) : Tups H' ps xss :=
  ⟨h.1, fun i p xs a b => e _ _ (h.2 i p xs a b) fun z => hx xs (z ▸ h.2 i p xs a b)⟩
theorem Lsts.but {x : Addr} {H H' : Hp} {ps : List Addr} {xss : List (List V)} (h : Lsts H ps xss) (e : But x H H') (hx : ∀ xs, H x ≠ some (.lst xs)) : Lsts H' ps xss :=
  ⟨h.1, fun i p xs a b => e _ _ (h.2 i p xs a b) fun z => hx xs (z ▸ h.2 i p xs a b)⟩
theorem szfA {K : PySem.W.Frag} {σ : L2.St} {H : Hp} {a C dx : Addr} {L : List Str} (L' : List Str) {vs : List V} (vs' : List V) {y : V} {f : Str} {R : L2.St → Hp → Prop} (ho : H a = some (.ins C dx (L.zip vs))) (c : Cls K C) (n : NoAttr K C f) (hl : L.findIdx? (fun g => f == g) = none) (hz : L.length = vs.length) (hs : L.length < 1000) (eL : L ++ [f] = L') (ev : vs ++ [y] = vs')
    (q : ∀ A, But a H A → A a = some (.ins C dx (L'.zip vs')) → R σ A) : ∃ a' C dx fs, V.ref a = .ref a' ∧ H a' = some (.ins C dx fs) ∧ Cls K C ∧ NoAttr K C f ∧ fs.length < 1000 ∧ R σ (upd H a' (.ins C dx (putF f y fs))) :=
  szf ho c n hl hz hs eL ev (q _ But.self upd_same)
theorem rope_ix {l : List Rope} {n : Nat} (h : ∀ r ∈ l, Rope.Ok r n) {i : Nat} {rp : Rope} (e : l[i]? = some rp) : rp.Ok n := h rp (List.mem_of_getElem? e)
theorem near_step {H H' : Hp} {nl : Addr} {pn : List Addr} {near : List (List Int)} {i z : Int} (e : Same H H') (hf : ∀ p ∈ pn, H p = none ∧ p ≠ nl) (hnd : pn.Nodup) (hnl : H' nl = some (.lst (pn.map .ref)))
    (hl : Lsts H' pn (near.map fun l => l.map .int)) (h0 : 0 ≤ z) (h1 : z < near.length) : ∃ q l, (pn.map V.ref)[z.toNat]? = some (.ref q) ∧ l ∈ near ∧ H' q = some (.lst (l.map .int)) ∧
      Same H (upd H' q (.lst (l.map .int ++ [.int i]))) ∧ upd H' q (.lst (l.map .int ++ [.int i])) nl = some (.lst (pn.map .ref)) ∧ Lsts (upd H' q (.lst (l.map .int ++ [.int i]))) pn ((near.set z.toNat (l ++ [i])).map fun l => l.map .int) := by
  obtain ⟨l, e1, e2⟩ := get_some h0 h1
  obtain ⟨q, q1, q2⟩ := hl.at (get_map (f := fun l : List Int => l.map V.int) e1)
  obtain ⟨f1, f2⟩ := hf q (List.mem_of_getElem? q1)
  refine ⟨q, l, get_map q1, e2, q2, Same.mut e f1, by rw [upd_ne (Ne.symm f2)]; exact hnl, ?_⟩
  have z := hl.set (ys := l.map .int ++ [.int i]) hnd q1
  rwa [List.map_set, List.map_append]
def NearOk (near : List (List Int)) (n c : Nat) : Prop := ∀ l ∈ near, l.length ≤ c ∧ ∀ r ∈ l, 0 ≤ r ∧ r < (n : Int)
theorem NearOk.step {near : List (List Int)} {n c n' : Nat} (h : NearOk near n c) (hn : n ≤ n') {j i : Nat} {l : List Int} (hl : l ∈ near) (hi : i < n') : NearOk (near.set j (l ++ [(i : Int)])) n' (c + 1) := fun m hm => by
  rcases List.mem_or_eq_of_mem_set hm with a | rfl
  · obtain ⟨h1, h2⟩ := h m a
    exact ⟨by omega, fun r hr => by have := h2 r hr; omega⟩
  · obtain ⟨h1, h2⟩ := h l hl
    refine ⟨by rw [List.length_append]; simpa using h1, fun r hr => ?_⟩
    rcases List.mem_append.mp hr with b | b
    · have := h2 r b; omega
    · rw [List.mem_singleton.mp b]; omega
section
variable {P : Program} {w : World} {K : PySem.W.Frag} {mg : Str → Option Value} {base : Heap}
def spTown (K : PySem.W.Frag) : Sp := fun vs H Q _ => ∃ x dx ln ns lr pk ropes, vs = [.ref x, .ref ln, .ref lr] ∧ H x = some (.ins (He.ga K "Town") dx []) ∧ H ln = some (.lst ((ns : List Int).map .int)) ∧ NamesOk ns ∧
  H lr = some (.lst ((pk : List Addr).map .ref)) ∧ Tups H pk ((ropes : List Rope).map Rope.v) ∧ ropes.length ≤ 20 ∧ (∀ r ∈ ropes, Rope.Ok r ns.length) ∧
  ∀ H' D, D.size = ns.length → D.ropes = ropes → TownAt K H' x D → But x H H' → Q .non H'
theorem sc_Town_init : FnScope ["self", "names", "ropes", "near", "number", "rope", "name"] ["self", "names", "ropes"] (defScope s_Town_init) := ⟨rfl, rfl, rfl, by decide +kernel, rfl, by decide +kernel, by decide +kernel⟩
theorem ok_Town_init (T : Tx K mg) : Fn P w K mg base 2 (He.ma K (He.ga K "Town") "__init__") [] (spTown K) := by
  refine mkFn T.F_Town_init sc_Town_init (fun _ _ _ _ _ _ us hl => match us, hl with | [_, _, _], _ => rfl) (fun vs H Q E h => ?_) (fun cdv A outer s H vs Q E hr h => ?_)
  · obtain ⟨x, dx, ln, ns, lr, pk, ropes, rfl, _⟩ := h; rfl
  · obtain ⟨x, dx, ln, ns, lr, pk, ropes, rfl, hx, hln, nok, hlr, hpk, hz, hrp, k⟩ := h
    obtain ⟨tk, gM⟩ := T.i_MOST_ROPES
    have nd := sc_Town_init.nd
    refine ⟨_, pss_cons (ps_expr (cf (ok_ask_names T) hr T.g_ask_names passL (pa_cons (pv 1) pa_nil)))
      (pss_cons (ps_if (pt_cmpR op_gt (pe_callB call_len (by rfl) T.b_len PySem.boot_len (pa_cons (pv 2) pa_nil)) (pe_glob (v := .int 20) (by rfl) gM ⟨_, rfl⟩) (nomark _)) (pss_one ps_never) pss_nil)
      (pss_cons (ps_setLc (i := 3) (own := [("name", 6)]) (g := gName 6) rfl nd rfl rfl (sw_true rfl rfl rfl (by decide +kernel)) (pi_list (pv 1)) (blkOk_by (N := ["self", "names", "ropes", "near", "number", "rope", "name"]) (sc := defScope s_Town_init) (by decide +kernel))
        (fun _ _ _ _ _ => pg_name (i := 6) nd rfl (Or.inl rfl)) (fun _ _ _ _ _ => pts_nil) (fun _ _ _ _ _ => pe_lst pa_nil))
      (pss_cons (ps_for (passes_of rfl) rfl (pi_enum (by rfl) T.b_enumerate (pa_cons (pv 2) pa_nil)) (pg_tup rfl (pgs_cons (pg_name (i := 4) nd rfl (.inl rfl)) (pgs_cons (pg_name (i := 5) nd rfl (.inl rfl)) pgs_nil)))
        (pss_cons (ps_expr (cf (ok_ask_rope T) hr T.g_ask_rope passL (pa_cons (pe_callB call_len (by rfl) T.b_len PySem.boot_len (pa_cons (pv 1) pa_nil)) (pa_cons (pv 5) pa_nil))))
        (pss_cons (ps_expr (pe_bm PySem.F.plainAttrs_list PySem.F.slot_list_append PySem.F.type_list_append mt_append (pe_ix ix_list (pv 3) (pe_ix ix_tup (pv 5) pe_int (fun _ _ => rfl)) (fun _ _ => rfl)) (pa_cons (pv 4) pa_nil)))
        (pss_one (ps_expr (pe_bm PySem.F.plainAttrs_list PySem.F.slot_list_append PySem.F.type_list_append mt_append (pe_ix ix_list (pv 3) (pe_ix ix_tup (pv 5) pe_int (fun _ _ => rfl)) (fun _ _ => rfl)) (pa_cons (pv 4) pa_nil)))))))
      (pss_cons (ps_fld (pv 0) (pe_callB call_len (by rfl) T.b_len PySem.boot_len (pa_cons (pv 1) pa_nil)) rfl)
      (pss_cons (ps_fld (pv 0) (pe_callB call_len (by rfl) T.b_len PySem.boot_len (pa_cons (pv 2) pa_nil)) rfl)
      (pss_cons (ps_fld (pv 0) (pe_callTy call_list_of (by rfl) T.b_list (by decide +kernel) (pa_cons (pv 1) pa_nil)) rfl)
      (pss_cons (ps_fld (pv 0) (pe_callTy call_list_of (by rfl) T.b_list (by decide +kernel) (pa_cons (pv 2) pa_nil)) rfl)
      (pss_one (ps_fld (pv 0) (pv 3) rfl))))))))), ?_⟩
    have hlen : (ns.map V.int).length = ns.length := List.length_map _
    have hlp : (pk.map V.ref).length = ropes.length := by rw [List.length_map, hpk.1, List.length_map]
    have n2 := nok.s2
    walk_at "st"
    refine ⟨ln, ns, rfl, hln, nok, fun H1 e1 => ?_⟩
    walk_at "st"
    refine ⟨_, _, rfl, .inl ⟨_, SqL.of (e1 _ _ hlr), rfl⟩, ?_⟩
    walk_at "st"
    rw [decide_eq_false (show ¬ (20 : Int) < (((pk.map V.ref).length : Nat) : Int) by rw [hlp]; omega)]
    refine iteF ?_
    walk_at "st"
    refine ⟨ln, rfl, ⟨_, SqL.of (e1 _ _ hln)⟩, fun nl nnl => ?_⟩
    refine lc_it walk_list (fun i H' => Same H1 H' ∧ ∃ pn : List Addr, H' nl = some (.lst (pn.map .ref)) ∧ Lsts H' pn (List.replicate i []) ∧ pn.Nodup ∧ ∀ p ∈ pn, H1 p = none ∧ p ≠ nl)
      ⟨Same.new nnl, [], upd_same, .nil, List.nodup_nil, fun p h => by simp at h⟩ (fun i H' _ ⟨e, _⟩ => e.seq (SqL.of (e1 _ _ hln))) ?_ ?_
    · rintro i y H2 H2' hi ⟨e2, pn, hp, hl, hnd, hf⟩ ⟨rfl, _⟩
      walk_at "st"
      refine ⟨rfl, ?_⟩
      walk_at "st"
      refine iteT ?_
      walk_at "st"
      refine ⟨szl (by show 0 ≤ 100000; decide), fun q nq => ?_⟩
      have nql : nl ≠ q := ne_of_none hp nq
      have e3 : Same H2' (upd H2' q (.lst [])) := Same.new nq
      refine ⟨_, e3 _ _ hp, sll (by have := hl.1; rw [List.length_map, this, List.length_replicate]; rw [hlen] at hi; omega), ?_⟩
      have hfr : ∀ p ∈ pn, p ≠ q := fun p m z => by
        obtain ⟨j, hj⟩ := List.mem_iff_getElem?.mp m
        have hj2 : j < i := by have := (List.getElem?_eq_some_iff.mp hj).1; have := hl.1; rw [List.length_replicate] at this; omega
        have := hl.2 j p [] hj (by rw [List.getElem?_replicate, if_pos hj2])
        rw [z, nq] at this; cases this
      refine ⟨Same.mut (e2.trans e3) nnl, pn ++ [q], by rw [List.map_append]; exact upd_same, ?_, ?_, fun p m => ?_⟩
      · rw [List.replicate_succ']
        have hl3 : Lsts (upd (upd H2' q (.lst [])) nl (.lst (pn.map V.ref ++ [V.ref q]))) pn (List.replicate i []) := ⟨hl.1, fun j p xs a b => by
          rw [upd_ne (hf p (List.mem_of_getElem? a)).2]
          exact e3 _ _ (hl.2 j p xs a b)⟩
        exact hl3.snoc (by rw [upd_ne (Ne.symm nql)]; exact upd_same)
      · exact nd_snoc hnd fun m => hfr q m rfl
      · rcases List.mem_append.mp m with a | a
        · exact hf p a
        · rw [List.mem_singleton.mp a]
          exact ⟨(e2).free nq, Ne.symm nql⟩
    · rintro H2 ⟨e2, pn, hp, hl, hnd, hf⟩
      rw [hlen] at hl
      have e02 : Same H H2 := e1.trans e2
      walk_at "st"
      refine ⟨lr, _, rfl, SqL.of (e02 _ _ hlr), ?_⟩
      refine for_it walk_enum (fun i σ H' => ∃ (near : List (List Int)) (x4 x5 : Option V), Same H H' ∧ σ = [some (.ref x), some (.ref ln), some (.ref lr), some (.ref nl), x4, x5, none] ∧ H' nl = some (.lst (pn.map .ref)) ∧ Lsts H' pn (near.map fun l => l.map .int) ∧
          near.length = ns.length ∧ NearOk near i (2 * i))
        ⟨List.replicate ns.length [], none, none, e02, rfl, hp, by rw [List.map_replicate]; exact hl, List.length_replicate, fun l h => by rw [List.eq_of_mem_replicate h]; exact ⟨Nat.zero_le _, fun r m => by simp at m⟩⟩
        (fun i σ H' _ ⟨_, _, _, e, _⟩ => e.seq (SqL.of hlr)) ?_ ?_
      · rintro i y σ H3 H3' hi ⟨near, x4, x5, e3, rfl, hnl, hl3, hn, hnr⟩ ⟨Tp, a, b, rfl, nT, rfl, ha, hb⟩
        cases ha
        have hi' : i < ropes.length := by rw [hlp] at hi; exact hi
        have hrg : ropes[i]? = some ropes[i] := List.getElem?_eq_getElem hi'
        obtain ⟨p, p1, p2⟩ := hpk.at (get_map (f := Rope.v) hrg)
        obtain rfl : b = .ref p := (Option.some.inj ((get_map (f := V.ref) p1).symm.trans hb)).symm
        have rok := rope_ix hrp hrg
        have e4 : Same H3 (upd H3 Tp (.tup [.int (i : Nat), .ref p])) := Same.new nT
        have hp4 := e4 _ _ (e3 _ _ p2)
        refine ⟨Tp, _, rfl, SqT.of upd_same, rfl, ?_⟩
        refine ⟨_, _, rfl, _, _, rfl, rfl, ?_⟩
        walk_at "st"
        refine ⟨_, _, rfl, .inl ⟨_, SqL.of (e4 _ _ (e3 _ _ hln)), rfl⟩, ?_⟩
        walk_at "st"
        refine ⟨ns.length, p, ropes[i], by rw [hlen]; rfl, hp4, rok, ?_⟩
        have hf' : ∀ p ∈ pn, H p = none ∧ p ≠ nl := fun p m => ⟨e1.free (hf p m).1, (hf p m).2⟩
        have hl4 : Lsts (upd H3 Tp (.tup [.int (i : Nat), .ref p])) pn (near.map fun l => l.map .int) := hl3.mono e4
        obtain ⟨q, l, q1, q2, q3, q4, q5, q6⟩ := near_step (i := (i : Nat)) (e3.trans e4) hf' hnd (e4 _ _ hnl) hl4 rok.a0 (by rw [hn]; exact rok.a1)
        walk_at "st"
        refine ⟨p, _, 0, _, rfl, rfl, SqT.of hp4, at_ix (by decide) rfl, ?_⟩
        refine ⟨nl, _, _, _, rfl, rfl, SqL.of (e4 _ _ hnl), at_ix rok.a0 q1, ?_⟩
        refine ⟨.inl ⟨rfl, _, SqL.of q3⟩, ?_⟩
        walk_at "st"
        have lz := (hnr l q2).1
        refine ⟨q, _, _, rfl, rfl, q3, sll (by rw [List.length_map]; omega), ?_⟩
        walk_at "st"
        have hp5 := q4 _ _ p2
        have hn1 : (near.set (ropes[i]).one.toNat (l ++ [((i : Nat) : Int)])).length = ns.length := by rw [List.length_set, hn]
        have ok1 := hnr.step (n' := i + 1) (by omega) (j := (ropes[i]).one.toNat) q2 (Nat.lt_succ_self i)
        obtain ⟨r, m, r1, r2, r3, r4, r5, r6⟩ := near_step (i := (i : Nat)) q4 hf' hnd q5 q6 rok.b0 (by rw [hn1]; exact rok.b1)
        refine ⟨p, _, 1, _, rfl, rfl, SqT.of hp5, at_ix (by decide) rfl, ?_⟩
        refine ⟨nl, _, _, _, rfl, rfl, SqL.of q5, at_ix rok.b0 r1, ?_⟩
        refine ⟨.inl ⟨rfl, _, SqL.of r3⟩, ?_⟩
        walk_at "st"
        have lz2 := (ok1 m r2).1
        refine ⟨r, _, _, rfl, rfl, r3, sll (by rw [List.length_map]; omega), ?_⟩
        exact ⟨_, _, _, r4, rfl, r5, r6, by rw [List.length_set, hn1], ok1.step (n' := i + 1) (Nat.le_refl _) r2 (Nat.lt_succ_self i)⟩
      · rintro σ H3 ⟨near, x4, x5, e3, rfl, hnl, hl3, hn, hnr⟩
        have hx3 := e3 _ _ hx
        rw [hlp] at hnr
        walk_at "st"
        refine ⟨_, _, rfl, .inl ⟨_, SqL.of (e3 _ _ hln), rfl⟩, ?_⟩
        walk_at "st"
        have nlr : lr ≠ x := ne_of hlr hx (by intro z; cases z)
        have nln : ln ≠ x := ne_of hln hx (by intro z; cases z)
        have nnl : nl ≠ x := ne_of hnl hx3 (by intro z; cases z)
        refine szfA (L := []) ["size"] (vs := []) [_] hx3 T.c_Town T.n_Town_size (by decide +kernel) rfl (by decide) rfl rfl fun A1 bA1 xA1 => ?_
        walk_at "st"
        refine ⟨_, _, rfl, .inl ⟨_, SqL.of (bA1 _ _ (e3 _ _ hlr) nlr), rfl⟩, ?_⟩
        walk_at "st"
        refine szfA ["size", "many"] [_, _] xA1 T.c_Town T.n_Town_many (by decide +kernel) rfl (by decide) rfl rfl fun A2 bA2 xA2 => ?_
        have b2 := (e3.but (x := x)).trans (bA1.trans bA2)
        walk_at "st"
        refine ⟨ln, _, rfl, .inl (SqL.of (b2 _ _ hln nln)), fun l1 nl1 => ?_⟩
        walk_at "st"
        have e5 : Same A2 (upd A2 l1 (.lst (ns.map V.int))) := Same.new nl1
        refine szfA ["size", "many", "names"] [_, _, _] (e5 _ _ xA2) T.c_Town T.n_Town_names (by decide +kernel) rfl (by decide) rfl rfl fun A3 bA3 xA3 => ?_
        have b3 := b2.trans (e5.but.trans bA3)
        have nl1x : l1 ≠ x := (ne_of_none xA2 nl1).symm
        walk_at "st"
        refine ⟨lr, _, rfl, .inl (SqL.of (b3 _ _ hlr nlr)), fun l2 nl2 => ?_⟩
        walk_at "st"
        have e6 : Same A3 (upd A3 l2 (.lst (pk.map V.ref))) := Same.new nl2
        refine szfA ["size", "many", "names", "kept"] [_, _, _, _] (e6 _ _ xA3) T.c_Town T.n_Town_kept (by decide +kernel) rfl (by decide) rfl rfl fun A4 bA4 xA4 => ?_
        have nl2x : l2 ≠ x := (ne_of_none xA3 nl2).symm
        walk_at "st"
        refine szfA townL [_, _, _, _, _] xA4 T.c_Town T.n_Town_near (by decide +kernel) rfl (by decide) rfl rfl fun A5 bA5 xA5 => ?_
        have b5 : But x H3 A5 := ((((bA1.trans bA2).trans e5.but).trans bA3).trans e6.but).trans (bA4.trans bA5)
        have h1 : A5 l1 = some (.lst (ns.map V.int)) := bA5 _ _ (bA4 _ _ (e6 _ _ (bA3 _ _ upd_same nl1x)) nl1x) nl1x
        have h2 : A5 l2 = some (.lst (pk.map V.ref)) := bA5 _ _ (bA4 _ _ upd_same nl2x) nl2x
        refine k A5 ⟨ns.length, ns, ropes, near⟩ rfl rfl ⟨⟨nok.s1, nok.s2, rfl, hz, hn, fun r m => ?_, fun l m => ?_⟩, dx, l1, l2, nl, pk, pn, ?_, h1, h2, ?_, b5 _ _ hnl nnl, ?_⟩ (e3.but.trans b5)
        · have z := hrp r m
          exact ⟨z.a0, z.a1, z.b0, z.b1, z.w0, z.w1⟩
        · have z := hnr l m
          exact ⟨by omega, z.2⟩
        · rw [xA5, hlen, hlp]
        · exact hpk.but (e3.but.trans b5) fun xs z => by rw [hx] at z; cases z
        · exact hl3.but b5 fun xs z => by rw [hx3] at z; cases z
end
end Kn
set_option Elab.async false
set_option linter.all false
set_option maxRecDepth 100000
set_option maxHeartbeats 4000000
namespace Kn
open PySem L2
local macro_rules | `(tactic| walk_at "st") => `(tactic| repeat' (first
  | with_reducible refine r_seq ?_ | with_reducible refine r_set ?_ | with_reducible refine r_ret ?_ | with_reducible refine r_retN ?_ | with_reducible refine r_drop ?_ | with_reducible refine r_next ?_
  | with_reducible refine r_if ?_ | ((with_reducible refine r_var (v := ?_) ?hs ?_); (case hs => exact rfl)) | with_reducible refine r_c ?_ | with_reducible refine r_op ?_ | with_reducible refine r_I0 ?_
  | with_reducible refine r_test ?_ | with_reducible refine r_B ?_ | with_reducible refine ⟨_, (rfl : V.bl _ = V.bl _), ?_⟩ | with_reducible refine r_not ?_ | with_reducible refine r_or ?_ | with_reducible refine r_and ?_
  | with_reducible refine r_nil ?_ | with_reducible refine r_cons ?_ | with_reducible refine r_call ?_ | with_reducible refine r_cb ?_ | with_reducible refine r_tup ?_ | with_reducible refine r_lst ?_
  | with_reducible refine r_gname ?_ | with_reducible refine r_for ?_ | with_reducible refine r_iList ?_ | with_reducible refine r_iRng1 ?_ | with_reducible refine r_lc ?_ | with_reducible refine r_yes ?_
  | with_reducible refine r_chain ?_ | with_reducible refine r_sfld ?_ | with_reducible refine r_bm ?_ | with_reducible refine r_bm0 ?_ | with_reducible refine r_make ?_ | with_reducible refine r_sl ?_ | with_reducible refine r_nopart ?_ | with_reducible refine r_part ?_ | with_reducible refine r_iEnum ?_ | with_reducible refine r_iRng2 ?_))
/-! The net's state in the heap. -/
structure Cn where
  t : Addr
  D : TownD
  s : Addr
  su : Addr
  pl : Addr
  people : List (Int × Int)
  tb : Addr
  bk : Addr
structure NS where
  rows : Nat → List Row
  up : Nat → List Bool
  news : List Int
  ks : Nat
  ns : Nat
  stories : Nat → List (List V)
  hands : List (List V)
  air : List (List V)
  clean : Bool
  cap : Nat
/-- the places that change -/
inductive Lb where
  | net | table (g : Nat) | book (g : Nat) | kept (g : Nat) | wires (r : Nat) | news | sent | stories | story (i : Nat) | hands | done | air
  deriving DecidableEq
def Dom (C : Cn) (S : NS) : Lb → Prop
  | .table g => g < 3
  | .book g => g < 3
  | .kept g => g < 3
  | .wires r => r < C.D.ropes.length
  | .story i => i < S.ns
  | _ => True
def netL : List Str := ["people", "town", "strands", "tables", "books", "news_by", "sent", "stories", "hands", "done", "air"]
def strandsL : List Str := ["town", "up"]
def bookL : List Str := ["kept"]
def letterL : List Str := ["sender"]
def SentOk (K : PySem.W.Frag) (G : Hp) (v : V) : Prop := ∃ p l dl, ∃ g age snd : Int, v = .ref p ∧ G p = some (.tup [.ref l, .int g, .int age]) ∧ 0 ≤ g ∧ g < 3 ∧ G l = some (.ins (He.ga K "ToAll") dl (letterL.zip [.int snd]))
theorem SentOk.mono {K : PySem.W.Frag} {G G' : Hp} {v : V} (h : SentOk K G v) (e : Same G G') : SentOk K G' v := by
  obtain ⟨p, l, dl, g, age, snd, h1, h2, h3, h4, h5⟩ := h
  exact ⟨p, l, dl, g, age, snd, h1, e _ _ h2, h3, h4, e _ _ h5⟩
def netV (C : Cn) (A : Lb → Addr) : List V := [.ref C.pl, .ref C.t, .ref C.s, .ref C.tb, .ref C.bk, .ref (A .news), .ref (A .sent), .ref (A .stories), .ref (A .hands), .ref (A .done), .ref (A .air)]
/-- what stands at a place -/
def Ct (K : PySem.W.Frag) (G : Hp) (C : Cn) (A : Lb → Addr) (S : NS) : Lb → HO → Prop
  | .net, o => ∃ dx, o = .ins (He.ga K "Net") dx (netL.zip (netV C A))
  | .table g, o => ∃ ps : List Addr, o = .lst (ps.map .ref) ∧ Tups G ps ((S.rows g).map Row.v)
  | .book g, o => ∃ dx, o = .ins (He.ga K "Book") dx (bookL.zip [.ref (A (.kept g))])
  | .kept _, o => ∃ kvs, o = .dT kvs ∧ kvs.length ≤ S.cap ∧ (S.clean = true → kvs = [])
  | .wires r, o => o = .lst ((S.up r).map .bl)
  | .news, o => o = .lst (S.news.map .int)
  | .sent, o => ∃ vs, o = .lst vs ∧ vs.length = S.ks ∧ ∀ v ∈ vs, SentOk K G v
  | .stories, o => o = .lst ((List.range S.ns).map fun i => .ref (A (.story i)))
  | .story i, o => ∃ ps : List Addr, o = .lst (ps.map .ref) ∧ Tups G ps (S.stories i)
  | .hands, o => ∃ ps : List Addr, o = .lst (ps.map .ref) ∧ Tups G ps S.hands
  | .done, o => ∃ kvs, o = .dT kvs ∧ kvs.length ≤ S.cap
  | .air, o => ∃ ps : List Addr, o = .lst (ps.map .ref) ∧ Tups G ps S.air
theorem Ct.mono {K : PySem.W.Frag} {G G' : Hp} {C : Cn} {A : Lb → Addr} {S : NS} {l : Lb} {o : HO} (h : Ct K G C A S l o) (e : Same G G') : Ct K G' C A S l o := by
  cases l with
  | net => exact h
  | table g => obtain ⟨ps, h1, h2⟩ := h; exact ⟨ps, h1, h2.mono e⟩
  | book g => exact h
  | kept g => exact h
  | wires r => exact h
  | news => exact h
  | sent => obtain ⟨vs, h1, h2, h3⟩ := h; exact ⟨vs, h1, h2, fun v m => (h3 v m).mono e⟩
  | stories => exact h
  | story i => obtain ⟨ps, h1, h2⟩ := h; exact ⟨ps, h1, h2.mono e⟩
  | hands => obtain ⟨ps, h1, h2⟩ := h; exact ⟨ps, h1, h2.mono e⟩
  | done => exact h
  | air => obtain ⟨ps, h1, h2⟩ := h; exact ⟨ps, h1, h2.mono e⟩
theorem Ct.notTup {K : PySem.W.Frag} {G : Hp} {C : Cn} {A : Lb → Addr} {S : NS} {l : Lb} {xs : List V} (h : Ct K G C A S l (.tup xs)) : False := by
  cases l with
  | net => obtain ⟨_, h⟩ := h; cases h
  | table g => obtain ⟨_, h, _⟩ := h; cases h
  | book g => obtain ⟨_, h⟩ := h; cases h
  | kept g => obtain ⟨_, h, _⟩ := h; cases h
  | wires r => have h : HO.tup xs = _ := h; cases h
  | news => have h : HO.tup xs = _ := h; cases h
  | sent => obtain ⟨_, h, _⟩ := h; cases h
  | stories => have h : HO.tup xs = _ := h; cases h
  | story i => obtain ⟨_, h, _⟩ := h; cases h
  | hands => obtain ⟨_, h, _⟩ := h; cases h
  | done => obtain ⟨_, h, _⟩ := h; cases h
  | air => obtain ⟨_, h, _⟩ := h; cases h
/-- what never changes -/
structure Fix (K : PySem.W.Frag) (G : Hp) (C : Cn) (A : Lb → Addr) : Prop where
  town : TownAt K G C.t C.D
  str : ∃ dx, G C.s = some (.ins (He.ga K "Strands") dx (strandsL.zip [.ref C.t, .ref C.su]))
  su : G C.su = some (.lst ((List.range C.D.ropes.length).map fun r => .ref (A (.wires r))))
  ppl : ∃ ps : List Addr, G C.pl = some (.lst (ps.map .ref)) ∧ Tups G ps (C.people.map fun q => [.int q.1, .int q.2])
  tb : G C.tb = some (.lst ((List.range 3).map fun g => .ref (A (.table g))))
  bk : G C.bk = some (.lst ((List.range 3).map fun g => .ref (A (.book g))))
  pok : ∀ q ∈ C.people, 0 ≤ q.1 ∧ q.1 < C.D.size ∧ 0 ≤ q.2 ∧ q.2 < 3
  pl : C.people.length ≤ 20
theorem Fix.mono {K : PySem.W.Frag} {G G' : Hp} {C : Cn} {A : Lb → Addr} (h : Fix K G C A) (e : Same G G') : Fix K G' C A := by
  obtain ⟨h1, ⟨dx, h2⟩, h3, ⟨ps, h4, h5⟩, h6, h7, h8, h9⟩ := h
  exact ⟨h1.mono e, ⟨dx, e _ _ h2⟩, e _ _ h3, ⟨ps, e _ _ h4, h5.mono e⟩, e _ _ h6, e _ _ h7, h8, h9⟩
theorem Fix.lab {K : PySem.W.Frag} {G : Hp} {C : Cn} {A A' : Lb → Addr} (h : Fix K G C A) (h1 : ∀ r, A' (.wires r) = A (.wires r)) (h2 : ∀ g, A' (.table g) = A (.table g)) (h3 : ∀ g, A' (.book g) = A (.book g)) : Fix K G C A' := by
  obtain ⟨q1, q2, q3, q4, q5, q6, q7, q8⟩ := h
  refine ⟨q1, q2, ?_, q4, ?_, ?_, q7, q8⟩
  · rw [q3]; simp only [h1]
  · rw [q5]; simp only [h2]
  · rw [q6]; simp only [h3]
structure NetAt (K : PySem.W.Frag) (G H : Hp) (C : Cn) (A : Lb → Addr) (S : NS) : Prop where
  fix : Fix K G C A
  same : Same G H
  out : ∀ l, Dom C S l → G (A l) = none
  inj : ∀ l l', Dom C S l → Dom C S l' → A l = A l' → l = l'
  has : ∀ l, Dom C S l → ∃ o, H (A l) = some o ∧ Ct K G C A S l o
section
variable {K : PySem.W.Frag} {G H H' : Hp} {C : Cn} {A : Lb → Addr} {S S' : NS} {l : Lb} {o : HO} {p : Addr}
theorem NetAt.ext (N : NetAt K G H C A S) (e : Same H H') : NetAt K G H' C A S :=
  ⟨N.fix, N.same.trans e, N.out, N.inj, fun l d => let ⟨o, h1, h2⟩ := N.has l d; ⟨o, e _ _ h1, h2⟩⟩
theorem NetAt.free (N : NetAt K G H C A S) (hp : H p = none) : ∀ l, Dom C S l → A l ≠ p := fun l d z => by
  obtain ⟨o, h1, _⟩ := N.has l d
  rw [z, hp] at h1; cases h1
theorem NetAt.grow (N : NetAt K G H C A S) (hp : H p = some o) (no : ∀ l, Dom C S l → A l ≠ p) : NetAt K (upd G p o) H C A S := by
  have e : Same G (upd G p o) := fun a u h => by
    by_cases q : a = p
    · subst q
      have := N.same _ _ h
      rw [hp] at this; cases this
      exact upd_same
    · rw [upd_ne q]; exact h
  exact ⟨N.fix.mono e, Same.up N.same hp, fun l d => by rw [upd_ne (no l d)]; exact N.out l d, N.inj, fun l d => let ⟨o, h1, h2⟩ := N.has l d; ⟨o, h1, h2.mono e⟩⟩
theorem NetAt.growT {xs : List V} (N : NetAt K G H C A S) (hp : H p = some (.tup xs)) : NetAt K (upd G p (.tup xs)) H C A S := N.grow hp fun l d z => by
  obtain ⟨o, h1, h2⟩ := N.has l d
  rw [z, hp] at h1
  cases h1
  exact h2.notTup
/-- a place is written -/
theorem NetAt.set (N : NetAt K G H C A S) (hl : Dom C S l) (hd : ∀ l, Dom C S' l → Dom C S l) (c : Ct K G C A S' l o) (oth : ∀ l' o', l' ≠ l → Dom C S l' → Ct K G C A S l' o' → Ct K G C A S' l' o') : NetAt K G (upd H (A l) o) C A S' := by
  refine ⟨N.fix, Same.mut N.same (N.out l hl), fun l' d => N.out l' (hd l' d), fun a b da db => N.inj a b (hd a da) (hd b db), fun l' d => ?_⟩
  by_cases e : l' = l
  · subst e
    exact ⟨o, upd_same, c⟩
  · obtain ⟨o', h1, h2⟩ := N.has l' (hd l' d)
    refine ⟨o', ?_, oth l' o' e (hd l' d) h2⟩
    rw [upd_ne fun z => e (N.inj l' l (hd l' d) hl z)]
    exact h1
/-- a place is laid anew at p, which is new -/
theorem NetAt.lay {A' : Lb → Addr} (N : NetAt K G H C A S) (hp : H p = none) (hA : A' l = p) (hA' : ∀ l', l' ≠ l → A' l' = A l') (hd : ∀ l', Dom C S' l' → l' ≠ l → Dom C S l') (c : Ct K G C A' S' l o)
    (oth : ∀ l' o', l' ≠ l → Dom C S l' → Ct K G C A S l' o' → Ct K G C A' S' l' o') (fx : Fix K G C A') : NetAt K G (upd H p o) C A' S' := by
  have e : Same H (upd H p o) := Same.new hp
  refine ⟨fx, N.same.trans e, fun l' d => ?_, fun a b da db z => ?_, fun l' d => ?_⟩
  · by_cases q : l' = l
    · rw [q, hA]; exact N.same.free hp
    · rw [hA' l' q]; exact N.out l' (hd l' d q)
  · by_cases qa : a = l
    · by_cases qb : b = l
      · rw [qa, qb]
      · rw [qa, hA, hA' b qb] at z
        exact absurd z.symm (N.free hp b (hd b db qb))
    · by_cases qb : b = l
      · rw [qb, hA, hA' a qa] at z
        exact absurd z (N.free hp a (hd a da qa))
      · rw [hA' a qa, hA' b qb] at z
        exact N.inj a b (hd a da qa) (hd b db qb) z
  · by_cases q : l' = l
    · rw [q, hA]
      exact ⟨o, upd_same, c⟩
    · obtain ⟨o', h1, h2⟩ := N.has l' (hd l' d q)
      rw [hA' l' q]
      exact ⟨o', e _ _ h1, oth l' o' q (hd l' d q) h2⟩
end
end Kn
set_option Elab.async false
set_option linter.all false
set_option maxRecDepth 100000
set_option maxHeartbeats 4000000
namespace Kn
open PySem L2
local macro_rules | `(tactic| walk_at "st") => `(tactic| repeat' (first
  | with_reducible refine r_seq ?_ | with_reducible refine r_set ?_ | with_reducible refine r_ret ?_ | with_reducible refine r_retN ?_ | with_reducible refine r_drop ?_ | with_reducible refine r_next ?_
  | with_reducible refine r_if ?_ | ((with_reducible refine r_var (v := ?_) ?hs ?_); (case hs => exact rfl)) | with_reducible refine r_c ?_ | with_reducible refine r_op ?_ | with_reducible refine r_I0 ?_
  | with_reducible refine r_test ?_ | with_reducible refine r_B ?_ | with_reducible refine ⟨_, (rfl : V.bl _ = V.bl _), ?_⟩ | with_reducible refine r_not ?_ | with_reducible refine r_or ?_ | with_reducible refine r_and ?_
  | with_reducible refine r_nil ?_ | with_reducible refine r_cons ?_ | with_reducible refine r_call ?_ | with_reducible refine r_cb ?_ | with_reducible refine r_tup ?_ | with_reducible refine r_lst ?_
  | with_reducible refine r_gname ?_ | with_reducible refine r_for ?_ | with_reducible refine r_iList ?_ | with_reducible refine r_iRng1 ?_ | with_reducible refine r_lc ?_ | with_reducible refine r_yes ?_
  | with_reducible refine r_chain ?_ | with_reducible refine r_sfld ?_ | with_reducible refine r_bm ?_ | with_reducible refine r_bm0 ?_ | with_reducible refine r_make ?_ | with_reducible refine r_sl ?_ | with_reducible refine r_nopart ?_ | with_reducible refine r_part ?_ | with_reducible refine r_iEnum ?_ | with_reducible refine r_iRng2 ?_))
/-! Strands. -/
def CanTurn (C : Cn) (S : NS) (r j : Int) (b : Bool) : Prop := 0 ≤ r ∧ r < C.D.ropes.length ∧ 0 ≤ j ∧ j < (S.up r.toNat).length ∧ (S.up r.toNat)[j.toNat]? = some (!b)
def goneB (l : List Bool) : Bool := !inV (.bl true) (l.map .bl)
theorem flat_bls (l : List Bool) : (l.map V.bl).all flatV = true := by
  induction l with
  | nil => rfl
  | cons a l ih => rw [List.map_cons, List.all_cons, ih]; rfl
def liveF (D : TownD) (up : Nat → List Bool) (g : Int) : List Int :=
  ((List.range D.ropes.length).filter fun r => inV (.bl true) ((up r).map .bl) && (match D.ropes[r]? with | some rp => letsB rp g | none => false)).map Int.ofNat
section
variable {P : Program} {w : World} {K : PySem.W.Frag} {mg : Str → Option Value} {base : Heap}
def XNo (K : PySem.W.Frag) (n : Str) (H : Hp) (E : XK) : Prop := ∀ H', Same H H' → E (.ref (He.ga K n)) none H'
def spWires (K : PySem.W.Frag) : Sp := fun vs H Q E => ∃ (G : Hp) (C : Cn) (A : Lb → Addr) (S : NS) (r : Int), vs = [.ref C.s, .int r] ∧ NetAt K G H C A S ∧
  (0 ≤ r → r < C.D.ropes.length → H (A (.wires r.toNat)) = some (.lst ((S.up r.toNat).map .bl)) → Q (.ref (A (.wires r.toNat))) H) ∧ (¬(0 ≤ r ∧ r < C.D.ropes.length) → E (.ref (He.ga K "NoWire")) none H)
theorem NetAt.strands {G H : Hp} {C : Cn} {A : Lb → Addr} {S : NS} (N : NetAt K G H C A S) : ∃ dx, H C.s = some (.ins (He.ga K "Strands") dx (strandsL.zip [.ref C.t, .ref C.su])) ∧ H C.su = some (.lst ((List.range C.D.ropes.length).map fun r => .ref (A (.wires r)))) := by
  obtain ⟨dx, h⟩ := N.fix.str
  exact ⟨dx, N.same _ _ h, N.same _ _ N.fix.su⟩
theorem NetAt.wires {G H : Hp} {C : Cn} {A : Lb → Addr} {S : NS} (N : NetAt K G H C A S) {r : Nat} (h : r < C.D.ropes.length) : H (A (.wires r)) = some (.lst ((S.up r).map .bl)) := by
  obtain ⟨o, h1, h2⟩ := N.has (.wires r) h
  have h2 : o = _ := h2
  rw [h1, h2]
theorem range_ix {α : Type} {f : Nat → α} {n : Nat} {z : Int} (h0 : 0 ≤ z) (h1 : z < n) : ((List.range n).map f)[z.toNat]? = some (f z.toNat) := by
  have h : z.toNat < n := by omega
  rw [List.getElem?_map, List.getElem?_range h]; rfl
theorem sc_wires_of : FnScope ["self", "rope"] ["self", "rope"] (defScope s_Strands_wires_of) := ⟨rfl, rfl, rfl, by decide +kernel, rfl, by decide +kernel, by decide +kernel⟩
theorem ok_wires_of (T : Tx K mg) : Fn P w K mg base 1 (He.ma K (He.ga K "Strands") "wires_of") [] (spWires K) := by
  refine mkFn T.F_Strands_wires_of sc_wires_of (fun _ _ _ _ _ _ us hl => match us, hl with | [_, _], _ => rfl) (fun vs H Q E h => ?_) (fun cdv A outer s H vs Q E hr h => ?_)
  · obtain ⟨G, C, A, S, r, rfl, _⟩ := h; rfl
  · obtain ⟨G, C, A, S, r, rfl, N, k1, k2⟩ := h
    refine ⟨_, pss_cons (ps_if (pt_not (pt_chain op_le op_lt pe_int (pv 1) (pe_callB call_len (by rfl) T.b_len PySem.boot_len (pa_cons (pf (pv 0)) pa_nil)))) (pss_one (pRaise rfl (takes_of rfl rfl rfl rfl) T.x_NoWire T.g_NoWire)) pss_nil)
      (pss_one (ps_ret (pe_ix ix_list (pf (pv 0)) (pv 1) (fun _ _ => rfl)))), ?_⟩
    obtain ⟨dx, h1, h2⟩ := N.strands
    walk_at "st"
    by_cases c0 : 0 ≤ r
    · rw [decide_eq_true c0]
      refine iteT ?_
      refine fz h1 T.c_Strands T.n_Strands_up (i := 1) (by decide +kernel) rfl ?_
      walk_at "st"
      refine ⟨_, _, rfl, .inl ⟨_, SqL.of h2, rfl⟩, ?_⟩
      walk_at "st"
      rw [List.length_map, List.length_range]
      by_cases c1 : r < C.D.ropes.length
      · rw [decide_eq_true c1]
        refine iteF ?_
        walk_at "st"
        refine fz h1 T.c_Strands T.n_Strands_up (i := 1) (by decide +kernel) rfl ?_
        walk_at "st"
        refine ⟨_, _, r, _, rfl, rfl, SqL.of h2, at_ix c0 (range_ix c0 c1), ?_⟩
        exact k1 c0 c1 (N.wires (by omega))
      · rw [decide_eq_false c1]
        refine iteT ?_
        exact k2 fun z => c1 z.2
    · rw [decide_eq_false c0]
      refine iteF ?_
      refine ⟨_, rfl, ?_⟩
      refine iteT ?_
      exact k2 fun z => c0 z.1
def spTurn (K : PySem.W.Frag) : Sp := fun vs H Q E => ∃ (G : Hp) (C : Cn) (A : Lb → Addr) (S : NS) (r j : Int) (b : Bool), vs = [.ref C.s, .int r, .int j, .bl b] ∧ NetAt K G H C A S ∧
  (CanTurn C S r j b → Q .non (upd H (A (.wires r.toNat)) (.lst (((S.up r.toNat).set j.toNat b).map .bl)))) ∧ (¬CanTurn C S r j b → E (.ref (He.ga K "NoWire")) none H)
theorem sc_turn : FnScope ["self", "rope", "wire", "stands", "wires"] ["self", "rope", "wire", "stands"] (defScope s_Strands_turn) := ⟨rfl, rfl, rfl, by decide +kernel, rfl, by decide +kernel, by decide +kernel⟩
theorem ok_turn (T : Tx K mg) : Fn P w K mg base 2 (He.ma K (He.ga K "Strands") "turn") [] (spTurn K) := by
  refine mkFn T.F_Strands_turn sc_turn (fun _ _ _ _ _ _ us hl => match us, hl with | [_, _, _, _], _ => rfl) (fun vs H Q E h => ?_) (fun cdv A outer s H vs Q E hr h => ?_)
  · obtain ⟨G, C, A, S, r, j, b, rfl, _⟩ := h; rfl
  · obtain ⟨G, C, A, S, r, j, b, rfl, N, k1, k2⟩ := h
    refine ⟨_, pss_cons (ps_set (i := 4) sc_turn.nd rfl (.inl rfl) (cm (pv 0) T.c_Strands T.m_Strands_wires_of (ok_wires_of T) hr pX (pa_cons (pv 1) pa_nil)))
      (pss_cons (ps_if (PW.pt (pw_or (pt_not (pt_chain op_le op_lt pe_int (pv 2) (pe_callB call_len (by rfl) T.b_len PySem.boot_len (pa_cons (pv 4) pa_nil)))) (pw_or1 (pt_cmpR op_eq (pe_ix ix_list (pv 4) (pv 2) (fun _ _ => rfl)) (pv 3) (nomark _)))))
        (pss_one (pRaise rfl (takes_of rfl rfl rfl rfl) T.x_NoWire T.g_NoWire)) pss_nil)
      (pss_one (ps_asg (pv 3) (pg_sub (pv 4) (pv 2) set_list (fun _ => rfl))))), ?_⟩
    obtain ⟨dx, h1, h2⟩ := N.strands
    walk_at "st"
    refine mz h1 (by decide +kernel) ?_
    walk_at "st"
    refine ⟨G, C, _, S, r, rfl, N, fun r0 r1 hw => ?_, fun c => k2 fun z => c ⟨z.1, z.2.1⟩⟩
    walk_at "st"
    by_cases c0 : 0 ≤ j
    · rw [decide_eq_true c0]
      refine iteT ?_
      walk_at "st"
      refine ⟨_, _, rfl, .inl ⟨_, SqL.of hw, rfl⟩, ?_⟩
      walk_at "st"
      rw [List.length_map]
      by_cases c1 : j < (S.up r.toNat).length
      · rw [decide_eq_true c1]
        refine iteF ?_
        walk_at "st"
        obtain ⟨u, hu, _⟩ := get_some c0 c1
        refine ⟨_, _, j, _, rfl, rfl, SqL.of hw, at_ix c0 (get_map (f := V.bl) hu), ?_⟩
        walk_at "st"
        refine ⟨rfl, _, rfl, ?_⟩
        by_cases e : u = b
        · rw [decide_eq_true (show V.bl u = V.bl b by rw [e])]
          refine iteT ?_
          refine k2 fun z => ?_
          have := z.2.2.2.2
          rw [hu, e] at this
          cases b <;> cases this
        · rw [decide_eq_false (fun z => e (V.bl.inj z))]
          refine iteF ?_
          walk_at "st"
          refine ⟨_, rfl, _, rfl, _, rfl, _, _, j, j.toNat, rfl, rfl, hw, ix_ok c0 (by rw [List.length_map]; exact c1), ?_⟩
          have z := k1 ⟨r0, r1, c0, c1, by rw [hu]; cases u <;> cases b <;> first | rfl | exact absurd rfl e⟩
          rw [List.map_set] at z
          exact z
      · rw [decide_eq_false c1]
        refine iteT ?_
        exact k2 fun z => c1 z.2.2.2.1
    · rw [decide_eq_false c0]
      refine iteF ?_
      refine ⟨_, rfl, ?_⟩
      refine iteT ?_
      refine iteT ?_
      exact k2 fun z => c0 z.2.2.1
end
end Kn
set_option Elab.async false
set_option linter.all false
set_option maxRecDepth 100000
set_option maxHeartbeats 4000000
namespace Kn
open PySem L2
local macro_rules | `(tactic| walk_at "st") => `(tactic| repeat' (first
  | with_reducible refine r_seq ?_ | with_reducible refine r_set ?_ | with_reducible refine r_ret ?_ | with_reducible refine r_retN ?_ | with_reducible refine r_drop ?_ | with_reducible refine r_next ?_
  | with_reducible refine r_if ?_ | ((with_reducible refine r_var (v := ?_) ?hs ?_); (case hs => exact rfl)) | with_reducible refine r_c ?_ | with_reducible refine r_op ?_ | with_reducible refine r_I0 ?_
  | with_reducible refine r_test ?_ | with_reducible refine r_B ?_ | with_reducible refine ⟨_, (rfl : V.bl _ = V.bl _), ?_⟩ | with_reducible refine r_not ?_ | with_reducible refine r_or ?_ | with_reducible refine r_and ?_
  | with_reducible refine r_nil ?_ | with_reducible refine r_cons ?_ | with_reducible refine r_call ?_ | with_reducible refine r_cb ?_ | with_reducible refine r_tup ?_ | with_reducible refine r_lst ?_
  | with_reducible refine r_gname ?_ | with_reducible refine r_for ?_ | with_reducible refine r_iList ?_ | with_reducible refine r_iRng1 ?_ | with_reducible refine r_lc ?_ | with_reducible refine r_yes ?_
  | with_reducible refine r_chain ?_ | with_reducible refine r_sfld ?_ | with_reducible refine r_bm ?_ | with_reducible refine r_bm0 ?_ | with_reducible refine r_make ?_ | with_reducible refine r_sl ?_ | with_reducible refine r_nopart ?_ | with_reducible refine r_part ?_ | with_reducible refine r_iEnum ?_ | with_reducible refine r_iRng2 ?_))
def tTru (K : PySem.W.Frag) (ta : TE) : TT := fun σ H Q => ta σ H fun x H' => ∃ k, TruV K x H' k ∧ Q k H'
theorem pTru {X : Cx} {a : Expr} {ta : TE} (ha : PE X a ta) (he : ∀ whole, isTrue a X.env whole = (do let v ← whole; standAt a.pos; holding [v] (truthy v)) := by exact fun _ => rfl) : PT X a (tTru X.K ta) := pt_truth ha he
theorem r_tru {K : PySem.W.Frag} {ta : TE} {σ : L2.St} {H : Hp} {Q : Bool → Hp → Prop} (h : ta σ H fun x H' => ∃ k, TruV K x H' k ∧ Q k H') : tTru K ta σ H Q := h
section
variable {P : Program} {w : World} {K : PySem.W.Frag} {mg : Str → Option Value} {base : Heap}
def spSFall (K : PySem.W.Frag) : Sp := fun vs H Q E => ∃ (G : Hp) (C : Cn) (A : Lb → Addr) (S : NS) (r j : Int), vs = [.ref C.s, .int r, .int j] ∧ NetAt K G H C A S ∧
  (CanTurn C S r j false → Q (.bl (goneB ((S.up r.toNat).set j.toNat false))) (upd H (A (.wires r.toNat)) (.lst (((S.up r.toNat).set j.toNat false).map .bl)))) ∧ (¬CanTurn C S r j false → E (.ref (He.ga K "NoWire")) none H)
theorem sc_sfall : FnScope ["self", "rope", "wire"] ["self", "rope", "wire"] (defScope s_Strands_fall) := ⟨rfl, rfl, rfl, by decide +kernel, rfl, by decide +kernel, by decide +kernel⟩
theorem NetAt.str_ne {G H : Hp} {C : Cn} {A : Lb → Addr} {S : NS} (N : NetAt K G H C A S) {l : Lb} {a : Addr} {o : HO} (d : Dom C S l) (h : G a = some o) : a ≠ A l := fun z => by
  have := N.out l d
  rw [← z, h] at this; cases this
theorem ok_sfall (T : Tx K mg) : Fn P w K mg base 3 (He.ma K (He.ga K "Strands") "fall") [] (spSFall K) := by
  refine mkFn T.F_Strands_fall sc_sfall (fun _ _ _ _ _ _ us hl => match us, hl with | [_, _, _], _ => rfl) (fun vs H Q E h => ?_) (fun cdv A outer s H vs Q E hr h => ?_)
  · obtain ⟨G, C, A, S, r, j, rfl, _⟩ := h; rfl
  · obtain ⟨G, C, A, S, r, j, rfl, N, k1, k2⟩ := h
    refine ⟨_, pss_cons (ps_expr (cm (pv 0) T.c_Strands T.m_Strands_turn (ok_turn T) hr pX (pa_cons (pv 1) (pa_cons (pv 2) (pa_cons pe_bl pa_nil)))))
      (pss_one (ps_ret (pe_cmpR op_notIn_seq pe_bl (pe_ix ix_list (pf (pv 0)) (pv 1) (fun _ _ => rfl)) (by rfl)))), ?_⟩
    obtain ⟨dx, h1, h2⟩ := N.strands
    walk_at "st"
    refine mz h1 (by decide +kernel) ?_
    walk_at "st"
    refine ⟨G, C, _, S, r, j, false, rfl, N, fun c => ?_, k2⟩
    obtain ⟨r0, r1, c0, c1, c2⟩ := id c
    have e : Same G (upd H (A (.wires r.toNat)) (.lst (((S.up r.toNat).set j.toNat false).map .bl))) := Same.mut N.same (N.out (.wires r.toNat) (by show r.toNat < _; omega))
    obtain ⟨dx', h3⟩ := N.fix.str
    walk_at "st"
    refine fz (e _ _ h3) T.c_Strands T.n_Strands_up (i := 1) (by decide +kernel) rfl ?_
    walk_at "st"
    refine ⟨_, _, r, _, rfl, rfl, SqL.of (e _ _ N.fix.su), at_ix r0 (range_ix r0 r1), ?_⟩
    refine ⟨_, _, rfl, .inl (SqL.of upd_same), rfl, flat_bls _, ?_⟩
    exact k1 c
def spSLay (K : PySem.W.Frag) : Sp := fun vs H Q E => ∃ (G : Hp) (C : Cn) (A : Lb → Addr) (S : NS) (r j : Int), vs = [.ref C.s, .int r, .int j] ∧ NetAt K G H C A S ∧
  (CanTurn C S r j true → Q (.bl (goneB (S.up r.toNat))) (upd H (A (.wires r.toNat)) (.lst (((S.up r.toNat).set j.toNat true).map .bl)))) ∧ (¬CanTurn C S r j true → E (.ref (He.ga K "NoWire")) none H)
theorem sc_slay : FnScope ["self", "rope", "wire", "gone"] ["self", "rope", "wire"] (defScope s_Strands_lay) := ⟨rfl, rfl, rfl, by decide +kernel, rfl, by decide +kernel, by decide +kernel⟩
theorem ok_slay (T : Tx K mg) : Fn P w K mg base 3 (He.ma K (He.ga K "Strands") "lay") [] (spSLay K) := by
  refine mkFn T.F_Strands_lay sc_slay (fun _ _ _ _ _ _ us hl => match us, hl with | [_, _, _], _ => rfl) (fun vs H Q E h => ?_) (fun cdv A outer s H vs Q E hr h => ?_)
  · obtain ⟨G, C, A, S, r, j, rfl, _⟩ := h; rfl
  · obtain ⟨G, C, A, S, r, j, rfl, N, k1, k2⟩ := h
    refine ⟨_, pss_cons (ps_set (i := 3) sc_slay.nd rfl (.inl rfl) (pe_cmpR op_notIn_seq pe_bl (cm (pv 0) T.c_Strands T.m_Strands_wires_of (ok_wires_of T) hr pX (pa_cons (pv 1) pa_nil)) (by rfl)))
      (pss_cons (ps_expr (cm (pv 0) T.c_Strands T.m_Strands_turn (ok_turn T) hr pX (pa_cons (pv 1) (pa_cons (pv 2) (pa_cons pe_bl pa_nil)))))
      (pss_one (ps_ret (pv 3)))), ?_⟩
    obtain ⟨dx, h1, h2⟩ := N.strands
    walk_at "st"
    refine mz h1 (by decide +kernel) ?_
    walk_at "st"
    refine ⟨G, C, _, S, r, rfl, N, fun r0 r1 hw => ?_, fun c => k2 fun z => c ⟨z.1, z.2.1⟩⟩
    refine ⟨_, _, rfl, .inl (SqL.of hw), rfl, flat_bls _, ?_⟩
    walk_at "st"
    refine mz h1 (by decide +kernel) ?_
    walk_at "st"
    refine ⟨G, C, _, S, r, j, true, rfl, N, fun c => ?_, k2⟩
    walk_at "st"
    exact k1 c
/-- which wires stand -/
def spStanding (K : PySem.W.Frag) : Sp := fun vs H Q E => ∃ (G : Hp) (C : Cn) (A : Lb → Addr) (S : NS) (r : Int), vs = [.ref C.s, .int r] ∧ NetAt K G H C A S ∧ 0 ≤ r ∧ r < C.D.ropes.length ∧ (S.up r.toNat).length ≤ 4 ∧
  ∀ ms : List Int, ms.length ≤ 4 → NewL (ms.map .int) H Q
theorem sc_standing : FnScope ["self", "rope", "wire", "stands"] ["self", "rope"] (defScope s_Strands_standing) := ⟨rfl, rfl, rfl, by decide +kernel, rfl, by decide +kernel, by decide +kernel⟩
theorem ok_standing (T : Tx K mg) : Fn P w K mg base 2 (He.ma K (He.ga K "Strands") "standing") [] (spStanding K) := by
  refine mkFn T.F_Strands_standing sc_standing (fun _ _ _ _ _ _ us hl => match us, hl with | [_, _], _ => rfl) (fun vs H Q E h => ?_) (fun cdv A outer s H vs Q E hr h => ?_)
  · obtain ⟨G, C, A, S, r, rfl, _⟩ := h; rfl
  · obtain ⟨G, C, A, S, r, rfl, N, r0, r1, hu, k⟩ := h
    have nd := sc_standing.nd
    refine ⟨_, pss_one (ps_ret (pe_lc (own := [("wire", 2), ("stands", 3)]) (g := gTup K 2 (gCons (gName 2) (gCons (gName 3) gNil))) rfl nd (pi_enum (by rfl) T.b_enumerate (pa_cons (cm (pv 0) T.c_Strands T.m_Strands_wires_of (ok_wires_of T) hr pX (pa_cons (pv 1) pa_nil)) pa_nil))
      (blkOk_by (N := ["self", "rope", "wire", "stands"]) (sc := defScope s_Strands_standing) (by decide +kernel))
      (fun _ _ _ _ _ => pg_tup rfl (pgs_cons (pg_name (i := 2) nd rfl (Or.inl rfl)) (pgs_cons (pg_name (i := 3) nd rfl (Or.inl rfl)) pgs_nil))) (fun _ _ _ _ _ => pts_one (pTru (X := _) (ta := tVar 3) (pv 3) : PT _ _ (tTru K (tVar 3)))) (fun _ _ _ _ _ => pv 2))), ?_⟩
    obtain ⟨dx, h1, h2⟩ := N.strands
    walk_at "st"
    refine mz h1 (by decide +kernel) ?_
    walk_at "st"
    refine ⟨G, C, _, S, r, rfl, N, fun _ _ hw => ?_, fun c => absurd ⟨r0, r1⟩ c⟩
    refine ⟨_, _, rfl, SqL.of hw, fun p np => ?_⟩
    refine lc_it walk_enum (fun i H' => Same H H' ∧ ∃ ms : List Int, H' p = some (.lst (ms.map .int)) ∧ ms.length ≤ i)
      ⟨Same.new np, [], upd_same, Nat.le_refl _⟩ (fun i H' _ ⟨e, _⟩ => e.seq (SqL.of hw)) ?_ ?_
    · rintro i x H1 H1' hi ⟨e1, ms, hp, hl⟩ ⟨Tp, a, b, rfl, nT, rfl, ha, hb⟩
      cases ha
      have hi' : i < (S.up r.toNat).length := by rw [List.length_map] at hi; exact hi
      obtain ⟨u, hu2⟩ : ∃ u, (S.up r.toNat)[i]? = some u := ⟨_, List.getElem?_eq_getElem hi'⟩
      obtain rfl : b = .bl u := (Option.some.inj ((get_map (f := V.bl) hu2).symm.trans hb)).symm
      have e4 : Same H1 (upd H1 Tp (.tup [.int (i : Nat), .bl u])) := Same.new nT
      refine ⟨Tp, _, rfl, SqT.of upd_same, rfl, ?_⟩
      refine ⟨_, _, rfl, _, _, rfl, rfl, ?_⟩
      refine ⟨rfl, ?_⟩
      refine r_tru ?_
      walk_at "st"
      refine ⟨_, (rfl : _ = _), ?_⟩
      cases u with
      | false =>
        refine iteF ?_
        exact ⟨e1.trans e4, ms, e4 _ _ hp, by omega⟩
      | true =>
        refine iteT ?_
        walk_at "st"
        refine ⟨_, e4 _ _ hp, sll (by rw [List.length_map]; omega), Same.mut (e1.trans e4) np, ms ++ [(i : Int)], by rw [List.map_append]; exact upd_same, by rw [List.length_append]; simpa using hl⟩
    · rintro H1 ⟨e1, ms, hp, hl⟩
      exact k ms (by rw [List.length_map] at hl; omega) p H1 np e1 hp
end
end Kn
set_option Elab.async false
set_option linter.all false
set_option maxRecDepth 100000
set_option maxHeartbeats 4000000
namespace Kn
open PySem L2
local macro_rules | `(tactic| walk_at "st") => `(tactic| repeat' (first
  | with_reducible refine r_seq ?_ | with_reducible refine r_set ?_ | with_reducible refine r_ret ?_ | with_reducible refine r_retN ?_ | with_reducible refine r_drop ?_ | with_reducible refine r_next ?_
  | with_reducible refine r_if ?_ | ((with_reducible refine r_var (v := ?_) ?hs ?_); (case hs => exact rfl)) | with_reducible refine r_c ?_ | with_reducible refine r_op ?_ | with_reducible refine r_I0 ?_
  | with_reducible refine r_test ?_ | with_reducible refine r_B ?_ | with_reducible refine ⟨_, (rfl : V.bl _ = V.bl _), ?_⟩ | with_reducible refine r_not ?_ | with_reducible refine r_or ?_ | with_reducible refine r_and ?_
  | with_reducible refine r_nil ?_ | with_reducible refine r_cons ?_ | with_reducible refine r_call ?_ | with_reducible refine r_cb ?_ | with_reducible refine r_tup ?_ | with_reducible refine r_lst ?_
  | with_reducible refine r_gname ?_ | with_reducible refine r_for ?_ | with_reducible refine r_iList ?_ | with_reducible refine r_iRng1 ?_ | with_reducible refine r_lc ?_ | with_reducible refine r_yes ?_
  | with_reducible refine r_chain ?_ | with_reducible refine r_sfld ?_ | with_reducible refine r_bm ?_ | with_reducible refine r_bm0 ?_ | with_reducible refine r_make ?_ | with_reducible refine r_sl ?_ | with_reducible refine r_nopart ?_ | with_reducible refine r_part ?_ | with_reducible refine r_iEnum ?_ | with_reducible refine r_iRng2 ?_))
theorem rep_bls (n : Nat) : (List.replicate n [V.bl true]).flatten = (List.replicate n true).map V.bl := by
  induction n with
  | zero => rfl
  | succ n ih => rw [List.replicate_succ, List.flatten_cons, ih, List.replicate_succ]; rfl
def intsD (l : List Int) : List PyData := l.map .int
theorem dp_ints {K : PySem.W.Frag} {H : Hp} (l : List Int) : DpAll K H (l.map .int) (intsD l) := by
  induction l with
  | nil => exact .nil
  | cons a l ih => exact .cons (.int a) ih
/-- data that lay out, at most n deep -/
def Lay (n : Nat) (d : PyData) : Prop := d.canLay0 = true ∧ d.depth ≤ n
def LayAll (n : Nat) (ds : List PyData) : Prop := PyData.canLayAll0 ds = true ∧ PyData.depthAll ds ≤ n
theorem LayAll.nil {n : Nat} : LayAll n [] := ⟨by simp [PyData.canLayAll0], by simp [PyData.depthAll]⟩
theorem LayAll.cons {n : Nat} {d : PyData} {ds : List PyData} (h : Lay n d) (hs : LayAll n ds) : LayAll n (d :: ds) := by
  refine ⟨by simp only [PyData.canLayAll0, h.1, hs.1, Bool.and_self], ?_⟩
  have a := h.2
  have b := hs.2
  simp only [PyData.depthAll]
  omega
theorem LayAll.of {n : Nat} {ds : List PyData} (h : ∀ d ∈ ds, Lay n d) : LayAll n ds := by
  induction ds with
  | nil => exact .nil
  | cons d ds ih => exact .cons (h d (.head _)) (ih fun e he => h e (.tail _ he))
theorem Lay.list {n : Nat} {ds : List PyData} (h : LayAll n ds) : Lay (n + 1) (.list ds) := by
  have b := h.2
  refine ⟨by simp only [PyData.canLay0, h.1], ?_⟩
  simp only [PyData.depth]
  omega
theorem Lay.tup {n : Nat} {ds : List PyData} (h : LayAll n ds) : Lay (n + 1) (.tuple ds) := by
  have b := h.2
  refine ⟨by simp only [PyData.canLay0, h.1], ?_⟩
  simp only [PyData.depth]
  omega
theorem Lay.sh {n : Nat} {d : PyData} (h : Lay n d) (hn : n ≤ 64) : SeqAt.shaped d = true := by
  unfold SeqAt.shaped
  rw [h.1, decide_eq_true (Nat.le_trans h.2 hn)]; rfl
theorem Lay.mono {n m : Nat} {d : PyData} (h : Lay n d) (hn : n ≤ m) : Lay m d := ⟨h.1, Nat.le_trans h.2 hn⟩
theorem lay_int {n : Nat} (i : Int) : Lay n (.int i) := ⟨by simp [PyData.canLay0], by simp [PyData.depth]⟩
theorem lay_non {n : Nat} : Lay n .none := ⟨by simp [PyData.canLay0], by simp [PyData.depth]⟩
theorem lay_ints (l : List Int) : LayAll 0 (intsD l) := .of fun d h => by
  obtain ⟨i, _, rfl⟩ := List.mem_map.mp h
  exact lay_int i
theorem shape_ints (l : List Int) : SeqAt.shaped (.list (intsD l)) = true := (Lay.list (lay_ints l)).sh (by decide)
section
variable {P : Program} {w : World} {K : PySem.W.Frag} {mg : Str → Option Value} {base : Heap}
def spWireFor (K : PySem.W.Frag) : Sp := fun vs H Q E => ∃ (G : Hp) (C : Cn) (A : Lb → Addr) (S : NS) (r n : Int), vs = [.ref C.s, .int r, .int n] ∧ NetAt K G H C A S ∧ 0 ≤ r ∧ r < C.D.ropes.length ∧ (S.up r.toNat).length ≤ 4 ∧
  ∀ o H', Same H H' → Q (oV o) H'
theorem sc_wire_for : FnScope ["self", "rope", "number", "wires"] ["self", "rope", "number"] (defScope s_Strands_wire_for) := ⟨rfl, rfl, rfl, by decide +kernel, rfl, by decide +kernel, by decide +kernel⟩
theorem ok_wire_for (T : Tx K mg) : Fn P w K mg base 3 (He.ma K (He.ga K "Strands") "wire_for") [] (spWireFor K) := by
  refine mkFn T.F_Strands_wire_for sc_wire_for (fun _ _ _ _ _ _ us hl => match us, hl with | [_, _, _], _ => rfl) (fun vs H Q E h => ?_) (fun cdv A outer s H vs Q E hr h => ?_)
  · obtain ⟨G, C, A, S, r, n, rfl, _⟩ := h; rfl
  · obtain ⟨G, C, A, S, r, n, rfl, N, r0, r1, hu, k⟩ := h
    refine ⟨_, pss_cons (ps_set (i := 3) sc_wire_for.nd rfl (.inl rfl) (cm (pv 0) T.c_Strands T.m_Strands_standing (ok_standing T) hr passL (pa_cons (pv 1) pa_nil)))
      (pss_cons (ps_if (pt_cmpR (op_eqD hr.units) (pv 3) (pe_lst pa_nil) (nomark _)) (pss_one (ps_ret pe_non)) pss_nil)
      (pss_one (ps_ret (pe_ix ix_list (pv 3) (pe_op op_mod (pv 2) (pe_callB call_len (by rfl) T.b_len PySem.boot_len (pa_cons (pv 3) pa_nil))) (fun _ _ => rfl))))), ?_⟩
    obtain ⟨dx, h1, h2⟩ := N.strands
    walk_at "st"
    refine mz h1 (by decide +kernel) ?_
    walk_at "st"
    refine ⟨G, C, A, S, r, rfl, N, r0, r1, hu, fun ms hm p H1 np e1 hp => ?_⟩
    walk_at "st"
    refine ⟨szl (by show 0 ≤ 100000; decide), fun q nq => ?_⟩
    have e2 : Same H1 (upd H1 q (.lst [])) := Same.new nq
    refine ⟨_, _, Dp.lst (SqL.of (e2 _ _ hp)) (dp_ints ms), Dp.lst (SqL.of upd_same) .nil, shape_ints ms, rfl, ?_⟩
    walk_at "st"
    cases ms with
    | nil =>
      refine ite2 (fun _ => ?_) (fun z => absurd rfl z)
      walk_at "st"
      exact k none _ (e1.trans e2)
    | cons m ms =>
      refine ite2 (fun z => absurd (show false = true from z) (by decide)) (fun _ => ?_)
      walk_at "st"
      refine ⟨_, _, rfl, .inl ⟨_, SqL.of (e2 _ _ hp), rfl⟩, ?_⟩
      refine ⟨_, _, rfl, rfl, by show (0 : Int) < _; rw [List.length_map, List.length_cons]; omega, ?_⟩
      have l0 : (0 : Int) < (((m :: ms).map V.int).length : Nat) := by rw [List.length_map, List.length_cons]; omega
      have z0 := Int.emod_nonneg n (Int.ne_of_gt l0)
      have z1 := Int.emod_lt_of_pos n l0
      rw [List.length_map] at z1
      refine ⟨p, _, _, _, rfl, rfl, SqL.of (e2 _ _ hp), at_ix z0 (get_int (by rw [List.length_map]; exact Int.emod_nonneg n (by rw [List.length_cons]; omega)) (by rw [List.length_map] at *; exact z1)), ?_⟩
      exact k (some _) _ (e1.trans e2)
def spLive (K : PySem.W.Frag) : Sp := fun vs H Q E => ∃ (G : Hp) (C : Cn) (A : Lb → Addr) (S : NS) (g : Int), vs = [.ref C.s, .int g] ∧ NetAt K G H C A S ∧
  (0 ≤ g → g < 3 → NewL ((liveF C.D S.up g).map .int) H Q) ∧ (¬(0 ≤ g ∧ g < 3) → E (.ref (He.ga K "NoGroup")) none H)
theorem sc_live : FnScope ["self", "group", "rope"] ["self", "group"] (defScope s_Strands_live) := ⟨rfl, rfl, rfl, by decide +kernel, rfl, by decide +kernel, by decide +kernel⟩
theorem filt_snoc {p : Nat → Bool} {i : Nat} : (((List.range (i + 1)).filter p).map Int.ofNat) = (((List.range i).filter p).map Int.ofNat) ++ (if p i = true then [(i : Int)] else []) := by
  rw [List.range_succ, List.filter_append, List.map_append]
  congr 1
  by_cases h : p i = true
  · rw [if_pos h, List.filter_cons_of_pos h]; rfl
  · rw [if_neg h, List.filter_cons_of_neg h]; rfl
theorem ok_live (T : Tx K mg) : Fn P w K mg base 2 (He.ma K (He.ga K "Strands") "live") [] (spLive K) := by
  refine mkFn T.F_Strands_live sc_live (fun _ _ _ _ _ _ us hl => match us, hl with | [_, _], _ => rfl) (fun vs H Q E h => ?_) (fun cdv A outer s H vs Q E hr h => ?_)
  · obtain ⟨G, C, A, S, g, rfl, _⟩ := h; rfl
  · obtain ⟨G, C, A, S, g, rfl, N, k1, k2⟩ := h
    have nd := sc_live.nd
    refine ⟨_, pss_cons (ps_if (pt_not (pt_chain op_le op_le pe_int (pv 1) pe_int)) (pss_one (pRaise rfl (takes_of rfl rfl rfl rfl) T.x_NoGroup T.g_NoGroup)) pss_nil)
      (pss_one (ps_ret (pe_lc (own := [("rope", 2)]) (g := gName 2) rfl nd (pi_range1 (by rfl) T.b_range (pa_cons (pe_callB call_len (by rfl) T.b_len PySem.boot_len (pa_cons (pf (pv 0)) pa_nil)) pa_nil))
      (blkOk_by (N := ["self", "group", "rope"]) (sc := defScope s_Strands_live) (by decide +kernel))
      (fun _ _ _ _ _ => pg_name (i := 2) nd rfl (Or.inl rfl))
      (fun _ _ _ _ _ => pts_one (PW.pt (pw_and (pt_cmpR (r := rIn K false) op_in_seq pe_bl (pe_ix (r := rIxL K) (ta := tFld K (tVar 0) "up") ix_list (pf (pv 0)) (pv 2) (fun _ _ => rfl)) (by rfl))
        (pw_and1 (pTru (X := _) (ta := tMeth (He.ga K "Town") "lets" (spLets K) [] E0 (tFld K (tVar 0) "town") (tCons (tVar 2) (tCons (tVar 1) tNil))) (cm (pf (pv 0)) T.c_Town T.m_Town_lets (ok_Town_lets T) hr passL (pa_cons (pv 2) (pa_cons (pv 1) pa_nil))) : PT _ _ (tTru K _))))))
      (fun _ _ _ _ _ => pv 2)))), ?_⟩
    obtain ⟨dx, h1, h2⟩ := N.strands
    have hT := N.fix.town.mono N.same
    walk_at "st"
    by_cases c0 : 0 ≤ g
    · rw [decide_eq_true c0]
      refine iteT ?_
      walk_at "st"
      by_cases c1 : g ≤ 2
      · rw [decide_eq_true c1]
        refine iteF ?_
        walk_at "st"
        refine fz h1 T.c_Strands T.n_Strands_up (i := 1) (by decide +kernel) rfl ?_
        walk_at "st"
        refine ⟨_, _, rfl, .inl ⟨_, SqL.of h2, rfl⟩, ?_⟩
        walk_at "st"
        rw [List.length_map, List.length_range]
        have rl := N.fix.town.ok.rl
        refine ⟨_, rfl, by omega, by omega, fun p np => ?_⟩
        refine lc_it walk_range (fun i H' => Same H H' ∧ H' p = some (.lst (((((List.range i).filter fun r => inV (.bl true) ((S.up r).map .bl) && (match C.D.ropes[r]? with | some rp => letsB rp g | none => false)).map Int.ofNat)).map .int)))
          ⟨Same.new np, upd_same⟩ (fun _ _ _ _ => trivial) ?_ ?_
        · rintro i x H1 H1' hi ⟨e1, hp⟩ ⟨rfl, rfl⟩
          have hi' : i < C.D.ropes.length := by omega
          have N1 := N.ext e1
          obtain ⟨dx1, g1, g2⟩ := N1.strands
          have zi : ((0 : Int) + (i : Nat)).toNat = i := by omega
          have fl : ∀ {p : Nat → Bool}, ((((List.range i).filter p).map Int.ofNat).map V.int).length < 100000 := fun {p} => by
            have := List.length_filter_le p (List.range i)
            rw [List.length_range] at this
            rw [List.length_map, List.length_map]; omega
          walk_at "st"
          refine ⟨rfl, ?_⟩
          refine r_and ?_
          walk_at "st"
          refine fz g1 T.c_Strands T.n_Strands_up (i := 1) (by decide +kernel) rfl ?_
          walk_at "st"
          refine ⟨_, _, _, _, rfl, rfl, SqL.of g2, at_ix (by omega) (range_ix (by omega) (by omega)), ?_⟩
          refine ⟨_, _, rfl, .inl (SqL.of (N1.wires (by omega))), rfl, flat_bls _, _, rfl, ?_⟩
          rw [filt_snoc, List.map_append, zi]
          refine ite2 (fun c => ?_) (fun c => ?_)
          · refine r_tru ?_
            walk_at "st"
            obtain ⟨dt, la, lk, lr, pk, pn, ht, _⟩ := (hT.mono e1).ex
            refine fz g1 T.c_Strands T.n_Strands_town (i := 0) (by decide +kernel) rfl ?_
            refine ⟨_, _, _, rfl, ht, znone (by decide +kernel), ?_⟩
            walk_at "st"
            refine ⟨C.t, C.D, _, g, rfl, hT.mono e1, by omega, by omega, c0, fun rp hrp => ?_⟩
            rw [zi] at hrp
            refine ⟨_, rfl, ?_⟩
            refine ite2 (fun c2 => ?_) (fun c2 => ?_)
            · walk_at "st"
              refine ⟨_, hp, sll fl, Same.mut e1 np, ?_⟩
              rw [upd_same, if_pos (show (inV (.bl true) ((S.up i).map .bl) && (match C.D.ropes[i]? with | some rp => letsB rp g | none => false)) = true by rw [show inV (.bl true) ((S.up i).map .bl) = true from c, hrp]; exact c2)]
              simp
            · refine ⟨e1, ?_⟩
              rw [if_neg (fun z : (inV (.bl true) ((S.up i).map .bl) && (match C.D.ropes[i]? with | some rp => letsB rp g | none => false)) = true => c2 (by rw [hrp] at z; exact ((Bool.and_eq_true _ _).mp z).2)), List.map_nil, List.append_nil]; exact hp
          · refine ⟨e1, ?_⟩
            rw [if_neg (fun z : (inV (.bl true) ((S.up i).map .bl) && (match C.D.ropes[i]? with | some rp => letsB rp g | none => false)) = true => c ((Bool.and_eq_true _ _).mp z).1), List.map_nil, List.append_nil]; exact hp
        · rintro H1 ⟨e1, hp⟩
          exact k1 c0 (by omega) p H1 np e1 hp
      · rw [decide_eq_false c1]
        refine iteT ?_
        exact k2 fun z => c1 (by omega)
    · rw [decide_eq_false c0]
      refine iteF ?_
      refine ⟨_, rfl, ?_⟩
      refine iteT ?_
      exact k2 fun z => c0 z.1
end
end Kn
set_option Elab.async false
set_option linter.all false
set_option maxRecDepth 100000
set_option maxHeartbeats 4000000
namespace Kn
open PySem L2
local macro_rules | `(tactic| walk_at "st") => `(tactic| repeat' (first
  | with_reducible refine r_seq ?_ | with_reducible refine r_set ?_ | with_reducible refine r_ret ?_ | with_reducible refine r_retN ?_ | with_reducible refine r_drop ?_ | with_reducible refine r_next ?_
  | with_reducible refine r_if ?_ | ((with_reducible refine r_var (v := ?_) ?hs ?_); (case hs => exact rfl)) | with_reducible refine r_c ?_ | with_reducible refine r_op ?_ | with_reducible refine r_I0 ?_
  | with_reducible refine r_test ?_ | with_reducible refine r_B ?_ | with_reducible refine ⟨_, (rfl : V.bl _ = V.bl _), ?_⟩ | with_reducible refine r_not ?_ | with_reducible refine r_or ?_ | with_reducible refine r_and ?_
  | with_reducible refine r_nil ?_ | with_reducible refine r_cons ?_ | with_reducible refine r_call ?_ | with_reducible refine r_cb ?_ | with_reducible refine r_tup ?_ | with_reducible refine r_lst ?_
  | with_reducible refine r_gname ?_ | with_reducible refine r_for ?_ | with_reducible refine r_iList ?_ | with_reducible refine r_iRng1 ?_ | with_reducible refine r_lc ?_ | with_reducible refine r_yes ?_
  | with_reducible refine r_chain ?_ | with_reducible refine r_sfld ?_ | with_reducible refine r_bm ?_ | with_reducible refine r_bm0 ?_ | with_reducible refine r_make ?_ | with_reducible refine r_sl ?_ | with_reducible refine r_nopart ?_ | with_reducible refine r_part ?_ | with_reducible refine r_iEnum ?_ | with_reducible refine r_iRng2 ?_))
section
variable {P : Program} {w : World} {K : PySem.W.Frag} {mg : Str → Option Value} {base : Heap}
def upD (D : TownD) : List (List V) := D.ropes.map fun rp => (List.replicate rp.wires.toNat true).map V.bl
def spStrI (K : PySem.W.Frag) : Sp := fun vs H Q _ => ∃ x dx t D, vs = [.ref x, .ref t] ∧ H x = some (.ins (He.ga K "Strands") dx []) ∧ TownAt K H t D ∧
  ∀ H' su (L : List Addr), H' x = some (.ins (He.ga K "Strands") dx (strandsL.zip [.ref t, .ref su])) → H su = none → H' su = some (.lst (L.map .ref)) → Lsts H' L (upD D) → L.Nodup → (∀ p ∈ L, H p = none ∧ p ≠ su) → But x H H' → Q .non H'
theorem sc_Strands_init : FnScope ["self", "town", "rope"] ["self", "town"] (defScope s_Strands_init) := ⟨rfl, rfl, rfl, by decide +kernel, rfl, by decide +kernel, by decide +kernel⟩
theorem TownAt.but {x : Addr} {H H' : Hp} {t : Addr} {D : TownD} (h : TownAt K H t D) (e : But x H H') {C dx : Addr} (hx : H x = some (.ins C dx [])) : TownAt K H' t D := by
  obtain ⟨ok, dx, ln, lk, lr, pk, pn, h1, h2, h3, h4, h5, h6⟩ := h
  refine ⟨ok, dx, ln, lk, lr, pk, pn, e _ _ h1 (fun z => ?_), e _ _ h2 (ne_of h2 hx (by intro z; cases z)), e _ _ h3 (ne_of h3 hx (by intro z; cases z)), h4.but e (fun xs z => by rw [hx] at z; cases z), e _ _ h5 (ne_of h5 hx (by intro z; cases z)), h6.but e (fun xs z => by rw [hx] at z; cases z)⟩
  rw [z, hx] at h1
  have := Option.some.inj h1
  simp [townL] at this
theorem But.same {x : Addr} {G H H' : Hp} (e : But x H H') (s : Same G H) (hx : G x = none) : Same G H' := fun a o h => e a o (s a o h) (ne_of_none h hx)
theorem ok_Strands_init (T : Tx K mg) : Fn P w K mg base 2 (He.ma K (He.ga K "Strands") "__init__") [] (spStrI K) := by
  refine mkFn T.F_Strands_init sc_Strands_init (fun _ _ _ _ _ _ us hl => match us, hl with | [_, _], _ => rfl) (fun vs H Q E h => ?_) (fun cdv A outer s H vs Q E hr h => ?_)
  · obtain ⟨x, dx, t, D, rfl, _⟩ := h; rfl
  · obtain ⟨x, dx, t, D, rfl, hx, hT, k⟩ := h
    have nd := sc_Strands_init.nd
    refine ⟨_, pss_cons (ps_fld (pv 0) (pv 1) rfl) (pss_cons (ps_fld (pv 0) (pe_lst pa_nil) rfl)
      (pss_one (ps_for (passes_of rfl) rfl (pi_range1 (by rfl) T.b_range (pa_cons (pf (pv 1)) pa_nil)) (pg_name (i := 2) nd rfl (.inl rfl))
        (pss_one (ps_expr (pe_bm PySem.F.plainAttrs_list PySem.F.slot_list_append PySem.F.type_list_append mt_append (pf (pv 0)) (pa_cons (pe_op op_rep (pe_lst (pa_cons pe_bl pa_nil))
          (pe_ix ix_tup (cm (pv 1) T.c_Town T.m_Town_rope (ok_Town_rope T) hr passL (pa_cons (pv 2) pa_nil)) pe_int (fun _ _ => rfl))) pa_nil))))))), ?_⟩
    walk_at "st"
    refine szfA (L := []) ["town"] (vs := []) [_] hx T.c_Strands T.n_Strands_town (by decide +kernel) rfl (by decide) rfl rfl fun A1 bA1 xA1 => ?_
    walk_at "st"
    refine ⟨szl (by show 0 ≤ 100000; decide), fun su nsu => ?_⟩
    walk_at "st"
    have e1 : Same A1 (upd A1 su (.lst [])) := Same.new nsu
    have nsux : su ≠ x := (ne_of_none xA1 nsu).symm
    refine szfA strandsL [_, _] (e1 _ _ xA1) T.c_Strands T.n_Strands_up (by decide +kernel) rfl (by decide) rfl rfl fun A2 bA2 xA2 => ?_
    have b2 : But x H A2 := bA1.trans (e1.but.trans bA2)
    have hT2 := hT.but b2 hx
    have hsu2 : A2 su = some (.lst []) := bA2 _ _ upd_same nsux
    have hfree : ∀ {H2 : Hp} {p : Addr}, But x H H2 → H2 x ≠ none → H2 p = none → H p = none := fun {H2 p} b hx2 h => by
      cases q : H p with
      | none => rfl
      | some o =>
        by_cases z : p = x
        · exact absurd (z ▸ h) hx2
        · rw [b _ _ q z] at h; cases h
    have hsuf : H su = none := hfree (bA1) (by rw [xA1]; intro z; cases z) nsu
    obtain ⟨ok, dt, la, lk, lr, pk, pn, ht, _⟩ := id hT2
    have rl := ok.rl
    walk_at "st"
    refine fz ht T.c_Town T.n_Town_many (i := 1) (by decide +kernel) rfl ?_
    walk_at "st"
    refine ⟨_, rfl, by omega, by omega, ?_⟩
    refine for_it walk_range (fun i σ H' => ∃ (L : List Addr) (x2 : Option V), σ = [some (.ref x), some (.ref t), x2] ∧ H' x = some (.ins (He.ga K "Strands") dx (strandsL.zip [.ref t, .ref su])) ∧ H' su = some (.lst (L.map .ref)) ∧
        Lsts H' L ((upD D).take i) ∧ L.Nodup ∧ (∀ p ∈ L, H p = none ∧ p ≠ su) ∧ But x H H' ∧ TownAt K H' t D)
      ⟨[], none, rfl, xA2, hsu2, .nil, List.nodup_nil, fun p h => by simp at h, b2, hT2⟩ (fun _ _ _ _ _ => trivial) ?_ ?_
    · rintro i y σ H3 H3' hi ⟨L, x2, rfl, hx3, hsu3, hL, hnd, hf, b3, hT3⟩ ⟨rfl, rfl⟩
      have hi' : i < D.ropes.length := by omega
      have zi : ((0 : Int) + (i : Nat)).toNat = i := by omega
      have hLl : L.length ≤ 20 := by rw [hL.1, List.length_take]; omega
      walk_at "st"
      refine fz hx3 T.c_Strands T.n_Strands_up (i := 1) (by decide +kernel) rfl ?_
      refine ⟨.inl ⟨rfl, _, SqL.of hsu3⟩, ?_⟩
      walk_at "st"
      refine ⟨szl (by show 1 ≤ 100000; decide), fun q nq => ?_⟩
      have e4 : Same H3' (upd H3' q (.lst [.bl true])) := Same.new nq
      have hT4 := hT3.mono e4
      obtain ⟨_, dt, la, lk, lr, pk, pn, ht, _⟩ := id hT4
      refine mz ht (by decide +kernel) ?_
      walk_at "st"
      refine ⟨t, D, _, rfl, hT4, by omega, by omega, fun p rp hrp hp => ?_⟩
      rw [zi] at hrp
      walk_at "st"
      refine ⟨p, _, 3, _, rfl, rfl, SqT.of hp, at_ix (by decide) rfl, ?_⟩
      have hw := (ok.rp rp (List.mem_of_getElem? hrp)).2.2.2.2
      refine ⟨q, rp.wires, _, rfl, rfl, upd_same, by omega, by omega, szl (by show 1 * rp.wires.toNat ≤ 100000; omega), fun m nm => ?_⟩
      rw [rep_bls]
      have e5 := e4.trans (Same.new (o := .lst ((List.replicate rp.wires.toNat true).map V.bl)) nm)
      walk_at "st"
      refine ⟨su, _, _, rfl, rfl, e5 _ _ hsu3, sll (by rw [List.length_map]; omega), ?_⟩
      have nmsu : m ≠ su := (ne_of_none (e4 _ _ hsu3) nm).symm
      have nmx : m ≠ x := (ne_of_none (e4 _ _ hx3) nm).symm
      have nxsu : x ≠ su := Ne.symm nsux
      refine ⟨L ++ [m], _, rfl, by rw [upd_ne nxsu]; exact e5 _ _ hx3, by rw [List.map_append]; exact upd_same, ?_, ?_, fun p hp => ?_, ?_, ?_⟩
      · have hx : (upD D).take (i + 1) = (upD D).take i ++ [(List.replicate rp.wires.toNat true).map V.bl] := by
          have z : (upD D)[i]? = some ((List.replicate rp.wires.toNat true).map V.bl) := get_map (f := fun rp : Rope => (List.replicate rp.wires.toNat true).map V.bl) hrp
          rw [List.take_add_one, z]; rfl
        rw [hx]
        have hL4 : Lsts (upd (upd (upd H3' q (.lst [.bl true])) m (.lst ((List.replicate rp.wires.toNat true).map V.bl))) su (.lst (L.map V.ref ++ [V.ref m]))) L ((upD D).take i) := ⟨hL.1, fun j p xs a b => by
          rw [upd_ne (hf p (List.mem_of_getElem? a)).2]
          exact e5 _ _ (hL.2 j p xs a b)⟩
        exact hL4.snoc (by rw [upd_ne nmsu]; exact upd_same)
      · refine nd_snoc hnd fun mm => ?_
        obtain ⟨j, hj⟩ := List.mem_iff_getElem?.mp mm
        have hj2 : j < ((upD D).take i).length := by have := (List.getElem?_eq_some_iff.mp hj).1; have := hL.1; omega
        have := e4 _ _ (hL.2 j m _ hj (List.getElem?_eq_getElem hj2))
        rw [nm] at this; cases this
      · rcases List.mem_append.mp hp with a | a
        · exact hf p a
        · rw [List.mem_singleton.mp a]
          exact ⟨hfree b3 (by rw [hx3]; intro z; cases z) (e4.free nm), nmsu⟩
      · intro a o ha na
        rw [upd_ne (ne_of_none ha hsuf)]
        exact e5 _ _ (b3 _ _ ha na)
      · obtain ⟨ok, dx, ln, lk, lr, pk, pn, h1, h2, h3, h4, h5, h6⟩ := hT
        have e6 : But x H (upd (upd (upd H3' q (.lst [.bl true])) m (.lst ((List.replicate rp.wires.toNat true).map V.bl))) su (.lst (L.map V.ref ++ [V.ref m]))) := by
          intro a o ha na
          rw [upd_ne (ne_of_none ha hsuf)]
          exact e5 _ _ (b3 _ _ ha na)
        exact TownAt.but ⟨ok, dx, ln, lk, lr, pk, pn, h1, h2, h3, h4, h5, h6⟩ e6 hx
    · rintro σ H3 ⟨L, x2, rfl, hx3, hsu3, hL, hnd, hf, b3, hT3⟩
      refine k H3 su L hx3 hsuf hsu3 ?_ hnd hf b3
      rw [show ((D.ropes.length : Nat) : Int).toNat = (upD D).length by unfold upD; rw [List.length_map]; omega, List.take_length] at hL
      exact hL
end
end Kn
set_option Elab.async false
set_option linter.all false
set_option maxRecDepth 100000
set_option maxHeartbeats 4000000
namespace Kn
open PySem L2
local macro_rules | `(tactic| walk_at "st") => `(tactic| repeat' (first
  | with_reducible refine r_seq ?_ | with_reducible refine r_set ?_ | with_reducible refine r_ret ?_ | with_reducible refine r_retN ?_ | with_reducible refine r_drop ?_ | with_reducible refine r_next ?_
  | with_reducible refine r_if ?_ | ((with_reducible refine r_var (v := ?_) ?hs ?_); (case hs => exact rfl)) | with_reducible refine r_c ?_ | with_reducible refine r_op ?_ | with_reducible refine r_I0 ?_
  | with_reducible refine r_test ?_ | with_reducible refine r_B ?_ | with_reducible refine ⟨_, (rfl : V.bl _ = V.bl _), ?_⟩ | with_reducible refine r_not ?_ | with_reducible refine r_or ?_ | with_reducible refine r_and ?_
  | with_reducible refine r_nil ?_ | with_reducible refine r_cons ?_ | with_reducible refine r_call ?_ | with_reducible refine r_cb ?_ | with_reducible refine r_tup ?_ | with_reducible refine r_lst ?_
  | with_reducible refine r_gname ?_ | with_reducible refine r_for ?_ | with_reducible refine r_iList ?_ | with_reducible refine r_iRng1 ?_ | with_reducible refine r_lc ?_ | with_reducible refine r_yes ?_
  | with_reducible refine r_chain ?_ | with_reducible refine r_sfld ?_ | with_reducible refine r_bm ?_ | with_reducible refine r_bm0 ?_ | with_reducible refine r_make ?_ | with_reducible refine r_sl ?_ | with_reducible refine r_nopart ?_ | with_reducible refine r_part ?_ | with_reducible refine r_iEnum ?_ | with_reducible refine r_iRng2 ?_))
/-! Books and letters. -/
theorem room_hu {A : Around} {k : Nat} (hr : Room k A) : A.units + 1 < cLine := by have := hr.units; omega
section
variable {P : Program} {w : World} {K : PySem.W.Frag} {mg : Str → Option Value} {base : Heap}
def spBookI (K : PySem.W.Frag) : Sp := fun vs H Q _ => ∃ x dx, vs = [.ref x] ∧ H x = some (.ins (He.ga K "Book") dx []) ∧
  ∀ H' d, H d = none → H' x = some (.ins (He.ga K "Book") dx (bookL.zip [.ref d])) → H' d = some (.dT []) → But x H H' → Q .non H'
theorem sc_Book_init : FnScope ["self"] ["self"] (defScope s_Book_init) := ⟨rfl, rfl, rfl, by decide +kernel, rfl, by decide +kernel, by decide +kernel⟩
theorem ok_Book_init (T : Tx K mg) : Fn P w K mg base 1 (He.ma K (He.ga K "Book") "__init__") [] (spBookI K) := by
  refine mkFn T.F_Book_init sc_Book_init (fun _ _ _ _ _ _ us hl => match us, hl with | [_], _ => rfl) (fun vs H Q E h => ?_) (fun cdv A outer s H vs Q E hr h => ?_)
  · obtain ⟨x, dx, rfl, _⟩ := h; rfl
  · obtain ⟨x, dx, rfl, hx, k⟩ := h
    refine ⟨_, pss_one (ps_fld (pv 0) pe_dnewT rfl), ?_⟩
    walk_at "st"
    intro d nd
    walk_at "st"
    have e1 : Same H (upd H d (.dT [])) := Same.new nd
    have ndx : d ≠ x := (ne_of_none hx nd).symm
    refine szfA (L := []) bookL (vs := []) [_] (e1 _ _ hx) T.c_Book T.n_Book_kept (by decide +kernel) rfl (by decide) rfl rfl fun A1 bA1 xA1 => ?_
    exact k A1 d nd xA1 (bA1 _ _ upd_same ndx) (e1.but.trans bA1)
def spForget (K : PySem.W.Frag) : Sp := fun vs H Q _ => ∃ b dx v, vs = [.ref b] ∧ H b = some (.ins (He.ga K "Book") dx (bookL.zip [v])) ∧
  ∀ d, H d = none → Q .non (upd (upd H d (.dT [])) b (.ins (He.ga K "Book") dx (bookL.zip [.ref d])))
theorem sc_forget : FnScope ["self"] ["self"] (defScope s_Book_forget) := ⟨rfl, rfl, rfl, by decide +kernel, rfl, by decide +kernel, by decide +kernel⟩
theorem ok_forget (T : Tx K mg) : Fn P w K mg base 1 (He.ma K (He.ga K "Book") "forget") [] (spForget K) := by
  refine mkFn T.F_Book_forget sc_forget (fun _ _ _ _ _ _ us hl => match us, hl with | [_], _ => rfl) (fun vs H Q E h => ?_) (fun cdv A outer s H vs Q E hr h => ?_)
  · obtain ⟨b, dx, v, rfl, _⟩ := h; rfl
  · obtain ⟨b, dx, v, rfl, hb, k⟩ := h
    refine ⟨_, pss_one (ps_fld (pv 0) pe_dnewT rfl), ?_⟩
    walk_at "st"
    intro d nd
    walk_at "st"
    have e1 : Same H (upd H d (.dT [])) := Same.new nd
    exact szs (e1 _ _ hb) T.c_Book T.n_Book_kept (i := 0) (by decide +kernel) (Nat.lt_succ_self 0) (by decide) rfl (k d nd)
def spLearn (K : PySem.W.Frag) : Sp := fun vs H Q _ => ∃ b dx d kvs, ∃ h c r : Int, vs = [.ref b, .int h, .int c, .int r] ∧ H b = some (.ins (He.ga K "Book") dx (bookL.zip [.ref d])) ∧ H d = some (.dT kvs) ∧ kvs.length < 100000 ∧
  ∀ q kvs', H q = none → kvs'.length ≤ kvs.length + 1 → Q .non (upd (upd H q (.tup [.int h, .int c])) d (.dT kvs'))
theorem sc_learn : FnScope ["self", "house", "caller", "rope"] ["self", "house", "caller", "rope"] (defScope s_Book_learn) := ⟨rfl, rfl, rfl, by decide +kernel, rfl, by decide +kernel, by decide +kernel⟩
theorem ok_learn (T : Tx K mg) : Fn P w K mg base 1 (He.ma K (He.ga K "Book") "learn") [] (spLearn K) := by
  refine mkFn T.F_Book_learn sc_learn (fun _ _ _ _ _ _ us hl => match us, hl with | [_, _, _, _], _ => rfl) (fun vs H Q E h => ?_) (fun cdv A outer s H vs Q E hr h => ?_)
  · obtain ⟨b, dx, d, kvs, h, c, r, rfl, _⟩ := h; rfl
  · obtain ⟨b, dx, d, kvs, h, c, r, rfl, hb, hd, hl, k⟩ := h
    refine ⟨_, pss_one (ps_dput (room_hu hr) (pf (pv 0)) (pe_tup (pa_cons (pv 1) (pa_cons (pv 2) pa_nil))) (pv 3) rfl), ?_⟩
    refine ⟨_, rfl, ?_⟩
    refine fz hb T.c_Book T.n_Book_kept (i := 0) (by decide +kernel) rfl ?_
    walk_at "st"
    refine ⟨szl (by show 2 ≤ 100000; decide), fun q nq => ?_⟩
    have e1 : Same H (upd H q (.tup [.int h, .int c])) := Same.new nq
    refine ⟨d, _, rfl, DPut.t (k := [.inl h, .inl c]) (e1 _ _ hd) upd_same (sll hl), ?_⟩
    exact k q _ nq (length_putK _ _ _)
def spNotes (K : PySem.W.Frag) : Sp := fun vs H Q _ => ∃ b dx d, vs = [.ref b] ∧ H b = some (.ins (He.ga K "Book") dx (bookL.zip [.ref d])) ∧ H d = some (.dT []) ∧ NewL [] H Q
theorem sc_notes : FnScope ["self", "pair", "rope"] ["self"] (defScope s_Book_notes) := ⟨rfl, rfl, rfl, by decide +kernel, rfl, by decide +kernel, by decide +kernel⟩
theorem ok_notes (T : Tx K mg) : Fn P w K mg base 1 (He.ma K (He.ga K "Book") "notes") [] (spNotes K) := by
  refine mkFn T.F_Book_notes sc_notes (fun _ _ _ _ _ _ us hl => match us, hl with | [_], _ => rfl) (fun vs H Q E h => ?_) (fun cdv A outer s H vs Q E hr h => ?_)
  · obtain ⟨b, dx, d, rfl, _⟩ := h; rfl
  · obtain ⟨b, dx, d, rfl, hb, hd, k⟩ := h
    have nd := sc_notes.nd
    refine ⟨_, pss_one (ps_ret (pe_callB cr_sorted (by rfl) T.b_sorted (by decide +kernel) (pa_cons (pe_asK (pe_lock (pe_lc (own := [("pair", 1), ("rope", 2)]) (g := gTup K 2 (gCons (gName 1) (gCons (gName 2) gNil))) rfl nd (pi_items (pf (pv 0)))
      (blkOk_by (N := ["self", "pair", "rope"]) (sc := defScope s_Book_notes) (by decide +kernel))
      (fun _ _ _ _ _ => pg_tup rfl (pgs_cons (pg_name (i := 1) nd rfl (Or.inl rfl)) (pgs_cons (pg_name (i := 2) nd rfl (Or.inl rfl)) pgs_nil))) (fun _ _ _ _ _ => pts_nil)
      (fun _ _ _ _ _ => pe_op (r := rCatT K) op_catT (pv 1) (pe_tup (pa_cons (pv 2) pa_nil)))))) pa_nil))), ?_⟩
    walk_at "st"
    refine ⟨d, hd, d, _, upd_same, trivial, fun od => ?_⟩
    walk_at "st"
    have nbd : b ≠ d := ne_of hb hd (by intro z; cases z)
    refine fz (by rw [upd_ne nbd, upd_ne nbd]; exact hb) T.c_Book T.n_Book_kept (i := 0) (by decide +kernel) rfl ?_
    refine ⟨d, od, [], rfl, upd_same, fun p np => ?_⟩
    have npd : p ≠ d := fun z => by rw [z, upd_same] at np; cases np
    have np' : H p = none := by rw [upd_ne npd, upd_ne npd] at np; exact np
    refine lc_it walk_items (fun i H' => H' = upd (upd (upd H d (.dK [])) d (.frz od (.dK []))) p (.lst [])) rfl (fun i H' _ e => by rw [e, upd_ne (Ne.symm npd)]; exact upd_same) ?_ ?_
    · intro i x H1 H1' hi
      exact absurd hi (Nat.not_lt_zero _)
    · rintro H1 rfl
      refine ⟨by rw [upd_ne (Ne.symm npd)]; exact upd_same, upd_same, ?_⟩
      walk_at "st"
      refine ⟨p, [], rfl, SqL.of (by rw [upd_ne npd, upd_ne npd]; exact upd_same), by decide, fun ns q pm _ nq => ?_⟩
      obtain rfl := List.Perm.eq_nil pm
      have e : Same H (upd (upd (upd (upd (upd H d (.dK [])) d (.frz od (.dK []))) p (.lst [])) d (.dK [])) d (.dT [])) := fun a o h => by
        by_cases z : a = d
        · rw [z, upd_same, ← hd, ← z, h]
        · rw [upd_ne z, upd_ne z, upd_ne (ne_of_none h np'), upd_ne z, upd_ne z]; exact h
      exact k.go e nq
def spLetter (K : PySem.W.Frag) : Sp := fun vs H Q _ => ∃ x dx, ∃ s : Int, vs = [.ref x, .int s] ∧ H x = some (.ins (He.ga K "ToAll") dx []) ∧ ∀ H', H' x = some (.ins (He.ga K "ToAll") dx (letterL.zip [.int s])) → But x H H' → Q .non H'
theorem sc_Letter_init : FnScope ["self", "sender"] ["self", "sender"] (defScope s_Letter_init) := ⟨rfl, rfl, rfl, by decide +kernel, rfl, by decide +kernel, by decide +kernel⟩
theorem ok_Letter_init (T : Tx K mg) : Fn P w K mg base 1 (He.ma K (He.ga K "ToAll") "__init__") [] (spLetter K) := by
  refine mkFn T.F_Letter_init sc_Letter_init (fun _ _ _ _ _ _ us hl => match us, hl with | [_, _], _ => rfl) (fun vs H Q E h => ?_) (fun cdv A outer s H vs Q E hr h => ?_)
  · obtain ⟨x, dx, s, rfl, _⟩ := h; rfl
  · obtain ⟨x, dx, s, rfl, hx, k⟩ := h
    refine ⟨_, pss_one (ps_fld (pv 0) (pv 1) rfl), ?_⟩
    walk_at "st"
    exact szfA (L := []) letterL (vs := []) [_] hx T.c_ToAll T.n_ToAll_sender (by decide +kernel) rfl (by decide) rfl rfl fun A1 bA1 xA1 => k A1 xA1 bA1
def spMeant (K : PySem.W.Frag) : Sp := fun vs H Q _ => ∃ x dx, ∃ s c : Int, vs = [.ref x, .int c] ∧ H x = some (.ins (He.ga K "ToAll") dx (letterL.zip [.int s])) ∧ ∀ b, Q (.bl b) H
theorem sc_meant : FnScope ["self", "caller"] ["self", "caller"] (defScope s_ToAll_meant) := ⟨rfl, rfl, rfl, by decide +kernel, rfl, by decide +kernel, by decide +kernel⟩
theorem ok_meant (T : Tx K mg) : Fn P w K mg base 1 (He.ma K (He.ga K "ToAll") "meant") [] (spMeant K) := by
  refine mkFn T.F_ToAll_meant sc_meant (fun _ _ _ _ _ _ us hl => match us, hl with | [_, _], _ => rfl) (fun vs H Q E h => ?_) (fun cdv A outer s H vs Q E hr h => ?_)
  · obtain ⟨x, dx, s, c, rfl, _⟩ := h; rfl
  · obtain ⟨x, dx, s, c, rfl, hx, k⟩ := h
    refine ⟨_, pss_one (ps_ret (pe_cmpR op_ne (pv 1) (pf (pv 0)) (nomark _))), ?_⟩
    walk_at "st"
    refine fz hx T.c_ToAll T.n_ToAll_sender (i := 0) (by decide +kernel) rfl ?_
    exact ⟨rfl, k _⟩
def spSeeks (K : PySem.W.Frag) : Sp := fun vs H Q _ => ∃ x, vs = [.ref x] ∧ Q .non H
theorem sc_seeks : FnScope ["self"] ["self"] (defScope s_Letter_seeks) := ⟨rfl, rfl, rfl, by decide +kernel, rfl, by decide +kernel, by decide +kernel⟩
theorem ok_seeks (T : Tx K mg) : Fn P w K mg base 1 (He.ma K (He.ga K "ToAll") "seeks") [] (spSeeks K) := by
  refine mkFn T.F_Letter_seeks sc_seeks (fun _ _ _ _ _ _ us hl => match us, hl with | [_], _ => rfl) (fun vs H Q E h => ?_) (fun cdv A outer s H vs Q E hr h => ?_)
  · obtain ⟨x, rfl, _⟩ := h; rfl
  · obtain ⟨x, rfl, k⟩ := h
    refine ⟨_, pss_one (ps_ret pe_non), ?_⟩
    walk_at "st"
    exact k
def spNumber (K : PySem.W.Frag) : Sp := fun vs H Q _ => ∃ x dx, ∃ s : Int, vs = [.ref x] ∧ H x = some (.ins (He.ga K "ToAll") dx (letterL.zip [.int s])) ∧ Q (.int s) H
theorem sc_number : FnScope ["self"] ["self"] (defScope s_Letter_number) := ⟨rfl, rfl, rfl, by decide +kernel, rfl, by decide +kernel, by decide +kernel⟩
theorem ok_number (T : Tx K mg) : Fn P w K mg base 1 (He.ma K (He.ga K "ToAll") "number") [] (spNumber K) := by
  refine mkFn T.F_Letter_number sc_number (fun _ _ _ _ _ _ us hl => match us, hl with | [_], _ => rfl) (fun vs H Q E h => ?_) (fun cdv A outer s H vs Q E hr h => ?_)
  · obtain ⟨x, dx, s, rfl, _⟩ := h; rfl
  · obtain ⟨x, dx, s, rfl, hx, k⟩ := h
    refine ⟨_, pss_one (ps_ret (pf (pv 0))), ?_⟩
    walk_at "st"
    exact fz hx T.c_ToAll T.n_ToAll_sender (i := 0) (by decide +kernel) rfl k
end
end Kn
set_option Elab.async false
set_option linter.all false
set_option maxRecDepth 100000
set_option maxHeartbeats 4000000
namespace Kn
open PySem L2
local macro_rules | `(tactic| walk_at "st") => `(tactic| repeat' (first
  | with_reducible refine r_seq ?_ | with_reducible refine r_set ?_ | with_reducible refine r_ret ?_ | with_reducible refine r_retN ?_ | with_reducible refine r_drop ?_ | with_reducible refine r_next ?_
  | with_reducible refine r_if ?_ | ((with_reducible refine r_var (v := ?_) ?hs ?_); (case hs => exact rfl)) | with_reducible refine r_c ?_ | with_reducible refine r_op ?_ | with_reducible refine r_I0 ?_
  | with_reducible refine r_test ?_ | with_reducible refine r_B ?_ | with_reducible refine ⟨_, (rfl : V.bl _ = V.bl _), ?_⟩ | with_reducible refine r_not ?_ | with_reducible refine r_or ?_ | with_reducible refine r_and ?_
  | with_reducible refine r_nil ?_ | with_reducible refine r_cons ?_ | with_reducible refine r_call ?_ | with_reducible refine r_cb ?_ | with_reducible refine r_tup ?_ | with_reducible refine r_lst ?_
  | with_reducible refine r_gname ?_ | with_reducible refine r_for ?_ | with_reducible refine r_iList ?_ | with_reducible refine r_iRng1 ?_ | with_reducible refine r_lc ?_ | with_reducible refine r_yes ?_
  | with_reducible refine r_chain ?_ | with_reducible refine r_sfld ?_ | with_reducible refine r_bm ?_ | with_reducible refine r_bm0 ?_ | with_reducible refine r_make ?_ | with_reducible refine r_sl ?_ | with_reducible refine r_nopart ?_ | with_reducible refine r_part ?_ | with_reducible refine r_iEnum ?_ | with_reducible refine r_iRng2 ?_))
section
variable {P : Program} {w : World} {K : PySem.W.Frag} {mg : Str → Option Value} {base : Heap}
def spRopesOn (K : PySem.W.Frag) : Sp := fun vs H Q _ => ∃ b l dl o he D ms c, ∃ s h : Int, vs = [.ref b, .ref l, .int h, oV c, .ref o, .ref he] ∧ H l = some (.ins (He.ga K "ToAll") dl (letterL.zip [.int s])) ∧ H o = some (.lst ((ms : List Int).map .int)) ∧ SomeRopes D ms ∧
  ∀ ms', SomeRopes D ms' → NewL (ms'.map .int) H Q
theorem sc_ropes_on : FnScope ["book", "letter", "house", "came", "open_here", "here", "sought", "rope"] ["book", "letter", "house", "came", "open_here", "here"] (defScope s_ropes_on) := ⟨rfl, rfl, rfl, by decide +kernel, rfl, by decide +kernel, by decide +kernel⟩
theorem scal_o (r : Int) (c : Option Int) : scal (.int r) (oV c) = true := by cases c <;> rfl
theorem ok_ropes_on (T : Tx K mg) : Fn P w K mg base 2 (He.ga K "ropes_on") [] (spRopesOn K) := by
  refine mkFn T.F_ropes_on sc_ropes_on (fun _ _ _ _ _ _ us hl => match us, hl with | [_, _, _, _, _, _], _ => rfl) (fun vs H Q E h => ?_) (fun cdv A outer s H vs Q E hr h => ?_)
  · obtain ⟨b, l, dl, o, he, D, ms, c, s, h, rfl, _⟩ := h; rfl
  · obtain ⟨b, l, dl, o, he, D, ms, c, s', h, rfl, hl, ho, hms, k⟩ := h
    have nd := sc_ropes_on.nd
    refine ⟨_, pss_cons (ps_set (i := 6) nd rfl (.inl rfl) (cm0 (pv 1) T.c_ToAll T.m_ToAll_seeks (ok_seeks T) hr passL))
      (pss_cons (ps_if (pt_cmpR op_notN (pv 6) pe_non (nomark _)) pss_never pss_nil)
      (pss_one (ps_ret (pe_lc (own := [("rope", 7)]) (g := gName 7) rfl nd (pi_list (pv 4)) (blkOk_by (N := ["book", "letter", "house", "came", "open_here", "here", "sought", "rope"]) (sc := defScope s_ropes_on) (by decide +kernel))
        (fun _ _ _ _ _ => pg_name (i := 7) nd rfl (Or.inl rfl)) (fun _ _ _ _ _ => pts_one (pt_cmpR op_ne (pv 7) (pv 3) (nomark _))) (fun _ _ _ _ _ => pv 7))))), ?_⟩
    walk_at "st"
    refine mz hl (by decide +kernel) ?_
    walk_at "st"
    refine ⟨l, rfl, ?_⟩
    walk_at "st"
    refine ⟨rfl, ?_⟩
    walk_at "st"
    refine iteF ?_
    walk_at "st"
    refine ⟨o, rfl, ⟨_, SqL.of ho⟩, fun p np => ?_⟩
    refine lc_it walk_list (fun i H' => Same H H' ∧ ∃ ms' : List Int, H' p = some (.lst (ms'.map .int)) ∧ ms'.length ≤ i ∧ ∀ k ∈ ms', k ∈ ms)
      ⟨Same.new np, [], upd_same, Nat.le_refl _, fun k h => by simp at h⟩ (fun i H' _ ⟨e, _⟩ => e.seq (SqL.of ho)) ?_ ?_
    · rintro i x H3 H3' hi ⟨e3, ms', hp, hl3, hm⟩ ⟨rfl, hx⟩
      obtain ⟨r, hr', rfl⟩ : ∃ r, ms[i]? = some r ∧ x = .int r := by
        rw [List.getElem?_map] at hx
        cases q : ms[i]? with
        | none => rw [q] at hx; cases hx
        | some r => rw [q] at hx; exact ⟨r, rfl, (Option.some.inj hx).symm⟩
      walk_at "st"
      refine ⟨rfl, ?_⟩
      walk_at "st"
      refine ⟨scal_o r c, _, rfl, ?_⟩
      refine ite2 (fun _ => ?_) (fun _ => ?_)
      · walk_at "st"
        refine ⟨_, hp, sll (by have := hms.1; rw [List.length_map] at *; omega), Same.mut e3 np, ms' ++ [r], by rw [List.map_append]; exact upd_same, by rw [List.length_append]; simpa using hl3, fun k hk => ?_⟩
        rcases List.mem_append.mp hk with a | a
        · exact hm k a
        · rw [List.mem_singleton.mp a]; exact List.mem_of_getElem? hr'
      · exact ⟨e3, ms', hp, Nat.le_succ_of_le hl3, hm⟩
    · rintro H3 ⟨e3, ms', hp, hl3, hm⟩
      exact k ms' ⟨by have := hms.1; rw [List.length_map] at hl3; omega, fun k hk => hms.2 k (hm k hk)⟩ p H3 np e3 hp
def spTargets (K : PySem.W.Frag) : Sp := fun vs H Q _ => ∃ b l dl o he D ms hs c, ∃ s h : Int, vs = [.ref b, .ref l, .int h, oV c, .ref o, .ref he] ∧ H l = some (.ins (He.ga K "ToAll") dl (letterL.zip [.int s])) ∧ H o = some (.lst ((ms : List Int).map .int)) ∧ SomeRopes D ms ∧
  H he = some (.lst ((hs : List Int).map .int)) ∧ hs.length ≤ 20 ∧
  ∀ (ms' hs' : List Int) t a1 a2 H', SomeRopes D ms' → hs'.length ≤ 20 → Same H H' → H' t = some (.tup [.ref a1, .ref a2]) → H a1 = none → H a2 = none → H' a1 = some (.lst (hs'.map .int)) → H' a2 = some (.lst (ms'.map .int)) → Q (.ref t) H'
theorem sc_targets : FnScope ["book", "letter", "house", "came", "open_here", "here", "handed", "caller"] ["book", "letter", "house", "came", "open_here", "here"] (defScope s_targets) := ⟨rfl, rfl, rfl, by decide +kernel, rfl, by decide +kernel, by decide +kernel⟩
theorem ok_targets (T : Tx K mg) : Fn P w K mg base 3 (He.ga K "targets") [] (spTargets K) := by
  refine mkFn T.F_targets sc_targets (fun _ _ _ _ _ _ us hl => match us, hl with | [_, _, _, _, _, _], _ => rfl) (fun vs H Q E h => ?_) (fun cdv A outer s H vs Q E hr h => ?_)
  · obtain ⟨b, l, dl, o, he, D, ms, hs, c, s, h, rfl, _⟩ := h; rfl
  · obtain ⟨b, l, dl, o, he, D, ms, hs, c, s', h, rfl, hl, ho, hms, hhe, hhs, k⟩ := h
    have nd := sc_targets.nd
    refine ⟨_, pss_cons (ps_setLc (i := 6) (own := [("caller", 7)]) (g := gName 7) rfl nd rfl rfl (sw_true rfl rfl rfl (by decide +kernel)) (pi_list (pv 5)) (blkOk_by (N := ["book", "letter", "house", "came", "open_here", "here", "handed", "caller"]) (sc := defScope s_targets) (by decide +kernel))
        (fun _ _ _ _ _ => pg_name (i := 7) nd rfl (Or.inl rfl)) (fun _ _ _ _ _ => pts_one (pTru (X := _) (ta := tMeth (He.ga K "ToAll") "meant" (spMeant K) [] E0 (tVar 1) (tCons (tVar 7) tNil)) (cm (pv 1) T.c_ToAll T.m_ToAll_meant (ok_meant T) hr passL (pa_cons (pv 7) pa_nil)) : PT _ _ (tTru K _))) (fun _ _ _ _ _ => pv 7))
      (pss_one (ps_ret (pe_tup (pa_cons (pv 6) (pa_cons (cf (ok_ropes_on T) hr T.g_ropes_on passL (pa_cons (pv 0) (pa_cons (pv 1) (pa_cons (pv 2) (pa_cons (pv 3) (pa_cons (pv 4) (pa_cons (pv 5) pa_nil))))))) pa_nil))))), ?_⟩
    walk_at "st"
    refine ⟨he, rfl, ⟨_, SqL.of hhe⟩, fun p np => ?_⟩
    refine lc_it walk_list (fun i H' => Same H H' ∧ ∃ ms' : List Int, H' p = some (.lst (ms'.map .int)) ∧ ms'.length ≤ i)
      ⟨Same.new np, [], upd_same, Nat.le_refl _⟩ (fun i H' _ ⟨e, _⟩ => e.seq (SqL.of hhe)) ?_ ?_
    · rintro i x H3 H3' hi ⟨e3, ms', hp, hl3⟩ ⟨rfl, hx⟩
      obtain ⟨r, hr', rfl⟩ : ∃ r, hs[i]? = some r ∧ x = .int r := by
        rw [List.getElem?_map] at hx
        cases q : hs[i]? with
        | none => rw [q] at hx; cases hx
        | some r => rw [q] at hx; exact ⟨r, rfl, (Option.some.inj hx).symm⟩
      walk_at "st"
      refine ⟨rfl, ?_⟩
      refine r_tru ?_
      walk_at "st"
      refine mz (e3 _ _ hl) (by decide +kernel) ?_
      walk_at "st"
      refine ⟨l, dl, s', r, rfl, e3 _ _ hl, fun bb => ⟨_, (rfl : _ = _), ?_⟩⟩
      refine ite2 (fun _ => ?_) (fun _ => ?_)
      · walk_at "st"
        exact ⟨_, hp, sll (by rw [List.length_map] at *; omega), Same.mut e3 np, ms' ++ [r], by rw [List.map_append]; exact upd_same, by rw [List.length_append]; simpa using hl3⟩
      · exact ⟨e3, ms', hp, Nat.le_succ_of_le hl3⟩
    · rintro H3 ⟨e3, ms', hp, hl3⟩
      walk_at "st"
      refine ⟨b, l, dl, o, he, D, ms, c, s', h, rfl, e3 _ _ hl, e3 _ _ ho, hms, fun ms2 h2 p2 H4 np2 e4 hp4 => ?_⟩
      walk_at "st"
      refine ⟨szl (by show 2 ≤ 100000; decide), fun q nq => ?_⟩
      have e5 : Same H4 (upd H4 q (.tup [.ref p, .ref p2])) := Same.new nq
      rw [List.length_map] at hl3
      exact k ms2 ms' q p p2 _ h2 (by omega) ((e3.trans e4).trans e5) upd_same np (e3.free np2) (e5 _ _ (e4 _ _ hp)) (e5 _ _ hp4)
end
end Kn
set_option Elab.async false
set_option linter.all false
set_option maxRecDepth 100000
set_option maxHeartbeats 4000000
namespace Kn
open PySem L2
local macro_rules | `(tactic| walk_at "st") => `(tactic| repeat' (first
  | with_reducible refine r_seq ?_ | with_reducible refine r_set ?_ | with_reducible refine r_ret ?_ | with_reducible refine r_retN ?_ | with_reducible refine r_drop ?_ | with_reducible refine r_next ?_
  | with_reducible refine r_if ?_ | ((with_reducible refine r_var (v := ?_) ?hs ?_); (case hs => exact rfl)) | with_reducible refine r_c ?_ | with_reducible refine r_op ?_ | with_reducible refine r_I0 ?_
  | with_reducible refine r_test ?_ | with_reducible refine r_B ?_ | with_reducible refine ⟨_, (rfl : V.bl _ = V.bl _), ?_⟩ | with_reducible refine r_not ?_ | with_reducible refine r_or ?_ | with_reducible refine r_and ?_
  | with_reducible refine r_nil ?_ | with_reducible refine r_cons ?_ | with_reducible refine r_call ?_ | with_reducible refine r_cb ?_ | with_reducible refine r_tup ?_ | with_reducible refine r_lst ?_
  | with_reducible refine r_gname ?_ | with_reducible refine r_for ?_ | with_reducible refine r_iList ?_ | with_reducible refine r_iRng1 ?_ | with_reducible refine r_lc ?_ | with_reducible refine r_yes ?_
  | with_reducible refine r_chain ?_ | with_reducible refine r_sfld ?_ | with_reducible refine r_bm ?_ | with_reducible refine r_bm0 ?_ | with_reducible refine r_make ?_ | with_reducible refine r_sl ?_ | with_reducible refine r_nopart ?_ | with_reducible refine r_part ?_ | with_reducible refine r_iEnum ?_ | with_reducible refine r_iRng2 ?_))
/-! The net: what only reads. -/
def pairV (q : Int × Int) : List V := [.int q.1, .int q.2]
def PplOk (D : TownD) (qs : List (Int × Int)) : Prop := ∀ q ∈ qs, 0 ≤ q.1 ∧ q.1 < D.size ∧ 0 ≤ q.2 ∧ q.2 < 3
def okV : V → Bool
  | .str x => PyData.strOk x
  | .int _ => true
  | .non => true
  | .bl _ => true
  | _ => false
theorem okE {x : Str} {vs : List V} (h : okV (.str x) = true) (hv : vs.all okV = true) : (V.str x :: vs).all okV = true := by rw [List.all_cons, h, hv]; rfl
structure AirOk (C : Cn) (n : Nat) (e : List V) : Prop where
  ex : ∃ (k r h : Int) (o : Option Int), e = [.int k, .int r, oV o, .int h] ∧ 0 ≤ k ∧ k < n ∧ 0 ≤ r ∧ r < C.D.ropes.length ∧ 0 ≤ h ∧ h < C.D.size
structure Wf (C : Cn) (S : NS) (c : Nat) : Prop where
  rw_ : ∀ g, g < 3 → (S.rows g).length = C.D.size
  rh : ∀ g, g < 3 → ∀ r ∈ S.rows g, 0 ≤ r.hops
  ul : ∀ r, r < C.D.ropes.length → (S.up r).length ≤ 4
  nl : S.news.length = 3
  ai : ∀ e ∈ S.air, AirOk C S.ns e
  ha : ∀ e ∈ S.hands, ∃ n o : Int, e = [.int n, .int o]
  st : ∀ i, i < S.ns → ∀ e ∈ S.stories i, e.all okV = true
  kn : S.ks = S.ns
  l1 : S.hands.length ≤ c
  l2 : S.air.length ≤ c
  l3 : ∀ i, i < S.ns → (S.stories i).length ≤ c
  l4 : S.ns ≤ c
  l5 : S.cap ≤ c
section
variable {P : Program} {w : World} {K : PySem.W.Frag} {mg : Str → Option Value} {base : Heap}
section
variable {G H : Hp} {C : Cn} {A : Lb → Addr} {S : NS}
theorem NetAt.net (N : NetAt K G H C A S) : ∃ dx, H (A .net) = some (.ins (He.ga K "Net") dx (netL.zip (netV C A))) := by
  obtain ⟨o, h1, dx, rfl⟩ := N.has .net trivial
  exact ⟨dx, h1⟩
theorem NetAt.tab (N : NetAt K G H C A S) {g : Nat} (h : g < 3) : ∃ ps, H (A (.table g)) = some (.lst (ps.map .ref)) ∧ Tups G ps ((S.rows g).map Row.v) := by
  obtain ⟨o, h1, ps, rfl, h2⟩ := N.has (.table g) h
  exact ⟨ps, h1, h2⟩
theorem NetAt.townH (N : NetAt K G H C A S) : TownAt K H C.t C.D := N.fix.town.mono N.same
theorem NetAt.rowsAt {c : Nat} (N : NetAt K G H C A S) (W : Wf C S c) {g : Nat} (h : g < 3) : RowsAt H (A (.table g)) C.D (S.rows g) := by
  obtain ⟨ps, h1, h2⟩ := N.tab h
  exact ⟨⟨ps, h1, h2.mono N.same⟩, W.rw_ g h⟩
theorem NetAt.book (N : NetAt K G H C A S) {g : Nat} (h : g < 3) : ∃ dx, H (A (.book g)) = some (.ins (He.ga K "Book") dx (bookL.zip [.ref (A (.kept g))])) := by
  obtain ⟨o, h1, dx, rfl⟩ := N.has (.book g) h
  exact ⟨dx, h1⟩
theorem NetAt.kept (N : NetAt K G H C A S) {g : Nat} (h : g < 3) : ∃ kvs, H (A (.kept g)) = some (.dT kvs) ∧ kvs.length ≤ S.cap ∧ (S.clean = true → kvs = []) := by
  obtain ⟨o, h1, kvs, rfl, h2, h3⟩ := N.has (.kept g) h
  exact ⟨kvs, h1, h2, h3⟩
theorem NetAt.newsH (N : NetAt K G H C A S) : H (A .news) = some (.lst (S.news.map .int)) := by
  obtain ⟨o, h1, h2⟩ := N.has .news trivial
  have h2 : o = _ := h2
  rw [h1, h2]
theorem NetAt.airH (N : NetAt K G H C A S) : ∃ ps, H (A .air) = some (.lst (ps.map .ref)) ∧ Tups G ps S.air := by
  obtain ⟨o, h1, ps, rfl, h2⟩ := N.has .air trivial
  exact ⟨ps, h1, h2⟩
theorem NetAt.handsH (N : NetAt K G H C A S) : ∃ ps, H (A .hands) = some (.lst (ps.map .ref)) ∧ Tups G ps S.hands := by
  obtain ⟨o, h1, ps, rfl, h2⟩ := N.has .hands trivial
  exact ⟨ps, h1, h2⟩
theorem NetAt.storiesH (N : NetAt K G H C A S) : H (A .stories) = some (.lst ((List.range S.ns).map fun i => .ref (A (.story i)))) := by
  obtain ⟨o, h1, h2⟩ := N.has .stories trivial
  have h2 : o = _ := h2
  rw [h1, h2]
theorem NetAt.storyH (N : NetAt K G H C A S) {i : Nat} (h : i < S.ns) : ∃ ps, H (A (.story i)) = some (.lst (ps.map .ref)) ∧ Tups G ps (S.stories i) := by
  obtain ⟨o, h1, ps, rfl, h2⟩ := N.has (.story i) h
  exact ⟨ps, h1, h2⟩
theorem NetAt.sentH (N : NetAt K G H C A S) : ∃ vs, H (A .sent) = some (.lst vs) ∧ vs.length = S.ks ∧ ∀ v ∈ vs, SentOk K G v := by
  obtain ⟨o, h1, vs, rfl, h2, h3⟩ := N.has .sent trivial
  exact ⟨vs, h1, h2, h3⟩
theorem NetAt.doneH (N : NetAt K G H C A S) : ∃ kvs, H (A .done) = some (.dT kvs) ∧ kvs.length ≤ S.cap := by
  obtain ⟨o, h1, kvs, rfl, h2⟩ := N.has .done trivial
  exact ⟨kvs, h1, h2⟩
theorem NetAt.tbH (N : NetAt K G H C A S) : H C.tb = some (.lst ((List.range 3).map fun g => .ref (A (.table g)))) := N.same _ _ N.fix.tb
theorem NetAt.bkH (N : NetAt K G H C A S) : H C.bk = some (.lst ((List.range 3).map fun g => .ref (A (.book g)))) := N.same _ _ N.fix.bk
theorem NetAt.plH (N : NetAt K G H C A S) : ∃ ps : List Addr, H C.pl = some (.lst (ps.map .ref)) ∧ Tups H ps (C.people.map pairV) := by
  obtain ⟨ps, h1, h2⟩ := N.fix.ppl
  exact ⟨ps, N.same _ _ h1, h2.mono N.same⟩
end
def spTold (K : PySem.W.Frag) : Sp := fun vs H Q E => ∃ t D lc pc qs, vs = [.ref t, .ref lc] ∧ TownAt K H t D ∧ H lc = some (.lst ((pc : List Addr).map .ref)) ∧ Tups H pc ((qs : List (Int × Int)).map pairV) ∧
  (qs.length ≤ 20 → PplOk D qs → ∀ p (ps : List Addr) H', H p = none → Same H H' → H' p = some (.lst (ps.map .ref)) → Tups H' ps (qs.map pairV) → Q (.ref p) H') ∧
  (¬(qs.length ≤ 20 ∧ PplOk D qs) → XNo K "BadTown" H E)
theorem sc_told : FnScope ["town", "callers", "found", "house", "group"] ["town", "callers"] (defScope s_told_callers) := ⟨rfl, rfl, rfl, by decide +kernel, rfl, by decide +kernel, by decide +kernel⟩
theorem ok_told (T : Tx K mg) : Fn P w K mg base 1 (He.ga K "told_callers") [] (spTold K) := by
  refine mkFn T.F_told_callers sc_told (fun _ _ _ _ _ _ us hl => match us, hl with | [_, _], _ => rfl) (fun vs H Q E h => ?_) (fun cdv A outer s H vs Q E hr h => ?_)
  · obtain ⟨t, D, lc, pc, qs, rfl, _⟩ := h; rfl
  · obtain ⟨t, D, lc, pc, qs, rfl, hT, hlc, hpc, k1, k2⟩ := h
    have nd := sc_told.nd
    obtain ⟨tk, gM⟩ := T.i_MOST_CALLERS
    obtain ⟨tk2, gG⟩ := T.i_GROUPS
    refine ⟨_, pss_cons (ps_if (pt_cmpR op_gt (pe_callB call_len (by rfl) T.b_len PySem.boot_len (pa_cons (pv 1) pa_nil)) (pe_glob (v := .int 20) (by rfl) gM ⟨_, rfl⟩) (nomark _)) (pss_one (pRaise rfl (takes_of rfl rfl rfl rfl) T.x_BadTown T.g_BadTown)) pss_nil)
      (pss_cons (ps_set (i := 2) nd rfl (.inl rfl) (pe_lst pa_nil))
      (pss_cons (ps_for (passes_of rfl) rfl (pi_list (pv 1)) (pg_tup rfl (pgs_cons (pg_name (i := 3) nd rfl (.inl rfl)) (pgs_cons (pg_name (i := 4) nd rfl (.inl rfl)) pgs_nil)))
        (pss_cons (ps_if (PW.pt (pw_or (pt_not (pt_chain op_le op_lt pe_int (pv 3) (pf (pv 0)))) (pw_or1 (pt_not (pt_chain op_le op_lt pe_int (pv 4) (pe_glob (v := .int 3) (by rfl) gG ⟨_, rfl⟩)))))) (pss_one (pRaise rfl (takes_of rfl rfl rfl rfl) T.x_BadTown T.g_BadTown)) pss_nil)
        (pss_one (ps_expr (pe_bm PySem.F.plainAttrs_list PySem.F.slot_list_append PySem.F.type_list_append mt_append (pv 2) (pa_cons (pe_tup (pa_cons (pv 3) (pa_cons (pv 4) pa_nil))) pa_nil))))))
      (pss_one (ps_ret (pv 2))))), ?_⟩
    have hlen : (pc.map V.ref).length = qs.length := by rw [List.length_map, hpc.1, List.length_map]
    walk_at "st"
    refine ⟨_, _, rfl, .inl ⟨_, SqL.of hlc, rfl⟩, ?_⟩
    walk_at "st"
    rw [hlen]
    by_cases c20 : (20 : Int) < (qs.length : Nat)
    · rw [decide_eq_true c20]
      refine iteT ?_
      exact k2 (fun z => by omega) H (Same.refl _)
    · rw [decide_eq_false c20]
      refine iteF ?_
      walk_at "st"
      refine ⟨szl (by show 0 ≤ 100000; decide), fun p np => ?_⟩
      walk_at "st"
      have e1 : Same H (upd H p (.lst [])) := Same.new np
      refine ⟨lc, rfl, ⟨_, SqL.of (e1 _ _ hlc)⟩, for_it walk_list (fun i σ H' => ∃ (ps : List Addr) (x3 x4 : Option V), σ = [some (.ref t), some (.ref lc), some (.ref p), x3, x4] ∧ Same H H' ∧ H' p = some (.lst (ps.map .ref)) ∧ Tups H' ps ((qs.take i).map pairV) ∧ PplOk D (qs.take i))
        ⟨[], none, none, rfl, e1, upd_same, .nil, fun q h => by simp at h⟩ (fun i σ H' _ ⟨_, _, _, _, e, _⟩ => e.seq (SqL.of hlc)) ?_ ?_⟩
      · rintro i x σ H2 H2' hi ⟨ps, x3, x4, rfl, e2, hp, hps, hok⟩ ⟨rfl, hx⟩
        have hi' : i < qs.length := by rw [hlen] at hi; exact hi
        have hq : qs[i]? = some qs[i] := List.getElem?_eq_getElem hi'
        obtain ⟨a, a1, a2⟩ := hpc.at (get_map (f := pairV) hq)
        obtain rfl : x = .ref a := (Option.some.inj ((get_map (f := V.ref) a1).symm.trans hx)).symm
        have hpl : ps.length ≤ 20 := by rw [hps.1, List.length_map, List.length_take]; omega
        have bad : ¬(0 ≤ (qs[i]).1 ∧ (qs[i]).1 < D.size ∧ 0 ≤ (qs[i]).2 ∧ (qs[i]).2 < 3) → E (.ref (He.ga K "BadTown")) none H2' := fun z => k2 (fun y => z (y.2 _ (List.getElem_mem hi'))) H2' e2
        obtain ⟨dt, la, lk, lr, pk, pn, ht, _⟩ := (hT.mono e2).ex
        refine ⟨a, _, rfl, SqT.of (e2 _ _ a2), rfl, ?_⟩
        refine ⟨_, _, rfl, _, _, rfl, rfl, ?_⟩
        have good : (0 ≤ (qs[i]).1 ∧ (qs[i]).1 < D.size ∧ 0 ≤ (qs[i]).2 ∧ (qs[i]).2 < 3) → ∀ q, H2' q = none → ∃ (ps' : List Addr) (x3 x4 : Option V), [some (.ref t), some (.ref lc), some (.ref p), some (.int (qs[i]).1), some (.int (qs[i]).2)] = [some (.ref t), some (.ref lc), some (.ref p), x3, x4] ∧
            Same H (upd (upd H2' q (.tup (pairV qs[i]))) p (.lst (ps.map V.ref ++ [V.ref q]))) ∧ upd (upd H2' q (.tup (pairV qs[i]))) p (.lst (ps.map V.ref ++ [V.ref q])) p = some (.lst (ps'.map .ref)) ∧
            Tups (upd (upd H2' q (.tup (pairV qs[i]))) p (.lst (ps.map V.ref ++ [V.ref q]))) ps' ((qs.take (i + 1)).map pairV) ∧ PplOk D (qs.take (i + 1)) := by
          intro z q nq
          have e4 : Same H2' (upd H2' q (.tup (pairV qs[i]))) := Same.new nq
          have nqp : q ≠ p := (ne_of_none hp nq).symm
          have tk1 : qs.take (i + 1) = qs.take i ++ [qs[i]] := by rw [List.take_add_one, hq]; rfl
          refine ⟨ps ++ [q], _, _, rfl, Same.mut (e2.trans e4) np, by rw [List.map_append]; exact upd_same, ?_, ?_⟩
          · rw [tk1, List.map_append]
            have h5 : Tups (upd (upd H2' q (.tup (pairV qs[i]))) p (.lst (ps.map V.ref ++ [V.ref q]))) ps ((qs.take i).map pairV) := ⟨hps.1, fun j b xs u v => by
              have z := e4 _ _ (hps.2 j b xs u v)
              rw [upd_ne (ne_of z (e4 _ _ hp) (by intro y; cases y))]; exact z⟩
            exact h5.snoc (by rw [upd_ne nqp]; exact upd_same)
          · rw [tk1]
            intro r hr'
            rcases List.mem_append.mp hr' with u | u
            · exact hok r u
            · rw [List.mem_singleton.mp u]; exact z
        walk_at "st"
        by_cases c1 : 0 ≤ (qs[i]).1
        · rw [decide_eq_true c1]
          refine iteT ?_
          refine fz ht T.c_Town T.n_Town_size (i := 0) (by decide +kernel) rfl ?_
          walk_at "st"
          by_cases c2 : (qs[i]).1 < D.size
          · rw [decide_eq_true c2]
            refine iteF ?_
            walk_at "st"
            by_cases c3 : 0 ≤ (qs[i]).2
            · rw [decide_eq_true c3]
              refine iteT ?_
              walk_at "st"
              by_cases c4 : (qs[i]).2 < 3
              · rw [decide_eq_true c4]
                refine iteF ?_
                walk_at "st"
                refine ⟨.inl ⟨rfl, _, SqL.of hp⟩, ?_⟩
                walk_at "st"
                refine ⟨szl (by show 2 ≤ 100000; decide), fun q nq => ?_⟩
                refine ⟨p, _, _, rfl, rfl, (Same.new nq) _ _ hp, sll (by rw [List.length_map]; omega), ?_⟩
                exact good ⟨c1, c2, c3, c4⟩ q nq
              · rw [decide_eq_false c4]
                refine iteT ?_
                exact bad fun z => c4 z.2.2.2
            · rw [decide_eq_false c3]
              refine iteF ?_
              refine ⟨_, rfl, ?_⟩
              refine iteT ?_
              exact bad fun z => c3 z.2.2.1
          · rw [decide_eq_false c2]
            refine iteT ?_
            exact bad fun z => c2 z.2.1
        · rw [decide_eq_false c1]
          refine iteF ?_
          refine ⟨_, rfl, ?_⟩
          refine iteT ?_
          refine iteT ?_
          exact bad fun z => c1 z.1
      · rintro σ H2 ⟨ps, x3, x4, rfl, e2, hp, hps, hok⟩
        rw [hlen, List.take_length] at hps hok
        walk_at "st"
        exact k1 (by omega) hok p ps H2 np e2 hp hps
end
end Kn
set_option Elab.async false
set_option linter.all false
set_option maxRecDepth 100000
set_option maxHeartbeats 4000000
namespace Kn
open PySem L2
local macro_rules | `(tactic| walk_at "st") => `(tactic| repeat' (first
  | with_reducible refine r_seq ?_ | with_reducible refine r_set ?_ | with_reducible refine r_ret ?_ | with_reducible refine r_retN ?_ | with_reducible refine r_drop ?_ | with_reducible refine r_next ?_
  | with_reducible refine r_if ?_ | ((with_reducible refine r_var (v := ?_) ?hs ?_); (case hs => exact rfl)) | with_reducible refine r_c ?_ | with_reducible refine r_op ?_ | with_reducible refine r_I0 ?_
  | with_reducible refine r_test ?_ | with_reducible refine r_B ?_ | with_reducible refine ⟨_, (rfl : V.bl _ = V.bl _), ?_⟩ | with_reducible refine r_not ?_ | with_reducible refine r_or ?_ | with_reducible refine r_and ?_
  | with_reducible refine r_nil ?_ | with_reducible refine r_cons ?_ | with_reducible refine r_call ?_ | with_reducible refine r_cb ?_ | with_reducible refine r_tup ?_ | with_reducible refine r_lst ?_
  | with_reducible refine r_gname ?_ | with_reducible refine r_for ?_ | with_reducible refine r_iList ?_ | with_reducible refine r_iRng1 ?_ | with_reducible refine r_lc ?_ | with_reducible refine r_yes ?_
  | with_reducible refine r_chain ?_ | with_reducible refine r_sfld ?_ | with_reducible refine r_bm ?_ | with_reducible refine r_bm0 ?_ | with_reducible refine r_make ?_ | with_reducible refine r_sl ?_ | with_reducible refine r_nopart ?_ | with_reducible refine r_part ?_ | with_reducible refine r_iEnum ?_ | with_reducible refine r_iRng2 ?_))
section
variable {P : Program} {w : World} {K : PySem.W.Frag} {mg : Str → Option Value} {base : Heap}
def G3 (g : Int) : Prop := 0 ≤ g ∧ g < 3
/-- a promise about the net, self and an int -/
def spTable (K : PySem.W.Frag) : Sp := fun vs H Q E => ∃ (G : Hp) (C : Cn) (A : Lb → Addr) (S : NS) (g : Int), vs = [.ref (A .net), .int g] ∧ NetAt K G H C A S ∧
  (G3 g → Q (.ref (A (.table g.toNat))) H) ∧ (¬G3 g → E (.ref (He.ga K "NoGroup")) none H)
theorem sc_table : FnScope ["self", "group"] ["self", "group"] (defScope s_Net_table) := ⟨rfl, rfl, rfl, by decide +kernel, rfl, by decide +kernel, by decide +kernel⟩
theorem ok_table (T : Tx K mg) : Fn P w K mg base 1 (He.ma K (He.ga K "Net") "table") [] (spTable K) := by
  refine mkFn T.F_Net_table sc_table (fun _ _ _ _ _ _ us hl => match us, hl with | [_, _], _ => rfl) (fun vs H Q E h => ?_) (fun cdv A outer s H vs Q E hr h => ?_)
  · obtain ⟨G, C, A, S, g, rfl, _⟩ := h; rfl
  · obtain ⟨G, C, A, S, g, rfl, N, k1, k2⟩ := h
    obtain ⟨tk2, gG⟩ := T.i_GROUPS
    refine ⟨_, pss_cons (ps_if (pt_not (pt_chain op_le op_lt pe_int (pv 1) (pe_glob (v := .int 3) (by rfl) gG ⟨_, rfl⟩))) (pss_one (pRaise rfl (takes_of rfl rfl rfl rfl) T.x_NoGroup T.g_NoGroup)) pss_nil)
      (pss_one (ps_ret (pe_ix ix_list (pf (pv 0)) (pv 1) (fun _ _ => rfl)))), ?_⟩
    obtain ⟨dx, h1⟩ := N.net
    walk_at "st"
    by_cases c0 : 0 ≤ g
    · rw [decide_eq_true c0]
      refine iteT ?_
      walk_at "st"
      by_cases c1 : g < 3
      · rw [decide_eq_true c1]
        refine iteF ?_
        walk_at "st"
        refine fz h1 T.c_Net T.n_Net_tables (i := 3) (by decide +kernel) rfl ?_
        walk_at "st"
        exact ⟨_, _, g, _, rfl, rfl, SqL.of N.tbH, at_ix c0 (range_ix c0 c1), k1 ⟨c0, c1⟩⟩
      · rw [decide_eq_false c1]
        refine iteT ?_
        exact k2 fun z => c1 z.2
    · rw [decide_eq_false c0]
      refine iteF ?_
      refine ⟨_, rfl, ?_⟩
      refine iteT ?_
      exact k2 fun z => c0 z.1
def spNRows (K : PySem.W.Frag) : Sp := fun vs H Q E => ∃ (G : Hp) (C : Cn) (A : Lb → Addr) (S : NS) (g : Int), vs = [.ref (A .net), .int g] ∧ NetAt K G H C A S ∧
  (G3 g → ∀ ps : List Addr, Tups G ps ((S.rows g.toNat).map Row.v) → NewL (ps.map .ref) H Q) ∧ (¬G3 g → XNo K "NoGroup" H E)
theorem sc_nrows : FnScope ["self", "group"] ["self", "group"] (defScope s_Net_rows) := ⟨rfl, rfl, rfl, by decide +kernel, rfl, by decide +kernel, by decide +kernel⟩
theorem ok_nrows (T : Tx K mg) : Fn P w K mg base 2 (He.ma K (He.ga K "Net") "rows") [] (spNRows K) := by
  refine mkFn T.F_Net_rows sc_nrows (fun _ _ _ _ _ _ us hl => match us, hl with | [_, _], _ => rfl) (fun vs H Q E h => ?_) (fun cdv A outer s H vs Q E hr h => ?_)
  · obtain ⟨G, C, A, S, g, rfl, _⟩ := h; rfl
  · obtain ⟨G, C, A, S, g, rfl, N, k1, k2⟩ := h
    refine ⟨_, pss_one (ps_ret (pe_callTy call_list_of (by rfl) T.b_list (by decide +kernel) (pa_cons (cm (pv 0) T.c_Net T.m_Net_table (ok_table T) hr pX (pa_cons (pv 1) pa_nil)) pa_nil))), ?_⟩
    obtain ⟨dx, h1⟩ := N.net
    walk_at "st"
    refine mz h1 (by decide +kernel) ?_
    walk_at "st"
    refine ⟨G, C, A, S, g, rfl, N, fun c => ?_, fun c => k2 c H (Same.refl _)⟩
    obtain ⟨ps, t1, t2⟩ := N.tab (g := g.toNat) (by have := c.1; have := c.2; omega)
    exact ⟨_, _, rfl, .inl (SqL.of t1), fun l nl => (k1 c ps t2).go (Same.refl _) nl⟩
def spNLive (K : PySem.W.Frag) : Sp := fun vs H Q E => ∃ (G : Hp) (C : Cn) (A : Lb → Addr) (S : NS) (g : Int), vs = [.ref (A .net), .int g] ∧ NetAt K G H C A S ∧
  (G3 g → NewL ((liveF C.D S.up g).map .int) H Q) ∧ (¬G3 g → E (.ref (He.ga K "NoGroup")) none H)
theorem sc_nlive : FnScope ["self", "group"] ["self", "group"] (defScope s_Net_live) := ⟨rfl, rfl, rfl, by decide +kernel, rfl, by decide +kernel, by decide +kernel⟩
theorem ok_nlive (T : Tx K mg) : Fn P w K mg base 3 (He.ma K (He.ga K "Net") "live") [] (spNLive K) := by
  refine mkFn T.F_Net_live sc_nlive (fun _ _ _ _ _ _ us hl => match us, hl with | [_, _], _ => rfl) (fun vs H Q E h => ?_) (fun cdv A outer s H vs Q E hr h => ?_)
  · obtain ⟨G, C, A, S, g, rfl, _⟩ := h; rfl
  · obtain ⟨G, C, A, S, g, rfl, N, k1, k2⟩ := h
    refine ⟨_, pss_one (ps_ret (cm (pf (pv 0)) T.c_Strands T.m_Strands_live (ok_live T) hr pX (pa_cons (pv 1) pa_nil))), ?_⟩
    obtain ⟨dx, h1⟩ := N.net
    obtain ⟨ds, h2, _⟩ := N.strands
    walk_at "st"
    refine fz h1 T.c_Net T.n_Net_strands (i := 2) (by decide +kernel) rfl ?_
    refine ⟨_, _, _, rfl, h2, znone (by decide +kernel), ?_⟩
    walk_at "st"
    exact ⟨G, C, A, S, g, rfl, N, fun a b => k1 ⟨a, b⟩, k2⟩
def spNOpens (K : PySem.W.Frag) : Sp := fun vs H Q E => ∃ (G : Hp) (C : Cn) (A : Lb → Addr) (S : NS) (c : Nat) (g : Int), vs = [.ref (A .net), .int g] ∧ NetAt K G H C A S ∧ Wf C S c ∧
  (G3 g → ∀ ns, OpensOf C.D (liveF C.D S.up g) (S.rows g.toNat) ns → NewL (ns.map .int) H Q) ∧ (¬G3 g → E (.ref (He.ga K "NoGroup")) none H)
theorem sc_nopens : FnScope ["self", "group"] ["self", "group"] (defScope s_Net_opens) := ⟨rfl, rfl, rfl, by decide +kernel, rfl, by decide +kernel, by decide +kernel⟩
theorem ok_nopens (T : Tx K mg) : Fn P w K mg base 6 (He.ma K (He.ga K "Net") "opens") [] (spNOpens K) := by
  refine mkFn T.F_Net_opens sc_nopens (fun _ _ _ _ _ _ us hl => match us, hl with | [_, _], _ => rfl) (fun vs H Q E h => ?_) (fun cdv A outer s H vs Q E hr h => ?_)
  · obtain ⟨G, C, A, S, c, g, rfl, _⟩ := h; rfl
  · obtain ⟨G, C, A, S, c, g, rfl, N, W, k1, k2⟩ := h
    refine ⟨_, pss_one (ps_ret (cf (ok_opens T) hr T.g_opens_opens passL (pa_cons (pf (pv 0)) (pa_cons (cm (pv 0) T.c_Net T.m_Net_live (ok_nlive T) hr pX (pa_cons (pv 1) pa_nil)) (pa_cons (cm (pv 0) T.c_Net T.m_Net_table (ok_table T) hr pX (pa_cons (pv 1) pa_nil)) pa_nil))))), ?_⟩
    obtain ⟨dx, h1⟩ := N.net
    walk_at "st"
    refine fz h1 T.c_Net T.n_Net_town (i := 1) (by decide +kernel) rfl ?_
    walk_at "st"
    refine mz h1 (by decide +kernel) ?_
    walk_at "st"
    refine ⟨G, C, A, S, g, rfl, N, fun cg p H1 np e1 hp => ?_, k2⟩
    have N1 := N.ext e1
    walk_at "st"
    refine mz (e1 _ _ h1) (by decide +kernel) ?_
    walk_at "st"
    refine ⟨G, C, A, S, g, rfl, N1, fun _ => ?_, fun z => absurd cg z⟩
    refine ⟨C.t, C.D, p, _, _, _, rfl, N1.townH, hp, N1.rowsAt W (g := g.toNat) (by have := cg.1; have := cg.2; omega), fun ns hns o H2 no e2 ho => ?_⟩
    exact k1 cg ns hns o H2 (e1.free no) (e1.trans e2) ho
def spNNotes (K : PySem.W.Frag) : Sp := fun vs H Q E => ∃ (G : Hp) (C : Cn) (A : Lb → Addr) (S : NS) (g : Int), vs = [.ref (A .net), .int g] ∧ NetAt K G H C A S ∧ S.clean = true ∧
  (G3 g → NewL [] H Q) ∧ (¬G3 g → E (.ref (He.ga K "NoGroup")) none H)
theorem sc_nnotes : FnScope ["self", "group"] ["self", "group"] (defScope s_Net_notes) := ⟨rfl, rfl, rfl, by decide +kernel, rfl, by decide +kernel, by decide +kernel⟩
theorem ok_nnotes (T : Tx K mg) : Fn P w K mg base 2 (He.ma K (He.ga K "Net") "notes") [] (spNNotes K) := by
  refine mkFn T.F_Net_notes sc_nnotes (fun _ _ _ _ _ _ us hl => match us, hl with | [_, _], _ => rfl) (fun vs H Q E h => ?_) (fun cdv A outer s H vs Q E hr h => ?_)
  · obtain ⟨G, C, A, S, g, rfl, _⟩ := h; rfl
  · obtain ⟨G, C, A, S, g, rfl, N, cl, k1, k2⟩ := h
    refine ⟨_, pss_cons (ps_expr (cm (pv 0) T.c_Net T.m_Net_table (ok_table T) hr pX (pa_cons (pv 1) pa_nil)))
      (pss_one (ps_ret (cm0 (pe_ix ix_list (pf (pv 0)) (pv 1) (fun _ _ => rfl)) T.c_Book T.m_Book_notes (ok_notes T) hr passL))), ?_⟩
    obtain ⟨dx, h1⟩ := N.net
    walk_at "st"
    refine mz h1 (by decide +kernel) ?_
    walk_at "st"
    refine ⟨G, C, A, S, g, rfl, N, fun c => ?_, k2⟩
    have hg : g.toNat < 3 := by have := c.1; have := c.2; omega
    obtain ⟨db, h2⟩ := N.book hg
    obtain ⟨kvs, h3, _, h4⟩ := N.kept hg
    obtain rfl := h4 cl
    walk_at "st"
    refine r_meth ?_
    walk_at "st"
    refine fz h1 T.c_Net T.n_Net_books (i := 4) (by decide +kernel) rfl ?_
    walk_at "st"
    refine ⟨_, _, g, _, rfl, rfl, SqL.of N.bkH, at_ix c.1 (range_ix c.1 c.2), ?_⟩
    refine ⟨_, _, _, rfl, h2, znone (by decide +kernel), ?_⟩
    walk_at "st"
    exact ⟨_, db, _, rfl, h2, h3, k1 c⟩
theorem ok_resting_no (T : Tx K mg) : Fn P w K mg base 1 (He.ga K "resting_rows") [] (fun _ _ _ _ => False) :=
  mkFn T.F_resting (N := ["town", "live", "rows", "house"]) (ps := ["town", "live", "rows"]) ⟨rfl, rfl, rfl, by decide +kernel, rfl, by decide +kernel, by decide +kernel⟩ (fun _ _ _ _ _ _ us hl => match us, hl with | [_, _, _], _ => rfl) (fun vs H Q E h => h.elim) (fun cdv A outer s H vs Q E hr h => h.elim)
def spResting (K : PySem.W.Frag) : Sp := fun vs H Q E => ∃ (G : Hp) (C : Cn) (A : Lb → Addr) (S : NS) (g : Int), vs = [.ref (A .net), .int g] ∧ NetAt K G H C A S ∧ ¬G3 g ∧ E (.ref (He.ga K "NoGroup")) none H
theorem sc_resting : FnScope ["self", "group"] ["self", "group"] (defScope s_Net_resting) := ⟨rfl, rfl, rfl, by decide +kernel, rfl, by decide +kernel, by decide +kernel⟩
theorem ok_resting (T : Tx K mg) : Fn P w K mg base 4 (He.ma K (He.ga K "Net") "resting") [] (spResting K) := by
  refine mkFn T.F_Net_resting sc_resting (fun _ _ _ _ _ _ us hl => match us, hl with | [_, _], _ => rfl) (fun vs H Q E h => ?_) (fun cdv A outer s H vs Q E hr h => ?_)
  · obtain ⟨G, C, A, S, g, rfl, _⟩ := h; rfl
  · obtain ⟨G, C, A, S, g, rfl, N, cg, k2⟩ := h
    refine ⟨_, pss_one (ps_ret (cf (ok_resting_no T) hr T.g_resting_rows passL (pa_cons (pf (pv 0)) (pa_cons (cm (pv 0) T.c_Net T.m_Net_live (ok_nlive T) hr pX (pa_cons (pv 1) pa_nil)) (pa_cons (cm (pv 0) T.c_Net T.m_Net_table (ok_table T) hr pX (pa_cons (pv 1) pa_nil)) pa_nil))))), ?_⟩
    obtain ⟨dx, h1⟩ := N.net
    walk_at "st"
    refine fz h1 T.c_Net T.n_Net_town (i := 1) (by decide +kernel) rfl ?_
    walk_at "st"
    refine mz h1 (by decide +kernel) ?_
    walk_at "st"
    exact ⟨G, C, A, S, g, rfl, N, fun z => absurd z cg, fun _ => k2⟩
def spPlace (K : PySem.W.Frag) : Sp := fun vs H Q E => ∃ (G : Hp) (C : Cn) (A : Lb → Addr) (S : NS) (c : Int), vs = [.ref (A .net), .int c] ∧ NetAt K G H C A S ∧
  (0 ≤ c → c < C.people.length → ∀ q, C.people[c.toNat]? = some q → Q (.int q.1) H) ∧ (¬(0 ≤ c ∧ c < C.people.length) → E (.ref (He.ga K "NoCaller")) none H)
theorem sc_place : FnScope ["self", "caller"] ["self", "caller"] (defScope s_Net_place) := ⟨rfl, rfl, rfl, by decide +kernel, rfl, by decide +kernel, by decide +kernel⟩
theorem ok_place (T : Tx K mg) : Fn P w K mg base 1 (He.ma K (He.ga K "Net") "place") [] (spPlace K) := by
  refine mkFn T.F_Net_place sc_place (fun _ _ _ _ _ _ us hl => match us, hl with | [_, _], _ => rfl) (fun vs H Q E h => ?_) (fun cdv A outer s H vs Q E hr h => ?_)
  · obtain ⟨G, C, A, S, g, rfl, _⟩ := h; rfl
  · obtain ⟨G, C, A, S, c, rfl, N, k1, k2⟩ := h
    refine ⟨_, pss_cons (ps_if (pt_not (pt_chain op_le op_lt pe_int (pv 1) (pe_callB call_len (by rfl) T.b_len PySem.boot_len (pa_cons (pf (pv 0)) pa_nil)))) (pss_one (pRaise rfl (takes_of rfl rfl rfl rfl) T.x_NoCaller T.g_NoCaller)) pss_nil)
      (pss_one (ps_ret (pe_ix ix_tup (pe_ix ix_list (pf (pv 0)) (pv 1) (fun _ _ => rfl)) pe_int (fun _ _ => rfl)))), ?_⟩
    obtain ⟨dx, h1⟩ := N.net
    obtain ⟨ps, h2, h3⟩ := N.plH
    have hlen : (ps.map V.ref).length = C.people.length := by rw [List.length_map, h3.1, List.length_map]
    walk_at "st"
    by_cases c0 : 0 ≤ c
    · rw [decide_eq_true c0]
      refine iteT ?_
      refine fz h1 T.c_Net T.n_Net_people (i := 0) (by decide +kernel) rfl ?_
      walk_at "st"
      refine ⟨_, _, rfl, .inl ⟨_, SqL.of h2, rfl⟩, ?_⟩
      walk_at "st"
      rw [hlen]
      by_cases c1 : c < C.people.length
      · rw [decide_eq_true c1]
        refine iteF ?_
        obtain ⟨q, hq, _⟩ := get_some c0 c1
        obtain ⟨a, a1, a2⟩ := h3.at (get_map (f := pairV) hq)
        walk_at "st"
        refine fz h1 T.c_Net T.n_Net_people (i := 0) (by decide +kernel) rfl ?_
        walk_at "st"
        refine ⟨_, _, c, _, rfl, rfl, SqL.of h2, at_ix c0 (get_map (f := V.ref) a1), ?_⟩
        walk_at "st"
        exact ⟨a, _, 0, _, rfl, rfl, SqT.of a2, at_ix (by decide) rfl, k1 c0 c1 q hq⟩
      · rw [decide_eq_false c1]
        refine iteT ?_
        exact k2 fun z => c1 z.2
    · rw [decide_eq_false c0]
      refine iteF ?_
      refine ⟨_, rfl, ?_⟩
      refine iteT ?_
      exact k2 fun z => c0 z.1
end
end Kn
set_option Elab.async false
set_option linter.all false
set_option maxRecDepth 100000
set_option maxHeartbeats 4000000
namespace Kn
open PySem L2
local macro_rules | `(tactic| walk_at "st") => `(tactic| repeat' (first
  | with_reducible refine r_seq ?_ | with_reducible refine r_set ?_ | with_reducible refine r_ret ?_ | with_reducible refine r_retN ?_ | with_reducible refine r_drop ?_ | with_reducible refine r_next ?_
  | with_reducible refine r_if ?_ | ((with_reducible refine r_var (v := ?_) ?hs ?_); (case hs => exact rfl)) | with_reducible refine r_c ?_ | with_reducible refine r_op ?_ | with_reducible refine r_I0 ?_
  | with_reducible refine r_test ?_ | with_reducible refine r_B ?_ | with_reducible refine ⟨_, (rfl : V.bl _ = V.bl _), ?_⟩ | with_reducible refine r_not ?_ | with_reducible refine r_or ?_ | with_reducible refine r_and ?_
  | with_reducible refine r_nil ?_ | with_reducible refine r_cons ?_ | with_reducible refine r_call ?_ | with_reducible refine r_cb ?_ | with_reducible refine r_tup ?_ | with_reducible refine r_lst ?_
  | with_reducible refine r_gname ?_ | with_reducible refine r_for ?_ | with_reducible refine r_iList ?_ | with_reducible refine r_iRng1 ?_ | with_reducible refine r_lc ?_ | with_reducible refine r_yes ?_
  | with_reducible refine r_chain ?_ | with_reducible refine r_sfld ?_ | with_reducible refine r_bm ?_ | with_reducible refine r_bm0 ?_ | with_reducible refine r_make ?_ | with_reducible refine r_sl ?_ | with_reducible refine r_nopart ?_ | with_reducible refine r_part ?_ | with_reducible refine r_iEnum ?_ | with_reducible refine r_iRng2 ?_))
section
variable {P : Program} {w : World} {K : PySem.W.Frag} {mg : Str → Option Value} {base : Heap}
def hadF (hands : List (List V)) (c : Int) : List V := hands.filterMap fun e => match e with | [n, o] => if o = .int c then some n else none | _ => none
theorem hadF_snoc (l : List (List V)) (n o c : Int) : hadF (l ++ [[.int n, .int o]]) c = hadF l c ++ (if o = c then [.int n] else []) := by
  unfold hadF
  rw [List.filterMap_append]
  congr 1
  by_cases h : o = c
  · subst h; simp [List.filterMap_cons]
  · rw [if_neg h]
    simp [List.filterMap_cons, h]
theorem hadF_len (l : List (List V)) (c : Int) : (hadF l c).length ≤ l.length := List.length_filterMap_le _ _
def CIn (C : Cn) (c : Int) : Prop := 0 ≤ c ∧ c < C.people.length
def spHad (K : PySem.W.Frag) : Sp := fun vs H Q E => ∃ (G : Hp) (C : Cn) (A : Lb → Addr) (S : NS) (k : Nat) (c : Int), vs = [.ref (A .net), .int c] ∧ NetAt K G H C A S ∧ Wf C S k ∧ k < 99999 ∧
  (CIn C c → NewL (hadF S.hands c) H Q) ∧ (¬CIn C c → E (.ref (He.ga K "NoCaller")) none H)
theorem sc_had : FnScope ["self", "caller", "number", "one"] ["self", "caller"] (defScope s_Net_had) := ⟨rfl, rfl, rfl, by decide +kernel, rfl, by decide +kernel, by decide +kernel⟩
theorem ok_had (T : Tx K mg) : Fn P w K mg base 2 (He.ma K (He.ga K "Net") "had") [] (spHad K) := by
  refine mkFn T.F_Net_had sc_had (fun _ _ _ _ _ _ us hl => match us, hl with | [_, _], _ => rfl) (fun vs H Q E h => ?_) (fun cdv A outer s H vs Q E hr h => ?_)
  · obtain ⟨G, C, A, S, k, c, rfl, _⟩ := h; rfl
  · obtain ⟨G, C, A, S, k, c, rfl, N, W, kk, k1, k2⟩ := h
    have nd := sc_had.nd
    refine ⟨_, pss_cons (ps_expr (cm (pv 0) T.c_Net T.m_Net_place (ok_place T) hr pX (pa_cons (pv 1) pa_nil)))
      (pss_one (ps_ret (pe_lc (own := [("number", 2), ("one", 3)]) (g := gTup K 2 (gCons (gName 2) (gCons (gName 3) gNil))) rfl nd (pi_list (pf (pv 0)))
      (blkOk_by (N := ["self", "caller", "number", "one"]) (sc := defScope s_Net_had) (by decide +kernel))
      (fun _ _ _ _ _ => pg_tup rfl (pgs_cons (pg_name (i := 2) nd rfl (Or.inl rfl)) (pgs_cons (pg_name (i := 3) nd rfl (Or.inl rfl)) pgs_nil))) (fun _ _ _ _ _ => pts_one (pt_cmpR op_eq (pv 3) (pv 1) (nomark _)))
      (fun _ _ _ _ _ => pv 2)))), ?_⟩
    obtain ⟨dx, h1⟩ := N.net
    obtain ⟨ps, h2, h3⟩ := N.handsH
    walk_at "st"
    refine mz h1 (by decide +kernel) ?_
    walk_at "st"
    refine ⟨G, C, A, S, c, rfl, N, fun c0 c1 q hq => ?_, k2⟩
    walk_at "st"
    refine fz h1 T.c_Net T.n_Net_hands (i := 8) (by decide +kernel) rfl ?_
    refine ⟨_, rfl, ⟨_, SqL.of h2⟩, fun p np => ?_⟩
    have hlen : (ps.map V.ref).length = S.hands.length := by rw [List.length_map, h3.1]
    have hl1 := W.l1
    refine lc_it walk_list (fun i H' => Same H H' ∧ H' p = some (.lst (hadF (S.hands.take i) c))) ⟨Same.new np, upd_same⟩ (fun i H' _ ⟨e, _⟩ => e.seq (SqL.of h2)) ?_ ?_
    · rintro i x H1 H1' hi ⟨e1, hp⟩ ⟨rfl, hx⟩
      have hi' : i < S.hands.length := by rw [hlen] at hi; exact hi
      have hq : S.hands[i]? = some S.hands[i] := List.getElem?_eq_getElem hi'
      obtain ⟨n, o, ho⟩ := W.ha _ (List.getElem_mem hi')
      obtain ⟨a, a1, a2⟩ := (h3.mono (N.same.trans e1)).at hq
      obtain rfl : x = .ref a := (Option.some.inj ((get_map (f := V.ref) a1).symm.trans hx)).symm
      rw [ho] at a2
      have tk : S.hands.take (i + 1) = S.hands.take i ++ [[.int n, .int o]] := by rw [List.take_add_one, hq, ho]; rfl
      have hz := hadF_len (S.hands.take i) c
      rw [List.length_take] at hz
      refine ⟨a, _, rfl, SqT.of a2, rfl, ?_⟩
      refine ⟨_, _, rfl, _, _, rfl, rfl, ?_⟩
      refine ⟨rfl, ?_⟩
      walk_at "st"
      refine ⟨rfl, _, rfl, ?_⟩
      rw [tk, hadF_snoc]
      by_cases z : o = c
      · rw [decide_eq_true (show V.int o = V.int c by rw [z]), if_pos z]
        refine iteT ?_
        walk_at "st"
        exact ⟨_, hp, sll (by omega), Same.mut e1 np, upd_same⟩
      · rw [decide_eq_false (fun y => z (V.int.inj y)), if_neg z, List.append_nil]
        refine iteF ?_
        exact ⟨e1, hp⟩
    · rintro H1 ⟨e1, hp⟩
      rw [hlen, List.take_length] at hp
      exact k1 ⟨c0, c1⟩ p H1 np e1 hp
def spFlying (K : PySem.W.Frag) : Sp := fun vs H Q E => ∃ (G : Hp) (C : Cn) (A : Lb → Addr) (S : NS), vs = [.ref (A .net)] ∧ NetAt K G H C A S ∧ ∀ ps : List Addr, Tups G ps S.air → NewL (ps.map .ref) H Q
theorem sc_flying : FnScope ["self"] ["self"] (defScope s_Net_flying) := ⟨rfl, rfl, rfl, by decide +kernel, rfl, by decide +kernel, by decide +kernel⟩
theorem ok_flying (T : Tx K mg) : Fn P w K mg base 1 (He.ma K (He.ga K "Net") "flying") [] (spFlying K) := by
  refine mkFn T.F_Net_flying sc_flying (fun _ _ _ _ _ _ us hl => match us, hl with | [_], _ => rfl) (fun vs H Q E h => ?_) (fun cdv A outer s H vs Q E hr h => ?_)
  · obtain ⟨G, C, A, S, rfl, _⟩ := h; rfl
  · obtain ⟨G, C, A, S, rfl, N, k⟩ := h
    refine ⟨_, pss_one (ps_ret (pe_callTy call_list_of (by rfl) T.b_list (by decide +kernel) (pa_cons (pf (pv 0)) pa_nil))), ?_⟩
    obtain ⟨dx, h1⟩ := N.net
    obtain ⟨ps, h2, h3⟩ := N.airH
    walk_at "st"
    refine fz h1 T.c_Net T.n_Net_air (i := 10) (by decide +kernel) rfl ?_
    walk_at "st"
    exact ⟨_, _, rfl, .inl (SqL.of h2), fun l nl => (k ps h3).go (Same.refl _) nl⟩
def spStory (K : PySem.W.Frag) : Sp := fun vs H Q E => ∃ (G : Hp) (C : Cn) (A : Lb → Addr) (S : NS) (i : Int), vs = [.ref (A .net), .int i] ∧ NetAt K G H C A S ∧
  (0 ≤ i → i < S.ns → ∀ ps : List Addr, Tups G ps (S.stories i.toNat) → NewL (ps.map .ref) H Q) ∧ (¬(0 ≤ i ∧ i < S.ns) → E (.ref (He.ga K "NoLetter")) none H)
theorem sc_story : FnScope ["self", "letter"] ["self", "letter"] (defScope s_Net_story) := ⟨rfl, rfl, rfl, by decide +kernel, rfl, by decide +kernel, by decide +kernel⟩
theorem ok_story (T : Tx K mg) : Fn P w K mg base 1 (He.ma K (He.ga K "Net") "story") [] (spStory K) := by
  refine mkFn T.F_Net_story sc_story (fun _ _ _ _ _ _ us hl => match us, hl with | [_, _], _ => rfl) (fun vs H Q E h => ?_) (fun cdv A outer s H vs Q E hr h => ?_)
  · obtain ⟨G, C, A, S, g, rfl, _⟩ := h; rfl
  · obtain ⟨G, C, A, S, c, rfl, N, k1, k2⟩ := h
    refine ⟨_, pss_cons (ps_if (pt_not (pt_chain op_le op_lt pe_int (pv 1) (pe_callB call_len (by rfl) T.b_len PySem.boot_len (pa_cons (pf (pv 0)) pa_nil)))) (pss_one (pRaise rfl (takes_of rfl rfl rfl rfl) T.x_NoLetter T.g_NoLetter)) pss_nil)
      (pss_one (ps_ret (pe_callTy call_list_of (by rfl) T.b_list (by decide +kernel) (pa_cons (pe_ix ix_list (pf (pv 0)) (pv 1) (fun _ _ => rfl)) pa_nil)))), ?_⟩
    obtain ⟨dx, h1⟩ := N.net
    have h2 := N.storiesH
    walk_at "st"
    by_cases c0 : 0 ≤ c
    · rw [decide_eq_true c0]
      refine iteT ?_
      refine fz h1 T.c_Net T.n_Net_stories (i := 7) (by decide +kernel) rfl ?_
      walk_at "st"
      refine ⟨_, _, rfl, .inl ⟨_, SqL.of h2, rfl⟩, ?_⟩
      walk_at "st"
      rw [List.length_map, List.length_range]
      by_cases c1 : c < S.ns
      · rw [decide_eq_true c1]
        refine iteF ?_
        obtain ⟨ps, h3, h4⟩ := N.storyH (i := c.toNat) (by omega)
        walk_at "st"
        refine fz h1 T.c_Net T.n_Net_stories (i := 7) (by decide +kernel) rfl ?_
        walk_at "st"
        refine ⟨_, _, c, _, rfl, rfl, SqL.of h2, at_ix c0 (range_ix c0 c1), ?_⟩
        exact ⟨_, _, rfl, .inl (SqL.of h3), fun l nl => (k1 c0 c1 ps h4).go (Same.refl _) nl⟩
      · rw [decide_eq_false c1]
        refine iteT ?_
        exact k2 fun z => c1 z.2
    · rw [decide_eq_false c0]
      refine iteF ?_
      refine ⟨_, rfl, ?_⟩
      refine iteT ?_
      exact k2 fun z => c0 z.1
def HIn (C : Cn) (c : Int) : Prop := 0 ≤ c ∧ c < C.D.size
def spMove (K : PySem.W.Frag) : Sp := fun vs H Q E => ∃ (G : Hp) (C : Cn) (A : Lb → Addr) (S : NS) (c h : Int), vs = [.ref (A .net), .int c, .int h] ∧ NetAt K G H C A S ∧
  (¬CIn C c → E (.ref (He.ga K "NoCaller")) none H) ∧ (CIn C c → ¬HIn C h ∧ E (.ref (He.ga K "NoHouse")) none H)
theorem sc_move : FnScope ["self", "caller", "house", "before", "group"] ["self", "caller", "house"] (defScope s_Net_move) := ⟨rfl, rfl, rfl, by decide +kernel, rfl, by decide +kernel, by decide +kernel⟩
theorem ok_move (T : Tx K mg) : Fn P w K mg base 2 (He.ma K (He.ga K "Net") "move") [] (spMove K) := by
  refine mkFn T.F_Net_move sc_move (fun _ _ _ _ _ _ us hl => match us, hl with | [_, _, _], _ => rfl) (fun vs H Q E h => ?_) (fun cdv A outer s H vs Q E hr h => ?_)
  · obtain ⟨G, C, A, S, c, h, rfl, _⟩ := h; rfl
  · obtain ⟨G, C, A, S, c, h, rfl, N, k1, k2⟩ := h
    refine ⟨_, pss_cons (ps_set (i := 3) sc_move.nd rfl (.inl rfl) (cm (pv 0) T.c_Net T.m_Net_place (ok_place T) hr pX (pa_cons (pv 1) pa_nil)))
      (pss_cons (ps_if (pt_not (pt_chain op_le op_lt pe_int (pv 2) (pf (pf (pv 0))))) (pss_one (pRaise rfl (takes_of rfl rfl rfl rfl) T.x_NoHouse T.g_NoHouse)) pss_nil)
      pss_never), ?_⟩
    obtain ⟨dx, h1⟩ := N.net
    obtain ⟨dt, la, lk, lr, pk, pn, ht, _⟩ := N.townH.ex
    walk_at "st"
    refine mz h1 (by decide +kernel) ?_
    walk_at "st"
    refine ⟨G, C, A, S, c, rfl, N, fun c0 c1 q hq => ?_, k1⟩
    obtain ⟨h0, k2⟩ := k2 ⟨c0, c1⟩
    walk_at "st"
    by_cases d0 : 0 ≤ h
    · rw [decide_eq_true d0]
      refine iteT ?_
      refine r_fld ?_
      refine fz h1 T.c_Net T.n_Net_town (i := 1) (by decide +kernel) rfl ?_
      refine ⟨_, _, _, _, _, rfl, ht, T.c_Town, T.n_Town_size, zlook (i := 0) (by decide +kernel) rfl, ?_⟩
      walk_at "st"
      rw [decide_eq_false (show ¬ h < (C.D.size : Int) from fun z => h0 ⟨d0, z⟩)]
      refine iteT ?_
      exact k2
    · rw [decide_eq_false d0]
      refine iteF ?_
      refine ⟨_, rfl, ?_⟩
      refine iteT ?_
      exact k2
end
end Kn
set_option Elab.async false
set_option linter.all false
set_option maxRecDepth 100000
set_option maxHeartbeats 4000000
namespace Kn
open PySem L2
local macro_rules | `(tactic| walk_at "st") => `(tactic| repeat' (first
  | with_reducible refine r_seq ?_ | with_reducible refine r_set ?_ | with_reducible refine r_ret ?_ | with_reducible refine r_retN ?_ | with_reducible refine r_drop ?_ | with_reducible refine r_next ?_
  | with_reducible refine r_if ?_ | ((with_reducible refine r_var (v := ?_) ?hs ?_); (case hs => exact rfl)) | with_reducible refine r_c ?_ | with_reducible refine r_op ?_ | with_reducible refine r_I0 ?_
  | with_reducible refine r_test ?_ | with_reducible refine r_B ?_ | with_reducible refine ⟨_, (rfl : V.bl _ = V.bl _), ?_⟩ | with_reducible refine r_not ?_ | with_reducible refine r_or ?_ | with_reducible refine r_and ?_
  | with_reducible refine r_nil ?_ | with_reducible refine r_cons ?_ | with_reducible refine r_call ?_ | with_reducible refine r_cb ?_ | with_reducible refine r_tup ?_ | with_reducible refine r_lst ?_
  | with_reducible refine r_gname ?_ | with_reducible refine r_for ?_ | with_reducible refine r_iList ?_ | with_reducible refine r_iRng1 ?_ | with_reducible refine r_lc ?_ | with_reducible refine r_yes ?_
  | with_reducible refine r_chain ?_ | with_reducible refine r_sfld ?_ | with_reducible refine r_bm ?_ | with_reducible refine r_bm0 ?_ | with_reducible refine r_make ?_ | with_reducible refine r_sl ?_ | with_reducible refine r_nopart ?_ | with_reducible refine r_part ?_ | with_reducible refine r_iEnum ?_ | with_reducible refine r_iRng2 ?_))
/-! The net: what writes. -/
def setA (A : Lb → Addr) (l : Lb) (p : Addr) : Lb → Addr := fun l' => if l' = l then p else A l'
theorem setA_at {A : Lb → Addr} {l : Lb} {p : Addr} : setA A l p l = p := by unfold setA; rw [if_pos rfl]
theorem setA_ne {A : Lb → Addr} {l l' : Lb} {p : Addr} (h : l' ≠ l) : setA A l p l' = A l' := by unfold setA; rw [if_neg h]
section
variable {K : PySem.W.Frag} {G H : Hp} {C : Cn} {A : Lb → Addr} {S S' : NS} {p : Addr} {o : HO} {l : Lb}
theorem Ct.keptA {g : Nat} (h : Ct K G C A S l o) (hn : l ≠ .book g) : Ct K G C (setA A (.kept g) p) S l o := by
  cases l with
  | net => obtain ⟨dx, rfl⟩ := h; exact ⟨dx, by simp [netV, setA]⟩
  | table g => exact h
  | book g' =>
    obtain ⟨dx, rfl⟩ := h
    refine ⟨dx, ?_⟩
    rw [setA_ne (fun z => hn (by injection z with z; rw [z]))]
  | kept g => exact h
  | wires r => exact h
  | news => exact h
  | sent => exact h
  | stories =>
    have h : o = _ := h
    subst h
    show HO.lst _ = HO.lst _
    simp [setA]
  | story i => exact h
  | hands => exact h
  | done => exact h
  | air => exact h
theorem Ct.airA (h : Ct K G C A S l o) (hn : l ≠ .net) : Ct K G C (setA A .air p) S l o := by
  cases l with
  | net => exact absurd rfl hn
  | table g => exact h
  | book g' =>
    obtain ⟨dx, rfl⟩ := h
    exact ⟨dx, by rw [setA_ne (by intro z; cases z)]⟩
  | kept g => exact h
  | wires r => exact h
  | news => exact h
  | sent => exact h
  | stories =>
    have h : o = _ := h
    subst h
    show HO.lst _ = HO.lst _
    simp [setA]
  | story i => exact h
  | hands => exact h
  | done => exact h
  | air => exact h
/-- a place is laid anew at p, and the place that tells of it is written -/
theorem NetAt.re {m : Lb} {o2 : HO} (N : NetAt K G H C A S) (hp : G p = none) (hf : ∀ l', Dom C S l' → A l' ≠ p) (hH : H p = some o) (ml : m ≠ l) (dm : Dom C S m) (hd : ∀ l', Dom C S' l' → Dom C S l')
    (c : Ct K G C (setA A l p) S' l o) (c2 : Ct K G C (setA A l p) S' m o2) (oth : ∀ l' o', l' ≠ l → l' ≠ m → Dom C S l' → Ct K G C A S l' o' → Ct K G C (setA A l p) S' l' o') (fx : Fix K G C (setA A l p)) : NetAt K G (upd H (A m) o2) C (setA A l p) S' := by
  refine ⟨fx, Same.mut N.same (N.out m dm), fun l' d => ?_, fun a b da db z => ?_, fun l' d => ?_⟩
  · by_cases q : l' = l
    · rw [q, setA_at]; exact hp
    · rw [setA_ne q]; exact N.out l' (hd l' d)
  · by_cases qa : a = l
    · by_cases qb : b = l
      · rw [qa, qb]
      · rw [qa, setA_at, setA_ne qb] at z
        exact absurd z.symm (hf b (hd b db))
    · by_cases qb : b = l
      · rw [qb, setA_at, setA_ne qa] at z
        exact absurd z (hf a (hd a da))
      · rw [setA_ne qa, setA_ne qb] at z
        exact N.inj a b (hd a da) (hd b db) z
  · by_cases q : l' = l
    · subst q
      rw [setA_at]
      exact ⟨o, by rw [upd_ne (Ne.symm (hf m dm))]; exact hH, c⟩
    · rw [setA_ne q]
      by_cases qm : l' = m
      · subst qm
        exact ⟨o2, upd_same, c2⟩
      · obtain ⟨o', h1, h2⟩ := N.has l' (hd l' d)
        refine ⟨o', ?_, oth l' o' q qm (hd l' d) h2⟩
        rw [upd_ne fun z => qm (N.inj l' m (hd l' d) dm z)]
        exact h1
end
theorem r_augS {to ti te : TE} {tget : V → V → Hp → VK → Prop} {tip : TIp} {tset : TSet} {D : Ends} {σ : L2.St} {H : Hp} (h : to σ H fun o H1 => ti σ H1 fun i H2 => tget o i H2 fun x H3 => te σ H3 fun y H4 => tip x y H4 fun z H5 => tset o i z H5 fun H6 => D.nx σ H6) : tAugS to ti te tget tip tset D σ H := h
section
variable {P : Program} {w : World} {K : PySem.W.Frag} {mg : Str → Option Value} {base : Heap}
/-- what news leaves -/
def NewsPost (K : PySem.W.Frag) (G : Hp) (C : Cn) (A : Lb → Addr) (S : NS) (v : V) (Q : VK) : Prop := ∀ H' A' nw, NetAt K G H' C A' { S with news := nw } → nw.length = S.news.length → A' .net = A .net → Q v H'
def spNews (K : PySem.W.Frag) : Sp := fun vs H Q E => ∃ (G : Hp) (C : Cn) (A : Lb → Addr) (S : NS) (g : Int), vs = [.ref (A .net), .int g] ∧ NetAt K G H C A S ∧ G3 g ∧ S.news.length = 3 ∧ NewsPost K G C A S .non Q
theorem sc_news : FnScope ["self", "group"] ["self", "group"] (defScope s_Net_news) := ⟨rfl, rfl, rfl, by decide +kernel, rfl, by decide +kernel, by decide +kernel⟩
theorem ok_news (T : Tx K mg) : Fn P w K mg base 2 (He.ma K (He.ga K "Net") "news") [] (spNews K) := by
  refine mkFn T.F_Net_news sc_news (fun _ _ _ _ _ _ us hl => match us, hl with | [_, _], _ => rfl) (fun vs H Q E h => ?_) (fun cdv A outer s H vs Q E hr h => ?_)
  · obtain ⟨G, C, A, S, g, rfl, _⟩ := h; rfl
  · obtain ⟨G, C, A, S, g, rfl, N, cg, nl, k⟩ := h
    refine ⟨_, pss_cons (ps_expr (cm0 (pe_ix ix_list (pf (pv 0)) (pv 1) (fun _ _ => rfl)) T.c_Book T.m_Book_forget (ok_forget T) hr passL))
      (pss_one (ps_augS (pf (pv 0)) (pv 1) get_list pe_int ip_add set_list (by intros; rfl))), ?_⟩
    have hg : g.toNat < 3 := by have := cg.1; have := cg.2; omega
    obtain ⟨dx, h1⟩ := N.net
    obtain ⟨db, h2⟩ := N.book hg
    walk_at "st"
    refine r_meth ?_
    walk_at "st"
    refine fz h1 T.c_Net T.n_Net_books (i := 4) (by decide +kernel) rfl ?_
    walk_at "st"
    refine ⟨_, _, g, _, rfl, rfl, SqL.of N.bkH, at_ix cg.1 (range_ix cg.1 cg.2), ?_⟩
    refine ⟨_, _, _, rfl, h2, znone (by decide +kernel), ?_⟩
    walk_at "st"
    refine ⟨_, db, _, rfl, h2, fun d nd => ?_⟩
    have N1 := N.ext (Same.new (o := .dT []) nd)
    have N2 : NetAt K G (upd (upd H d (.dT [])) (A (.book g.toNat)) (.ins (He.ga K "Book") db (bookL.zip [.ref d]))) C (setA A (.kept g.toNat) d) S :=
      N1.re (l := .kept g.toNat) (m := .book g.toNat) (o := .dT []) (N.same.free nd) (N.free nd) upd_same (by intro z; cases z) hg (fun _ d => d)
        ⟨[], rfl, Nat.zero_le _, fun _ => rfl⟩ ⟨db, by rw [setA_at]⟩ (fun l' o' _ q2 _ h => h.keptA q2) (N.fix.lab (fun _ => setA_ne (by intro z; cases z)) (fun _ => setA_ne (by intro z; cases z)) (fun _ => setA_ne (by intro z; cases z)))
    obtain ⟨dx2, h3⟩ := N2.net
    have hnet : setA A (.kept g.toNat) d .net = A .net := setA_ne (by intro z; cases z)
    walk_at "st"
    rw [hnet] at h3
    with_reducible refine r_augS ?_
    refine fz h3 T.c_Net T.n_Net_news_by (i := 5) (by decide +kernel) rfl ?_
    walk_at "st"
    have h4 := N2.newsH
    obtain ⟨x, hx, _⟩ := get_some (l := S.news) cg.1 (by rw [nl]; exact cg.2)
    refine ⟨_, _, g, _, rfl, rfl, SqL.of h4, at_ix cg.1 (get_map (f := V.int) hx), ?_⟩
    walk_at "st"
    refine ⟨x, 1, rfl, rfl, ?_⟩
    refine ⟨_, _, g, g.toNat, rfl, rfl, h4, ix_ok cg.1 (by rw [List.length_map, nl]; exact cg.2), ?_⟩
    refine k _ (setA A (.kept g.toNat) d) (S.news.set g.toNat (x + 1)) ?_ (List.length_set ..) hnet
    refine N2.set (l := .news) trivial (fun _ d => d) ?_ (fun l' o' ne _ h => ?_)
    · show HO.lst _ = HO.lst _
      rw [List.map_set]
    · cases l' with
      | news => exact absurd rfl ne
      | net => exact h
      | table g => exact h
      | book g => exact h
      | kept g => exact h
      | wires r => exact h
      | sent => exact h
      | stories => exact h
      | story i => exact h
      | hands => exact h
      | done => exact h
      | air => exact h
def spNewsOf (K : PySem.W.Frag) : Sp := fun vs H Q E => ∃ (G : Hp) (C : Cn) (A : Lb → Addr) (S : NS) (r : Int), vs = [.ref (A .net), .int r] ∧ NetAt K G H C A S ∧ 0 ≤ r ∧ r < C.D.ropes.length ∧ S.news.length = 3 ∧ NewsPost K G C A S .non Q
theorem sc_news_of : FnScope ["self", "rope", "group"] ["self", "rope"] (defScope s_Net_news_of) := ⟨rfl, rfl, rfl, by decide +kernel, rfl, by decide +kernel, by decide +kernel⟩
theorem ok_news_of (T : Tx K mg) : Fn P w K mg base 3 (He.ma K (He.ga K "Net") "news_of") [] (spNewsOf K) := by
  refine mkFn T.F_Net_news_of sc_news_of (fun _ _ _ _ _ _ us hl => match us, hl with | [_, _], _ => rfl) (fun vs H Q E h => ?_) (fun cdv A outer s H vs Q E hr h => ?_)
  · obtain ⟨G, C, A, S, g, rfl, _⟩ := h; rfl
  · obtain ⟨G, C, A, S, r, rfl, N, r0, r1, nl, k⟩ := h
    obtain ⟨tk2, gG⟩ := T.i_GROUPS
    refine ⟨_, pss_one (ps_for (passes_of rfl) rfl (pi_range1 (by rfl) T.b_range (pa_cons (pe_glob (v := .int 3) (by rfl) gG ⟨_, rfl⟩) pa_nil)) (pg_name (i := 2) sc_news_of.nd rfl (.inl rfl))
      (pss_one (ps_if (pTru (cm (pf (pv 0)) T.c_Town T.m_Town_lets (ok_Town_lets T) hr passL (pa_cons (pv 1) (pa_cons (pv 2) pa_nil))))
        (pss_one (ps_expr (cm (pv 0) T.c_Net T.m_Net_news (ok_news T) hr passL (pa_cons (pv 2) pa_nil)))) pss_nil))), ?_⟩
    walk_at "st"
    refine ⟨_, rfl, by decide, by decide, ?_⟩
    refine for_it walk_range (fun i σ H' => ∃ A' nw x, σ = [some (.ref (A .net)), some (.int r), x] ∧ NetAt K G H' C A' { S with news := nw } ∧ nw.length = S.news.length ∧ A' .net = A .net)
      ⟨A, S.news, none, rfl, N, rfl, rfl⟩ (fun _ _ _ _ _ => trivial) ?_ ?_
    · rintro i y σ H3 H3' hi ⟨A', nw, x, rfl, N3, hl, hn⟩ ⟨rfl, rfl⟩
      have hi3 : i < 3 := hi
      obtain ⟨dx, h1⟩ := N3.net
      rw [hn] at h1
      obtain ⟨dt, la, lk, lr, pk, pn, ht, _⟩ := N3.townH.ex
      walk_at "st"
      refine r_tru ?_
      refine r_meth ?_
      walk_at "st"
      refine fz h1 T.c_Net T.n_Net_town (i := 1) (by decide +kernel) rfl ?_
      refine ⟨_, _, _, rfl, ht, znone (by decide +kernel), ?_⟩
      walk_at "st"
      refine ⟨C.t, C.D, r, _, rfl, N3.townH, r0, r1, by omega, fun rp hrp => ?_⟩
      refine ⟨_, (rfl : _ = _), ?_⟩
      refine ite2 (fun _ => ?_) (fun _ => ?_)
      · walk_at "st"
        refine mz h1 (by decide +kernel) ?_
        walk_at "st"
        refine ⟨G, C, A', _, _, by rw [hn]; rfl, N3, ⟨by omega, by omega⟩, by show nw.length = 3; rw [hl, nl], fun H4 A4 nw4 N4 hl4 hn4 => ?_⟩
        walk_at "st"
        exact ⟨A4, nw4, _, rfl, N4, hl4.trans hl, hn4.trans hn⟩
      · walk_at "st"
        exact ⟨A', nw, _, rfl, N3, hl, hn⟩
    · rintro σ H3 ⟨A', nw, x, rfl, N3, hl, hn⟩
      exact k H3 A' nw N3 hl hn
end
end Kn
set_option Elab.async false
set_option linter.all false
set_option maxRecDepth 100000
set_option maxHeartbeats 4000000
namespace Kn
open PySem L2
local macro_rules | `(tactic| walk_at "st") => `(tactic| repeat' (first
  | with_reducible refine r_seq ?_ | with_reducible refine r_set ?_ | with_reducible refine r_ret ?_ | with_reducible refine r_retN ?_ | with_reducible refine r_drop ?_ | with_reducible refine r_next ?_
  | with_reducible refine r_if ?_ | ((with_reducible refine r_var (v := ?_) ?hs ?_); (case hs => exact rfl)) | with_reducible refine r_c ?_ | with_reducible refine r_op ?_ | with_reducible refine r_I0 ?_
  | with_reducible refine r_test ?_ | with_reducible refine r_B ?_ | with_reducible refine ⟨_, (rfl : V.bl _ = V.bl _), ?_⟩ | with_reducible refine r_not ?_ | with_reducible refine r_or ?_ | with_reducible refine r_and ?_
  | with_reducible refine r_nil ?_ | with_reducible refine r_cons ?_ | with_reducible refine r_call ?_ | with_reducible refine r_cb ?_ | with_reducible refine r_tup ?_ | with_reducible refine r_lst ?_
  | with_reducible refine r_gname ?_ | with_reducible refine r_for ?_ | with_reducible refine r_iList ?_ | with_reducible refine r_iRng1 ?_ | with_reducible refine r_lc ?_ | with_reducible refine r_yes ?_
  | with_reducible refine r_chain ?_ | with_reducible refine r_sfld ?_ | with_reducible refine r_bm ?_ | with_reducible refine r_bm0 ?_ | with_reducible refine r_make ?_ | with_reducible refine r_sl ?_ | with_reducible refine r_nopart ?_ | with_reducible refine r_part ?_ | with_reducible refine r_iEnum ?_ | with_reducible refine r_iRng2 ?_))
theorem growS {G H : Hp} {p : Addr} {o : HO} (e : Same G H) (hp : H p = some o) : Same G (upd G p o) := fun a u h => by
  by_cases q : a = p
  · subst q
    have := e _ _ h
    rw [hp] at this; cases this
    exact upd_same
  · rw [upd_ne q]; exact h
def setU (up : Nat → List Bool) (r j : Nat) (b : Bool) : Nat → List Bool := fun r' => if r' = r then (up r).set j b else up r'
def setR (rows : Nat → List Row) (g h : Nat) (r : Row) : Nat → List Row := fun g' => if g' = g then (rows g).set h r else rows g'
section
variable {K : PySem.W.Frag} {G H : Hp} {C : Cn} {A : Lb → Addr} {S : NS} {p : Addr} {o : HO} {c : Nat}
theorem NetAt.side (N : NetAt K G H C A S) (hp : G p = none) (hf : ∀ l, Dom C S l → A l ≠ p) : NetAt K G (upd H p o) C A S :=
  ⟨N.fix, Same.mut N.same hp, N.out, N.inj, fun l d => let ⟨o', h1, h2⟩ := N.has l d; ⟨o', by rw [upd_ne (hf l d)]; exact h1, h2⟩⟩
theorem NetAt.setUp {r j : Nat} {b : Bool} (N : NetAt K G H C A S) (hr : r < C.D.ropes.length) : NetAt K G (upd H (A (.wires r)) (.lst (((S.up r).set j b).map .bl))) C A { S with up := setU S.up r j b } := by
  refine N.set (l := .wires r) hr (fun _ d => d) ?_ (fun l' o' ne _ h => ?_)
  · show HO.lst _ = HO.lst (List.map _ (setU S.up r j b r))
    unfold setU; rw [if_pos rfl]
  · cases l' with
    | wires r' =>
      have h : o' = _ := h
      subst h
      show HO.lst _ = HO.lst (List.map _ (setU S.up r j b r'))
      unfold setU; rw [if_neg (fun z => ne (by rw [z]))]
    | net => exact h
    | table g => exact h
    | book g => exact h
    | kept g => exact h
    | news => exact h
    | sent => exact h
    | stories => exact h
    | story i => exact h
    | hands => exact h
    | done => exact h
    | air => exact h
theorem Wf.setUp {r j : Nat} {b : Bool} (W : Wf C S c) : Wf C { S with up := setU S.up r j b } c :=
  ⟨W.rw_, W.rh, fun r' h => by
    show (setU S.up r j b r').length ≤ 4
    unfold setU
    by_cases z : r' = r
    · rw [if_pos z, List.length_set, ← z]; exact W.ul r' h
    · rw [if_neg z]; exact W.ul r' h, W.nl, W.ai, W.ha, W.st, W.kn, W.l1, W.l2, W.l3, W.l4, W.l5⟩
theorem Wf.news (W : Wf C S c) {nw : List Int} (h : nw.length = S.news.length) : Wf C { S with news := nw } c := ⟨W.rw_, W.rh, W.ul, h.trans W.nl, W.ai, W.ha, W.st, W.kn, W.l1, W.l2, W.l3, W.l4, W.l5⟩
theorem NetAt.setRow {g h : Nat} {r : Row} {ps : List Addr} (N : NetAt K G H C A S) (hg : g < 3) (hps : Tups G ps ((S.rows g).map Row.v)) (hp : G p = some (.tup r.v)) :
    NetAt K G (upd H (A (.table g)) (.lst ((ps.map V.ref).set h (.ref p)))) C A { S with rows := setR S.rows g h r } := by
  refine N.set (l := .table g) hg (fun _ d => d) ?_ (fun l' o' ne _ h' => ?_)
  · refine ⟨ps.set h p, by rw [List.map_set], ?_⟩
    show Tups G _ (List.map _ (setR S.rows g h r g))
    unfold setR
    rw [if_pos rfl, List.map_set]
    exact hps.set hp
  · cases l' with
    | table g' =>
      obtain ⟨qs, h1, h2⟩ := h'
      refine ⟨qs, h1, ?_⟩
      show Tups G _ (List.map _ (setR S.rows g h r g'))
      unfold setR; rw [if_neg (fun z => ne (by rw [z]))]; exact h2
    | net => exact h'
    | wires r => exact h'
    | book g => exact h'
    | kept g => exact h'
    | news => exact h'
    | sent => exact h'
    | stories => exact h'
    | story i => exact h'
    | hands => exact h'
    | done => exact h'
    | air => exact h'
theorem Wf.setRow {g h : Nat} {r : Row} (W : Wf C S c) (hr : 0 ≤ r.hops) : Wf C { S with rows := setR S.rows g h r } c :=
  ⟨fun g' hg => by
    show (setR S.rows g h r g').length = _
    unfold setR
    by_cases z : g' = g
    · rw [if_pos z, List.length_set, ← z]; exact W.rw_ g' hg
    · rw [if_neg z]; exact W.rw_ g' hg, fun g' hg r' hm => by
    have hm : r' ∈ setR S.rows g h r g' := hm
    unfold setR at hm
    by_cases z : g' = g
    · rw [if_pos z] at hm
      rcases List.mem_or_eq_of_mem_set hm with a | rfl
      · exact W.rh g' hg r' (by rw [z]; exact a)
      · exact hr
    · rw [if_neg z] at hm; exact W.rh g' hg r' hm, W.ul, W.nl, W.ai, W.ha, W.st, W.kn, W.l1, W.l2, W.l3, W.l4, W.l5⟩
end
section
variable {P : Program} {w : World} {K : PySem.W.Frag} {mg : Str → Option Value} {base : Heap}
/-- what a call changes -/
def CallRel (S S' : NS) : Prop := ∃ rows nw, S' = { S with rows := rows, news := nw }
def spCall (K : PySem.W.Frag) : Sp := fun vs H Q E => ∃ (G : Hp) (C : Cn) (A : Lb → Addr) (S : NS) (c : Nat) (h g : Int), vs = [.ref (A .net), .int h, .int g] ∧ NetAt K G H C A S ∧ Wf C S c ∧
  (¬HIn C h → E (.ref (He.ga K "NoHouse")) none H) ∧ (HIn C h → ¬G3 g → E (.ref (He.ga K "NoGroup")) none H) ∧
  (HIn C h → G3 g → ∀ b G' H' A' S', Same G G' → NetAt K G' H' C A' S' → A' .net = A .net → Wf C S' c → CallRel S S' → Q (.bl b) H')
theorem sc_call : FnScope ["self", "house", "group", "table", "row"] ["self", "house", "group"] (defScope s_Net_call) := ⟨rfl, rfl, rfl, by decide +kernel, rfl, by decide +kernel, by decide +kernel⟩
theorem ok_call (T : Tx K mg) : Fn P w K mg base 4 (He.ma K (He.ga K "Net") "call") [] (spCall K) := by
  refine mkFn T.F_Net_call sc_call (fun _ _ _ _ _ _ us hl => match us, hl with | [_, _, _], _ => rfl) (fun vs H Q E h => ?_) (fun cdv A outer s H vs Q E hr h => ?_)
  · obtain ⟨G, C, A, S, c, h, g, rfl, _⟩ := h; rfl
  · obtain ⟨G, C, A, S, c, h, g, rfl, N, W, k1, k2, k3⟩ := h
    have nd := sc_call.nd
    refine ⟨_, pss_cons (ps_if (pt_not (pt_chain op_le op_lt pe_int (pv 1) (pf (pf (pv 0))))) (pss_one (pRaise rfl (takes_of rfl rfl rfl rfl) T.x_NoHouse T.g_NoHouse)) pss_nil)
      (pss_cons (ps_set (i := 3) nd rfl (.inl rfl) (cm (pv 0) T.c_Net T.m_Net_table (ok_table T) hr pX (pa_cons (pv 2) pa_nil)))
      (pss_cons (ps_set (i := 4) nd rfl (.inl rfl) (cf (ok_due T) hr T.g_due passL (pa_cons (pf (pv 0)) (pa_cons (cm (pv 0) T.c_Net T.m_Net_live (ok_nlive T) hr pX (pa_cons (pv 2) pa_nil)) (pa_cons (pv 3) (pa_cons (pv 1) pa_nil))))))
      (pss_cons (ps_if (pt_cmpR (op_eqD hr.units) (pv 4) (pe_ix ix_list (pv 3) (pv 1) (fun _ _ => rfl)) (nomark _)) (pss_one (ps_ret pe_bl)) pss_nil)
      (pss_cons (ps_asg (pv 4) (pg_sub (pv 3) (pv 1) set_list (fun _ => rfl)))
      (pss_cons (ps_expr (cm (pv 0) T.c_Net T.m_Net_news (ok_news T) hr passL (pa_cons (pv 2) pa_nil)))
      (pss_one (ps_ret pe_bl))))))), ?_⟩
    obtain ⟨dx, h1⟩ := N.net
    obtain ⟨dt, la, lk, lr, pk, pn, ht, _⟩ := N.townH.ex
    walk_at "st"
    by_cases d0 : 0 ≤ h
    · rw [decide_eq_true d0]
      refine iteT ?_
      refine r_fld ?_
      refine fz h1 T.c_Net T.n_Net_town (i := 1) (by decide +kernel) rfl ?_
      refine ⟨_, _, _, _, _, rfl, ht, T.c_Town, T.n_Town_size, zlook (i := 0) (by decide +kernel) rfl, ?_⟩
      walk_at "st"
      by_cases d1 : h < (C.D.size : Int)
      · rw [decide_eq_true d1]
        refine iteF ?_
        walk_at "st"
        refine mz h1 (by decide +kernel) ?_
        walk_at "st"
        refine ⟨G, C, A, S, g, rfl, N, fun cg => ?_, fun z => k2 ⟨d0, d1⟩ z⟩
        have hg : g.toNat < 3 := by have := cg.1; have := cg.2; omega
        walk_at "st"
        refine fz h1 T.c_Net T.n_Net_town (i := 1) (by decide +kernel) rfl ?_
        walk_at "st"
        refine mz h1 (by decide +kernel) ?_
        walk_at "st"
        refine ⟨G, C, A, S, g, rfl, N, fun _ p H1 np e1 hp => ?_, fun z => absurd cg z⟩
        have N1 := N.ext e1
        obtain ⟨ps, t1, t2⟩ := N1.tab hg
        walk_at "st"
        refine ⟨C.t, C.D, p, _, _, ps, S.rows g.toNat, h, rfl, N1.townH, hp, t1, t2.mono N1.same, W.rw_ _ hg, W.rh _ hg, d0, d1, fun q r H2 e2 hq hr' => ?_⟩
        have N2 := (N1.ext e2).growT hq
        have e02 : Same G (upd G q (.tup r.v)) := growS (N1.ext e2).same hq
        obtain ⟨row, hrow, _⟩ := get_some (l := S.rows g.toNat) d0 (by rw [W.rw_ _ hg]; exact d1)
        obtain ⟨b, b1, b2⟩ := (t2.mono e02).at (get_map (f := Row.v) hrow)
        have t1' := e2 _ _ t1
        walk_at "st"
        refine ⟨_, _, h, _, rfl, rfl, SqL.of t1', at_ix d0 (get_map (f := V.ref) b1), ?_⟩
        refine ⟨_, _, dp_row hq, dp_row (N2.same _ _ b2), sh_row _, sh_row _, ?_⟩
        walk_at "st"
        refine ite2 (fun _ => ?_) (fun _ => ?_)
        · walk_at "st"
          exact k3 ⟨d0, d1⟩ cg _ _ _ A S e02 N2 rfl W ⟨S.rows, S.news, rfl⟩
        · walk_at "st"
          refine ⟨_, rfl, _, rfl, _, rfl, _, _, h, h.toNat, rfl, rfl, t1', ix_ok d0 (by rw [List.length_map, t2.1, List.length_map, W.rw_ _ hg]; exact d1), ?_⟩
          have N3 := N2.setRow (h := h.toNat) hg (t2.mono e02) upd_same
          have W3 := W.setRow (g := g.toNat) (h := h.toNat) hr'
          obtain ⟨dx3, h3⟩ := N3.net
          walk_at "st"
          refine mz h3 (by decide +kernel) ?_
          walk_at "st"
          refine ⟨_, C, A, _, g, rfl, N3, cg, W.nl, fun H4 A4 nw N4 hl hn => ?_⟩
          walk_at "st"
          exact k3 ⟨d0, d1⟩ cg _ _ _ A4 _ e02 N4 hn (W3.news hl) ⟨_, nw, rfl⟩
      · rw [decide_eq_false d1]
        refine iteT ?_
        exact k1 fun z => d1 z.2
    · rw [decide_eq_false d0]
      refine iteF ?_
      refine ⟨_, rfl, ?_⟩
      refine iteT ?_
      exact k1 fun z => d0 z.1
def spNLay (K : PySem.W.Frag) : Sp := fun vs H Q E => ∃ (G : Hp) (C : Cn) (A : Lb → Addr) (S : NS) (c : Nat) (r j : Int), vs = [.ref (A .net), .int r, .int j] ∧ NetAt K G H C A S ∧ Wf C S c ∧
  (¬CanTurn C S r j true → E (.ref (He.ga K "NoWire")) none H) ∧
  (CanTurn C S r j true → ∀ H' A' S', NetAt K G H' C A' S' → A' .net = A .net → Wf C S' c → S'.up = setU S.up r.toNat j.toNat true → Q (.bl (goneB (S.up r.toNat))) H')
theorem sc_nlay : FnScope ["self", "rope", "wire", "begins"] ["self", "rope", "wire"] (defScope s_Net_lay) := ⟨rfl, rfl, rfl, by decide +kernel, rfl, by decide +kernel, by decide +kernel⟩
theorem ok_nlay (T : Tx K mg) : Fn P w K mg base 4 (He.ma K (He.ga K "Net") "lay") [] (spNLay K) := by
  refine mkFn T.F_Net_lay sc_nlay (fun _ _ _ _ _ _ us hl => match us, hl with | [_, _, _], _ => rfl) (fun vs H Q E h => ?_) (fun cdv A outer s H vs Q E hr h => ?_)
  · obtain ⟨G, C, A, S, c, h, g, rfl, _⟩ := h; rfl
  · obtain ⟨G, C, A, S, c, r, j, rfl, N, W, k1, k2⟩ := h
    have nd := sc_nlay.nd
    refine ⟨_, pss_cons (ps_set (i := 3) nd rfl (.inl rfl) (cm (pf (pv 0)) T.c_Strands T.m_Strands_lay (ok_slay T) hr pX (pa_cons (pv 1) (pa_cons (pv 2) pa_nil))))
      (pss_cons (ps_if (pTru (pv 3)) (pss_one (ps_expr (cm (pv 0) T.c_Net T.m_Net_news_of (ok_news_of T) hr passL (pa_cons (pv 1) pa_nil)))) pss_nil)
      (pss_one (ps_ret (pv 3)))), ?_⟩
    obtain ⟨dx, h1⟩ := N.net
    obtain ⟨ds, h2, _⟩ := N.strands
    walk_at "st"
    refine r_meth ?_
    refine fz h1 T.c_Net T.n_Net_strands (i := 2) (by decide +kernel) rfl ?_
    refine ⟨_, _, _, rfl, h2, znone (by decide +kernel), ?_⟩
    walk_at "st"
    refine ⟨G, C, A, S, r, j, rfl, N, fun ct => ?_, k1⟩
    have N1 := N.setUp (r := r.toNat) (j := j.toNat) (b := true) (by have := ct.1; have := ct.2.1; omega)
    obtain ⟨dx3, h3⟩ := N1.net
    walk_at "st"
    refine r_tru ?_
    walk_at "st"
    refine ⟨_, (rfl : _ = _), ?_⟩
    refine ite2 (fun _ => ?_) (fun _ => ?_)
    · walk_at "st"
      refine mz h3 (by decide +kernel) ?_
      walk_at "st"
      refine ⟨G, C, A, _, r, rfl, N1, ct.1, ct.2.1, W.nl, fun H4 A4 nw N4 hl hn => ?_⟩
      walk_at "st"
      exact k2 ct H4 A4 _ N4 hn (W.setUp.news hl) rfl
    · walk_at "st"
      exact k2 ct _ A _ N1 rfl W.setUp rfl
end
end Kn
set_option Elab.async false
set_option linter.all false
set_option maxRecDepth 100000
set_option maxHeartbeats 4000000
namespace Kn
open PySem L2
local macro_rules | `(tactic| walk_at "st") => `(tactic| repeat' (first
  | with_reducible refine r_seq ?_ | with_reducible refine r_set ?_ | with_reducible refine r_ret ?_ | with_reducible refine r_retN ?_ | with_reducible refine r_drop ?_ | with_reducible refine r_next ?_
  | with_reducible refine r_if ?_ | ((with_reducible refine r_var (v := ?_) ?hs ?_); (case hs => exact rfl)) | with_reducible refine r_c ?_ | with_reducible refine r_op ?_ | with_reducible refine r_I0 ?_
  | with_reducible refine r_test ?_ | with_reducible refine r_B ?_ | with_reducible refine ⟨_, (rfl : V.bl _ = V.bl _), ?_⟩ | with_reducible refine r_not ?_ | with_reducible refine r_or ?_ | with_reducible refine r_and ?_
  | with_reducible refine r_nil ?_ | with_reducible refine r_cons ?_ | with_reducible refine r_call ?_ | with_reducible refine r_cb ?_ | with_reducible refine r_tup ?_ | with_reducible refine r_lst ?_
  | with_reducible refine r_gname ?_ | with_reducible refine r_for ?_ | with_reducible refine r_iList ?_ | with_reducible refine r_iRng1 ?_ | with_reducible refine r_lc ?_ | with_reducible refine r_yes ?_
  | with_reducible refine r_chain ?_ | with_reducible refine r_sfld ?_ | with_reducible refine r_bm ?_ | with_reducible refine r_bm0 ?_ | with_reducible refine r_make ?_ | with_reducible refine r_sl ?_ | with_reducible refine r_nopart ?_ | with_reducible refine r_part ?_ | with_reducible refine r_iEnum ?_ | with_reducible refine r_iRng2 ?_))
def addSt (st : Nat → List (List V)) (i : Nat) (e : List V) : Nat → List (List V) := fun i' => if i' = i then st i ++ [e] else st i'
theorem addSt_ext (st : Nat → List (List V)) (i : Nat) (e : List V) (i' : Nat) : ∃ m, addSt st i e i' = st i' ++ m := by
  unfold addSt
  by_cases z : i' = i
  · rw [if_pos z, z]; exact ⟨_, rfl⟩
  · rw [if_neg z]; exact ⟨[], by rw [List.append_nil]⟩
section
variable {K : PySem.W.Frag} {G H : Hp} {C : Cn} {A : Lb → Addr} {S : NS} {p : Addr} {o : HO} {c : Nat}
theorem NetAt.addStory {i : Nat} {ps : List Addr} {e : List V} (N : NetAt K G H C A S) (hi : i < S.ns) (h : Tups G ps (S.stories i)) (hp : G p = some (.tup e)) :
    NetAt K G (upd H (A (.story i)) (.lst (ps.map V.ref ++ [V.ref p]))) C A { S with stories := addSt S.stories i e } := by
  refine N.set (l := .story i) hi (fun _ d => d) ?_ (fun l' o' ne _ h' => ?_)
  · refine ⟨ps ++ [p], by rw [List.map_append]; rfl, ?_⟩
    show Tups G _ (addSt S.stories i e i)
    unfold addSt
    rw [if_pos rfl]
    exact h.snoc hp
  · cases l' with
    | story i' =>
      obtain ⟨qs, h1, h2⟩ := h'
      refine ⟨qs, h1, ?_⟩
      show Tups G _ (addSt S.stories i e i')
      unfold addSt; rw [if_neg (fun z => ne (by rw [z]))]; exact h2
    | net => exact h'
    | table g => exact h'
    | wires r => exact h'
    | book g => exact h'
    | kept g => exact h'
    | news => exact h'
    | sent => exact h'
    | stories => exact h'
    | hands => exact h'
    | done => exact h'
    | air => exact h'
theorem Wf.mono {c' : Nat} (W : Wf C S c) (h : c ≤ c') : Wf C S c' :=
  ⟨W.rw_, W.rh, W.ul, W.nl, W.ai, W.ha, W.st, W.kn, Nat.le_trans W.l1 h, Nat.le_trans W.l2 h, fun i hi => Nat.le_trans (W.l3 i hi) h, Nat.le_trans W.l4 h, Nat.le_trans W.l5 h⟩
theorem Wf.addStory {i : Nat} {e : List V} (W : Wf C S c) (he : e.all okV = true) : Wf C { S with stories := addSt S.stories i e } (c + 1) :=
  ⟨W.rw_, W.rh, W.ul, W.nl, W.ai, W.ha, fun i' hi' e' he' => by
    have he' : e' ∈ addSt S.stories i e i' := he'
    unfold addSt at he'
    by_cases z : i' = i
    · rw [if_pos z] at he'
      rcases List.mem_append.mp he' with a | a
      · exact W.st i (z ▸ hi') e' a
      · rw [List.mem_singleton.mp a]; exact he
    · rw [if_neg z] at he'; exact W.st i' hi' e' he', W.kn, Nat.le_succ_of_le W.l1, Nat.le_succ_of_le W.l2, fun i' hi' => by
    show (addSt S.stories i e i').length ≤ c + 1
    unfold addSt
    by_cases z : i' = i
    · rw [if_pos z, List.length_append]
      have := W.l3 i (z ▸ hi')
      show _ + 1 ≤ _; omega
    · rw [if_neg z]; exact Nat.le_succ_of_le (W.l3 i' hi'), Nat.le_succ_of_le W.l4, Nat.le_succ_of_le W.l5⟩
theorem scal_o2 (c : Option Int) (r : Int) : scal (oV c) (.int r) = true := by cases c <;> rfl
theorem flat_o (c : Option Int) : flatV (oV c) = true := by cases c <;> rfl
theorem NetAt.setAir {ps : List Addr} {lf : List (List V)} (N : NetAt K G H C A S) {dx : Addr} (hnet : H (A .net) = some (.ins (He.ga K "Net") dx (netL.zip (netV C A)))) (hp : G p = none) (hf : ∀ l', Dom C S l' → A l' ≠ p) (hH : H p = some (.lst (ps.map .ref))) (hlf : Tups G ps lf) :
    NetAt K G (upd H (A .net) (.ins (He.ga K "Net") dx (netL.zip (netV C (setA A .air p))))) C (setA A .air p) { S with air := lf } := by
  refine N.re (l := .air) (m := .net) (o := .lst (ps.map .ref)) hp hf hH (by intro z; cases z) trivial (fun _ d => d) ⟨ps, rfl, hlf⟩ ⟨dx, rfl⟩ (fun l' o' q1 q2 _ h => ?_)
    (N.fix.lab (fun _ => setA_ne (by intro z; cases z)) (fun _ => setA_ne (by intro z; cases z)) (fun _ => setA_ne (by intro z; cases z)))
  have h2 := h.airA (p := p) q2
  cases l' with
  | air => exact absurd rfl q1
  | net => exact h2
  | table g => exact h2
  | wires r => exact h2
  | book g => exact h2
  | kept g => exact h2
  | news => exact h2
  | sent => exact h2
  | stories => exact h2
  | story i => exact h2
  | hands => exact h2
  | done => exact h2
end
section
variable {P : Program} {w : World} {K : PySem.W.Frag} {mg : Str → Option Value} {base : Heap}
def spNFall (K : PySem.W.Frag) : Sp := fun vs H Q E => ∃ (G : Hp) (C : Cn) (A : Lb → Addr) (S : NS) (c : Nat) (r j : Int), vs = [.ref (A .net), .int r, .int j] ∧ NetAt K G H C A S ∧ Wf C S c ∧ c < 40000 ∧
  (¬CanTurn C S r j false → E (.ref (He.ga K "NoWire")) none H) ∧
  (CanTurn C S r j false → ∀ G' H' A' S', Same G G' → NetAt K G' H' C A' S' → A' .net = A .net → Wf C S' (c + c) → S'.up = setU S.up r.toNat j.toNat false → Q (.bl (goneB ((S.up r.toNat).set j.toNat false))) H')
theorem sc_nfall : FnScope ["self", "rope", "wire", "ends", "left", "number", "over", "along", "house"] ["self", "rope", "wire"] (defScope s_Net_fall) := ⟨rfl, rfl, rfl, by decide +kernel, rfl, by decide +kernel, by decide +kernel⟩
theorem ok_nfall (T : Tx K mg) : Fn P w K mg base 4 (He.ma K (He.ga K "Net") "fall") [] (spNFall K) := by
  refine mkFn T.F_Net_fall sc_nfall (fun _ _ _ _ _ _ us hl => match us, hl with | [_, _, _], _ => rfl) (fun vs H Q E h => ?_) (fun cdv A outer s H vs Q E hr h => ?_)
  · obtain ⟨G, C, A, S, c, h, g, rfl, _⟩ := h; rfl
  · obtain ⟨G, C, A, S, c, r, j, rfl, N, W, cc, k1, k2⟩ := h
    have nd := sc_nfall.nd
    refine ⟨_, pss_cons (ps_set (i := 3) nd rfl (.inl rfl) (cm (pf (pv 0)) T.c_Strands T.m_Strands_fall (ok_sfall T) hr pX (pa_cons (pv 1) (pa_cons (pv 2) pa_nil))))
      (pss_cons (ps_set (i := 4) nd rfl (.inl rfl) (pe_lst pa_nil))
      (pss_cons (ps_for (passes_of rfl) rfl (pi_list (pf (pv 0))) (pg_tup rfl (pgs_cons (pg_name (i := 5) nd rfl (.inl rfl)) (pgs_cons (pg_name (i := 6) nd rfl (.inl rfl)) (pgs_cons (pg_name (i := 7) nd rfl (.inl rfl)) (pgs_cons (pg_name (i := 8) nd rfl (.inl rfl)) pgs_nil)))))
        (pss_one (ps_if (PW.pt (pw_and (pt_cmpR op_eq (pv 6) (pv 1) (nomark _)) (pw_and1 (pt_cmpR op_eq (pv 7) (pv 2) (nomark _)))))
          (pss_one (ps_expr (pe_bm PySem.F.plainAttrs_list PySem.F.slot_list_append PySem.F.type_list_append mt_append (pe_ix ix_list (pf (pv 0)) (pv 5) (fun _ _ => rfl)) (pa_cons (pe_tup (pa_cons pe_str (pa_cons (pv 8) (pa_cons (pv 1) pa_nil)))) pa_nil))))
          (pss_one (ps_expr (pe_bm PySem.F.plainAttrs_list PySem.F.slot_list_append PySem.F.type_list_append mt_append (pv 4) (pa_cons (pe_tup (pa_cons (pv 5) (pa_cons (pv 6) (pa_cons (pv 7) (pa_cons (pv 8) pa_nil))))) pa_nil)))))))
      (pss_cons (ps_fld (pv 0) (pv 4) rfl)
      (pss_cons (ps_if (pTru (pv 3)) (pss_one (ps_expr (cm (pv 0) T.c_Net T.m_Net_news_of (ok_news_of T) hr passL (pa_cons (pv 1) pa_nil)))) pss_nil)
      (pss_one (ps_ret (pv 3))))))), ?_⟩
    obtain ⟨dx, h1⟩ := N.net
    obtain ⟨ds, h2, _⟩ := N.strands
    walk_at "st"
    refine r_meth ?_
    refine fz h1 T.c_Net T.n_Net_strands (i := 2) (by decide +kernel) rfl ?_
    refine ⟨_, _, _, rfl, h2, znone (by decide +kernel), ?_⟩
    walk_at "st"
    refine ⟨G, C, A, S, r, j, rfl, N, fun ct => ?_, k1⟩
    have N1 := N.setUp (r := r.toNat) (j := j.toNat) (b := false) (by have := ct.1; have := ct.2.1; omega)
    have W1 : Wf C { S with up := setU S.up r.toNat j.toNat false } c := W.setUp
    obtain ⟨pa, a1, a2⟩ := N1.airH
    have l2 := W.l2
    have hlen : (pa.map V.ref).length = S.air.length := by rw [List.length_map, a2.1]
    walk_at "st"
    refine ⟨szl (by show 0 ≤ 100000; decide), fun p np => ?_⟩
    have N2 := N1.ext (Same.new (o := .lst []) np)
    have hf := N1.free np
    have hGp : G p = none := N1.same.free np
    walk_at "st"
    obtain ⟨dx2, h3⟩ := N2.net
    refine fz h3 T.c_Net T.n_Net_air (i := 10) (by decide +kernel) rfl ?_
    have a1' : upd (upd H (A (.wires r.toNat)) (.lst (((S.up r.toNat).set j.toNat false).map .bl))) p (.lst []) (A .air) = some (.lst (pa.map .ref)) := (Same.new np) _ _ a1
    refine ⟨_, rfl, ⟨_, SqL.of a1'⟩, ?_⟩
    refine for_it walk_list (fun i σ H' => ∃ (G' : Hp) (st : Nat → List (List V)) (ls : List Addr) (lf : List (List V)) (x5 x6 x7 x8 : Option V), σ = [some (.ref (A .net)), some (.int r), some (.int j), some (.bl (goneB ((S.up r.toNat).set j.toNat false))), some (.ref p), x5, x6, x7, x8] ∧
        Same G G' ∧ NetAt K G' H' C A { S with up := setU S.up r.toNat j.toNat false, stories := st } ∧ Wf C { S with up := setU S.up r.toNat j.toNat false, stories := st } (c + i) ∧
        G' p = none ∧ H' p = some (.lst (ls.map .ref)) ∧ Tups G' ls lf ∧ (∀ e ∈ lf, AirOk C S.ns e) ∧ lf.length ≤ i ∧ H' (A .air) = some (.lst (pa.map .ref)))
      ⟨G, S.stories, [], [], none, none, none, none, rfl, Same.refl _, N2, W1, hGp, upd_same, .nil, fun e h => by simp at h, Nat.le_refl _, a1'⟩ (fun i σ H' _ ⟨_, _, _, _, _, _, _, _, _, _, _, _, _, _, _, _, _, h⟩ => SqL.of h) ?_ ?_
    · rintro i x σ H3 H3' hi ⟨G', st, ls, lf, x5, x6, x7, x8, rfl, eG, N3, W3, gp, hp, hls, hlf, hl, ha⟩ ⟨rfl, hx⟩
      have hi' : i < S.air.length := by rw [hlen] at hi; exact hi
      have hq : S.air[i]? = some S.air[i] := List.getElem?_eq_getElem hi'
      obtain ⟨k, rr, hh, oo, he, n0, n1, r0, r1, g0, g1⟩ := (W.ai _ (List.getElem_mem hi')).ex
      obtain ⟨a, b1, b2⟩ := (a2.mono eG).at hq
      obtain rfl : x = .ref a := (Option.some.inj ((get_map (f := V.ref) b1).symm.trans hx)).symm
      rw [he] at b2
      have b3 := N3.same _ _ b2
      obtain ⟨dx4, h4⟩ := N3.net
      refine ⟨a, _, rfl, SqT.of b3, rfl, ?_⟩
      refine ⟨_, _, rfl, _, _, rfl, _, _, rfl, _, _, rfl, rfl, ?_⟩
      have hls' : ∀ {e : List V} {q : Addr}, AirOk C S.ns e → H3' q = none → ∃ (G2 : Hp) (st2 : Nat → List (List V)) (ls2 : List Addr) (lf2 : List (List V)) (x5 x6 x7 x8 : Option V), [some (.ref (A .net)), some (.int r), some (.int j), some (.bl (goneB ((S.up r.toNat).set j.toNat false))), some (.ref p), some (V.int k), some (V.int rr), some (oV oo), some (V.int hh)] =
          [some (.ref (A .net)), some (.int r), some (.int j), some (.bl (goneB ((S.up r.toNat).set j.toNat false))), some (.ref p), x5, x6, x7, x8] ∧
          Same G G2 ∧ NetAt K G2 (upd (upd H3' q (.tup e)) p (.lst (ls.map V.ref ++ [V.ref q]))) C A { S with up := setU S.up r.toNat j.toNat false, stories := st2 } ∧ Wf C { S with up := setU S.up r.toNat j.toNat false, stories := st2 } (c + (i + 1)) ∧
          G2 p = none ∧ (upd (upd H3' q (.tup e)) p (.lst (ls.map V.ref ++ [V.ref q]))) p = some (.lst (ls2.map .ref)) ∧ Tups G2 ls2 lf2 ∧ (∀ e ∈ lf2, AirOk C S.ns e) ∧ lf2.length ≤ i + 1 ∧ (upd (upd H3' q (.tup e)) p (.lst (ls.map V.ref ++ [V.ref q]))) (A .air) = some (.lst (pa.map .ref)) := by
        intro e q hok nq
        have e4 : Same H3' (upd H3' q (.tup e)) := Same.new nq
        have N5 := (N3.ext e4).growT upd_same
        have nqp : q ≠ p := (ne_of_none hp nq).symm
        have gp2 : upd G' q (.tup e) p = none := by rw [upd_ne (Ne.symm nqp)]; exact gp
        have eG2 : Same G' (upd G' q (.tup e)) := growS (N3.ext e4).same upd_same
        refine ⟨_, st, ls ++ [q], lf ++ [e], _, _, _, _, rfl, eG.trans eG2, N5.side gp2 hf, W3.mono (by omega), gp2, by rw [List.map_append]; exact upd_same, (hls.mono eG2).snoc upd_same, fun e' m => ?_, by rw [List.length_append]; simpa using hl, ?_⟩
        · rcases List.mem_append.mp m with u | u
          · exact hlf e' u
          · rw [List.mem_singleton.mp u]; exact hok
        · rw [upd_ne (hf .air trivial)]; exact e4 _ _ ha
      have aok : AirOk C S.ns [.int k, .int rr, oV oo, .int hh] := ⟨_, _, _, _, rfl, n0, n1, r0, r1, g0, g1⟩
      have lsl : (ls.map V.ref).length < 100000 := by rw [List.length_map, hls.1]; omega
      walk_at "st"
      refine ⟨rfl, _, rfl, ?_⟩
      refine ite2 (fun _ => ?_) (fun _ => ?_)
      · walk_at "st"
        refine ⟨scal_o2 _ _, _, rfl, ?_⟩
        refine ite2 (fun _ => ?_) (fun _ => ?_)
        · walk_at "st"
          refine fz h4 T.c_Net T.n_Net_stories (i := 7) (by decide +kernel) rfl ?_
          walk_at "st"
          obtain ⟨ps, s1, s2⟩ := N3.storyH (i := k.toNat) (by show k.toNat < S.ns; omega)
          refine ⟨_, _, k, _, rfl, rfl, SqL.of N3.storiesH, at_ix n0 (range_ix n0 n1), ?_⟩
          refine ⟨.inl ⟨rfl, _, SqL.of s1⟩, ?_⟩
          walk_at "st"
          refine ⟨szl (by show 3 ≤ 100000; decide), fun q nq => ?_⟩
          have e5 : Same H3' (upd H3' q (.tup [.str (Str.ofString "lost"), .int hh, .int r])) := Same.new nq
          have N5 := (N3.ext e5).growT upd_same
          have eG2 : Same G' (upd G' q (.tup [.str (Str.ofString "lost"), .int hh, .int r])) := growS (N3.ext e5).same upd_same
          have nqp : q ≠ p := (ne_of_none hp nq).symm
          have sl : (ps.map V.ref).length ≤ c + i := by
            rw [List.length_map, s2.1]
            exact W3.l3 k.toNat (show k.toNat < S.ns by omega)
          refine ⟨_, _, _, rfl, rfl, (Same.new nq) _ _ s1, sll (by omega), ?_⟩
          refine ⟨_, _, ls, lf, _, _, _, _, rfl, eG.trans eG2, N5.addStory (i := k.toNat) (show k.toNat < S.ns by omega) (s2.mono eG2) upd_same, (W3.addStory (okE (by decide +kernel) rfl)).mono (by omega), by rw [upd_ne (Ne.symm nqp)]; exact gp, ?_, hls.mono eG2, hlf, by omega, ?_⟩
          · rw [upd_ne (Ne.symm (hf (.story k.toNat) (show k.toNat < S.ns by omega)))]; exact (Same.new nq) _ _ hp
          · rw [upd_ne (fun z => by have := N.inj .air (.story k.toNat) trivial (show k.toNat < S.ns by omega) z; cases this)]; exact (Same.new nq) _ _ ha
        · walk_at "st"
          refine ⟨.inl ⟨rfl, _, SqL.of hp⟩, ?_⟩
          walk_at "st"
          refine ⟨szl (by show 4 ≤ 100000; decide), fun q nq => ?_⟩
          refine ⟨p, _, _, rfl, rfl, (Same.new nq) _ _ hp, sll lsl, ?_⟩
          exact hls' aok nq
      · refine iteF ?_
        walk_at "st"
        refine ⟨.inl ⟨rfl, _, SqL.of hp⟩, ?_⟩
        walk_at "st"
        refine ⟨szl (by show 4 ≤ 100000; decide), fun q nq => ?_⟩
        refine ⟨p, _, _, rfl, rfl, (Same.new nq) _ _ hp, sll lsl, ?_⟩
        exact hls' aok nq
    · rintro σ H3 ⟨G', st, ls, lf, x5, x6, x7, x8, rfl, eG, N3, W3, gp, hp, hls, hlf, hl, ha⟩
      rw [hlen] at hl W3
      obtain ⟨dx4, h4⟩ := N3.net
      have N4 := N3.setAir (lf := lf) h4 gp hf hp hls
      have W4 : Wf C { S with up := setU S.up r.toNat j.toNat false, stories := st, air := lf } (c + c) :=
        ⟨W3.rw_, W3.rh, W3.ul, W3.nl, hlf, W3.ha, W3.st, W3.kn, Nat.le_trans W3.l1 (by omega), (show lf.length ≤ _ by omega), fun i hi => Nat.le_trans (W3.l3 i hi) (by omega), Nat.le_trans W3.l4 (by omega), Nat.le_trans W3.l5 (by omega)⟩
      walk_at "st"
      refine szs h4 T.c_Net T.n_Net_air (i := 10) (by decide +kernel) (by show 10 < 11; decide) (by decide) (vs' := netV C (setA A .air p)) (by simp [netV, setA]) ?_
      walk_at "st"
      refine r_tru ?_
      walk_at "st"
      refine ⟨_, (rfl : _ = _), ?_⟩
      obtain ⟨dx5, h5⟩ := N4.net
      rw [setA_ne (by intro z; cases z)] at h5
      refine ite2 (fun _ => ?_) (fun _ => ?_)
      · walk_at "st"
        refine mz h5 (by decide +kernel) ?_
        walk_at "st"
        refine ⟨G', C, setA A .air p, _, r, by rw [setA_ne (by intro z; cases z)]; rfl, N4, ct.1, ct.2.1, W4.nl, fun H5 A5 nw N5 hl5 hn5 => ?_⟩
        walk_at "st"
        exact k2 ct G' H5 A5 _ eG N5 (hn5.trans (setA_ne (by intro z; cases z))) (W4.news hl5) rfl
      · walk_at "st"
        exact k2 ct G' _ _ _ eG N4 (setA_ne (by intro z; cases z)) W4 rfl
end
end Kn
set_option Elab.async false
set_option linter.all false
set_option maxRecDepth 100000
set_option maxHeartbeats 4000000
namespace Kn
open PySem L2
local macro_rules | `(tactic| walk_at "st") => `(tactic| repeat' (first
  | with_reducible refine r_seq ?_ | with_reducible refine r_set ?_ | with_reducible refine r_ret ?_ | with_reducible refine r_retN ?_ | with_reducible refine r_drop ?_ | with_reducible refine r_next ?_
  | with_reducible refine r_if ?_ | ((with_reducible refine r_var (v := ?_) ?hs ?_); (case hs => exact rfl)) | with_reducible refine r_c ?_ | with_reducible refine r_op ?_ | with_reducible refine r_I0 ?_
  | with_reducible refine r_test ?_ | with_reducible refine r_B ?_ | with_reducible refine ⟨_, (rfl : V.bl _ = V.bl _), ?_⟩ | with_reducible refine r_not ?_ | with_reducible refine r_or ?_ | with_reducible refine r_and ?_
  | with_reducible refine r_nil ?_ | with_reducible refine r_cons ?_ | with_reducible refine r_call ?_ | with_reducible refine r_cb ?_ | with_reducible refine r_tup ?_ | with_reducible refine r_lst ?_
  | with_reducible refine r_gname ?_ | with_reducible refine r_for ?_ | with_reducible refine r_iList ?_ | with_reducible refine r_iRng1 ?_ | with_reducible refine r_lc ?_ | with_reducible refine r_yes ?_
  | with_reducible refine r_chain ?_ | with_reducible refine r_sfld ?_ | with_reducible refine r_bm ?_ | with_reducible refine r_bm0 ?_ | with_reducible refine r_make ?_ | with_reducible refine r_sl ?_ | with_reducible refine r_nopart ?_ | with_reducible refine r_part ?_ | with_reducible refine r_iEnum ?_ | with_reducible refine r_iRng2 ?_))
theorem r_dput {td ty tv : TE} {D : Ends} {σ : L2.St} {H : Hp} (h : tv σ H fun v H1 => td σ H1 fun x H2 => ty σ H2 fun y H3 => ∃ a H4, x = .ref a ∧ DPut H3 a y v H4 ∧ D.nx σ H4) : sDPut td ty tv D σ H := h
theorem r_asgT {K : PySem.W.Frag} {te : TE} {n : Nat} {t : TGs} {D : Ends} {σ : L2.St} {H : Hp} (h : te σ H fun x H1 => ∃ a xs, x = .ref a ∧ SqT K H1 a xs ∧ xs.length = n ∧ t xs σ H1 D.nx) : tAsg te (gTup K n t) D σ H := h
section
variable {K : PySem.W.Frag} {G H : Hp} {C : Cn} {A : Lb → Addr} {S : NS} {p : Addr} {o : HO} {c : Nat}
theorem NetAt.addHand {ps : List Addr} {e : List V} (N : NetAt K G H C A S) (h : Tups G ps S.hands) (hp : G p = some (.tup e)) :
    NetAt K G (upd H (A .hands) (.lst (ps.map V.ref ++ [V.ref p]))) C A { S with hands := S.hands ++ [e] } := by
  refine N.set (l := .hands) trivial (fun _ d => d) ⟨ps ++ [p], by rw [List.map_append]; rfl, h.snoc hp⟩ (fun l' o' ne _ h' => ?_)
  cases l' with
  | hands => exact absurd rfl ne
  | story i' => exact h'
  | net => exact h'
  | table g => exact h'
  | wires r => exact h'
  | book g => exact h'
  | kept g => exact h'
  | news => exact h'
  | sent => exact h'
  | stories => exact h'
  | done => exact h'
  | air => exact h'
theorem NetAt.addAir {ps : List Addr} {e : List V} (N : NetAt K G H C A S) (h : Tups G ps S.air) (hp : G p = some (.tup e)) :
    NetAt K G (upd H (A .air) (.lst (ps.map V.ref ++ [V.ref p]))) C A { S with air := S.air ++ [e] } := by
  refine N.set (l := .air) trivial (fun _ d => d) ⟨ps ++ [p], by rw [List.map_append]; rfl, h.snoc hp⟩ (fun l' o' ne _ h' => ?_)
  cases l' with
  | air => exact absurd rfl ne
  | hands => exact h'
  | story i' => exact h'
  | net => exact h'
  | table g => exact h'
  | wires r => exact h'
  | book g => exact h'
  | kept g => exact h'
  | news => exact h'
  | sent => exact h'
  | stories => exact h'
  | done => exact h'
theorem NetAt.putDone {kvs : List (List Key × V)} (N : NetAt K G H C A S) (hk : kvs.length ≤ S.cap + 1) : NetAt K G (upd H (A .done) (.dT kvs)) C A { S with cap := S.cap + 1 } := by
  refine N.set (l := .done) trivial (fun _ d => d) ⟨kvs, rfl, hk⟩ (fun l' o' ne _ h' => ?_)
  cases l' with
  | done => exact absurd rfl ne
  | kept g => obtain ⟨kvs', h1, h2, h3⟩ := h'; exact ⟨kvs', h1, Nat.le_succ_of_le h2, h3⟩
  | air => exact h'
  | hands => exact h'
  | story i' => exact h'
  | net => exact h'
  | table g => exact h'
  | wires r => exact h'
  | book g => exact h'
  | news => exact h'
  | sent => exact h'
  | stories => exact h'
theorem Wf.addHand {n k : Int} (W : Wf C S c) : Wf C { S with hands := S.hands ++ [[.int n, .int k]] } (c + 1) :=
  ⟨W.rw_, W.rh, W.ul, W.nl, W.ai, fun e m => by
    rcases List.mem_append.mp m with u | u
    · exact W.ha e u
    · rw [List.mem_singleton.mp u]; exact ⟨n, k, rfl⟩, W.st, W.kn, by have := W.l1; show (S.hands ++ _).length ≤ _; rw [List.length_append]; show _ + 1 ≤ _; omega, Nat.le_succ_of_le W.l2, fun i h => Nat.le_succ_of_le (W.l3 i h), Nat.le_succ_of_le W.l4, Nat.le_succ_of_le W.l5⟩
theorem Wf.addAir {e : List V} (W : Wf C S c) (he : AirOk C S.ns e) : Wf C { S with air := S.air ++ [e] } (c + 1) :=
  ⟨W.rw_, W.rh, W.ul, W.nl, fun e' m => by
    rcases List.mem_append.mp m with u | u
    · exact W.ai e' u
    · rw [List.mem_singleton.mp u]; exact he, W.ha, W.st, W.kn, Nat.le_succ_of_le W.l1, by have := W.l2; show (S.air ++ _).length ≤ _; rw [List.length_append]; show _ + 1 ≤ _; omega, fun i h => Nat.le_succ_of_le (W.l3 i h), Nat.le_succ_of_le W.l4, Nat.le_succ_of_le W.l5⟩
theorem Wf.cap1 (W : Wf C S c) : Wf C { S with cap := S.cap + 1 } (c + 1) :=
  ⟨W.rw_, W.rh, W.ul, W.nl, W.ai, W.ha, W.st, W.kn, Nat.le_succ_of_le W.l1, Nat.le_succ_of_le W.l2, fun i h => Nat.le_succ_of_le (W.l3 i h), Nat.le_succ_of_le W.l4, Nat.succ_le_succ W.l5⟩
end
/-- what work changes -/
structure WorkRel (S S' : NS) : Prop where
  ex : ∃ st hs ai cp, S' = { S with stories := st, hands := hs, air := ai, cap := cp } ∧ ∀ i, ∃ m, st i = S.stories i ++ m
theorem WorkRel.refl (S : NS) : WorkRel S S := ⟨S.stories, S.hands, S.air, S.cap, rfl, fun i => ⟨[], by rw [List.append_nil]⟩⟩
theorem WorkRel.story {S S' : NS} (h : WorkRel S S') (i : Nat) (e : List V) : WorkRel S { S' with stories := addSt S'.stories i e } := by
  obtain ⟨st, hs, ai, cp, rfl, hm⟩ := h
  refine ⟨_, hs, ai, cp, rfl, fun i' => ?_⟩
  obtain ⟨m, hm⟩ := hm i'
  obtain ⟨m2, hm2⟩ := addSt_ext st i e i'
  exact ⟨m ++ m2, by show addSt st i e i' = _; rw [hm2, hm, List.append_assoc]⟩
theorem WorkRel.hand {S S' : NS} (h : WorkRel S S') (e : List V) : WorkRel S { S' with hands := S'.hands ++ [e] } := by
  obtain ⟨st, hs, ai, cp, rfl, hm⟩ := h
  exact ⟨st, _, ai, cp, rfl, hm⟩
theorem WorkRel.air {S S' : NS} (h : WorkRel S S') (e : List V) : WorkRel S { S' with air := S'.air ++ [e] } := by
  obtain ⟨st, hs, ai, cp, rfl, hm⟩ := h
  exact ⟨st, hs, _, cp, rfl, hm⟩
theorem WorkRel.cap {S S' : NS} (h : WorkRel S S') (k : Nat) : WorkRel S { S' with cap := k } := by
  obtain ⟨st, hs, ai, cp, rfl, hm⟩ := h
  exact ⟨st, hs, ai, k, rfl, hm⟩
section
variable {P : Program} {w : World} {K : PySem.W.Frag} {mg : Str → Option Value} {base : Heap}
def spWork (K : PySem.W.Frag) : Sp := fun vs H Q E => ∃ (G : Hp) (C : Cn) (A : Lb → Addr) (S : NS) (c : Nat) (n h : Int) (o : Option Int), vs = [.ref (A .net), .int n, .int h, oV o] ∧ NetAt K G H C A S ∧ Wf C S c ∧ c < 40000 ∧ 0 ≤ n ∧ n < S.ns ∧ HIn C h ∧
  ∀ G' H' S', Same G G' → NetAt K G' H' C A S' → WorkRel S S' → Wf C S' (c + 100) → Q .non H'
theorem sc_work : FnScope ["self", "number", "house", "came", "letter", "group", "here", "doors", "handed", "ropes", "caller", "rope", "wire", "one"] ["self", "number", "house", "came"] (defScope s_Net_work) := ⟨rfl, rfl, rfl, by decide +kernel, rfl, by decide +kernel, by decide +kernel⟩
theorem ok_work (T : Tx K mg) : Fn P w K mg base 7 (He.ma K (He.ga K "Net") "work") [] (spWork K) := by
  refine mkFn T.F_Net_work sc_work (fun _ _ _ _ _ _ us hl => match us, hl with | [_, _, _, _], _ => rfl) (fun vs H Q E h => ?_) (fun cdv A outer s H vs Q E hr h => ?_)
  · obtain ⟨G, C, A, S, c, n, h, o, rfl, _⟩ := h; rfl
  · obtain ⟨G, C, A, S, c, n, h, o, rfl, N, W, cc, n0, n1, hh, k⟩ := h
    have nd := sc_work.nd
    refine ⟨_, pss_cons (ps_asg (pe_slice sl_tup (pe_ix ix_list (pf (pv 0)) (pv 1) (fun _ _ => rfl)) po_none (po_some pe_int)) (pg_tup rfl (pgs_cons (pg_name (i := 4) nd rfl (.inl rfl)) (pgs_cons (pg_name (i := 5) nd rfl (.inr rfl)) pgs_nil))))
      (pss_cons (ps_dput (room_hu hr) (pf (pv 0)) (pe_tup (pa_cons (pv 2) (pa_cons (pv 1) pa_nil))) pe_bl rfl)
      (pss_cons (ps_setLc (i := 6) (own := [("caller", 10), ("one", 13)]) (g := gTup K 2 (gCons (gName 10) (gCons (gName 13) gNil))) rfl nd rfl rfl (sw_true rfl rfl rfl (by decide +kernel)) (pi_enum (by rfl) T.b_enumerate (pa_cons (pf (pv 0)) pa_nil))
        (blkOk_by (N := ["self", "number", "house", "came", "letter", "group", "here", "doors", "handed", "ropes", "caller", "rope", "wire", "one"]) (sc := defScope s_Net_work) (by decide +kernel))
        (fun _ _ _ _ _ => pg_tup rfl (pgs_cons (pg_name (i := 10) nd rfl (Or.inl rfl)) (pgs_cons (pg_name (i := 13) nd rfl (Or.inl rfl)) pgs_nil)))
        (fun _ _ _ _ _ => pts_one (pt_cmpR (r := rEqD K) (op_eqD hr.units) (pv 13) (pe_tup (pa_cons (pv 2) (pa_cons (pv 5) pa_nil))) (nomark _))) (fun _ _ _ _ _ => pv 10))
      (pss_cons (ps_set (i := 7) nd rfl (.inl rfl) (cf (ok_open_at T) hr T.g_open_at passL (pa_cons (pf (pv 0)) (pa_cons (cm (pv 0) T.c_Net T.m_Net_live (ok_nlive T) hr pX (pa_cons (pv 5) pa_nil)) (pa_cons (cm (pv 0) T.c_Net T.m_Net_table (ok_table T) hr pX (pa_cons (pv 5) pa_nil)) (pa_cons (pv 2) pa_nil))))))
      (pss_cons (ps_asg (cf (ok_targets T) hr T.g_targets passL (pa_cons (pe_ix ix_list (pf (pv 0)) (pv 5) (fun _ _ => rfl)) (pa_cons (pv 4) (pa_cons (pv 2) (pa_cons (pv 3) (pa_cons (pv 7) (pa_cons (pv 6) pa_nil))))))) (pg_tup rfl (pgs_cons (pg_name (i := 8) nd rfl (.inl rfl)) (pgs_cons (pg_name (i := 9) nd rfl (.inl rfl)) pgs_nil))))
      (pss_cons (ps_for (passes_of rfl) rfl (pi_list (pv 8)) (pg_name (i := 10) nd rfl (.inl rfl))
        (pss_cons (ps_expr (pe_bm PySem.F.plainAttrs_list PySem.F.slot_list_append PySem.F.type_list_append mt_append (pe_ix ix_list (pf (pv 0)) (pv 1) (fun _ _ => rfl)) (pa_cons (pe_tup (pa_cons pe_str (pa_cons (pv 2) (pa_cons (pv 10) pa_nil)))) pa_nil)))
        (pss_one (ps_expr (pe_bm PySem.F.plainAttrs_list PySem.F.slot_list_append PySem.F.type_list_append mt_append (pf (pv 0)) (pa_cons (pe_tup (pa_cons (pv 1) (pa_cons (pv 10) pa_nil))) pa_nil))))))
      (pss_one (ps_for (passes_of rfl) rfl (pi_list (pv 9)) (pg_name (i := 11) nd rfl (.inl rfl))
        (pss_cons (ps_set (i := 12) nd rfl (.inl rfl) (cm (pf (pv 0)) T.c_Strands T.m_Strands_wire_for (ok_wire_for T) hr passL (pa_cons (pv 11) (pa_cons (cm0 (pv 4) T.c_ToAll T.m_ToAll_number (ok_number T) hr passL) pa_nil))))
        (pss_cons (ps_expr (pe_bm PySem.F.plainAttrs_list PySem.F.slot_list_append PySem.F.type_list_append mt_append (pe_ix ix_list (pf (pv 0)) (pv 1) (fun _ _ => rfl)) (pa_cons (pe_tup (pa_cons pe_str (pa_cons (pv 2) (pa_cons (pv 11) (pa_cons (pv 12) pa_nil))))) pa_nil)))
        (pss_one (ps_expr (pe_bm PySem.F.plainAttrs_list PySem.F.slot_list_append PySem.F.type_list_append mt_append (pf (pv 0)) (pa_cons (pe_tup (pa_cons (pv 1) (pa_cons (pv 11) (pa_cons (pv 12) (pa_cons (cm (pf (pv 0)) T.c_Town T.m_Town_far_end (ok_Town_far_end T) hr passL (pa_cons (pv 11) (pa_cons (pv 2) pa_nil))) pa_nil))))) pa_nil))))))))))))), ?_⟩
    have hki : n.toNat < S.ks := by rw [W.kn]; omega
    obtain ⟨dx, h1⟩ := N.net
    obtain ⟨sv, s1, s2, s3⟩ := N.sentH
    have hsi : n.toNat < sv.length := by rw [s2]; exact hki
    obtain ⟨pp, l, dl, g, age, snd, e0, e1, g0, g1, e2⟩ := s3 _ (List.getElem_mem hsi)
    have hg : g.toNat < 3 := by omega
    walk_at "st"
    with_reducible refine r_asgT ?_
    walk_at "st"
    refine fz h1 T.c_Net T.n_Net_sent (i := 6) (by decide +kernel) rfl ?_
    walk_at "st"
    refine ⟨_, sv, n, .ref pp, rfl, rfl, SqL.of s1, at_ix n0 (by rw [List.getElem?_eq_getElem hsi, e0]), ?_⟩
    walk_at "st"
    refine ⟨_, rfl, ?_⟩
    refine ⟨pp, _, rfl, SqT.of (N.same _ _ e1), by show ¬ (HT.sIx 3 0 none = 0 ∧ HT.sIx 3 3 (some 2) = 3); decide, fun q nq => ?_⟩
    rw [show cutV [V.ref l, .int g, .int age] none (some 2) = [.ref l, .int g] from rfl]
    have E1 : Same H (upd H q (.tup [.ref l, .int g])) := Same.new nq
    have N1 := N.ext E1
    refine ⟨q, [.ref l, .int g], rfl, SqT.of upd_same, rfl, ?_⟩
    refine ⟨_, _, rfl, _, _, rfl, rfl, ?_⟩
    walk_at "st"
    with_reducible refine r_dput ?_
    walk_at "st"
    refine fz (E1 _ _ h1) T.c_Net T.n_Net_done (i := 9) (by decide +kernel) rfl ?_
    walk_at "st"
    refine ⟨szl (by show 2 ≤ 100000; decide), fun q2 nq2 => ?_⟩
    have E2 : Same (upd H q (.tup [.ref l, .int g])) (upd (upd H q (.tup [.ref l, .int g])) q2 (.tup [.int h, .int n])) := Same.new nq2
    have N2 := N1.ext E2
    obtain ⟨kvs, d1, d2⟩ := N2.doneH
    have w5 := W.l5
    refine ⟨_, _, rfl, DPut.t (k := [.inl h, .inl n]) d1 upd_same (sll (by omega)), ?_⟩
    have N3 := N2.putDone (kvs := putK kvs [.inl h, .inl n] (.bl true)) (Nat.le_trans (length_putK _ _ _) (by omega))
    have W3 := W.cap1
    generalize upd (upd (upd H q (.tup [.ref l, .int g])) q2 (.tup [.int h, .int n])) (A .done) (.dT (putK kvs [.inl h, .inl n] (.bl true))) = H3 at N3 ⊢
    have R3 : WorkRel S { S with cap := S.cap + 1 } := (WorkRel.refl S).cap _
    generalize ({ S with cap := S.cap + 1 } : NS) = S3 at N3 W3 R3
    have ns3 : S3.ns = S.ns := by obtain ⟨_, _, _, _, rfl, _⟩ := R3; rfl
    have hT3 := N3.townH
    obtain ⟨dx3, h3⟩ := N3.net
    obtain ⟨ps, p1, p2⟩ := N3.plH
    have hlp : (ps.map V.ref).length = C.people.length := by rw [List.length_map, p2.1, List.length_map]
    have pl := N.fix.pl
    walk_at "st"
    refine fz h3 T.c_Net T.n_Net_people (i := 0) (by decide +kernel) rfl ?_
    walk_at "st"
    refine ⟨_, _, rfl, SqL.of p1, fun hp np => ?_⟩
    refine lc_it walk_enum (fun i H' => Same H3 H' ∧ ∃ ms : List Int, H' hp = some (.lst (ms.map .int)) ∧ ms.length ≤ i) ⟨Same.new np, [], upd_same, Nat.le_refl _⟩ (fun i H' _ ⟨e, _⟩ => e.seq (SqL.of p1)) ?_ ?_
    · rintro i x H4 H4' hi ⟨e4, ms, hm, hl⟩ ⟨Tp, a, b, rfl, nT, rfl, ha, hb⟩
      cases ha
      have hi' : i < C.people.length := by rw [hlp] at hi; exact hi
      have hq : C.people[i]? = some C.people[i] := List.getElem?_eq_getElem hi'
      obtain ⟨a, a1, a2⟩ := p2.at (get_map (f := pairV) hq)
      obtain rfl : b = .ref a := (Option.some.inj ((get_map (f := V.ref) a1).symm.trans hb)).symm
      have e5 : Same H4 (upd H4 Tp (.tup [.int (i : Nat), .ref a])) := Same.new nT
      refine ⟨Tp, _, rfl, SqT.of upd_same, rfl, ?_⟩
      refine ⟨_, _, rfl, _, _, rfl, rfl, ?_⟩
      refine ⟨rfl, ?_⟩
      walk_at "st"
      refine ⟨szl (by show 2 ≤ 100000; decide), fun q3 nq3 => ?_⟩
      have e6 := e5.trans (Same.new (o := .tup [.int h, .int g]) nq3)
      refine ⟨_, _, Dp.tup (SqT.of (e6 _ _ (e4 _ _ a2))) (.cons (.int _) (.cons (.int _) .nil)), Dp.tup (SqT.of upd_same) (.cons (.int _) (.cons (.int _) .nil)), (Lay.tup (.cons (lay_int _) (.cons (lay_int _) .nil)) : Lay 1 _).sh (by decide), (Lay.tup (.cons (lay_int _) (.cons (lay_int _) .nil)) : Lay 1 _).sh (by decide), _, rfl, ?_⟩
      refine ite2 (fun _ => ?_) (fun _ => ?_)
      · walk_at "st"
        exact ⟨_, e6 _ _ hm, sll (by rw [List.length_map]; omega), Same.mut (e4.trans e6) np, ms ++ [(i : Int)], by rw [List.map_append]; exact upd_same, by rw [List.length_append]; simpa using hl⟩
      · exact ⟨e4.trans e6, ms, e6 _ _ hm, Nat.le_succ_of_le hl⟩
    · rintro H4 ⟨e4, ms, hm, hl⟩
      rw [hlp] at hl
      have N4 := N3.ext e4
      have h4 := e4 _ _ h3
      walk_at "st"
      refine fz h4 T.c_Net T.n_Net_town (i := 1) (by decide +kernel) rfl ?_
      walk_at "st"
      refine mz h4 (by decide +kernel) ?_
      walk_at "st"
      refine ⟨G, C, A, S3, g, rfl, N4, fun _ lv H5 nlv e5 hlv => ?_, fun z => absurd ⟨g0, g1⟩ z⟩
      have N5 := N4.ext e5
      have h5 := e5 _ _ h4
      walk_at "st"
      refine mz h5 (by decide +kernel) ?_
      walk_at "st"
      refine ⟨G, C, A, S3, g, rfl, N5, fun _ => ?_, fun z => absurd ⟨g0, g1⟩ z⟩
      walk_at "st"
      refine ⟨C.t, C.D, lv, _, _, _, h, rfl, N5.townH, hlv, N5.rowsAt W3 hg, hh.1, hh.2, fun ds hds dp H6 ndp e6 hdp => ?_⟩
      have N6 := N5.ext e6
      have h6 := e6 _ _ h5
      walk_at "st"
      with_reducible refine r_asgT ?_
      walk_at "st"
      refine fz h6 T.c_Net T.n_Net_books (i := 4) (by decide +kernel) rfl ?_
      walk_at "st"
      refine ⟨_, _, g, _, rfl, rfl, SqL.of N6.bkH, at_ix g0 (range_ix g0 g1), ?_⟩
      walk_at "st"
      refine ⟨_, l, dl, dp, hp, C.D, ds, ms, o, snd, h, rfl, N6.same _ _ e2, hdp, hds, e6 _ _ (e5 _ _ hm), by omega, fun ms' hs' t a1 a2 H7 hms' hhs' e7 ht na1 na2 ha1 ha2 => ?_⟩
      have N7 := N6.ext e7
      have e67 : Same H3 H6 := (e4.trans e5).trans e6
      refine ⟨t, _, rfl, SqT.of ht, rfl, ?_⟩
      refine ⟨_, _, rfl, _, _, rfl, rfl, ?_⟩
      have hfa1 := N6.free na1
      have hfa2 := N6.free na2
      -- the lists that are walked are put by: they stand in the ghost heap
      have M7 := (N7.grow ha1 hfa1).grow (p := a2) (o := .lst (ms'.map .int)) ha2 hfa2
      have eG7 : Same G (upd (upd G a1 (.lst (hs'.map .int))) a2 (.lst (ms'.map .int))) := (growS N7.same ha1).trans (growS (N7.grow ha1 hfa1).same ha2)
      have ga2 : upd (upd G a1 (.lst (hs'.map .int))) a2 (.lst (ms'.map .int)) a2 = some (.lst (ms'.map .int)) := upd_same
      have ga1 : ∃ x : List Int, upd (upd G a1 (.lst (hs'.map .int))) a2 (.lst (ms'.map .int)) a1 = some (.lst (x.map V.int)) ∧ x.length ≤ 20 := by
        by_cases z : a1 = a2
        · rw [z, upd_same]; exact ⟨ms', rfl, by have := hms'.1; omega⟩
        · rw [upd_ne z, upd_same]; exact ⟨hs', rfl, hhs'⟩
      generalize upd (upd G a1 (.lst (hs'.map .int))) a2 (.lst (ms'.map .int)) = G7 at M7 eG7 ga2 ga1
      obtain ⟨hs', ga1, hhs'⟩ := ga1
      have hkns : n.toNat < S.ns := by omega
      walk_at "st"
      refine ⟨a1, rfl, ⟨_, SqL.of (M7.same _ _ ga1)⟩, ?_⟩
      refine for_it walk_list (fun i σ H' => ∃ (G' : Hp) (S' : NS) (x10 : Option V), σ = [some (.ref (A .net)), some (.int n), some (.int h), some (oV o), some (.ref l), some (.int g), some (.ref hp), some (.ref dp), some (.ref a1), some (.ref a2), x10, none, none, none] ∧
          Same G7 G' ∧ NetAt K G' H' C A S' ∧ WorkRel S S' ∧ Wf C S' (c + 1 + 2 * i)) ⟨G7, S3, none, rfl, Same.refl _, M7, R3, W3⟩ (fun i σ H' _ ⟨_, _, _, _, e, N', _⟩ => SqL.of (N'.same _ _ (e _ _ ga1))) ?_ ?_
      · rintro i x σ H8 H8' hi ⟨G', S', x10, rfl, eG, N8, R8, W8⟩ ⟨rfl, hx⟩
        rw [List.length_map] at hi
        obtain ⟨cl, _, rfl⟩ : ∃ r, hs'[i]? = some r ∧ x = .int r := by
          rw [List.getElem?_map] at hx
          cases q : hs'[i]? with
          | none => rw [q] at hx; cases hx
          | some r => rw [q] at hx; exact ⟨r, rfl, (Option.some.inj hx).symm⟩
        have ns8 : S'.ns = S.ns := by obtain ⟨_, _, _, _, rfl, _⟩ := R8; rfl
        obtain ⟨dx8, h8⟩ := N8.net
        obtain ⟨pz, z1, z2⟩ := N8.storyH (i := n.toNat) (by rw [ns8]; exact hkns)
        have zl : (pz.map V.ref).length ≤ c + 1 + 2 * i := by rw [List.length_map, z2.1]; exact W8.l3 _ (by rw [ns8]; exact hkns)
        walk_at "st"
        refine fz h8 T.c_Net T.n_Net_stories (i := 7) (by decide +kernel) rfl ?_
        walk_at "st"
        refine ⟨_, _, n, _, rfl, rfl, SqL.of N8.storiesH, at_ix n0 (range_ix n0 (by rw [ns8]; exact n1)), ?_⟩
        refine ⟨.inl ⟨rfl, _, SqL.of z1⟩, ?_⟩
        walk_at "st"
        refine ⟨szl (by show 3 ≤ 100000; decide), fun q nq => ?_⟩
        have e9 : Same H8' (upd H8' q (.tup [.str (Str.ofString "hand"), .int h, .int cl])) := Same.new nq
        refine ⟨_, _, _, rfl, rfl, e9 _ _ z1, sll (by omega), ?_⟩
        have eG9 : Same G' (upd G' q (.tup [.str (Str.ofString "hand"), .int h, .int cl])) := growS (N8.ext e9).same upd_same
        have N9 := ((N8.ext e9).growT upd_same).addStory (i := n.toNat) (by rw [ns8]; exact hkns) (z2.mono eG9) upd_same
        have W9 := W8.addStory (i := n.toNat) (e := [.str (Str.ofString "hand"), .int h, .int cl]) (okE (by decide +kernel) rfl)
        have R9 := R8.story n.toNat [.str (Str.ofString "hand"), .int h, .int cl]
        generalize ({ S' with stories := addSt S'.stories n.toNat [.str (Str.ofString "hand"), .int h, .int cl] } : NS) = S9 at N9 W9 R9
        obtain ⟨dx9, h9⟩ := N9.net
        obtain ⟨pz, z1, z2⟩ := N9.handsH
        have zl : (pz.map V.ref).length ≤ c + 1 + 2 * i + 1 := by rw [List.length_map, z2.1]; exact W9.l1
        walk_at "st"
        refine fz h9 T.c_Net T.n_Net_hands (i := 8) (by decide +kernel) rfl ?_
        refine ⟨.inl ⟨rfl, _, SqL.of z1⟩, ?_⟩
        walk_at "st"
        refine ⟨szl (by show 2 ≤ 100000; decide), fun q2 nq2 => ?_⟩
        refine ⟨_, _, _, rfl, rfl, (Same.new nq2) _ _ z1, sll (by omega), ?_⟩
        have e10 : Same _ (upd _ q2 (.tup [.int n, .int cl])) := Same.new nq2
        have eG10 := growS (N9.ext e10).same (upd_same (o := .tup [.int n, .int cl]))
        have N10 := ((N9.ext e10).growT upd_same).addHand (z2.mono eG10) upd_same
        exact ⟨_, _, _, rfl, (eG.trans eG9).trans eG10, N10, R9.hand _, W9.addHand.mono (by omega)⟩
      · rintro σ H8 ⟨G', S', x10, rfl, eG, N8, R8, W8⟩
        rw [List.length_map] at W8
        have W8 := W8.mono (c' := c + 41) (by omega)
        walk_at "st"
        refine ⟨a2, rfl, ⟨_, SqL.of (N8.same _ _ (eG _ _ ga2))⟩, ?_⟩
        refine for_it walk_list (fun i σ H' => ∃ (G'' : Hp) (S'' : NS) (x11 x12 : Option V), σ = [some (.ref (A .net)), some (.int n), some (.int h), some (oV o), some (.ref l), some (.int g), some (.ref hp), some (.ref dp), some (.ref a1), some (.ref a2), x10, x11, x12, none] ∧
            Same G' G'' ∧ NetAt K G'' H' C A S'' ∧ WorkRel S S'' ∧ Wf C S'' (c + 41 + 2 * i)) ⟨G', S', none, none, rfl, Same.refl _, N8, R8, W8⟩ (fun i σ H' _ ⟨_, _, _, _, _, e, N', _⟩ => SqL.of (N'.same _ _ (e _ _ (eG _ _ ga2)))) ?_ ?_
        · rintro i x σ H9 H9' hi ⟨G'', S'', x11, x12, rfl, eG2, N9, R9, W9⟩ ⟨rfl, hx⟩
          rw [List.length_map] at hi
          obtain ⟨rr, hrr, rfl⟩ : ∃ r, ms'[i]? = some r ∧ x = .int r := by
            rw [List.getElem?_map] at hx
            cases q : ms'[i]? with
            | none => rw [q] at hx; cases hx
            | some r => rw [q] at hx; exact ⟨r, rfl, (Option.some.inj hx).symm⟩
          obtain ⟨r0, r1⟩ := hms'.2 rr (List.mem_of_getElem? hrr)
          have mi := hms'.1
          have ns9 : S''.ns = S.ns := by obtain ⟨_, _, _, _, rfl, _⟩ := R9; rfl
          obtain ⟨dx9, h9⟩ := N9.net
          obtain ⟨ds, h9s, _⟩ := N9.strands
          have hl9 := N9.same _ _ (eG2 _ _ (eG _ _ (eG7 _ _ e2)))
          walk_at "st"
          refine r_meth ?_
          refine fz h9 T.c_Net T.n_Net_strands (i := 2) (by decide +kernel) rfl ?_
          refine ⟨_, _, _, rfl, h9s, znone (by decide +kernel), ?_⟩
          walk_at "st"
          refine mz hl9 (by decide +kernel) ?_
          walk_at "st"
          refine ⟨l, dl, snd, rfl, hl9, ?_⟩
          walk_at "st"
          refine ⟨G'', C, A, S'', rr, snd, rfl, N9, r0, r1, W9.ul _ (by omega), fun w H10 e10 => ?_⟩
          have N10 := N9.ext e10
          obtain ⟨dx10, h10⟩ := N10.net
          obtain ⟨pz, z1, z2⟩ := N10.storyH (i := n.toNat) (by rw [ns9]; exact hkns)
          have zl : (pz.map V.ref).length ≤ c + 41 + 2 * i := by rw [List.length_map, z2.1]; exact W9.l3 _ (by rw [ns9]; exact hkns)
          walk_at "st"
          refine fz h10 T.c_Net T.n_Net_stories (i := 7) (by decide +kernel) rfl ?_
          walk_at "st"
          refine ⟨_, _, n, _, rfl, rfl, SqL.of N10.storiesH, at_ix n0 (range_ix n0 (by rw [ns9]; exact n1)), ?_⟩
          refine ⟨.inl ⟨rfl, _, SqL.of z1⟩, ?_⟩
          walk_at "st"
          refine ⟨szl (by show 4 ≤ 100000; decide), fun q nq => ?_⟩
          have e11 : Same H10 (upd H10 q (.tup [.str (Str.ofString "send"), .int h, .int rr, oV w])) := Same.new nq
          refine ⟨_, _, _, rfl, rfl, e11 _ _ z1, sll (by omega), ?_⟩
          have eG11 : Same G'' (upd G'' q (.tup [.str (Str.ofString "send"), .int h, .int rr, oV w])) := growS (N10.ext e11).same upd_same
          have N11 := ((N10.ext e11).growT upd_same).addStory (i := n.toNat) (by rw [ns9]; exact hkns) (z2.mono eG11) upd_same
          have W11 := W9.addStory (i := n.toNat) (e := [.str (Str.ofString "send"), .int h, .int rr, oV w]) (okE (by decide +kernel) (by cases w <;> rfl))
          have R11 := R9.story n.toNat [.str (Str.ofString "send"), .int h, .int rr, oV w]
          have ns11 : ({ S'' with stories := addSt S''.stories n.toNat [.str (Str.ofString "send"), .int h, .int rr, oV w] } : NS).ns = S.ns := ns9
          generalize ({ S'' with stories := addSt S''.stories n.toNat [.str (Str.ofString "send"), .int h, .int rr, oV w] } : NS) = S11 at N11 W11 R11 ns11
          obtain ⟨dx11, h11⟩ := N11.net
          obtain ⟨pz, z1, z2⟩ := N11.airH
          obtain ⟨dt, la, lk, lr, pk, pn, ht11, _⟩ := N11.townH.ex
          have zl : (pz.map V.ref).length ≤ c + 41 + 2 * i + 1 := by rw [List.length_map, z2.1]; exact W11.l2
          walk_at "st"
          refine fz h11 T.c_Net T.n_Net_air (i := 10) (by decide +kernel) rfl ?_
          refine ⟨.inl ⟨rfl, _, SqL.of z1⟩, ?_⟩
          walk_at "st"
          refine r_meth ?_
          refine fz h11 T.c_Net T.n_Net_town (i := 1) (by decide +kernel) rfl ?_
          refine ⟨_, _, _, rfl, ht11, znone (by decide +kernel), ?_⟩
          walk_at "st"
          refine ⟨C.t, C.D, rr, h, rfl, N11.townH, r0, r1, fun rp hrp => ?_⟩
          obtain ⟨f0, f1⟩ := far_ok N11.townH.ok (List.mem_of_getElem? hrp) h
          walk_at "st"
          refine ⟨szl (by show 4 ≤ 100000; decide), fun q2 nq2 => ?_⟩
          refine ⟨_, _, _, rfl, rfl, (Same.new nq2) _ _ z1, sll (by omega), ?_⟩
          have e12 : Same _ (upd _ q2 (.tup [.int n, .int rr, oV w, .int (farI rp h)])) := Same.new nq2
          have eG12 := growS (N11.ext e12).same (upd_same (o := .tup [.int n, .int rr, oV w, .int (farI rp h)]))
          have N12 := ((N11.ext e12).growT upd_same).addAir (z2.mono eG12) upd_same
          exact ⟨_, _, _, _, rfl, (eG2.trans eG11).trans eG12, N12, R11.air _, (W11.addAir ⟨_, _, _, _, rfl, n0, by rw [ns11]; exact n1, r0, r1, f0, f1⟩).mono (by omega)⟩
        · rintro σ H9 ⟨G'', S'', x11, x12, rfl, eG2, N9, R9, W9⟩
          rw [List.length_map] at W9
          walk_at "st"
          exact k G'' H9 S'' ((eG7.trans eG).trans eG2) N9 R9 (W9.mono (by have := hms'.1; omega))
end
end Kn
set_option Elab.async false
set_option linter.all false
set_option maxRecDepth 100000
set_option maxHeartbeats 4000000
namespace Kn
open PySem L2
local macro_rules | `(tactic| walk_at "st") => `(tactic| repeat' (first
  | with_reducible refine r_seq ?_ | with_reducible refine r_set ?_ | with_reducible refine r_ret ?_ | with_reducible refine r_retN ?_ | with_reducible refine r_drop ?_ | with_reducible refine r_next ?_
  | with_reducible refine r_if ?_ | ((with_reducible refine r_var (v := ?_) ?hs ?_); (case hs => exact rfl)) | with_reducible refine r_c ?_ | with_reducible refine r_op ?_ | with_reducible refine r_I0 ?_
  | with_reducible refine r_test ?_ | with_reducible refine r_B ?_ | with_reducible refine ⟨_, (rfl : V.bl _ = V.bl _), ?_⟩ | with_reducible refine r_not ?_ | with_reducible refine r_or ?_ | with_reducible refine r_and ?_
  | with_reducible refine r_nil ?_ | with_reducible refine r_cons ?_ | with_reducible refine r_call ?_ | with_reducible refine r_cb ?_ | with_reducible refine r_tup ?_ | with_reducible refine r_lst ?_
  | with_reducible refine r_gname ?_ | with_reducible refine r_for ?_ | with_reducible refine r_iList ?_ | with_reducible refine r_iRng1 ?_ | with_reducible refine r_lc ?_ | with_reducible refine r_yes ?_
  | with_reducible refine r_chain ?_ | with_reducible refine r_sfld ?_ | with_reducible refine r_bm ?_ | with_reducible refine r_bm0 ?_ | with_reducible refine r_make ?_ | with_reducible refine r_sl ?_ | with_reducible refine r_nopart ?_ | with_reducible refine r_part ?_ | with_reducible refine r_iEnum ?_ | with_reducible refine r_iRng2 ?_))
theorem NetAt.re2 {K : PySem.W.Frag} {G H : Hp} {C : Cn} {A : Lb → Addr} {S S' : NS} {p : Addr} {o : HO} {l : Lb} {m : Lb} {o2 : HO} (N : NetAt K G H C A S) (hp : G p = none) (hf : ∀ l', Dom C S l' → A l' ≠ p) (hH : H p = some o) (ml : m ≠ l) (dm : Dom C S m) (hd : ∀ l', Dom C S' l' → l' ≠ l → Dom C S l')
    (c : Ct K G C (setA A l p) S' l o) (c2 : Ct K G C (setA A l p) S' m o2) (oth : ∀ l' o', l' ≠ l → l' ≠ m → Dom C S l' → Ct K G C A S l' o' → Ct K G C (setA A l p) S' l' o') (fx : Fix K G C (setA A l p)) : NetAt K G (upd H (A m) o2) C (setA A l p) S' := by
  refine ⟨fx, Same.mut N.same (N.out m dm), fun l' d => ?_, fun a b da db z => ?_, fun l' d => ?_⟩
  · by_cases q : l' = l
    · rw [q, setA_at]; exact hp
    · rw [setA_ne q]; exact N.out l' (hd l' d q)
  · by_cases qa : a = l
    · by_cases qb : b = l
      · rw [qa, qb]
      · rw [qa, setA_at, setA_ne qb] at z
        exact absurd z.symm (hf b (hd b db qb))
    · by_cases qb : b = l
      · rw [qb, setA_at, setA_ne qa] at z
        exact absurd z (hf a (hd a da qa))
      · rw [setA_ne qa, setA_ne qb] at z
        exact N.inj a b (hd a da qa) (hd b db qb) z
  · by_cases q : l' = l
    · subst q
      rw [setA_at]
      exact ⟨o, by rw [upd_ne (Ne.symm (hf m dm))]; exact hH, c⟩
    · rw [setA_ne q]
      by_cases qm : l' = m
      · subst qm
        exact ⟨o2, upd_same, c2⟩
      · obtain ⟨o', h1, h2⟩ := N.has l' (hd l' d q)
        refine ⟨o', ?_, oth l' o' q qm (hd l' d q) h2⟩
        rw [upd_ne fun z => qm (N.inj l' m (hd l' d q) dm z)]
        exact h1
def newSt (S : NS) (e : List V) : Nat → List (List V) := fun i => if i = S.ns then [e] else S.stories i
section
variable {K : PySem.W.Frag} {G H : Hp} {C : Cn} {A : Lb → Addr} {S : NS} {p : Addr} {o : HO} {c : Nat}
theorem NetAt.newStory {q : Addr} {e : List V} (N : NetAt K G H C A S) (hp : H p = some (.lst [.ref q])) (gp : G p = none) (hf : ∀ l', Dom C S l' → A l' ≠ p) (hq : G q = some (.tup e)) :
    NetAt K G (upd H (A .stories) (.lst (((List.range S.ns).map fun i => .ref (A (.story i))) ++ [.ref p]))) C (setA A (.story S.ns) p) { S with ns := S.ns + 1, stories := newSt S e } := by
  have ih : ∀ i, i < S.ns → (Lb.story i) ≠ .story S.ns := fun i h z => by injection z with z; omega
  refine N.re2 (l := .story S.ns) (m := .stories) (o := .lst [.ref q]) gp hf hp (by intro z; cases z) trivial (fun l' d ne => ?_) ⟨[q], rfl, ?_⟩ ?_ (fun l' o' q1 q2 d h => ?_)
    (N.fix.lab (fun _ => setA_ne (by intro z; cases z)) (fun _ => setA_ne (by intro z; cases z)) (fun _ => setA_ne (by intro z; cases z)))
  · cases l' with
    | story i =>
      have d : i < S.ns + 1 := d
      show i < S.ns
      by_cases z : i = S.ns
      · exact absurd (by rw [z]) ne
      · omega
    | net => exact d
    | table g => exact d
    | wires r => exact d
    | book g => exact d
    | kept g => exact d
    | news => exact d
    | sent => exact d
    | stories => exact d
    | hands => exact d
    | done => exact d
    | air => exact d
  · show Tups G [q] (newSt S e S.ns)
    unfold newSt
    rw [if_pos rfl]
    exact Tups.nil.snoc hq
  · show HO.lst _ = HO.lst _
    rw [List.range_succ, List.map_append]
    congr 2
    · refine List.map_congr_left fun i hi => ?_
      rw [setA_ne (ih i (List.mem_range.mp hi))]
    · show [V.ref p] = [V.ref (setA A (.story S.ns) p (.story S.ns))]
      rw [setA_at]
  · cases l' with
    | story i =>
      obtain ⟨qs, h1, h2⟩ := h
      refine ⟨qs, h1, ?_⟩
      show Tups G qs (newSt S e i)
      unfold newSt
      rw [if_neg (fun z => q1 (by rw [z]))]; exact h2
    | stories => exact absurd rfl q2
    | net => obtain ⟨dx, rfl⟩ := h; exact ⟨dx, by simp [netV, setA]⟩
    | table g => exact h
    | wires r => exact h
    | book g =>
      obtain ⟨dx, rfl⟩ := h
      exact ⟨dx, by rw [setA_ne (by intro z; cases z)]⟩
    | kept g => exact h
    | news => exact h
    | sent => exact h
    | hands => exact h
    | done => exact h
    | air => exact h
theorem NetAt.addSent {v : V} {vs : List V} (N : NetAt K G H C A S) (h : vs.length = S.ks ∧ ∀ v ∈ vs, SentOk K G v) (hv : SentOk K G v) : NetAt K G (upd H (A .sent) (.lst (vs ++ [v]))) C A { S with ks := S.ks + 1 } := by
  refine N.set (l := .sent) trivial (fun _ d => d) ⟨vs ++ [v], rfl, by rw [List.length_append, h.1]; rfl, fun u m => ?_⟩ (fun l' o' ne _ h' => ?_)
  · rcases List.mem_append.mp m with a | a
    · exact h.2 u a
    · rw [List.mem_singleton.mp a]; exact hv
  cases l' with
  | sent => exact absurd rfl ne
  | hands => exact h'
  | story i' => exact h'
  | net => exact h'
  | table g => exact h'
  | wires r => exact h'
  | book g => exact h'
  | kept g => exact h'
  | news => exact h'
  | stories => exact h'
  | done => exact h'
  | air => exact h'
theorem Wf.newStory {e : List V} (W : Wf C S c) (he : e.all okV = true) : Wf C { S with ks := S.ks + 1, ns := S.ns + 1, stories := newSt S e } (c + 1) :=
  ⟨W.rw_, W.rh, W.ul, W.nl, fun e' m => by
    obtain ⟨k, r, h, o, h1, h2, h3, h4⟩ := (W.ai e' m).ex
    exact ⟨k, r, h, o, h1, h2, by show k < ((S.ns + 1 : Nat) : Int); omega, h4⟩, W.ha, fun i hi e' m => by
    have m : e' ∈ newSt S e i := m
    have hi : i < S.ns + 1 := hi
    unfold newSt at m
    by_cases z : i = S.ns
    · rw [if_pos z] at m; rw [List.mem_singleton.mp m]; exact he
    · rw [if_neg z] at m; exact W.st i (by omega) e' m, by show S.ks + 1 = S.ns + 1; rw [W.kn], Nat.le_succ_of_le W.l1, Nat.le_succ_of_le W.l2, fun i hi => by
    have hi : i < S.ns + 1 := hi
    show (newSt S e i).length ≤ _
    unfold newSt
    by_cases z : i = S.ns
    · rw [if_pos z]; show 1 ≤ c + 1; omega
    · rw [if_neg z]; exact Nat.le_succ_of_le (W.l3 i (by omega)), Nat.succ_le_succ W.l4, Nat.le_succ_of_le W.l5⟩
end
structure PostRel (S S' : NS) (h : Int) : Prop where
  rows : S'.rows = S.rows
  up : S'.up = S.up
  ns : S'.ns = S.ns + 1
  clean : S'.clean = S.clean
  head : ∃ m, S'.stories S.ns = [.str (Str.ofString "post"), .int h] :: m
section
variable {P : Program} {w : World} {K : PySem.W.Frag} {mg : Str → Option Value} {base : Heap}
def spPost (K : PySem.W.Frag) : Sp := fun vs H Q E => ∃ (G : Hp) (C : Cn) (A : Lb → Addr) (S : NS) (c : Nat) (s : Int) (t : Option Int), vs = [.ref (A .net), .int s, oV t] ∧ NetAt K G H C A S ∧ Wf C S c ∧ c < 30000 ∧
  (¬CIn C s → XNo K "NoCaller" H E) ∧
  (∀ q, CIn C s → C.people[s.toNat]? = some q → ∀ t', t = some t' → (¬CIn C t' → XNo K "NoCaller" H E) ∧ (∀ q', CIn C t' → C.people[t'.toNat]? = some q' → q'.2 ≠ q.2 ∧ XNo K "Apart" H E)) ∧
  (∀ q, CIn C s → C.people[s.toNat]? = some q → t = none → ∀ G' H' A' S', Same G G' → NetAt K G' H' C A' S' → A' .net = A .net → PostRel S S' q.1 → Wf C S' (c + 101) → Q (.int S.ns) H')
theorem sc_post : FnScope ["self", "sender", "to", "house", "group", "letter", "number"] ["self", "sender", "to"] (defScope s_Net_post) := ⟨rfl, rfl, rfl, by decide +kernel, rfl, by decide +kernel, by decide +kernel⟩
/-- the promise of a def with defaults, from its body -/
theorem mkFnD {P : Program} {w : World} {K : PySem.W.Frag} {mg : Str → Option Value} {base : Heap} {x qual : Str} {params : Arguments} {body : List Stmt} {scope : Scope} {dvs : List V} {f : Addr} {N ps : List Str} {k : Nat} {sp : Sp}
    (F : ∃ fd, FunD K x qual params body scope dvs [] f fd) (S : FnScope N ps scope) (hd : dvs ≠ [])
    (len : ∀ vs H Q E, sp vs H Q E → vs.length = ps.length)
    (hbody : ∀ (cdv : Value) (A : Around) (outer : List Env) (s : Shared) (H : Hp) (vs : List V) (Q : VK) (E : XK), Room k (A.deeper (PyProof.Rows.envOfC qual scope s.heap.objs.size f cdv)) → sp vs H Q E →
      ∃ t, PSs (cxOf (L2.CX P w) P w K mg base N qual scope f cdv A outer s H E) body t ∧ t { nx := fun _ H' => Q .non H', rt := Q } (start N vs) H) (n j : Nat) (hn : n + (dvs.length - j) = ps.length)
    (hb : ∀ (T : Addr) (kV doc pm : Value) (an : Option Addr) (cdv ct : Value) (us its : List Value), us.length = n → its.length = dvs.length →
      ∃ k, bindArgs (PySem.W.fnOf x qual params body scope (.ref T) kV doc pm an cdv ct) ⟨us, []⟩ = seqItems? (.ref T) >>= k ∧ k (some its.toArray) = pure (ps.zip (us ++ its.drop j))) : Fn P w K mg base (k + 1) f (dvs.drop j) sp := by
  obtain ⟨fd, F⟩ := F
  obtain ⟨ds, h1, h2⟩ := F.binds1 n j hd hn hb
  exact ⟨fd, ps, ds, F.ok (CX := L2.CX P w) S len hbody, h1, h2, F.kp⟩
theorem body_post (T : Tx K mg) (cdv : Value) (A : Around) (outer : List Env) (s : Shared) (H : Hp) (vs : List V) (Q : VK) (E : XK) (hr : Room 7 (A.deeper (PyProof.Rows.envOfC "Net.post" (defScope s_Net_post) s.heap.objs.size (He.ma K (He.ga K "Net") "post") cdv))) (h : spPost K vs H Q E) :
      ∃ t, PSs (cxOf (L2.CX P w) P w K mg base ["self", "sender", "to", "house", "group", "letter", "number"] "Net.post" (defScope s_Net_post) (He.ma K (He.ga K "Net") "post") cdv A outer s H E) (defBody s_Net_post) t ∧ t { nx := fun _ H' => Q .non H', rt := Q } (start ["self", "sender", "to", "house", "group", "letter", "number"] vs) H := by
  · obtain ⟨G, C, A, S, c, sd, t, rfl, N, W, cc, k1, k2, k3⟩ := h
    have nd := sc_post.nd
    refine ⟨_, pss_cons (ps_set (i := 3) nd rfl (.inl rfl) (cm (pv 0) T.c_Net T.m_Net_place (ok_place T) hr pX (pa_cons (pv 1) pa_nil)))
      (pss_cons (ps_set (i := 4) nd rfl (.inl rfl) (pe_ix ix_tup (pe_ix ix_list (pf (pv 0)) (pv 1) (fun _ _ => rfl)) pe_int (fun _ _ => rfl)))
      (pss_cons (ps_set (i := 5) nd rfl (.inl rfl) (ck T.k_ToAll (ok_Letter_init T) hr T.g_ToAll passL (pa_cons (pv 1) pa_nil)))
      (pss_cons (ps_if (pt_cmpR op_notN (pv 2) pe_non (nomark _))
        (pss_cons (ps_expr (cm (pv 0) T.c_Net T.m_Net_place (ok_place T) hr pX (pa_cons (pv 2) pa_nil)))
        (pss_cons (ps_if (pt_cmpR op_ne (pe_ix ix_tup (pe_ix ix_list (pf (pv 0)) (pv 2) (fun _ _ => rfl)) pe_int (fun _ _ => rfl)) (pv 4) (nomark _)) (pss_one (pRaise rfl (takes_of rfl rfl rfl rfl) T.x_Apart T.g_Apart)) pss_nil)
        pss_never)) pss_nil)
      (pss_cons (ps_set (i := 6) nd rfl (.inl rfl) (pe_callB call_len (by rfl) T.b_len PySem.boot_len (pa_cons (pf (pv 0)) pa_nil)))
      (pss_cons (ps_expr (pe_bm PySem.F.plainAttrs_list PySem.F.slot_list_append PySem.F.type_list_append mt_append (pf (pv 0)) (pa_cons (pe_tup (pa_cons (pv 5) (pa_cons (pv 4) (pa_cons (pe_ix ix_list (pf (pv 0)) (pv 4) (fun _ _ => rfl)) pa_nil)))) pa_nil)))
      (pss_cons (ps_expr (pe_bm PySem.F.plainAttrs_list PySem.F.slot_list_append PySem.F.type_list_append mt_append (pf (pv 0)) (pa_cons (pe_lst (pa_cons (pe_tup (pa_cons pe_str (pa_cons (pv 3) pa_nil))) pa_nil)) pa_nil)))
      (pss_cons (ps_expr (cm (pv 0) T.c_Net T.m_Net_work (ok_work T) hr passL (pa_cons (pv 6) (pa_cons (pv 3) (pa_cons pe_non pa_nil)))))
      (pss_one (ps_ret (pv 6)))))))))), ?_⟩
    obtain ⟨dx, h1⟩ := N.net
    obtain ⟨pp, p1, p2⟩ := N.plH
    walk_at "st"
    refine mz h1 (by decide +kernel) ?_
    walk_at "st"
    refine ⟨G, C, A, S, sd, rfl, N, fun c0 c1 q hq => ?_, fun z => k1 z H (Same.refl _)⟩
    obtain ⟨q0, q1, q2, q3⟩ := N.fix.pok q (List.mem_of_getElem? hq)
    obtain ⟨a, a1, a2⟩ := p2.at (get_map (f := pairV) hq)
    walk_at "st"
    refine fz h1 T.c_Net T.n_Net_people (i := 0) (by decide +kernel) rfl ?_
    walk_at "st"
    refine ⟨_, _, sd, _, rfl, rfl, SqL.of p1, at_ix c0 (get_map (f := V.ref) a1), ?_⟩
    walk_at "st"
    refine ⟨a, _, 1, _, rfl, rfl, SqT.of a2, at_ix (by decide) rfl, ?_⟩
    walk_at "st"
    intro l dl nl ndl ne
    have hl0 : upd (upd H dl (.own l)) l (.ins (He.ga K "ToAll") dl []) l = some (.ins (He.ga K "ToAll") dl []) := upd_same
    refine ⟨l, dl, sd, rfl, hl0, fun H1 hl1 b1 => ⟨rfl, ?_⟩⟩
    have e1 : Same H H1 := But.same b1 (fun b o hb => by rw [upd_ne (ne_of_none hb nl), upd_ne (ne_of_none hb ndl)]; exact hb) nl
    have N1 := N.ext e1
    have hfl : ∀ l', Dom C S l' → A l' ≠ l := N.free nl
    cases t with
    | some t' =>
      obtain ⟨k2, k3⟩ := k2 q ⟨c0, c1⟩ hq t' rfl
      walk_at "st"
      refine ⟨rfl, ?_⟩
      walk_at "st"
      refine iteT ?_
      walk_at "st"
      refine mz (e1 _ _ h1) (by decide +kernel) ?_
      walk_at "st"
      refine ⟨G, C, A, S, t', rfl, N1, fun d0 d1 q' hq' => ?_, fun z => k2 z H1 e1⟩
      obtain ⟨nq, k3⟩ := k3 q' ⟨d0, d1⟩ hq'
      obtain ⟨a', a1', a2'⟩ := p2.at (get_map (f := pairV) hq')
      walk_at "st"
      refine fz (e1 _ _ h1) T.c_Net T.n_Net_people (i := 0) (by decide +kernel) rfl ?_
      walk_at "st"
      refine ⟨_, _, t', _, rfl, rfl, SqL.of (e1 _ _ p1), at_ix d0 (get_map (f := V.ref) a1'), ?_⟩
      walk_at "st"
      refine ⟨a', _, 1, _, rfl, rfl, SqT.of (e1 _ _ a2'), at_ix (by decide) rfl, ?_⟩
      walk_at "st"
      refine ⟨rfl, _, rfl, ?_⟩
      rw [decide_eq_false (fun z => nq (V.int.inj z))]
      refine iteT ?_
      exact k3 H1 e1
    | none =>
      have k3 := k3 q ⟨c0, c1⟩ hq rfl
      walk_at "st"
      refine ⟨rfl, ?_⟩
      walk_at "st"
      refine iteF ?_
      walk_at "st"
      obtain ⟨dx1, h2⟩ := N1.net
      obtain ⟨sv, s1, s2⟩ := N1.sentH
      have w4 := W.l4
      have wk := W.kn
      refine fz h2 T.c_Net T.n_Net_sent (i := 6) (by decide +kernel) rfl ?_
      walk_at "st"
      refine ⟨_, _, rfl, .inl ⟨_, SqL.of s1, rfl⟩, ?_⟩
      rw [s2.1]
      walk_at "st"
      refine fz h2 T.c_Net T.n_Net_sent (i := 6) (by decide +kernel) rfl ?_
      refine ⟨.inl ⟨rfl, _, SqL.of s1⟩, ?_⟩
      walk_at "st"
      refine fz h2 T.c_Net T.n_Net_news_by (i := 5) (by decide +kernel) rfl ?_
      walk_at "st"
      obtain ⟨ag, hag, _⟩ := get_some (l := S.news) q2 (by rw [W.nl]; exact q3)
      refine ⟨_, _, q.2, _, rfl, rfl, SqL.of N1.newsH, at_ix q2 (get_map (f := V.int) hag), ?_⟩
      walk_at "st"
      refine ⟨szl (by show 3 ≤ 100000; decide), fun t3 nt3 => ?_⟩
      have e2 : Same H1 (upd H1 t3 (.tup [.ref l, .int q.2, .int ag])) := Same.new nt3
      refine ⟨_, _, _, rfl, rfl, e2 _ _ s1, sll (by rw [s2.1]; omega), ?_⟩
      have M1 := (N1.grow hl1 hfl).ext e2
      have g1 : Same G (upd G l (.ins (He.ga K "ToAll") dl (letterL.zip [.int sd]))) := growS N1.same hl1
      have M2 := M1.growT upd_same
      have g2 : Same (upd G l (.ins (He.ga K "ToAll") dl (letterL.zip [.int sd]))) (upd (upd G l (.ins (He.ga K "ToAll") dl (letterL.zip [.int sd]))) t3 (.tup [.ref l, .int q.2, .int ag])) := growS M1.same upd_same
      have M3 := M2.addSent (v := .ref t3) (vs := sv) ⟨s2.1, fun v hv => (s2.2 v hv).mono (g1.trans g2)⟩ ⟨t3, l, dl, q.2, ag, sd, rfl, upd_same, q2, q3, g2 _ _ upd_same⟩
      have eG := g1.trans g2
      obtain ⟨G3, M3, eG⟩ : ∃ G3, NetAt K G3 (upd (upd H1 t3 (.tup [.ref l, .int q.2, .int ag])) (A .sent) (.lst (sv ++ [.ref t3]))) C A { S with ks := S.ks + 1 } ∧ Same G G3 := ⟨_, M3, eG⟩
      generalize upd (upd H1 t3 (.tup [.ref l, .int q.2, .int ag])) (A .sent) (.lst (sv ++ [.ref t3])) = H3 at M3 ⊢
      obtain ⟨dx3, h3⟩ := M3.net
      walk_at "st"
      refine fz h3 T.c_Net T.n_Net_stories (i := 7) (by decide +kernel) rfl ?_
      refine ⟨.inl ⟨rfl, _, SqL.of M3.storiesH⟩, ?_⟩
      walk_at "st"
      refine ⟨szl (by show 2 ≤ 100000; decide), fun u nu => ?_⟩
      walk_at "st"
      refine ⟨szl (by show 1 ≤ 100000; decide), fun v nv => ?_⟩
      have e3 : Same H3 (upd H3 u (.tup [.str (Str.ofString "post"), .int q.1])) := Same.new nu
      have e4 : Same (upd H3 u (.tup [.str (Str.ofString "post"), .int q.1])) (upd (upd H3 u (.tup [.str (Str.ofString "post"), .int q.1])) v (.lst [.ref u])) := Same.new nv
      have M4 := (M3.ext e3).growT upd_same
      have g4 : Same G3 (upd G3 u (.tup [.str (Str.ofString "post"), .int q.1])) := growS (M3.ext e3).same upd_same
      have M5 := M4.ext e4
      refine ⟨_, _, _, rfl, rfl, M5.storiesH, sll (by rw [List.length_map, List.length_range]; show S.ns < _; omega), ?_⟩
      have M6 := M5.newStory (p := v) upd_same (M4.same.free nv) (M4.free nv) (upd_same (o := .tup [.str (Str.ofString "post"), .int q.1]))
      have W6 := W.newStory (e := [.str (Str.ofString "post"), .int q.1]) (okE (by decide +kernel) rfl)
      obtain ⟨dx6, h6⟩ := M6.net
      rw [setA_ne (by intro z; cases z)] at h6
      walk_at "st"
      refine mz h6 (by decide +kernel) ?_
      walk_at "st"
      refine ⟨_, C, _, _, c + 1, _, q.1, none, by rw [setA_ne (by intro z; cases z)]; rfl, M6, W6, by omega, by omega, by show ((S.ks : Nat) : Int) < ((S.ns + 1 : Nat) : Int); omega, ⟨q0, q1⟩, fun G7 H7 S7 e7 M7 R7 W7 => ?_⟩
      walk_at "st"
      rw [wk]
      refine k3 G7 H7 _ S7 ((eG.trans g4).trans e7) M7 (setA_ne (by intro z; cases z)) ?_ W7
      obtain ⟨st, hs, ai, cp, rfl, hm⟩ := R7
      obtain ⟨m, hm⟩ := hm S.ns
      refine ⟨rfl, rfl, rfl, rfl, m, ?_⟩
      show st S.ns = _
      rw [hm]
      show newSt S _ S.ns ++ m = _
      unfold newSt
      rw [if_pos rfl]; rfl
theorem len_post (vs : List V) (H : Hp) (Q : VK) (E : XK) (h : spPost K vs H Q E) : vs.length = 3 := by
  obtain ⟨G, C, A, S, c, s, t, rfl, _⟩ := h; rfl
theorem ok_post (T : Tx K mg) : Fn P w K mg base 8 (He.ma K (He.ga K "Net") "post") [.non] (spPost K) :=
  mkFnD T.F_Net_post sc_post (by intro z; cases z) len_post (fun cdv A outer s H vs Q E hr h => body_post T cdv A outer s H vs Q E hr h) 2 0 rfl (fun _ _ _ _ _ _ _ us its h1 h2 => match us, its, h1, h2 with | [_, _], [_], _, _ => ⟨_, rfl, rfl⟩)
theorem ok_post3 (T : Tx K mg) : Fn P w K mg base 8 (He.ma K (He.ga K "Net") "post") [] (spPost K) :=
  mkFnD T.F_Net_post sc_post (by intro z; cases z) len_post (fun cdv A outer s H vs Q E hr h => body_post T cdv A outer s H vs Q E hr h) 3 1 rfl (fun _ _ _ _ _ _ _ us its h1 h2 => match us, its, h1, h2 with | [_, _, _], [_], _, _ => ⟨_, rfl, rfl⟩)
end
end Kn
set_option Elab.async false
set_option linter.all false
set_option maxRecDepth 100000
set_option maxHeartbeats 4000000
namespace Kn
open PySem L2
local macro_rules | `(tactic| walk_at "st") => `(tactic| repeat' (first
  | with_reducible refine r_seq ?_ | with_reducible refine r_set ?_ | with_reducible refine r_ret ?_ | with_reducible refine r_retN ?_ | with_reducible refine r_drop ?_ | with_reducible refine r_next ?_
  | with_reducible refine r_if ?_ | ((with_reducible refine r_var (v := ?_) ?hs ?_); (case hs => exact rfl)) | with_reducible refine r_c ?_ | with_reducible refine r_op ?_ | with_reducible refine r_I0 ?_
  | with_reducible refine r_test ?_ | with_reducible refine r_B ?_ | with_reducible refine ⟨_, (rfl : V.bl _ = V.bl _), ?_⟩ | with_reducible refine r_not ?_ | with_reducible refine r_or ?_ | with_reducible refine r_and ?_
  | with_reducible refine r_nil ?_ | with_reducible refine r_cons ?_ | with_reducible refine r_call ?_ | with_reducible refine r_cb ?_ | with_reducible refine r_tup ?_ | with_reducible refine r_lst ?_
  | with_reducible refine r_gname ?_ | with_reducible refine r_for ?_ | with_reducible refine r_iList ?_ | with_reducible refine r_iRng1 ?_ | with_reducible refine r_lc ?_ | with_reducible refine r_yes ?_
  | with_reducible refine r_chain ?_ | with_reducible refine r_sfld ?_ | with_reducible refine r_bm ?_ | with_reducible refine r_bm0 ?_ | with_reducible refine r_make ?_ | with_reducible refine r_sl ?_ | with_reducible refine r_nopart ?_ | with_reducible refine r_part ?_ | with_reducible refine r_iEnum ?_ | with_reducible refine r_iRng2 ?_))
theorem erase_map {α β : Type} (f : α → β) : ∀ (l : List α) (k : Nat), (l.map f).eraseIdx k = (l.eraseIdx k).map f
  | [], _ => rfl
  | _ :: _, 0 => rfl
  | a :: l, k + 1 => by
    show f a :: (l.map f).eraseIdx k = f a :: (l.eraseIdx k).map f
    rw [erase_map f l k]
section
variable {K : PySem.W.Frag} {G H : Hp} {C : Cn} {A : Lb → Addr} {S : NS} {p : Addr} {o : HO} {c : Nat}
theorem NetAt.popAir {ps : List Addr} {k : Nat} (N : NetAt K G H C A S) (h : Tups G ps S.air) : NetAt K G (upd H (A .air) (.lst ((ps.map V.ref).eraseIdx k))) C A { S with air := S.air.eraseIdx k } := by
  refine N.set (l := .air) trivial (fun _ d => d) ⟨ps.eraseIdx k, by rw [erase_map], h.erase⟩ (fun l' o' ne _ h' => ?_)
  cases l' with
  | air => exact absurd rfl ne
  | hands => exact h'
  | story i' => exact h'
  | net => exact h'
  | table g => exact h'
  | wires r => exact h'
  | book g => exact h'
  | kept g => exact h'
  | news => exact h'
  | sent => exact h'
  | stories => exact h'
  | done => exact h'
theorem NetAt.dirty (N : NetAt K G H C A S) : NetAt K G H C A { S with clean := false } := by
  refine ⟨N.fix, N.same, N.out, N.inj, fun l d => ?_⟩
  obtain ⟨o, h1, h2⟩ := N.has l d
  refine ⟨o, h1, ?_⟩
  cases l with
  | kept g => obtain ⟨kvs, a, b, _⟩ := h2; exact ⟨kvs, a, b, fun z => by cases z⟩
  | net => exact h2
  | table g => exact h2
  | wires r => exact h2
  | book g => exact h2
  | news => exact h2
  | sent => exact h2
  | stories => exact h2
  | story i => exact h2
  | hands => exact h2
  | done => exact h2
  | air => exact h2
theorem NetAt.putKept {kvs : List (List Key × V)} {g : Nat} (N : NetAt K G H C A S) (hg : g < 3) (hc : S.clean = false) (hk : kvs.length ≤ S.cap + 1) : NetAt K G (upd H (A (.kept g)) (.dT kvs)) C A { S with cap := S.cap + 1 } := by
  refine N.set (l := .kept g) hg (fun _ d => d) ⟨kvs, rfl, hk, fun z => by rw [show S.clean = true from z] at hc; cases hc⟩ (fun l' o' ne _ h' => ?_)
  cases l' with
  | kept g => obtain ⟨kvs', h1, h2, h3⟩ := h'; exact ⟨kvs', h1, Nat.le_succ_of_le h2, h3⟩
  | done => obtain ⟨kvs', h1, h2⟩ := h'; exact ⟨kvs', h1, Nat.le_succ_of_le h2⟩
  | air => exact h'
  | hands => exact h'
  | story i' => exact h'
  | net => exact h'
  | table g => exact h'
  | wires r => exact h'
  | book g => exact h'
  | news => exact h'
  | sent => exact h'
  | stories => exact h'
theorem Wf.popAir {k : Nat} (W : Wf C S c) : Wf C { S with air := S.air.eraseIdx k } c :=
  ⟨W.rw_, W.rh, W.ul, W.nl, fun e m => W.ai e (List.mem_of_mem_eraseIdx m), W.ha, W.st, W.kn, W.l1, Nat.le_trans (List.length_eraseIdx_le ..) W.l2, W.l3, W.l4, W.l5⟩
theorem Wf.dirty (W : Wf C S c) : Wf C { S with clean := false } c := ⟨W.rw_, W.rh, W.ul, W.nl, W.ai, W.ha, W.st, W.kn, W.l1, W.l2, W.l3, W.l4, W.l5⟩
end
theorem NetAt.tell {K : PySem.W.Frag} {G H : Hp} {C : Cn} {A : Lb → Addr} {S : NS} {c k : Nat} (N : NetAt K G H C A S) (W : Wf C S c) (hk : k < S.ns) : ∃ ps : List Addr, H (A (.story k)) = some (.lst (ps.map .ref)) ∧ ps.length ≤ c ∧
    ∀ q e, H q = none → e.all okV = true → upd H q (.tup e) (A (.story k)) = some (.lst (ps.map .ref)) ∧ ∃ G', Same G G' ∧ NetAt K G' (upd (upd H q (.tup e)) (A (.story k)) (.lst (ps.map V.ref ++ [V.ref q]))) C A { S with stories := addSt S.stories k e } ∧ Wf C { S with stories := addSt S.stories k e } (c + 1) := by
  obtain ⟨ps, h1, h2⟩ := N.storyH hk
  refine ⟨ps, h1, by rw [h2.1]; exact W.l3 k hk, fun q e nq he => ?_⟩
  have e1 : Same H (upd H q (.tup e)) := Same.new nq
  have g1 : Same G (upd G q (.tup e)) := growS (N.ext e1).same upd_same
  exact ⟨e1 _ _ h1, _, g1, ((N.ext e1).growT upd_same).addStory hk (h2.mono g1) upd_same, W.addStory he⟩
theorem r_din {ty td : TE} {σ : L2.St} {H : Hp} {Q : VK} (h : ty σ H fun y H1 => td σ H1 fun x H2 => ∃ a o, x = .ref a ∧ DGet H2 a y o ∧ Q (.bl o.isSome) H2) : tDIn ty td σ H Q := h
def isWord (w : Str) : Prop := w = Str.ofString "come" ∨ w = Str.ofString "twice" ∨ w = Str.ofString "lost"
section
variable {P : Program} {w : World} {K : PySem.W.Frag} {mg : Str → Option Value} {base : Heap}
def spPass (K : PySem.W.Frag) : Sp := fun vs H Q E => ∃ (G : Hp) (C : Cn) (A : Lb → Addr) (S : NS) (c : Nat) (i : Int), vs = [.ref (A .net), .int i] ∧ NetAt K G H C A S ∧ Wf C S c ∧ c < 30000 ∧
  (¬(0 ≤ i ∧ i < S.air.length) → E (.ref (He.ga K "NoCopy")) none H) ∧
  (0 ≤ i → i < S.air.length → ∀ G' H' S' z, Same G G' → NetAt K G' H' C A S' → S'.up = S.up → Wf C S' (c + 102) → isWord z → Q (.str z) H')
theorem sc_pass : FnScope ["self", "at", "number", "rope", "wire", "house", "letter", "group", "age", "word"] ["self", "at"] (defScope s_Net_pass_on) := ⟨rfl, rfl, rfl, by decide +kernel, rfl, by decide +kernel, by decide +kernel⟩
theorem ok_pass (T : Tx K mg) : Fn P w K mg base 8 (He.ma K (He.ga K "Net") "pass_on") [] (spPass K) := by
  refine mkFnD T.F_Net_pass_on sc_pass (by intro z; cases z) (fun vs H Q E h => ?_) (fun cdv A outer s H vs Q E hr h => ?_) 2 1 rfl (fun _ _ _ _ _ _ _ us its h1 h2 => match us, its, h1, h2 with | [_, _], [_], _, _ => ⟨_, rfl, rfl⟩)
  · obtain ⟨G, C, A, S, c, s, rfl, _⟩ := h; rfl
  · obtain ⟨G, C, A, S, c, i, rfl, N, W, cc, k1, k2⟩ := h
    have nd := sc_pass.nd
    refine ⟨_, pss_cons (ps_if (pt_not (pt_chain op_le op_lt pe_int (pv 1) (pe_callB call_len (by rfl) T.b_len PySem.boot_len (pa_cons (pf (pv 0)) pa_nil)))) (pss_one (pRaise rfl (takes_of rfl rfl rfl rfl) T.x_NoCopy T.g_NoCopy)) pss_nil)
      (pss_cons (ps_asg (pe_bm PySem.F.plainAttrs_list PySem.F.slot_list_pop PySem.F.type_list_pop mt_popAt (pf (pv 0)) (pa_cons (pv 1) pa_nil))
        (pg_tup rfl (pgs_cons (pg_name (i := 2) nd rfl (.inl rfl)) (pgs_cons (pg_name (i := 3) nd rfl (.inl rfl)) (pgs_cons (pg_name (i := 4) nd rfl (.inl rfl)) (pgs_cons (pg_name (i := 5) nd rfl (.inl rfl)) pgs_nil))))))
      (pss_cons (ps_asg (pe_ix ix_list (pf (pv 0)) (pv 2) (fun _ _ => rfl)) (pg_tup rfl (pgs_cons (pg_name (i := 6) nd rfl (.inl rfl)) (pgs_cons (pg_name (i := 7) nd rfl (.inl rfl)) (pgs_cons (pg_name (i := 8) nd rfl (.inl rfl)) pgs_nil)))))
      (pss_cons (ps_set (i := 9) nd rfl (.inl rfl) pe_str)
      (pss_cons (ps_if (pt_cmpR op_notIn_seq (pv 3) (cm (pv 0) T.c_Net T.m_Net_opens (ok_nopens T) hr passL (pa_cons (pv 7) pa_nil)) (by rfl)) (pss_one (ps_set (i := 9) nd rfl (.inl rfl) pe_str))
        (pss_one (ps_if (pt_cmp (pc_din (room_hu hr) (pe_tup (pa_cons (pv 5) (pa_cons (pv 2) pa_nil))) (pf (pv 0)))) (pss_one (ps_set (i := 9) nd rfl (.inl rfl) pe_str)) pss_nil)))
      (pss_cons (ps_expr (pe_bm PySem.F.plainAttrs_list PySem.F.slot_list_append PySem.F.type_list_append mt_append (pe_ix ix_list (pf (pv 0)) (pv 2) (fun _ _ => rfl)) (pa_cons (pe_tup (pa_cons (pv 9) (pa_cons (pv 5) (pa_cons (pv 3) pa_nil)))) pa_nil)))
      (pss_cons (ps_if (pt_cmpR op_eq (pv 9) pe_str (nomark _))
        (pss_cons (ps_if (pt_cmpR op_eq (pv 8) (pe_ix ix_list (pf (pv 0)) (pv 7) (fun _ _ => rfl)) (nomark _))
          (pss_one (ps_expr (cm (pe_ix ix_list (pf (pv 0)) (pv 7) (fun _ _ => rfl)) T.c_Book T.m_Book_learn (ok_learn T) hr passL (pa_cons (pv 5) (pa_cons (pf (pv 6)) (pa_cons (pv 3) pa_nil)))))) pss_nil)
        (pss_one (ps_expr (cm (pv 0) T.c_Net T.m_Net_work (ok_work T) hr passL (pa_cons (pv 2) (pa_cons (pv 5) (pa_cons (pv 3) pa_nil))))))) pss_nil)
      (pss_one (ps_ret (pv 9))))))))), ?_⟩
    obtain ⟨dx, h1⟩ := N.net
    obtain ⟨pa, a1, a2⟩ := N.airH
    have l2 := W.l2
    have hlen : (pa.map V.ref).length = S.air.length := by rw [List.length_map, a2.1]
    walk_at "st"
    by_cases c0 : 0 ≤ i
    · rw [decide_eq_true c0]
      refine iteT ?_
      refine fz h1 T.c_Net T.n_Net_air (i := 10) (by decide +kernel) rfl ?_
      walk_at "st"
      refine ⟨_, _, rfl, .inl ⟨_, SqL.of a1, rfl⟩, ?_⟩
      walk_at "st"
      rw [hlen]
      by_cases c1 : i < S.air.length
      · rw [decide_eq_true c1]
        refine iteF ?_
        have k2 := k2 c0 c1
        walk_at "st"
        with_reducible refine r_asgT ?_
        walk_at "st"
        refine fz h1 T.c_Net T.n_Net_air (i := 10) (by decide +kernel) rfl ?_
        refine ⟨.inl ⟨rfl, _, SqL.of a1⟩, ?_⟩
        walk_at "st"
        obtain ⟨e, he, hm⟩ := get_some (l := S.air) c0 c1
        obtain ⟨k, r, hh, o, rfl, n0, n1, r0, r1, g0', g1'⟩ := (W.ai e hm).ex
        obtain ⟨a, b1, b2⟩ := a2.at he
        refine ⟨_, _, i, i.toNat, .ref a, rfl, rfl, a1, by omega, by omega, seqIndex_of c0 (by rw [hlen]; exact c1), get_map (f := V.ref) b1, ?_⟩
        have N1 := N.popAir (k := i.toNat) a2
        have W1 : Wf C { S with air := S.air.eraseIdx i.toNat } c := W.popAir
        have N2 := N1.dirty
        have W2 := W1.dirty
        generalize upd H (A .air) (.lst ((pa.map V.ref).eraseIdx i.toNat)) = H2 at N2 ⊢
        have u2 : ({ S with air := S.air.eraseIdx i.toNat, clean := false } : NS).up = S.up := rfl
        have n2 : ({ S with air := S.air.eraseIdx i.toNat, clean := false } : NS).ns = S.ns := rfl
        have cl2 : ({ S with air := S.air.eraseIdx i.toNat, clean := false } : NS).clean = false := rfl
        generalize ({ S with air := S.air.eraseIdx i.toNat, clean := false } : NS) = S2 at N2 W2 u2 n2 cl2
        have hkn : k.toNat < S2.ns := by omega
        obtain ⟨dx2, h2⟩ := N2.net
        obtain ⟨sv, s1, s2, s3⟩ := N2.sentH
        have hsi : k.toNat < sv.length := by rw [s2, W2.kn]; exact hkn
        obtain ⟨pp, l, dl, g, age, snd, e0, e1, g0, g1, e2⟩ := s3 _ (List.getElem_mem hsi)
        have hg : g.toNat < 3 := by omega
        refine ⟨a, _, rfl, SqT.of (N2.same _ _ b2), rfl, ?_⟩
        refine ⟨_, _, rfl, _, _, rfl, _, _, rfl, _, _, rfl, rfl, ?_⟩
        walk_at "st"
        with_reducible refine r_asgT ?_
        walk_at "st"
        refine fz h2 T.c_Net T.n_Net_sent (i := 6) (by decide +kernel) rfl ?_
        walk_at "st"
        refine ⟨_, sv, k, .ref pp, rfl, rfl, SqL.of s1, at_ix n0 (by rw [List.getElem?_eq_getElem hsi, e0]), ?_⟩
        refine ⟨pp, _, rfl, SqT.of (N2.same _ _ e1), rfl, ?_⟩
        refine ⟨_, _, rfl, _, _, rfl, _, _, rfl, rfl, ?_⟩
        walk_at "st"
        refine mz h2 (by decide +kernel) ?_
        walk_at "st"
        refine ⟨G, C, A, S2, c, g, rfl, N2, W2, fun _ ns hns p H3 np e3 hp => ?_, fun z => absurd ⟨g0, g1⟩ z⟩
        refine ⟨p, _, rfl, .inl (SqL.of hp), rfl, flat_ints _, _, rfl, ?_⟩
        have N3 := N2.ext e3
        have h3 := e3 _ _ h2
        refine ite2 (fun _ => ?_) (fun _ => ?_)
        · walk_at "st"
          refine fz h3 T.c_Net T.n_Net_stories (i := 7) (by decide +kernel) rfl ?_
          walk_at "st"
          obtain ⟨ps, t1, t2, t3⟩ := N3.tell W2 hkn
          refine ⟨_, _, k, _, rfl, rfl, SqL.of N3.storiesH, at_ix n0 (range_ix n0 (by rw [n2]; exact n1)), ?_⟩
          refine ⟨.inl ⟨rfl, _, SqL.of t1⟩, ?_⟩
          walk_at "st"
          refine ⟨szl (by show 3 ≤ 100000; decide), fun q nq => ?_⟩
          obtain ⟨t4, G', eG, N4, W4⟩ := t3 q [.str (Str.ofString "lost"), .int hh, .int r] nq (okE (by decide +kernel) rfl)
          refine ⟨_, _, _, rfl, rfl, t4, sll (by rw [List.length_map]; omega), ?_⟩
          walk_at "st"
          refine ⟨rfl, _, rfl, ?_⟩
          rw [show decide (V.str (Str.ofString "lost") = V.str (Str.ofString "come")) = false by decide +kernel]
          refine iteF ?_
          walk_at "st"
          exact k2 G' _ _ _ eG N4 u2 (W4.mono (by omega)) (.inr (.inr rfl))
        · walk_at "st"
          with_reducible refine r_din ?_
          walk_at "st"
          refine ⟨szl (by show 2 ≤ 100000; decide), fun q0 nq0 => ?_⟩
          have e4 : Same H3 (upd H3 q0 (.tup [.int hh, .int k])) := Same.new nq0
          have N4 := N3.ext e4
          have h4 := e4 _ _ h3
          refine fz h4 T.c_Net T.n_Net_done (i := 9) (by decide +kernel) rfl ?_
          obtain ⟨kvs, d1, d2⟩ := N4.doneH
          refine ⟨_, _, rfl, DGet.t (k := [.inl hh, .inl k]) d1 upd_same, _, rfl, ?_⟩
          refine ite2 (fun _ => ?_) (fun _ => ?_)
          · walk_at "st"
            refine fz h4 T.c_Net T.n_Net_stories (i := 7) (by decide +kernel) rfl ?_
            walk_at "st"
            obtain ⟨ps, t1, t2, t3⟩ := N4.tell W2 hkn
            refine ⟨_, _, k, _, rfl, rfl, SqL.of N4.storiesH, at_ix n0 (range_ix n0 (by rw [n2]; exact n1)), ?_⟩
            refine ⟨.inl ⟨rfl, _, SqL.of t1⟩, ?_⟩
            walk_at "st"
            refine ⟨szl (by show 3 ≤ 100000; decide), fun q nq => ?_⟩
            obtain ⟨t4, G', eG, N5, W5⟩ := t3 q [.str (Str.ofString "twice"), .int hh, .int r] nq (okE (by decide +kernel) rfl)
            refine ⟨_, _, _, rfl, rfl, t4, sll (by rw [List.length_map]; omega), ?_⟩
            walk_at "st"
            refine ⟨rfl, _, rfl, ?_⟩
            rw [show decide (V.str (Str.ofString "twice") = V.str (Str.ofString "come")) = false by decide +kernel]
            refine iteF ?_
            walk_at "st"
            exact k2 G' _ _ _ eG N5 u2 (W5.mono (by omega)) (.inr (.inl rfl))
          · walk_at "st"
            refine fz h4 T.c_Net T.n_Net_stories (i := 7) (by decide +kernel) rfl ?_
            walk_at "st"
            obtain ⟨ps, t1, t2, t3⟩ := N4.tell W2 hkn
            refine ⟨_, _, k, _, rfl, rfl, SqL.of N4.storiesH, at_ix n0 (range_ix n0 (by rw [n2]; exact n1)), ?_⟩
            refine ⟨.inl ⟨rfl, _, SqL.of t1⟩, ?_⟩
            walk_at "st"
            refine ⟨szl (by show 3 ≤ 100000; decide), fun q nq => ?_⟩
            obtain ⟨t4, G', eG, N5, W5⟩ := t3 q [.str (Str.ofString "come"), .int hh, .int r] nq (okE (by decide +kernel) rfl)
            refine ⟨_, _, _, rfl, rfl, t4, sll (by rw [List.length_map]; omega), ?_⟩
            have u5 : ({ S2 with stories := addSt S2.stories k.toNat [.str (Str.ofString "come"), .int hh, .int r] } : NS).up = S.up := u2
            have n5 : ({ S2 with stories := addSt S2.stories k.toNat [.str (Str.ofString "come"), .int hh, .int r] } : NS).ns = S.ns := n2
            have cl5 : ({ S2 with stories := addSt S2.stories k.toNat [.str (Str.ofString "come"), .int hh, .int r] } : NS).clean = false := cl2
            generalize ({ S2 with stories := addSt S2.stories k.toNat [.str (Str.ofString "come"), .int hh, .int r] } : NS) = S5 at N5 W5 u5 n5 cl5
            generalize upd (upd (upd H3 q0 (.tup [.int hh, .int k])) q (.tup [.str (Str.ofString "come"), .int hh, .int r])) (A (.story k.toNat)) (.lst (ps.map V.ref ++ [V.ref q])) = H5 at N5 ⊢
            obtain ⟨dx5, h5⟩ := N5.net
            walk_at "st"
            refine ⟨rfl, _, rfl, ?_⟩
            rw [show decide (V.str (Str.ofString "come") = V.str (Str.ofString "come")) = true by decide +kernel]
            refine iteT ?_
            walk_at "st"
            refine fz h5 T.c_Net T.n_Net_news_by (i := 5) (by decide +kernel) rfl ?_
            walk_at "st"
            obtain ⟨ag, hag, _⟩ := get_some (l := S5.news) g0 (by rw [W5.nl]; exact g1)
            refine ⟨_, _, g, _, rfl, rfl, SqL.of N5.newsH, at_ix g0 (get_map (f := V.int) hag), ?_⟩
            refine ⟨rfl, _, rfl, ?_⟩
            refine ite2 (fun _ => ?_) (fun _ => ?_)
            · obtain ⟨db, bb⟩ := N5.book hg
              obtain ⟨kv, y1, y2, _⟩ := N5.kept hg
              have w5 := W5.l5
              walk_at "st"
              refine r_meth ?_
              walk_at "st"
              refine fz h5 T.c_Net T.n_Net_books (i := 4) (by decide +kernel) rfl ?_
              walk_at "st"
              refine ⟨_, _, g, _, rfl, rfl, SqL.of N5.bkH, at_ix g0 (range_ix g0 g1), ?_⟩
              refine ⟨_, _, _, rfl, bb, znone (by decide +kernel), ?_⟩
              walk_at "st"
              refine fz (N5.same _ _ (eG _ _ e2)) T.c_ToAll T.n_ToAll_sender (i := 0) (by decide +kernel) rfl ?_
              walk_at "st"
              refine ⟨_, db, _, kv, hh, snd, r, rfl, bb, y1, by omega, fun q6 kvs6 nq6 hk6 => ?_⟩
              have N6 := (N5.ext (Same.new (o := .tup [.int hh, .int snd]) nq6)).putKept (kvs := kvs6) hg cl5 (by omega)
              have W6 := W5.cap1
              obtain ⟨dx6, h6⟩ := N6.net
              walk_at "st"
              refine mz h6 (by decide +kernel) ?_
              walk_at "st"
              refine ⟨G', C, A, _, c + 2, k, hh, some r, rfl, N6, W6, by omega, n0, by show k < ((S5.ns : Nat) : Int); rw [n5]; exact n1, ⟨g0', g1'⟩, fun G7 H7 S7 e7 N7 R7 W7 => ?_⟩
              walk_at "st"
              refine k2 G7 H7 S7 _ (eG.trans e7) N7 ?_ W7 (.inl rfl)
              obtain ⟨_, _, _, _, rfl, _⟩ := R7
              exact u5
            · walk_at "st"
              refine mz h5 (by decide +kernel) ?_
              walk_at "st"
              refine ⟨G', C, A, _, c + 1, k, hh, some r, rfl, N5, W5, by omega, n0, by rw [n5]; exact n1, ⟨g0', g1'⟩, fun G7 H7 S7 e7 N7 R7 W7 => ?_⟩
              walk_at "st"
              refine k2 G7 H7 S7 _ (eG.trans e7) N7 ?_ (W7.mono (by omega)) (.inl rfl)
              obtain ⟨_, _, _, _, rfl, _⟩ := R7
              exact u5
      · rw [decide_eq_false c1]
        refine iteT ?_
        exact k1 fun z => c1 z.2
    · rw [decide_eq_false c0]
      refine iteF ?_
      refine ⟨_, rfl, ?_⟩
      refine iteT ?_
      exact k1 fun z => c0 z.1
end
end Kn
set_option Elab.async false
set_option linter.all false
set_option maxRecDepth 100000
set_option maxHeartbeats 4000000
namespace Kn
open PySem L2
local macro_rules | `(tactic| walk_at "st") => `(tactic| repeat' (first
  | with_reducible refine r_seq ?_ | with_reducible refine r_set ?_ | with_reducible refine r_ret ?_ | with_reducible refine r_retN ?_ | with_reducible refine r_drop ?_ | with_reducible refine r_next ?_
  | with_reducible refine r_if ?_ | ((with_reducible refine r_var (v := ?_) ?hs ?_); (case hs => exact rfl)) | with_reducible refine r_c ?_ | with_reducible refine r_op ?_ | with_reducible refine r_I0 ?_
  | with_reducible refine r_test ?_ | with_reducible refine r_B ?_ | with_reducible refine ⟨_, (rfl : V.bl _ = V.bl _), ?_⟩ | with_reducible refine r_not ?_ | with_reducible refine r_or ?_ | with_reducible refine r_and ?_
  | with_reducible refine r_nil ?_ | with_reducible refine r_cons ?_ | with_reducible refine r_call ?_ | with_reducible refine r_cb ?_ | with_reducible refine r_tup ?_ | with_reducible refine r_lst ?_
  | with_reducible refine r_gname ?_ | with_reducible refine r_for ?_ | with_reducible refine r_iList ?_ | with_reducible refine r_iRng1 ?_ | with_reducible refine r_lc ?_ | with_reducible refine r_yes ?_
  | with_reducible refine r_chain ?_ | with_reducible refine r_sfld ?_ | with_reducible refine r_bm ?_ | with_reducible refine r_bm0 ?_ | with_reducible refine r_make ?_ | with_reducible refine r_sl ?_ | with_reducible refine r_nopart ?_ | with_reducible refine r_part ?_ | with_reducible refine r_iEnum ?_ | with_reducible refine r_iRng2 ?_))
/-! A net, built. -/
def rowsI (D : TownD) : List Row := (List.range D.size).map fun h => ownF D (h : Nat)
def upI (D : TownD) (r : Nat) : List Bool := match D.ropes[r]? with | some rp => List.replicate rp.wires.toNat true | none => []
def S0 (D : TownD) : NS := ⟨fun _ => rowsI D, upI D, [0, 0, 0], 0, 0, fun _ => [], [], [], true, 0⟩
theorem wf0 {C : Cn} (ok : C.D.Ok) : Wf C (S0 C.D) 3 := by
  refine ⟨fun g hg => ?_, fun g hg r hr => ?_, fun r hr => ?_, rfl, fun e h => by simp [S0] at h, fun e h => by simp [S0] at h, fun i h => absurd h (Nat.not_lt_zero _), rfl, Nat.zero_le _, Nat.zero_le _, fun i h => absurd h (Nat.not_lt_zero _), Nat.zero_le _, Nat.zero_le _⟩
  · show (rowsI C.D).length = _
    unfold rowsI; rw [List.length_map, List.length_range]
  · have hr : r ∈ rowsI C.D := hr
    unfold rowsI at hr
    obtain ⟨h, _, rfl⟩ := List.mem_map.mp hr
    exact Int.le_refl 0
  · show (upI C.D r).length ≤ 4
    unfold upI
    cases q : C.D.ropes[r]? with
    | none => exact Nat.zero_le _
    | some rp =>
      have := (ok.rp rp (List.mem_of_getElem? q)).2.2.2.2
      show (List.replicate rp.wires.toNat true).length ≤ 4
      rw [List.length_replicate]; omega
def ixL (m : Nat) : Lb → Nat
  | .wires r => r
  | .table g => m + 3 * g
  | .kept g => m + 3 * g + 1
  | .book g => m + 3 * g + 2
  | .news => m + 9
  | .sent => m + 10
  | .stories => m + 11
  | .hands => m + 12
  | .done => m + 13
  | .air => m + 14
  | .net => m + 15
  | .story _ => 0
theorem ixL_lt {C : Cn} {a : Lb} (h : Dom C (S0 C.D) a) : ixL C.D.ropes.length a < C.D.ropes.length + 16 := by
  cases a <;> simp only [ixL, Dom, S0] at h ⊢ <;> omega
theorem ixL_inj {C : Cn} {a b : Lb} (ha : Dom C (S0 C.D) a) (hb : Dom C (S0 C.D) b) (h : ixL C.D.ropes.length a = ixL C.D.ropes.length b) : a = b := by
  cases a <;> cases b <;> simp only [ixL, Dom, S0] at ha hb h <;> first | rfl | (exfalso; omega) | (congr 1 <;> omega)
theorem getD_at {α : Type} {l : List α} {d : α} {i : Nat} (h : i < l.length) : l[i]? = some (l.getD i d) := by
  rw [List.getD_eq_getElem?_getD, List.getElem?_eq_getElem h]; rfl
theorem getD_app {α : Type} {l r : List α} {d : α} {i : Nat} (h : i < l.length) : (l ++ r).getD i d = l.getD i d := by
  rw [List.getD_eq_getElem?_getD, List.getD_eq_getElem?_getD, List.getElem?_append_left h]
theorem getD_app2 {α : Type} {l r : List α} {d : α} {i : Nat} : (l ++ r).getD (l.length + i) d = r.getD i d := by
  rw [List.getD_eq_getElem?_getD, List.getD_eq_getElem?_getD, List.getElem?_append_right (by omega)]
  congr 2; omega
open Classical in
theorem net_built {K : PySem.W.Frag} {H Hend : Hp} {D : TownD} {t x dx sA ds su ppl tbA bkA : Addr} {pps : List Addr} {qs : List (Int × Int)} {M : List Addr} {pn pse pst ph pd pa : Addr}
    (nd : (M ++ [pn, pse, pst, ph, pd, pa, x]).Nodup) (len : M.length = D.ropes.length + 9) (hnew : ∀ p ∈ M ++ [pn, pse, pst, ph, pd, pa], H p = none) (hx : H x = some (.ins (He.ga K "Net") dx [])) (but : But x H Hend) (hT : TownAt K H t D)
    (hs : Hend sA = some (.ins (He.ga K "Strands") ds (strandsL.zip [.ref t, .ref su]))) (hsu : Hend su = some (.lst ((List.range D.ropes.length).map fun r => .ref (M.getD r 0))))
    (hppl : Hend ppl = some (.lst (pps.map .ref))) (hpps : Tups Hend pps (qs.map pairV)) (htb : Hend tbA = some (.lst ((List.range 3).map fun g => .ref (M.getD (D.ropes.length + 3 * g) 0))))
    (hbk : Hend bkA = some (.lst ((List.range 3).map fun g => .ref (M.getD (D.ropes.length + 3 * g + 2) 0)))) (fx : ∀ F ∈ [sA, su, ppl, tbA, bkA], F ∉ M ++ [pn, pse, pst, ph, pd, pa, x])
    (nt : ∀ p ∈ M, ∀ xs, Hend p ≠ some (.tup xs))
    (wr : ∀ r rp, D.ropes[r]? = some rp → Hend (M.getD r 0) = some (.lst ((List.replicate rp.wires.toNat true).map .bl)))
    (tab : ∀ g, g < 3 → ∃ ps : List Addr, Hend (M.getD (D.ropes.length + 3 * g) 0) = some (.lst (ps.map .ref)) ∧ Tups Hend ps ((rowsI D).map Row.v))
    (kp : ∀ g, g < 3 → Hend (M.getD (D.ropes.length + 3 * g + 1) 0) = some (.dT []))
    (bo : ∀ g, g < 3 → ∃ db, Hend (M.getD (D.ropes.length + 3 * g + 2) 0) = some (.ins (He.ga K "Book") db (bookL.zip [.ref (M.getD (D.ropes.length + 3 * g + 1) 0)])))
    (hn : Hend pn = some (.lst [.int 0, .int 0, .int 0])) (hse : Hend pse = some (.lst [])) (hst : Hend pst = some (.lst [])) (hh : Hend ph = some (.lst [])) (hd : Hend pd = some (.dT [])) (ha : Hend pa = some (.lst []))
    (hnet : Hend x = some (.ins (He.ga K "Net") dx (netL.zip [.ref ppl, .ref t, .ref sA, .ref tbA, .ref bkA, .ref pn, .ref pse, .ref pst, .ref ph, .ref pd, .ref pa]))) (pok : PplOk D qs) (pl : qs.length ≤ 20) :
    ∃ G C A, NetAt K G Hend C A (S0 C.D) ∧ But x H G ∧ C.t = t ∧ C.D = D ∧ C.people = qs ∧ A .net = x := by
  let L := M ++ [pn, pse, pst, ph, pd, pa, x]
  let G : Hp := fun a => if a ∈ L then none else Hend a
  let C : Cn := ⟨t, D, sA, su, ppl, qs, tbA, bkA⟩
  let A : Lb → Addr := fun l => L.getD (ixL D.ropes.length l) 0
  have hLl : L.length = D.ropes.length + 16 := by show (M ++ [pn, pse, pst, ph, pd, pa, x]).length = _; rw [List.length_append, len]; rfl
  have gin : ∀ {a}, a ∈ L → G a = none := fun h => if_pos h
  have gout : ∀ {a}, a ∉ L → G a = Hend a := fun h => if_neg h
  have same : Same G Hend := fun a o h => by
    by_cases z : a ∈ L
    · rw [gin z] at h; cases h
    · rw [← gout z]; exact h
  have oldL : ∀ {a o}, H a = some o → a ≠ x → a ∉ L := fun {a o} h n z => by
    have z : a ∈ M ++ [pn, pse, pst, ph, pd, pa, x] := z
    have : a ∈ M ++ [pn, pse, pst, ph, pd, pa] := by
      simp only [List.mem_append, List.mem_cons, List.not_mem_nil, or_false] at z ⊢
      rcases z with z | z | z | z | z | z | z | z
      · exact .inl z
      · exact .inr (.inl z)
      · exact .inr (.inr (.inl z))
      · exact .inr (.inr (.inr (.inl z)))
      · exact .inr (.inr (.inr (.inr (.inl z))))
      · exact .inr (.inr (.inr (.inr (.inr (.inl z)))))
      · exact .inr (.inr (.inr (.inr (.inr (.inr z)))))
      · exact absurd z n
    rw [hnew a this] at h; cases h
  have hG : But x H G := fun a o h n => by rw [gout (oldL h n)]; exact but a o h n
  have tupL : ∀ {p xs}, Hend p = some (.tup xs) → p ∉ L := fun {p xs} h z => by
    have z : p ∈ M ++ [pn, pse, pst, ph, pd, pa, x] := z
    simp only [List.mem_append, List.mem_cons, List.not_mem_nil, or_false] at z
    rcases z with z | z | z | z | z | z | z | z
    · exact nt p z xs h
    · rw [z, hn] at h; cases h
    · rw [z, hse] at h; cases h
    · rw [z, hst] at h; cases h
    · rw [z, hh] at h; cases h
    · rw [z, hd] at h; cases h
    · rw [z, ha] at h; cases h
    · rw [z, hnet] at h; cases h
  have tupG : ∀ {ps : List Addr} {xss}, Tups Hend ps xss → Tups G ps xss := fun {ps xss} h => ⟨h.1, fun i p xs a b => by
    have z := h.2 i p xs a b
    rw [gout (tupL z)]; exact z⟩
  have AM : ∀ {i}, i < D.ropes.length + 9 → L.getD i 0 = M.getD i 0 := fun h => getD_app (by rw [len]; exact h)
  have AR : ∀ i, L.getD (D.ropes.length + 9 + i) 0 = [pn, pse, pst, ph, pd, pa, x].getD i 0 := fun i => by
    rw [← len]; exact getD_app2
  have an : A .net = x := AR 6
  refine ⟨G, C, A, ⟨⟨hT.but hG hx, ⟨ds, by rw [gout (fx sA (by simp))]; exact hs⟩, ?_, ⟨pps, by rw [gout (fx ppl (by simp))]; exact hppl, tupG hpps⟩, ?_, ?_, pok, pl⟩, same, fun l d => ?_, fun a b da db z => ?_, fun l d => ?_⟩, hG, rfl, rfl, rfl, an⟩
  · show G su = _
    rw [gout (fx su (by simp)), hsu]
    congr 2
    refine List.map_congr_left fun r hr => ?_
    show V.ref (M.getD r 0) = V.ref (L.getD r 0)
    rw [AM (by have := List.mem_range.mp hr; omega)]
  · show G tbA = _
    rw [gout (fx tbA (by simp)), htb]
    congr 2
    refine List.map_congr_left fun r hr => ?_
    show V.ref (M.getD (D.ropes.length + 3 * r) 0) = V.ref (L.getD (D.ropes.length + 3 * r) 0)
    rw [AM (by have := List.mem_range.mp hr; omega)]
  · show G bkA = _
    rw [gout (fx bkA (by simp)), hbk]
    congr 2
    refine List.map_congr_left fun r hr => ?_
    show V.ref (M.getD (D.ropes.length + 3 * r + 2) 0) = V.ref (L.getD (D.ropes.length + 3 * r + 2) 0)
    rw [AM (by have := List.mem_range.mp hr; omega)]
  · have h := ixL_lt (C := C) d
    exact gin (List.mem_of_getElem? (getD_at (d := 0) (by rw [hLl]; exact h)))
  · have ha' := ixL_lt (C := C) da
    have hb' := ixL_lt (C := C) db
    refine ixL_inj (C := C) da db (nd_ix (l := L) nd (getD_at (d := 0) (by rw [hLl]; exact ha')) ?_)
    show L[ixL D.ropes.length b]? = some (L.getD (ixL D.ropes.length a) 0)
    rw [show L.getD (ixL D.ropes.length a) 0 = L.getD (ixL D.ropes.length b) 0 from z]
    exact getD_at (by rw [hLl]; exact hb')
  · cases l with
    | wires r =>
      have d : r < D.ropes.length := d
      obtain ⟨rp, hrp⟩ : ∃ rp, D.ropes[r]? = some rp := ⟨_, List.getElem?_eq_getElem d⟩
      refine ⟨_, by show Hend (L.getD r 0) = _; rw [AM (by omega)]; exact wr r rp hrp, ?_⟩
      show HO.lst _ = HO.lst ((upI D r).map .bl)
      unfold upI; rw [hrp]
    | table g =>
      have d : g < 3 := d
      obtain ⟨ps, h1, h2⟩ := tab g d
      exact ⟨_, by show Hend (L.getD (D.ropes.length + 3 * g) 0) = _; rw [AM (by omega)]; exact h1, ps, rfl, tupG h2⟩
    | kept g =>
      have d : g < 3 := d
      exact ⟨_, by show Hend (L.getD (D.ropes.length + 3 * g + 1) 0) = _; rw [AM (by omega)]; exact kp g d, [], rfl, Nat.zero_le _, fun _ => rfl⟩
    | book g =>
      have d : g < 3 := d
      obtain ⟨db, h1⟩ := bo g d
      refine ⟨_, by show Hend (L.getD (D.ropes.length + 3 * g + 2) 0) = _; rw [AM (by omega)]; exact h1, db, ?_⟩
      show HO.ins _ _ (bookL.zip [.ref (M.getD (D.ropes.length + 3 * g + 1) 0)]) = HO.ins _ _ (bookL.zip [.ref (L.getD (D.ropes.length + 3 * g + 1) 0)])
      rw [AM (by omega)]
    | news => exact ⟨_, by show Hend (L.getD (D.ropes.length + 9 + 0) 0) = _; rw [AR]; exact hn, rfl⟩
    | sent => exact ⟨_, by show Hend (L.getD (D.ropes.length + 9 + 1) 0) = _; rw [AR]; exact hse, [], rfl, rfl, fun v h => by simp at h⟩
    | stories => exact ⟨_, by show Hend (L.getD (D.ropes.length + 9 + 2) 0) = _; rw [AR]; exact hst, rfl⟩
    | hands => exact ⟨_, by show Hend (L.getD (D.ropes.length + 9 + 3) 0) = _; rw [AR]; exact hh, [], rfl, .nil⟩
    | done => exact ⟨_, by show Hend (L.getD (D.ropes.length + 9 + 4) 0) = _; rw [AR]; exact hd, [], rfl, Nat.zero_le _⟩
    | air => exact ⟨_, by show Hend (L.getD (D.ropes.length + 9 + 5) 0) = _; rw [AR]; exact ha, [], rfl, .nil⟩
    | net =>
      refine ⟨_, by rw [an]; exact hnet, dx, ?_⟩
      show HO.ins _ _ (netL.zip _) = HO.ins _ _ (netL.zip _)
      congr 2
      show _ = [V.ref ppl, V.ref t, V.ref sA, V.ref tbA, V.ref bkA, V.ref (L.getD (D.ropes.length + 9 + 0) 0), V.ref (L.getD (D.ropes.length + 9 + 1) 0), V.ref (L.getD (D.ropes.length + 9 + 2) 0), V.ref (L.getD (D.ropes.length + 9 + 3) 0), V.ref (L.getD (D.ropes.length + 9 + 4) 0), V.ref (L.getD (D.ropes.length + 9 + 5) 0)]
      rw [AR, AR, AR, AR, AR, AR]; rfl
    | story i => exact absurd d (Nat.not_lt_zero _)
end Kn
set_option Elab.async false
set_option linter.all false
set_option maxRecDepth 100000
set_option maxHeartbeats 4000000
namespace Kn
open PySem L2
local macro_rules | `(tactic| walk_at "st") => `(tactic| repeat' (first
  | with_reducible refine r_seq ?_ | with_reducible refine r_set ?_ | with_reducible refine r_ret ?_ | with_reducible refine r_retN ?_ | with_reducible refine r_drop ?_ | with_reducible refine r_next ?_
  | with_reducible refine r_if ?_ | ((with_reducible refine r_var (v := ?_) ?hs ?_); (case hs => exact rfl)) | with_reducible refine r_c ?_ | with_reducible refine r_op ?_ | with_reducible refine r_I0 ?_
  | with_reducible refine r_test ?_ | with_reducible refine r_B ?_ | with_reducible refine ⟨_, (rfl : V.bl _ = V.bl _), ?_⟩ | with_reducible refine r_not ?_ | with_reducible refine r_or ?_ | with_reducible refine r_and ?_
  | with_reducible refine r_nil ?_ | with_reducible refine r_cons ?_ | with_reducible refine r_call ?_ | with_reducible refine r_cb ?_ | with_reducible refine r_tup ?_ | with_reducible refine r_lst ?_
  | with_reducible refine r_gname ?_ | with_reducible refine r_for ?_ | with_reducible refine r_iList ?_ | with_reducible refine r_iRng1 ?_ | with_reducible refine r_lc ?_ | with_reducible refine r_yes ?_
  | with_reducible refine r_chain ?_ | with_reducible refine r_sfld ?_ | with_reducible refine r_bm ?_ | with_reducible refine r_bm0 ?_ | with_reducible refine r_make ?_ | with_reducible refine r_sl ?_ | with_reducible refine r_nopart ?_ | with_reducible refine r_part ?_ | with_reducible refine r_iEnum ?_ | with_reducible refine r_iRng2 ?_))
structure Bld (K : PySem.W.Frag) (H : Hp) (D : TownD) (x ppl sA su tbA bkA : Addr) (i : Nat) (H' : Hp) (M : List Addr) : Prop where
  nd : M.Nodup
  len : M.length = D.ropes.length + 3 * i
  frs : ∀ p ∈ M, H p = none ∧ p ≠ x ∧ p ≠ ppl ∧ p ≠ sA ∧ p ≠ su ∧ p ≠ tbA ∧ p ≠ bkA ∧ ∃ o, H' p = some o ∧ ∀ xs, o ≠ .tup xs
  tb : H' tbA = some (.lst ((List.range i).map fun g => .ref (M.getD (D.ropes.length + 3 * g) 0)))
  bk : H' bkA = some (.lst ((List.range i).map fun g => .ref (M.getD (D.ropes.length + 3 * g + 2) 0)))
  wr : ∀ r rp, D.ropes[r]? = some rp → H' (M.getD r 0) = some (.lst ((List.replicate rp.wires.toNat true).map .bl))
  tab : ∀ g, g < i → ∃ ps : List Addr, H' (M.getD (D.ropes.length + 3 * g) 0) = some (.lst (ps.map .ref)) ∧ Tups H' ps ((rowsI D).map Row.v)
  kp : ∀ g, g < i → H' (M.getD (D.ropes.length + 3 * g + 1) 0) = some (.dT [])
  bo : ∀ g, g < i → ∃ db, H' (M.getD (D.ropes.length + 3 * g + 2) 0) = some (.ins (He.ga K "Book") db (bookL.zip [.ref (M.getD (D.ropes.length + 3 * g + 1) 0)]))
theorem Bld.keep {K : PySem.W.Frag} {H : Hp} {D : TownD} {x ppl sA su tbA bkA : Addr} {i : Nat} {H' H5 : Hp} {M : List Addr} (B : Bld K H D x ppl sA su tbA bkA i H' M)
    (r : ∀ a o, H' a = some o → a ≠ x → a ≠ tbA → a ≠ bkA → H5 a = some o) {j : Nat} (hj : j < M.length) {o : HO} (h : H' (M.getD j 0) = some o) : H5 (M.getD j 0) = some o := by
  obtain ⟨_, q, _, _, _, q2, q3, _⟩ := B.frs _ (List.mem_of_getElem? (getD_at (d := 0) hj))
  exact r _ _ h q q2 q3
theorem Bld.step {K : PySem.W.Frag} {H : Hp} {D : TownD} {x ppl sA su tbA bkA : Addr} {i : Nat} {H' H5 : Hp} {M : List Addr} {tp d bp db : Addr} {ps : List Addr} (B : Bld K H D x ppl sA su tbA bkA i H' M)
    (r : ∀ a o, H' a = some o → a ≠ tbA → a ≠ bkA → H5 a = some o) (hold : ∀ p, H' p = none → H p = none ∧ p ≠ x ∧ p ≠ ppl ∧ p ≠ sA ∧ p ≠ su)
    (nt : H' tp = none) (ndd : H' d = none) (nb : H' bp = none) (n1 : tp ≠ d) (n2 : tp ≠ bp) (n3 : d ≠ bp)
    (h1 : H5 tp = some (.lst (ps.map .ref))) (h1' : Tups H5 ps ((rowsI D).map Row.v)) (h2 : H5 d = some (.dT [])) (h3 : H5 bp = some (.ins (He.ga K "Book") db (bookL.zip [.ref d])))
    (h4 : H5 tbA = some (.lst ((List.range i).map (fun g => .ref (M.getD (D.ropes.length + 3 * g) 0)) ++ [.ref tp]))) (h5 : H5 bkA = some (.lst ((List.range i).map (fun g => .ref (M.getD (D.ropes.length + 3 * g + 2) 0)) ++ [.ref bp]))) :
    Bld K H D x ppl sA su tbA bkA (i + 1) H5 (M ++ [tp, d, bp]) := by
  have len := B.len
  have noM : ∀ {p}, H' p = none → p ∉ M := fun {p} h m => by
    obtain ⟨_, _, _, _, _, _, _, o, ho, _⟩ := B.frs p m
    rw [h] at ho; cases ho
  have a0 : ∀ {j}, j < M.length → (M ++ [tp, d, bp]).getD j 0 = M.getD j 0 := fun h => getD_app h
  have b0 : (M ++ [tp, d, bp]).getD (D.ropes.length + 3 * i) 0 = tp := by
    have := getD_app2 (l := M) (r := [tp, d, bp]) (d := 0) (i := 0); rw [len] at this; exact this
  have b1 : (M ++ [tp, d, bp]).getD (D.ropes.length + 3 * i + 1) 0 = d := by
    have := getD_app2 (l := M) (r := [tp, d, bp]) (d := 0) (i := 1); rw [len] at this; exact this
  have b2 : (M ++ [tp, d, bp]).getD (D.ropes.length + 3 * i + 2) 0 = bp := by
    have := getD_app2 (l := M) (r := [tp, d, bp]) (d := 0) (i := 2); rw [len] at this; exact this
  have r' : ∀ a o, H' a = some o → a ≠ x → a ≠ tbA → a ≠ bkA → H5 a = some o := fun a o h _ => r a o h
  have keep : ∀ {j} {o : HO}, j < M.length → H' (M.getD j 0) = some o → H5 ((M ++ [tp, d, bp]).getD j 0) = some o := fun h1 h2 => by rw [a0 h1]; exact B.keep r' h1 h2
  have tmono : ∀ {ps : List Addr} {xss}, Tups H' ps xss → Tups H5 ps xss := fun {ps xss} h => ⟨h.1, fun j p xs a b => by
    have z := h.2 j p xs a b
    exact r _ _ z (ne_of z B.tb (by intro y; cases y)) (ne_of z B.bk (by intro y; cases y))⟩
  refine ⟨?_, by rw [List.length_append, len]; show _ + 3 = _; omega, fun p m => ?_, ?_, ?_, fun q rp hq => ?_, fun g hg => ?_, fun g hg => ?_, fun g hg => ?_⟩
  · rw [List.nodup_append]
    refine ⟨B.nd, by simp [n1, n2, n3], fun a ha b hb e => ?_⟩
    subst e
    simp only [List.mem_cons, List.not_mem_nil, or_false] at hb
    rcases hb with rfl | rfl | rfl
    · exact noM nt ha
    · exact noM ndd ha
    · exact noM nb ha
  · rcases List.mem_append.mp m with m | m
    · obtain ⟨q0, q1, q2, q3, q4, q5, q6, o, q7, q8⟩ := B.frs p m
      exact ⟨q0, q1, q2, q3, q4, q5, q6, o, r _ _ q7 q5 q6, q8⟩
    · simp only [List.mem_cons, List.not_mem_nil, or_false] at m
      have f : ∀ {p o}, H' p = none → H5 p = some o → (∀ xs, o ≠ .tup xs) → H p = none ∧ p ≠ x ∧ p ≠ ppl ∧ p ≠ sA ∧ p ≠ su ∧ p ≠ tbA ∧ p ≠ bkA ∧ ∃ o, H5 p = some o ∧ ∀ xs, o ≠ .tup xs := fun {p o} h ho ht => by
        obtain ⟨u0, u1, u2, u3, u4⟩ := hold p h
        exact ⟨u0, u1, u2, u3, u4, (ne_of_none B.tb h).symm, (ne_of_none B.bk h).symm, o, ho, ht⟩
      rcases m with rfl | rfl | rfl
      · exact f nt h1 (by intro xs z; cases z)
      · exact f ndd h2 (by intro xs z; cases z)
      · exact f nb h3 (by intro xs z; cases z)
  · rw [h4, List.range_succ, List.map_append]
    congr 3
    · refine List.map_congr_left fun g hg => ?_
      rw [a0 (by have := List.mem_range.mp hg; omega)]
    · show [V.ref tp] = [V.ref _]
      rw [b0]
  · rw [h5, List.range_succ, List.map_append]
    congr 3
    · refine List.map_congr_left fun g hg => ?_
      rw [a0 (by have := List.mem_range.mp hg; omega)]
    · show [V.ref bp] = [V.ref _]
      rw [b2]
  · exact keep (by have := (List.getElem?_eq_some_iff.mp hq).1; omega) (B.wr q rp hq)
  · by_cases z : g = i
    · subst z; rw [b0]; exact ⟨ps, h1, h1'⟩
    · obtain ⟨ps, q1, q2⟩ := B.tab g (by omega)
      exact ⟨ps, keep (by omega) q1, tmono q2⟩
  · by_cases z : g = i
    · subst z; rw [b1]; exact h2
    · exact keep (by omega) (B.kp g (by omega))
  · by_cases z : g = i
    · subst z; rw [b1, b2]; exact ⟨db, h3⟩
    · obtain ⟨db', q⟩ := B.bo g (by omega)
      refine ⟨db', ?_⟩
      rw [a0 (j := D.ropes.length + 3 * g + 1) (by omega)]
      exact keep (by omega) q
theorem range_getD {α : Type} {d : α} (l : List α) : (List.range l.length).map (fun i => l.getD i d) = l := by
  refine List.ext_getElem? fun i => ?_
  by_cases h : i < l.length
  · rw [List.getElem?_map, List.getElem?_range h, getD_at h]; rfl
  · rw [List.getElem?_eq_none (by simpa using h), List.getElem?_eq_none (by omega)]
structure Got (x : Addr) (H9 : Hp) (M : List Addr) (Hk : Hp) (l : List Addr) : Prop where
  nd : (M ++ l).Nodup
  nx : x ∉ l
  old : ∀ q ∈ l, H9 q = none
  has : ∀ q ∈ M ++ l, ∃ o, Hk q = some o
  but : But x H9 Hk
  xx : ∃ o, Hk x = some o
theorem But.free {x p : Addr} {H H2 : Hp} (b : But x H H2) (hx2 : ∃ o, H2 x = some o) (h : H2 p = none) : H p = none := by
  cases q : H p with
  | none => rfl
  | some o =>
    by_cases z : p = x
    · obtain ⟨o', h2⟩ := hx2
      rw [z, h2] at h; cases h
    · rw [b _ _ q z] at h; cases h
theorem Got.step {x p : Addr} {H9 Hk A : Hp} {M l : List Addr} {o o' : HO} (g : Got x H9 M Hk l) (hp : Hk p = none) (hxM : x ∉ M) (b : But x (upd Hk p o) A) (xA : A x = some o') : Got x H9 M A (l ++ [p]) := by
  have npx : p ≠ x := fun z => by obtain ⟨o, h⟩ := g.xx; rw [z, h] at hp; cases hp
  have bb : But x Hk A := (But.new hp).trans b
  refine ⟨?_, fun m => ?_, fun q m => ?_, fun q m => ?_, g.but.trans bb, o', xA⟩
  · rw [← List.append_assoc]
    refine nd_snoc g.nd fun m => ?_
    obtain ⟨o, h⟩ := g.has p m
    rw [hp] at h; cases h
  · rcases List.mem_append.mp m with a | a
    · exact g.nx a
    · exact npx (List.mem_singleton.mp a).symm
  · rcases List.mem_append.mp m with a | a
    · exact g.old q a
    · rw [List.mem_singleton.mp a]; exact g.but.free g.xx hp
  · rw [← List.append_assoc] at m
    rcases List.mem_append.mp m with a | a
    · obtain ⟨o, h⟩ := g.has q a
      refine ⟨o, bb _ _ h fun z => ?_⟩
      rw [z] at a
      rcases List.mem_append.mp a with c | c
      · exact hxM c
      · exact g.nx c
    · rw [List.mem_singleton.mp a]; exact ⟨_, b _ _ upd_same npx⟩
section
variable {P : Program} {w : World} {K : PySem.W.Frag} {mg : Str → Option Value} {base : Heap}
def spNetI (K : PySem.W.Frag) : Sp := fun vs H Q E => ∃ x dx t D lc pc qs, vs = [.ref x, .ref t, .ref lc] ∧ H x = some (.ins (He.ga K "Net") dx []) ∧ TownAt K H t D ∧ H lc = some (.lst ((pc : List Addr).map .ref)) ∧ Tups H pc ((qs : List (Int × Int)).map pairV) ∧
  (¬(qs.length ≤ 20 ∧ PplOk D qs) → XNo K "BadTown" H E) ∧
  (qs.length ≤ 20 → PplOk D qs → ∀ G H' C A, NetAt K G H' C A (S0 C.D) → But x H G → C.t = t → C.D = D → C.people = qs → A .net = x → Q .non H')
theorem sc_Net_init : FnScope ["self", "town", "callers", "group", "house"] ["self", "town", "callers"] (defScope s_Net_init) := ⟨rfl, rfl, rfl, by decide +kernel, rfl, by decide +kernel, by decide +kernel⟩
theorem ok_Net_init (T : Tx K mg) : Fn P w K mg base 4 (He.ma K (He.ga K "Net") "__init__") [] (spNetI K) := by
  refine mkFn T.F_Net_init sc_Net_init (fun _ _ _ _ _ _ us hl => match us, hl with | [_, _, _], _ => rfl) (fun vs H Q E h => ?_) (fun cdv A outer s H vs Q E hr h => ?_)
  · obtain ⟨x, dx, t, D, lc, pc, qs, rfl, _⟩ := h; rfl
  · obtain ⟨x, dx, t, D, lc, pc, qs, rfl, hx, hT, hlc, hpc, k1, k2⟩ := h
    have nd := sc_Net_init.nd
    obtain ⟨tk2, gG⟩ := T.i_GROUPS
    refine ⟨_, pss_cons (ps_fld (pv 0) (cf (ok_told T) hr T.g_told_callers pX (pa_cons (pv 1) (pa_cons (pv 2) pa_nil))) rfl)
      (pss_cons (ps_fld (pv 0) (pv 1) rfl)
      (pss_cons (ps_fld (pv 0) (ck T.k_Strands (ok_Strands_init T) hr T.g_Strands passL (pa_cons (pv 1) pa_nil)) rfl)
      (pss_cons (ps_fld (pv 0) (pe_lst pa_nil) rfl)
      (pss_cons (ps_fld (pv 0) (pe_lst pa_nil) rfl)
      (pss_cons (ps_for (passes_of rfl) rfl (pi_range1 (by rfl) T.b_range (pa_cons (pe_glob (v := .int 3) (by rfl) gG ⟨_, rfl⟩) pa_nil)) (pg_name (i := 3) nd rfl (.inl rfl))
        (pss_cons (ps_expr (pe_bm PySem.F.plainAttrs_list PySem.F.slot_list_append PySem.F.type_list_append mt_append (pf (pv 0)) (pa_cons
          (pe_lc (own := [("house", 4)]) (g := gName 4) rfl nd (pi_range1 (by rfl) T.b_range (pa_cons (pf (pv 1)) pa_nil)) (blkOk_by (N := ["self", "town", "callers", "group", "house"]) (sc := defScope s_Net_init) (by decide +kernel))
            (fun _ _ _ _ _ => pg_name (i := 4) nd rfl (Or.inl rfl)) (fun _ _ _ _ _ => pts_nil) (fun _ _ _ _ _ => cf (ok_own_row T) hr T.g_own_row passL (pa_cons (pv 1) (pa_cons (pv 4) pa_nil)))) pa_nil)))
        (pss_one (ps_expr (pe_bm PySem.F.plainAttrs_list PySem.F.slot_list_append PySem.F.type_list_append mt_append (pf (pv 0)) (pa_cons (ck0 T.k_Book (ok_Book_init T) hr T.g_Book passL) pa_nil))))))
      (pss_cons (ps_fld (pv 0) (pe_lst (pa_cons pe_int (pa_cons pe_int (pa_cons pe_int pa_nil)))) rfl)
      (pss_cons (ps_fld (pv 0) (pe_lst pa_nil) rfl)
      (pss_cons (ps_fld (pv 0) (pe_lst pa_nil) rfl)
      (pss_cons (ps_fld (pv 0) (pe_lst pa_nil) rfl)
      (pss_cons (ps_fld (pv 0) pe_dnewT rfl)
      (pss_one (ps_fld (pv 0) (pe_lst pa_nil) rfl)))))))))))), ?_⟩
    walk_at "st"
    refine ⟨t, D, lc, pc, qs, rfl, hT, hlc, hpc, fun c20 pok ppl pps H1 nppl e1 hppl hpps => ?_, k1⟩
    have k2 := k2 c20 pok
    have nppl' : ppl ≠ x := (ne_of_none hx nppl).symm
    walk_at "st"
    refine szfA (L := []) ["people"] (vs := []) [_] (e1 _ _ hx) T.c_Net T.n_Net_people (by decide +kernel) rfl (by decide) rfl rfl fun A1 bA1 xA1 => ?_
    walk_at "st"
    refine szfA ["people", "town"] [_, _] xA1 T.c_Net T.n_Net_town (by decide +kernel) rfl (by decide) rfl rfl fun A2 bA2 xA2 => ?_
    have b2 : But x H A2 := (e1.but).trans (bA1.trans bA2)
    have hT2 := hT.but b2 hx
    have hfree : ∀ {H2 : Hp} {p : Addr}, But x H H2 → H2 x ≠ none → H2 p = none → H p = none := fun {H2 p} b hx2 h => by
      cases q : H p with
      | none => rfl
      | some o =>
        by_cases z : p = x
        · exact absurd (z ▸ h) hx2
        · rw [b _ _ q z] at h; cases h
    walk_at "st"
    intro sA ds nsA nds nsd
    have eC : Same A2 (upd (upd A2 ds (.own sA)) sA (.ins (He.ga K "Strands") ds [])) := fun a o h => by rw [upd_ne (ne_of_none h nsA), upd_ne (ne_of_none h nds)]; exact h
    refine ⟨sA, ds, t, D, rfl, upd_same, hT2.mono eC, fun H3 su L hsA nsu hsu hL hLnd hfr b3 => ⟨rfl, ?_⟩⟩
    have e3 : Same A2 H3 := But.same b3 eC nsA
    have xA3 := e3 _ _ xA2
    have nsAx : sA ≠ x := (ne_of_none xA2 nsA).symm
    have nsu2 : A2 su = none := eC.free nsu
    have nsux : su ≠ x := (ne_of_none xA2 nsu2).symm
    have nsusA : su ≠ sA := ne_of hsu hsA (by intro z; cases z)
    walk_at "st"
    refine szfA ["people", "town", "strands"] [_, _, _] xA3 T.c_Net T.n_Net_strands (by decide +kernel) rfl (by decide) rfl rfl fun A4 bA4 xA4 => ?_
    walk_at "st"
    refine ⟨szl (by show 0 ≤ 100000; decide), fun tbA ntb => ?_⟩
    walk_at "st"
    have e5 : Same A4 (upd A4 tbA (.lst [])) := Same.new ntb
    have ntbx : tbA ≠ x := (ne_of_none xA4 ntb).symm
    refine szfA ["people", "town", "strands", "tables"] [_, _, _, _] (e5 _ _ xA4) T.c_Net T.n_Net_tables (by decide +kernel) rfl (by decide) rfl rfl fun A6 bA6 xA6 => ?_
    walk_at "st"
    refine ⟨szl (by show 0 ≤ 100000; decide), fun bkA nbk => ?_⟩
    walk_at "st"
    have e7 : Same A6 (upd A6 bkA (.lst [])) := Same.new nbk
    have nbkx : bkA ≠ x := (ne_of_none xA6 nbk).symm
    refine szfA ["people", "town", "strands", "tables", "books"] [_, _, _, _, _] (e7 _ _ xA6) T.c_Net T.n_Net_books (by decide +kernel) rfl (by decide) rfl rfl fun A8 bA8 xA8 => ?_
    have htb6 : A6 tbA = some (.lst []) := bA6 _ _ upd_same ntbx
    have htb8 : A8 tbA = some (.lst []) := bA8 _ _ (e7 _ _ htb6) ntbx
    have hbk8 : A8 bkA = some (.lst []) := bA8 _ _ upd_same nbkx
    have b46 : But x A4 A6 := e5.but.trans bA6
    have b68 : But x A6 A8 := e7.but.trans bA8
    have b38 : But x H3 A8 := bA4.trans (b46.trans b68)
    have b23 : But x A2 H3 := e3.but
    have b8 : But x H A8 := b2.trans (b23.trans b38)
    have ntbk : tbA ≠ bkA := ne_of_none htb6 nbk
    have hs8 := b38 _ _ hsA nsAx
    have hsu8 := b38 _ _ hsu nsux
    have hppl2 : A2 ppl = some (.lst (pps.map .ref)) := bA2 _ _ (bA1 _ _ hppl nppl') nppl'
    have hppl8 := b38 _ _ (e3 _ _ hppl2) nppl'
    have hxt : ∀ {H' : Hp} {L : List Str} {vs : List V}, H' x = some (.ins (He.ga K "Net") dx (L.zip vs)) → ∀ xs, H' x ≠ some (.tup xs) := fun h xs z => by rw [h] at z; cases z
    have hpps8 : Tups A8 pps (qs.map pairV) := (((hpps.but (bA1.trans bA2) (fun xs z => by rw [e1 _ _ hx] at z; cases z)).mono e3).but b38 (hxt xA3))
    have hL8 : Lsts A8 L (upD D) := hL.but b38 (fun xs z => by rw [xA3] at z; cases z)
    have ext8 : ∀ {p}, A8 p = none → H p = none ∧ p ≠ x ∧ p ≠ ppl ∧ p ≠ sA ∧ p ≠ su := fun {p} h => ⟨hfree b8 (by rw [xA8]; intro z; cases z) h, (ne_of_none xA8 h).symm, (ne_of_none hppl8 h).symm, (ne_of_none hs8 h).symm, (ne_of_none hsu8 h).symm⟩
    have hupl : (upD D).length = D.ropes.length := by unfold upD; rw [List.length_map]
    have fresh_tb : H tbA = none := hfree (b2.trans (b23.trans bA4)) (by rw [xA4]; intro z; cases z) ntb
    have fresh_bk : H bkA = none := hfree (b2.trans (b23.trans (bA4.trans b46))) (by rw [xA6]; intro z; cases z) nbk
    have hat : ∀ {r xs}, (upD D)[r]? = some xs → H3 (L.getD r 0) = some (.lst xs) := fun {r xs} h => by
      have hr : r < L.length := by rw [hL.1]; exact (List.getElem?_eq_some_iff.mp h).1
      exact hL.2 r _ _ (getD_at hr) h
    have B0 : Bld K H D x ppl sA su tbA bkA 0 A8 L := by
      refine ⟨hLnd, by rw [hL.1, hupl]; rfl, fun p m => ?_, htb8, hbk8, fun r rp hrp => ?_, fun g h => absurd h (Nat.not_lt_zero _), fun g h => absurd h (Nat.not_lt_zero _), fun g h => absurd h (Nat.not_lt_zero _)⟩
      · obtain ⟨f1, f2⟩ := hfr p m
        have f3 : A2 p = none := eC.free f1
        obtain ⟨j, hj⟩ := List.mem_iff_getElem?.mp m
        have hj2 : j < (upD D).length := by have := (List.getElem?_eq_some_iff.mp hj).1; have := hL.1; omega
        have v3 := hL.2 j p _ hj (List.getElem?_eq_getElem hj2)
        have px : p ≠ x := (ne_of_none xA2 f3).symm
        have v4 := bA4 _ _ v3 px
        have v6 := b46 _ _ v4 px
        exact ⟨hfree b2 (by rw [xA2]; intro z; cases z) f3, px, (ne_of_none hppl2 f3).symm, (fun z => by rw [z, upd_same] at f1; cases f1), f2, ne_of_none v4 ntb, ne_of_none v6 nbk, _, b68 _ _ v6 px, by intro xs z; cases z⟩
      · have z : (upD D)[r]? = some ((List.replicate rp.wires.toNat true).map V.bl) := get_map (f := fun rp : Rope => (List.replicate rp.wires.toNat true).map V.bl) hrp
        have hr : r < L.length := by rw [hL.1]; exact (List.getElem?_eq_some_iff.mp z).1
        have h3 := hat z
        refine b38 _ _ h3 ?_
        exact ne_of h3 xA3 (by intro y; cases y)
    walk_at "st"
    refine ⟨_, rfl, by decide, by decide, ?_⟩
    refine for_it walk_range (fun i σ H' => ∃ (M : List Addr) (x3 : Option V), σ = [some (.ref x), some (.ref t), some (.ref lc), x3, none] ∧ Bld K H D x ppl sA su tbA bkA i H' M ∧ (∀ p ∈ L, p ∈ M) ∧ (∀ r, r < D.ropes.length → M.getD r 0 = L.getD r 0) ∧ ∀ a o, A8 a = some o → a ≠ tbA → a ≠ bkA → H' a = some o)
      ⟨L, none, rfl, B0, fun _ h => h, fun _ _ => rfl, fun a o h _ _ => h⟩ (fun _ _ _ _ _ => trivial) ?_ ?_
    · rintro i y σ H5 H5' hi ⟨M, x3, rfl, B, hLM, hLg, E8⟩ ⟨rfl, rfl⟩
      have hi3 : i < 3 := hi
      have bH : But x H H5' := fun a o h n => E8 a o (b8 a o h n) (ne_of_none h fresh_tb) (ne_of_none h fresh_bk)
      have hT5 := hT.but bH hx
      have hx5 := E8 _ _ xA8 (Ne.symm ntbx) (Ne.symm nbkx)
      have ext5 : ∀ p, H5' p = none → H p = none ∧ p ≠ x ∧ p ≠ ppl ∧ p ≠ sA ∧ p ≠ su := fun p h => ext8 (by
        cases q : A8 p with
        | none => rfl
        | some o =>
          have n1 : p ≠ tbA := (ne_of_none B.tb h).symm
          have n2 : p ≠ bkA := (ne_of_none B.bk h).symm
          rw [E8 _ _ q n1 n2] at h; cases h)
      obtain ⟨ok, dt, la, lk, lr, pk, pn, ht, _⟩ := id hT5
      have s2 := ok.s2
      walk_at "st"
      refine fz hx5 T.c_Net T.n_Net_tables (i := 3) (by decide +kernel) rfl ?_
      refine ⟨.inl ⟨rfl, _, SqL.of B.tb⟩, ?_⟩
      walk_at "st"
      refine fz ht T.c_Town T.n_Town_size (i := 0) (by decide +kernel) rfl ?_
      walk_at "st"
      refine ⟨_, rfl, by omega, by omega, fun tp ntp => ?_⟩
      refine lc_it walk_range (fun j H' => Same H5' H' ∧ ∃ ps : List Addr, H' tp = some (.lst (ps.map .ref)) ∧ Tups H' ps (((List.range j).map fun h => ownF D (h : Nat)).map Row.v)) ⟨Same.new ntp, [], upd_same, .nil⟩ (fun _ _ _ _ => trivial) ?_ ?_
      · rintro j y H6 H6' hj ⟨e6, ps, hps, htps⟩ ⟨rfl, rfl⟩
        have hjl : ps.length = j := by rw [htps.1, List.length_map, List.length_map, List.length_range]
        walk_at "st"
        refine ⟨rfl, ?_⟩
        walk_at "st"
        refine iteT ?_
        walk_at "st"
        refine ⟨t, D, _, rfl, hT5.mono e6, by omega, by omega, fun q H7 nq e7 hq => ?_⟩
        refine ⟨_, e7 _ _ hps, sll (by rw [List.length_map]; omega), Same.mut (e6.trans e7) ntp, ps ++ [q], by rw [List.map_append]; exact upd_same, ?_⟩
        have z : Tups (upd H7 tp (.lst (ps.map V.ref ++ [V.ref q]))) ps (((List.range j).map fun h => ownF D (h : Nat)).map Row.v) := ⟨htps.1, fun u b xs a1 a2 => by
          have z := e7 _ _ (htps.2 u b xs a1 a2)
          rw [upd_ne (ne_of z (e7 _ _ hps) (by intro y; cases y))]; exact z⟩
        rw [List.range_succ, List.map_append, List.map_append]
        refine z.snoc ?_
        rw [upd_ne (ne_of hq (e7 _ _ hps) (by intro y; cases y)), hq]
        rw [show ((0 : Int) + (j : Nat)) = ((j : Nat) : Int) by omega]
      · rintro H6 ⟨e6, ps, hps, htps⟩
        rw [show ((D.size : Nat) : Int).toNat = D.size by omega] at htps
        have lM := B.len
        refine ⟨tbA, _, _, rfl, rfl, e6 _ _ B.tb, sll (by rw [List.length_map, List.length_range]; omega), ?_⟩
        have ntpt : tp ≠ tbA := (ne_of_none B.tb ntp).symm
        have ntpk : tp ≠ bkA := (ne_of_none B.bk ntp).symm
        generalize hH7 : upd H6 tbA (.lst ((List.range i).map (fun g => V.ref (M.getD (D.ropes.length + 3 * g) 0)) ++ [V.ref tp])) = H7
        have r7 : ∀ a o, H6 a = some o → a ≠ tbA → H7 a = some o := fun a o h n => by rw [← hH7, upd_ne n]; exact h
        have t7 : H7 tbA = some (.lst ((List.range i).map (fun g => V.ref (M.getD (D.ropes.length + 3 * g) 0)) ++ [V.ref tp])) := by rw [← hH7]; exact upd_same
        have hx7 := r7 _ _ (e6 _ _ hx5) (Ne.symm ntbx)
        have bk7 := r7 _ _ (e6 _ _ B.bk) (Ne.symm ntbk)
        have tp7 := r7 _ _ hps ntpt
        have tps7 : Tups H7 ps (((List.range D.size).map fun h => ownF D (h : Nat)).map Row.v) := ⟨htps.1, fun u b xs a1 a2 => by
          have z := htps.2 u b xs a1 a2
          exact r7 _ _ z (ne_of z (e6 _ _ B.tb) (by intro y; cases y))⟩
        walk_at "st"
        refine fz hx7 T.c_Net T.n_Net_books (i := 4) (by decide +kernel) rfl ?_
        refine ⟨.inl ⟨rfl, _, SqL.of bk7⟩, ?_⟩
        walk_at "st"
        intro bp db nbp ndb nbd
        have e8 : Same H7 (upd (upd H7 db (.own bp)) bp (.ins (He.ga K "Book") db [])) := fun a o h => by rw [upd_ne (ne_of_none h nbp), upd_ne (ne_of_none h ndb)]; exact h
        refine ⟨bp, db, rfl, upd_same, fun H9 d nd9 hbp hd b9 => ⟨rfl, ?_⟩⟩
        have e9 : Same H7 H9 := But.same b9 e8 nbp
        have nd7 : H7 d = none := e8.free nd9
        have ndb' : d ≠ bp := fun z => by rw [z, upd_same] at nd9; cases nd9
        have up7 : ∀ {p}, H7 p = none → H5' p = none := fun {p} h => by
          cases q : H5' p with
          | none => rfl
          | some o =>
            by_cases z : p = tbA
            · rw [z, t7] at h; cases h
            · rw [r7 _ _ (e6 _ _ q) z] at h; cases h
        have bk9 := e9 _ _ bk7
        refine ⟨bkA, _, _, rfl, rfl, bk9, sll (by rw [List.length_map, List.length_range]; omega), ?_⟩
        have nbpk : bp ≠ bkA := (ne_of_none bk7 nbp).symm
        have ndk : d ≠ bkA := (ne_of_none bk7 nd7).symm
        have r10 : ∀ a o, H5' a = some o → a ≠ tbA → a ≠ bkA → upd H9 bkA (.lst ((List.range i).map (fun g => V.ref (M.getD (D.ropes.length + 3 * g + 2) 0)) ++ [V.ref bp])) a = some o := fun a o h n1 n2 => by
          rw [upd_ne n2]; exact e9 _ _ (r7 _ _ (e6 _ _ h) n1)
        have tps9 : Tups (upd H9 bkA (.lst ((List.range i).map (fun g => V.ref (M.getD (D.ropes.length + 3 * g + 2) 0)) ++ [V.ref bp]))) ps ((rowsI D).map Row.v) := ⟨tps7.1, fun u b xs a1 a2 => by
          have z := e9 _ _ (tps7.2 u b xs a1 a2)
          rw [upd_ne (ne_of z bk9 (by intro y; cases y))]; exact z⟩
        refine ⟨M ++ [tp, d, bp], _, rfl, B.step (db := db) r10 ext5 ntp (up7 nd7) (up7 nbp) (ne_of_none tp7 nd7) (ne_of_none tp7 nbp) ndb' ?_ tps9 ?_ ?_ ?_ ?_, fun p m => List.mem_append_left _ (hLM p m), fun r hr => ?_, fun a o h n1 n2 => ?_⟩
        · rw [upd_ne ntpk]; exact e9 _ _ tp7
        · rw [upd_ne ndk]; exact hd
        · rw [upd_ne nbpk]; exact hbp
        · rw [upd_ne ntbk]; exact e9 _ _ t7
        · exact upd_same
        · rw [getD_app (by omega)]; exact hLg r hr
        · exact r10 _ _ (E8 _ _ h n1 n2) n1 n2
    · rintro σ H9 ⟨M, x3, rfl, B, hLM, hLg, E8⟩
      have hx9 := E8 _ _ xA8 (Ne.symm ntbx) (Ne.symm nbkx)
      have bH : But x H H9 := fun a o h n => E8 a o (b8 a o h n) (ne_of_none h fresh_tb) (ne_of_none h fresh_bk)
      have hxM : x ∉ M := fun m => (B.frs x m).2.1 rfl
      have g0 : Got x H9 M H9 [] := ⟨by rw [List.append_nil]; exact B.nd, fun m => by simp at m, fun q m => by simp at m, fun q m => by
        rw [List.append_nil] at m
        obtain ⟨_, _, _, _, _, _, _, o, h, _⟩ := B.frs q m
        exact ⟨o, h⟩, But.refl _ _, _, hx9⟩
      walk_at "st"
      refine ⟨szl (by show 3 ≤ 100000; decide), fun pn npn => ?_⟩
      walk_at "st"
      refine szfA ["people", "town", "strands", "tables", "books", "news_by"] [_, _, _, _, _, _] ((Same.new npn) _ _ hx9) T.c_Net T.n_Net_news_by (by decide +kernel) rfl (by decide) rfl rfl fun B1 bB1 xB1 => ?_
      have g1 := g0.step npn hxM bB1 xB1
      have v1 := bB1 _ _ upd_same (ne_of_none hx9 npn).symm
      walk_at "st"
      refine ⟨szl (by show 0 ≤ 100000; decide), fun pse npse => ?_⟩
      walk_at "st"
      refine szfA ["people", "town", "strands", "tables", "books", "news_by", "sent"] [_, _, _, _, _, _, _] ((Same.new npse) _ _ xB1) T.c_Net T.n_Net_sent (by decide +kernel) rfl (by decide) rfl rfl fun B2 bB2 xB2 => ?_
      have g2 := g1.step npse hxM bB2 xB2
      have v2 := bB2 _ _ upd_same (ne_of_none xB1 npse).symm
      walk_at "st"
      refine ⟨szl (by show 0 ≤ 100000; decide), fun pst npst => ?_⟩
      walk_at "st"
      refine szfA ["people", "town", "strands", "tables", "books", "news_by", "sent", "stories"] [_, _, _, _, _, _, _, _] ((Same.new npst) _ _ xB2) T.c_Net T.n_Net_stories (by decide +kernel) rfl (by decide) rfl rfl fun B3 bB3 xB3 => ?_
      have g3 := g2.step npst hxM bB3 xB3
      have v3 := bB3 _ _ upd_same (ne_of_none xB2 npst).symm
      walk_at "st"
      refine ⟨szl (by show 0 ≤ 100000; decide), fun ph nph => ?_⟩
      walk_at "st"
      refine szfA ["people", "town", "strands", "tables", "books", "news_by", "sent", "stories", "hands"] [_, _, _, _, _, _, _, _, _] ((Same.new nph) _ _ xB3) T.c_Net T.n_Net_hands (by decide +kernel) rfl (by decide) rfl rfl fun B4 bB4 xB4 => ?_
      have g4 := g3.step nph hxM bB4 xB4
      have v4 := bB4 _ _ upd_same (ne_of_none xB3 nph).symm
      walk_at "st"
      intro pd npd
      walk_at "st"
      refine szfA ["people", "town", "strands", "tables", "books", "news_by", "sent", "stories", "hands", "done"] [_, _, _, _, _, _, _, _, _, _] ((Same.new npd) _ _ xB4) T.c_Net T.n_Net_done (by decide +kernel) rfl (by decide) rfl rfl fun B5 bB5 xB5 => ?_
      have g5 := g4.step npd hxM bB5 xB5
      have v5 := bB5 _ _ upd_same (ne_of_none xB4 npd).symm
      walk_at "st"
      refine ⟨szl (by show 0 ≤ 100000; decide), fun pa npa => ?_⟩
      walk_at "st"
      refine szfA netL [_, _, _, _, _, _, _, _, _, _, _] ((Same.new npa) _ _ xB5) T.c_Net T.n_Net_air (by decide +kernel) rfl (by decide) rfl rfl fun B6 bB6 xB6 => ?_
      have g6 := g5.step npa hxM bB6 xB6
      have v6 := bB6 _ _ upd_same (ne_of_none xB5 npa).symm
      have c5 : But x B5 B6 := (But.new npa).trans bB6
      have c4 : But x B4 B6 := ((But.new npd).trans bB5).trans c5
      have c3 : But x B3 B6 := ((But.new nph).trans bB4).trans c4
      have c2 : But x B2 B6 := ((But.new npst).trans bB3).trans c3
      have c1 : But x B1 B6 := ((But.new npse).trans bB2).trans c2
      have c0 : But x H9 B6 := g6.but
      have w1 := c1 _ _ v1 (ne_of_none hx9 npn).symm
      have w2 := c2 _ _ v2 (ne_of_none xB1 npse).symm
      have w3 := c3 _ _ v3 (ne_of_none xB2 npst).symm
      have w4 := c4 _ _ v4 (ne_of_none xB3 nph).symm
      have w5 := c5 _ _ v5 (ne_of_none xB4 npd).symm
      have lM := B.len
      have mx : ∀ j, j < M.length → M.getD j 0 ≠ x := fun j hj => (B.frs _ (List.mem_of_getElem? (getD_at (d := 0) hj))).2.1
      have tm : ∀ {ps : List Addr} {xss}, Tups H9 ps xss → Tups B6 ps xss := fun h => h.but c0 (hxt hx9)
      have F : ∀ F, F ∉ M → H9 F ≠ none → F ≠ x → F ∉ M ++ [pn, pse, pst, ph, pd, pa, x] := fun F h1 h2 h3 m => by
        simp only [List.mem_append, List.mem_cons, List.not_mem_nil, or_false] at m
        have o : ∀ q ∈ ([] ++ [pn] ++ [pse] ++ [pst] ++ [ph] ++ [pd] ++ [pa] : List Addr), F ≠ q := fun q hq z => h2 (by rw [z]; exact g6.old q hq)
        rcases m with m | m | m | m | m | m | m | m
        · exact h1 m
        · exact o _ (by simp) m
        · exact o _ (by simp) m
        · exact o _ (by simp) m
        · exact o _ (by simp) m
        · exact o _ (by simp) m
        · exact o _ (by simp) m
        · exact h3 m
      suffices hb : ∃ G C A, NetAt K G B6 C A (S0 C.D) ∧ But x H G ∧ C.t = t ∧ C.D = D ∧ C.people = qs ∧ A .net = x by
        obtain ⟨G, C, AA, N, bG, q1, q2, q3, q4⟩ := hb
        exact k2 G B6 C AA N bG q1 q2 q3 q4
      refine net_built (K := K) (H := H) (Hend := B6) (D := D) (t := t) (x := x) (dx := dx) (sA := sA) (ds := ds) (su := su) (ppl := ppl) (tbA := tbA) (bkA := bkA) (pps := pps) (qs := qs) (M := M) (pn := pn) (pse := pse) (pst := pst) (ph := ph) (pd := pd) (pa := pa)
        ?_ lM (fun p m => ?_) hx (bH.trans c0) hT (c0 _ _ (E8 _ _ hs8 ?_ ?_) nsAx) ?_ (c0 _ _ (E8 _ _ hppl8 ?_ ?_) nppl') ?_ (c0 _ _ B.tb ntbx) (c0 _ _ B.bk nbkx) (fun q hq => ?_) (fun p m xs z => ?_) (fun r rp h => c0 _ _ (B.wr r rp h) (mx _ ?_))
        (fun g hg => ?_) (fun g hg => c0 _ _ (B.kp g hg) (mx _ (by omega))) (fun g hg => ?_) w1 w2 w3 w4 w5 v6 xB6 pok c20
      · have z := nd_snoc (k := x) g6.nd (fun m => ?_)
        · rw [List.append_assoc] at z
          exact z
        · rcases List.mem_append.mp m with c | c
          · exact hxM c
          · exact g6.nx c
      · have m' : p ∈ M ++ ([] ++ [pn] ++ [pse] ++ [pst] ++ [ph] ++ [pd] ++ [pa]) := by simpa using m
        rcases List.mem_append.mp m' with c | c
        · exact (B.frs p c).1
        · exact bH.free ⟨_, hx9⟩ (g6.old p c)
      · exact ne_of hs8 htb8 (by intro z; cases z)
      · exact ne_of hs8 hbk8 (by intro z; cases z)
      · have z := c0 _ _ (E8 _ _ hsu8 (ne_of_none (bA4 _ _ hsu nsux) ntb) (ne_of_none (b46 _ _ (bA4 _ _ hsu nsux) nsux) nbk)) nsux
        rw [z]
        have ll : L.length = D.ropes.length := by rw [hL.1, hupl]
        rw [← ll]
        congr 2
        rw [show L.map V.ref = ((List.range L.length).map fun r => L.getD r 0).map V.ref by rw [range_getD], List.map_map]
        refine List.map_congr_left fun r hr => ?_
        show V.ref (L.getD r 0) = V.ref (M.getD r 0)
        rw [hLg r (by have := List.mem_range.mp hr; omega)]
      · exact ne_of_none (bA4 _ _ (e3 _ _ hppl2) nppl') ntb
      · exact ne_of_none (b46 _ _ (bA4 _ _ (e3 _ _ hppl2) nppl') nppl') nbk
      · refine tm ⟨hpps8.1, fun u b xs a1 a2 => ?_⟩
        have z := hpps8.2 u b xs a1 a2
        exact E8 _ _ z (ne_of z htb8 (by intro y; cases y)) (ne_of z hbk8 (by intro y; cases y))
      · have o9 : ∀ {a o}, A8 a = some o → a ≠ tbA → a ≠ bkA → H9 a ≠ none := fun h h1 h2 z => by rw [E8 _ _ h h1 h2] at z; cases z
        simp only [List.mem_cons, List.not_mem_nil, or_false] at hq
        rcases hq with rfl | rfl | rfl | rfl | rfl
        · exact F _ (fun m => (B.frs _ m).2.2.2.1 rfl) (o9 hs8 (ne_of hs8 htb8 (by intro z; cases z)) (ne_of hs8 hbk8 (by intro z; cases z))) nsAx
        · exact F _ (fun m => (B.frs _ m).2.2.2.2.1 rfl) (o9 hsu8 (ne_of_none (bA4 _ _ hsu nsux) ntb) (ne_of_none (b46 _ _ (bA4 _ _ hsu nsux) nsux) nbk)) nsux
        · exact F _ (fun m => (B.frs _ m).2.2.1 rfl) (o9 hppl8 (ne_of_none (bA4 _ _ (e3 _ _ hppl2) nppl') ntb) (ne_of_none (b46 _ _ (bA4 _ _ (e3 _ _ hppl2) nppl') nppl') nbk)) nppl'
        · exact F _ (fun m => (B.frs _ m).2.2.2.2.2.1 rfl) (by rw [B.tb]; intro z; cases z) ntbx
        · exact F _ (fun m => (B.frs _ m).2.2.2.2.2.2.1 rfl) (by rw [B.bk]; intro z; cases z) nbkx
      · obtain ⟨_, n1, _, _, _, _, _, o, h1, h2⟩ := B.frs p m
        have := c0 _ _ h1 n1
        rw [z] at this
        exact h2 xs (Option.some.inj this).symm
      · have := (List.getElem?_eq_some_iff.mp h).1; omega
      · obtain ⟨ps, a, b⟩ := B.tab g hg
        exact ⟨ps, c0 _ _ a (mx _ (by omega)), tm b⟩
      · obtain ⟨db, a⟩ := B.bo g hg
        exact ⟨db, c0 _ _ a (mx _ (by omega))⟩
end
end Kn
set_option Elab.async false
set_option linter.all false
set_option maxRecDepth 100000
set_option maxHeartbeats 4000000
namespace Kn
open PySem L2
local macro_rules | `(tactic| walk_at "st") => `(tactic| repeat' (first
  | with_reducible refine r_seq ?_ | with_reducible refine r_set ?_ | with_reducible refine r_ret ?_ | with_reducible refine r_retN ?_ | with_reducible refine r_drop ?_ | with_reducible refine r_next ?_
  | with_reducible refine r_if ?_ | ((with_reducible refine r_var (v := ?_) ?hs ?_); (case hs => exact rfl)) | with_reducible refine r_c ?_ | with_reducible refine r_op ?_ | with_reducible refine r_I0 ?_
  | with_reducible refine r_test ?_ | with_reducible refine r_B ?_ | with_reducible refine ⟨_, (rfl : V.bl _ = V.bl _), ?_⟩ | with_reducible refine r_not ?_ | with_reducible refine r_or ?_ | with_reducible refine r_and ?_
  | with_reducible refine r_nil ?_ | with_reducible refine r_cons ?_ | with_reducible refine r_call ?_ | with_reducible refine r_cb ?_ | with_reducible refine r_tup ?_ | with_reducible refine r_lst ?_
  | with_reducible refine r_gname ?_ | with_reducible refine r_for ?_ | with_reducible refine r_iList ?_ | with_reducible refine r_iRng1 ?_ | with_reducible refine r_lc ?_ | with_reducible refine r_yes ?_
  | with_reducible refine r_chain ?_ | with_reducible refine r_sfld ?_ | with_reducible refine r_bm ?_ | with_reducible refine r_bm0 ?_ | with_reducible refine r_make ?_ | with_reducible refine r_sl ?_ | with_reducible refine r_nopart ?_ | with_reducible refine r_part ?_ | with_reducible refine r_iEnum ?_ | with_reducible refine r_iRng2 ?_))
theorem r_un {r : V → Hp → VK → Prop} {ta : TE} {σ : L2.St} {H : Hp} {Q : VK} (h : ta σ H fun x H1 => r x H1 Q) : tUn r ta σ H Q := h
theorem r_rU {g : Int → V} {i : Int} {H : Hp} {Q : VK} (q : Q (g i) H) : rU g (.int i) H Q := ⟨i, rfl, q⟩
section
variable {f : Int → Int → V} {i j : Int} {H : Hp} {Q : VK}
theorem r_div (q : Q (f i j) H) (h : (decide (0 < j) && decide (j < 1073741824)) = true := by decide +kernel) : rI CDiv f (.int i) (.int j) H Q := r_I (by rw [Bool.and_eq_true] at h; exact ⟨of_decide_eq_true h.1, of_decide_eq_true h.2⟩) q
theorem r_mod (q : Q (f i j) H) (h : 0 < j := by decide +kernel) : rI (fun _ j => 0 < j) f (.int i) (.int j) H Q := r_I (C := fun _ j => 0 < j) h q
theorem r_pow (q : Q (f i j) H) (h : (decide (0 ≤ j) && (decide (j ≤ 1000000) && decide (i.natAbs < 2 ^ 64))) = true := by decide +kernel) : rI CPow f (.int i) (.int j) H Q := r_I (by rw [Bool.and_eq_true, Bool.and_eq_true] at h; exact ⟨of_decide_eq_true h.1, of_decide_eq_true h.2.1, of_decide_eq_true h.2.2⟩) q
end
local macro_rules | `(tactic| walk_at "sa") => `(tactic| repeat' (first
  | with_reducible refine r_seq ?_ | with_reducible refine r_set ?_ | with_reducible refine r_ret ?_ | with_reducible refine r_retN ?_ | with_reducible refine r_drop ?_ | with_reducible refine r_next ?_
  | with_reducible refine r_if ?_ | ((with_reducible refine r_var (v := ?_) ?hs ?_); (case hs => exact rfl)) | with_reducible refine r_c ?_ | with_reducible refine r_op ?_ | with_reducible refine r_I0 ?_
  | with_reducible refine r_test ?_ | with_reducible refine r_B ?_ | with_reducible refine ⟨_, (rfl : V.bl _ = V.bl _), ?_⟩ | with_reducible refine r_not ?_ | with_reducible refine r_or ?_ | with_reducible refine r_and ?_
  | with_reducible refine r_nil ?_ | with_reducible refine r_cons ?_ | with_reducible refine r_call ?_ | with_reducible refine r_cb ?_ | with_reducible refine r_tup ?_ | with_reducible refine r_lst ?_
  | with_reducible refine r_gname ?_ | with_reducible refine r_for ?_ | with_reducible refine r_iList ?_ | with_reducible refine r_iRng1 ?_ | with_reducible refine r_lc ?_ | with_reducible refine r_yes ?_
  | with_reducible refine r_chain ?_ | with_reducible refine r_sfld ?_ | with_reducible refine r_bm ?_ | with_reducible refine r_bm0 ?_ | with_reducible refine r_make ?_ | with_reducible refine r_sl ?_ | with_reducible refine r_nopart ?_ | with_reducible refine r_part ?_ | with_reducible refine r_iEnum ?_ | with_reducible refine r_iRng2 ?_
  | with_reducible refine r_un ?_ | with_reducible refine r_rU ?_ | with_reducible refine r_div ?_ | with_reducible refine r_mod ?_ | with_reducible refine r_pow ?_ | fail))
section
variable {P : Program} {w : World} {K : PySem.W.Frag} {mg : Str → Option Value} {base : Heap}
def spCell (K : PySem.W.Frag) : Sp := fun vs H Q _ => ∃ (a : Addr) (ns : List Int) (k : Int), vs = [.ref a, .int k] ∧ SqL K H a (ns.map .int) ∧ 0 ≤ k ∧ ∀ c, Q (.int c) H
theorem sc_cell : FnScope ["_law_script", "_law_k"] ["_law_script", "_law_k"] (defScope s_law_cell_at) := ⟨rfl, rfl, rfl, by decide +kernel, rfl, by decide +kernel, by decide +kernel⟩
theorem ok_cell (T : Tx K mg) : Fn P w K mg base 1 (He.ga K "_law_cell_at") [] (spCell K) := by
  refine mkFn T.F_law_cell_at sc_cell (fun _ _ _ _ _ _ us hl => match us, hl with | [_, _], _ => rfl) (fun vs H Q E h => ?_) (fun cdv A outer s H vs Q E hr h => ?_)
  · obtain ⟨a, ns, k, rfl, _⟩ := h; rfl
  · obtain ⟨a, ns, k, rfl, ha, k0, q⟩ := h
    refine ⟨_, pss_cons (ps_if (pt_cmpR op_lt (pv 1) (pe_callB call_len (by rfl) T.b_len PySem.boot_len (pa_cons (pv 0) pa_nil)) (nomark _)) (pss_one (ps_ret (pe_ix ix_list (pv 0) (pv 1) (fun _ _ => rfl)))) pss_nil)
      (pss_one (ps_ret pe_int)), ?_⟩
    walk_at "sa"
    refine ⟨_, _, rfl, .inl ⟨_, ha, rfl⟩, ?_⟩
    walk_at "sa"
    refine ite2 (fun c => ?_) (fun c => ?_)
    · have c := of_decide_eq_true c
      walk_at "sa"
      rw [List.length_map] at c
      exact ⟨a, _, k, _, rfl, rfl, ha, at_ix k0 (get_int k0 c), q _⟩
    · walk_at "sa"
      exact q 0
def spOut : Sp := fun vs H Q _ => ∃ m n : Int, vs = [.int m, .int n] ∧ 0 ≤ m ∧ ∀ z H', Same H H' → ¬(0 ≤ z ∧ z < m) → Q (.int z) H'
theorem sc_out : FnScope ["_law_many", "_law_number", "_law_far"] ["_law_many", "_law_number"] (defScope s_law_out) := ⟨rfl, rfl, rfl, by decide +kernel, rfl, by decide +kernel, by decide +kernel⟩
theorem ok_out (T : Tx K mg) : Fn P w K mg base 1 (He.ga K "_law_out") [] spOut := by
  refine mkFn T.F_law_out sc_out (fun _ _ _ _ _ _ us hl => match us, hl with | [_, _], _ => rfl) (fun vs H Q E h => ?_) (fun cdv A outer s H vs Q E hr h => ?_)
  · obtain ⟨m, n, rfl, _⟩ := h; rfl
  · obtain ⟨m, n, rfl, m0, k⟩ := h
    refine ⟨_, pss_cons (ps_set (i := 2) sc_out.nd rfl (.inl rfl) (pe_ix ix_list (pe_lst (pa_cons pe_int (pa_cons pe_int (pa_cons (pe_op op_mod (pe_op op_fdiv (pv 1) pe_int) (pe_op op_pow pe_int pe_int)) pa_nil)))) (pe_op op_mod (pe_op op_fdiv (pv 1) pe_int) pe_int) (fun _ _ => rfl)))
      (pss_cons (ps_if (pt_cmpR op_eq (pe_op op_mod (pv 1) pe_int) pe_int (nomark _)) (pss_one (ps_ret (pe_op op_add (pv 0) (pv 2)))) pss_nil)
      (pss_one (ps_ret (pe_op op_sub (pe_un un_neg pe_int) (pv 2))))), ?_⟩
    walk_at "sa"
    refine ⟨szl (by show 3 ≤ 100000; decide), fun p np => ?_⟩
    walk_at "sa"
    have z0 := Int.emod_nonneg (n / 2) (show (3 : Int) ≠ 0 by decide)
    have z1 := Int.emod_lt_of_pos (n / 2) (show (0 : Int) < 3 by decide)
    have f0 : 0 ≤ n / 6 % 10 ^ (59 : Int).toNat := Int.emod_nonneg _ (by decide +kernel)
    obtain ⟨f, hf, fz⟩ : ∃ f : Int, [V.int 0, V.int 1, V.int (n / 6 % 10 ^ (59 : Int).toNat)][(n / 2 % 3).toNat]? = some (.int f) ∧ 0 ≤ f := by
      rcases (by omega : n / 2 % 3 = 0 ∨ n / 2 % 3 = 1 ∨ n / 2 % 3 = 2) with h | h | h
      · rw [h]; exact ⟨0, rfl, by decide⟩
      · rw [h]; exact ⟨1, rfl, by decide⟩
      · rw [h]; exact ⟨_, rfl, f0⟩
    refine ⟨p, _, _, _, rfl, rfl, SqL.of upd_same, at_ix z0 hf, ?_⟩
    walk_at "sa"
    refine ⟨rfl, _, rfl, ?_⟩
    refine ite2 (fun c => ?_) (fun c => ?_)
    · walk_at "sa"
      exact k _ _ (Same.new np) (by omega)
    · walk_at "sa"
      exact k _ _ (Same.new np) (by omega)
end
end Kn
set_option Elab.async false
set_option linter.all false
set_option maxRecDepth 100000
set_option maxHeartbeats 4000000
namespace Kn
open PySem L2
local macro_rules | `(tactic| walk_at "st") => `(tactic| repeat' (first
  | with_reducible refine r_seq ?_ | with_reducible refine r_set ?_ | with_reducible refine r_ret ?_ | with_reducible refine r_retN ?_ | with_reducible refine r_drop ?_ | with_reducible refine r_next ?_
  | with_reducible refine r_if ?_ | ((with_reducible refine r_var (v := ?_) ?hs ?_); (case hs => exact rfl)) | with_reducible refine r_c ?_ | with_reducible refine r_op ?_ | with_reducible refine r_I0 ?_
  | with_reducible refine r_test ?_ | with_reducible refine r_B ?_ | with_reducible refine ⟨_, (rfl : V.bl _ = V.bl _), ?_⟩ | with_reducible refine r_not ?_ | with_reducible refine r_or ?_ | with_reducible refine r_and ?_
  | with_reducible refine r_nil ?_ | with_reducible refine r_cons ?_ | with_reducible refine r_call ?_ | with_reducible refine r_cb ?_ | with_reducible refine r_tup ?_ | with_reducible refine r_lst ?_
  | with_reducible refine r_gname ?_ | with_reducible refine r_for ?_ | with_reducible refine r_iList ?_ | with_reducible refine r_iRng1 ?_ | with_reducible refine r_lc ?_ | with_reducible refine r_yes ?_
  | with_reducible refine r_chain ?_ | with_reducible refine r_sfld ?_ | with_reducible refine r_bm ?_ | with_reducible refine r_bm0 ?_ | with_reducible refine r_make ?_ | with_reducible refine r_sl ?_ | with_reducible refine r_nopart ?_ | with_reducible refine r_part ?_ | with_reducible refine r_iEnum ?_ | with_reducible refine r_iRng2 ?_))
local macro_rules | `(tactic| walk_at "sa") => `(tactic| repeat' (first
  | with_reducible refine r_seq ?_ | with_reducible refine r_set ?_ | with_reducible refine r_ret ?_ | with_reducible refine r_retN ?_ | with_reducible refine r_drop ?_ | with_reducible refine r_next ?_
  | with_reducible refine r_if ?_ | ((with_reducible refine r_var (v := ?_) ?hs ?_); (case hs => exact rfl)) | with_reducible refine r_c ?_ | with_reducible refine r_op ?_ | with_reducible refine r_I0 ?_
  | with_reducible refine r_test ?_ | with_reducible refine r_B ?_ | with_reducible refine ⟨_, (rfl : V.bl _ = V.bl _), ?_⟩ | with_reducible refine r_not ?_ | with_reducible refine r_or ?_ | with_reducible refine r_and ?_
  | with_reducible refine r_nil ?_ | with_reducible refine r_cons ?_ | with_reducible refine r_call ?_ | with_reducible refine r_cb ?_ | with_reducible refine r_tup ?_ | with_reducible refine r_lst ?_
  | with_reducible refine r_gname ?_ | with_reducible refine r_for ?_ | with_reducible refine r_iList ?_ | with_reducible refine r_iRng1 ?_ | with_reducible refine r_lc ?_ | with_reducible refine r_yes ?_
  | with_reducible refine r_chain ?_ | with_reducible refine r_sfld ?_ | with_reducible refine r_bm ?_ | with_reducible refine r_bm0 ?_ | with_reducible refine r_make ?_ | with_reducible refine r_sl ?_ | with_reducible refine r_nopart ?_ | with_reducible refine r_part ?_ | with_reducible refine r_iEnum ?_ | with_reducible refine r_iRng2 ?_
  | with_reducible refine r_un ?_ | with_reducible refine r_rU ?_ | with_reducible refine r_div ?_ | with_reducible refine r_mod ?_ | with_reducible refine r_pow ?_ | fail))
theorem bound_ex (l : List Int) : ∃ b : Int, ∀ x ∈ l, x < b := by
  induction l with
  | nil => exact ⟨0, fun x h => by simp at h⟩
  | cons a l ih =>
    obtain ⟨b, h⟩ := ih
    refine ⟨max (a + 1) b, fun x m => ?_⟩
    rcases List.mem_cons.mp m with rfl | m
    · omega
    · have := h x m; omega
theorem r_whileN {K : PySem.W.Frag} {D : Ends} {σ : L2.St} {H : Hp} {l : Addr} {ns : List Int} {z : Int} (hl : H l = some (.lst (ns.map .int))) (h2 : σ[2]? = some (some (.ref l))) (h5 : σ[5]? = some (some (.int z))) (z0 : 0 ≤ z)
    (h : ∀ z', 0 ≤ z' → z' ∉ ns → D.nx (σ.set 5 (some (.int z'))) H) : tWhile (tTest (tOp (rIn K false) (tVar 5) (tVar 2))) (tAsg (tOp (rI0 fun i j => .int (i + j)) (tVar 5) (tC (.int 1))) (gName 5)) D σ H := by
  obtain ⟨b, hb⟩ := bound_ex ns
  have s5 : σ.set 5 (some (.int z)) = σ := by
    refine List.ext_getElem? fun i => ?_
    by_cases e : 5 = i
    · subst e
      have hi := (List.getElem?_eq_some_iff.mp h5).1
      rw [List.getElem?_set_self hi, h5]
    · rw [List.getElem?_set_ne e]
  have hi := (List.getElem?_eq_some_iff.mp h5).1
  refine ⟨fun m σ' H' => ∃ z' : Int, 0 ≤ z' ∧ m = (b - z').toNat ∧ σ' = σ.set 5 (some (.int z')) ∧ H' = H, ⟨_, z, z0, rfl, s5.symm, rfl⟩, ?_⟩
  rintro m σ' H' ⟨z', z0', rfl, rfl, rfl⟩
  refine r_test ?_
  refine r_op ?_
  refine ⟨.int z', by rw [List.getElem?_set_self hi], .ref l, by rw [List.getElem?_set_ne (by decide)]; exact h2, ?_⟩
  refine ⟨l, _, rfl, .inl (SqL.of hl), rfl, flat_ints _, _, rfl, ?_⟩
  rw [inV_ints]
  by_cases m : z' ∈ ns
  · rw [decide_eq_true m]
    refine iteT ?_
    have := hb z' m
    refine ⟨fun σ' H' => ∃ z2 : Int, z2 = z' + 1 ∧ σ' = σ.set 5 (some (.int z2)) ∧ H' = _, fun σ2 H2 ⟨z2, e, e2, e3⟩ => ⟨(b - z2).toNat, by omega, z2, by omega, rfl, e2, e3⟩, ?_⟩
    refine r_set ?_
    refine r_op ?_
    refine ⟨.int z', by rw [List.getElem?_set_self hi], ?_⟩
    refine ⟨z', 1, rfl, rfl, ?_⟩
    exact ⟨z' + 1, rfl, by rw [List.set_set], rfl⟩
  · rw [decide_eq_false m]
    refine iteF ?_
    exact h z' z0' m
section
variable {P : Program} {w : World} {K : PySem.W.Frag} {mg : Str → Option Value} {base : Heap}
def spNames (K : PySem.W.Frag) : Sp := fun vs H Q _ => ∃ (a : Addr) (sc : List Int) (n : Nat), vs = [.ref a, .int n] ∧ SqL K H a (sc.map .int) ∧ 1 ≤ n ∧ n ≤ 10 ∧
  ∀ ns : List Int, NamesOk ns → ns.length = n → NewL (ns.map .int) H Q
theorem sc_names : FnScope ["_law_script", "_law_size", "_law_names_here", "_law_k", "_law_cell", "_law_name"] ["_law_script", "_law_size"] (defScope s_law_names) := ⟨rfl, rfl, rfl, by decide +kernel, rfl, by decide +kernel, by decide +kernel⟩
theorem ok_names (T : Tx K mg) : Fn P w K mg base 2 (He.ga K "_law_names") [] (spNames K) := by
  refine mkFn T.F_law_names sc_names (fun _ _ _ _ _ _ us hl => match us, hl with | [_, _], _ => rfl) (fun vs H Q E h => ?_) (fun cdv A outer s H vs Q E hr h => ?_)
  · obtain ⟨a, sc, n, rfl, _⟩ := h; rfl
  · obtain ⟨a, sc, n, rfl, ha, n0, n1, k⟩ := h
    have nd := sc_names.nd
    refine ⟨_, pss_cons (ps_set (i := 2) nd rfl (.inl rfl) (pe_lst pa_nil))
      (pss_cons (ps_for (passes_of rfl) rfl (pi_range1 (by rfl) T.b_range (pa_cons (pv 1) pa_nil)) (pg_name (i := 3) nd rfl (.inl rfl))
        (pss_cons (ps_set (i := 4) nd rfl (.inl rfl) (cf (ok_cell T) hr T.g_law_cell_at passL (pa_cons (pv 0) (pa_cons (pe_op op_add pe_int (pv 3)) pa_nil))))
        (pss_cons (ps_set (i := 5) nd rfl (.inl rfl) (pe_op op_mod (pe_op op_fdiv (pv 4) pe_int) pe_int))
        (pss_cons (ps_if (pt_cmpR op_eq (pe_op op_mod (pv 4) pe_int) pe_int (nomark _)) (pss_one (ps_set (i := 5) nd rfl (.inl rfl) (pe_op op_mod (pe_op op_fdiv (pv 4) pe_int) (pe_op op_sub (pe_op op_pow pe_int pe_int) pe_int)))) pss_nil)
        (pss_cons (ps_while (passes_of rfl) (pt_cmpR op_in_seq (pv 5) (pv 2) (by rfl)) (pss_one (ps_set (i := 5) nd rfl (.inl rfl) (pe_op op_add (pv 5) pe_int))))
        (pss_one (ps_expr (pe_bm PySem.F.plainAttrs_list PySem.F.slot_list_append PySem.F.type_list_append mt_append (pv 2) (pa_cons (pv 5) pa_nil)))))))))
      (pss_cons (ps_if (pt_cmpR op_eq (pe_op op_mod (pe_op op_fdiv (cf (ok_cell T) hr T.g_law_cell_at passL (pa_cons (pv 0) (pa_cons pe_int pa_nil))) pe_int) pe_int) pe_int (nomark _)) (pss_one (ps_ret (pe_revL (pv 2)))) pss_nil)
      (pss_one (ps_ret (pv 2))))), ?_⟩
    walk_at "sa"
    refine ⟨szl (by show 0 ≤ 100000; decide), fun p np => ?_⟩
    walk_at "sa"
    refine ⟨_, rfl, by omega, by omega, ?_⟩
    refine for_it walk_range (fun i σ H' => Same H H' ∧ ∃ (ns : List Int) (x3 x4 x5 : Option V), σ = [some (.ref a), some (.int n), some (.ref p), x3, x4, x5] ∧ H' p = some (.lst (ns.map .int)) ∧ ns.length = i ∧ ns.Nodup ∧ ∀ x ∈ ns, 0 ≤ x)
      ⟨Same.new np, [], none, none, none, rfl, upd_same, rfl, List.nodup_nil, fun x h => by simp at h⟩ (fun _ _ _ _ _ => trivial) ?_ ?_
    · rintro i y σ H1 H1' hi ⟨e1, ns, x3, x4, x5, rfl, hp, hl, hnd, hz⟩ ⟨rfl, rfl⟩
      have hi' : i < n := by omega
      have fin : ∀ z' : Int, 0 ≤ z' → z' ∉ ns → Same H (upd H1' p (.lst (ns.map .int ++ [.int z']))) ∧ ∃ (ns' : List Int) (x3 x4 x5 : Option V), upd H1' p (.lst (ns.map .int ++ [.int z'])) p = some (.lst (ns'.map .int)) ∧ ns'.length = i + 1 ∧ ns'.Nodup ∧ ∀ x ∈ ns', 0 ≤ x := fun z' z0 nm =>
        ⟨Same.mut e1 np, ns ++ [z'], none, none, none, by rw [List.map_append]; exact upd_same, by rw [List.length_append, hl]; rfl, nd_snoc hnd nm, fun x m => by
          rcases List.mem_append.mp m with u | u
          · exact hz x u
          · rw [List.mem_singleton.mp u]; exact z0⟩
      walk_at "sa"
      refine ⟨a, sc, _, rfl, e1.seq ha, by omega, fun c => ?_⟩
      walk_at "sa"
      refine ⟨rfl, _, rfl, ?_⟩
      refine ite2 (fun _ => ?_) (fun _ => ?_)
      · walk_at "sa"
        refine r_whileN (ns := ns) hp rfl rfl (Int.emod_nonneg _ (by decide +kernel)) fun z' z0 nm => ?_
        walk_at "sa"
        refine ⟨.inl ⟨rfl, _, SqL.of hp⟩, ?_⟩
        walk_at "sa"
        refine ⟨p, _, _, rfl, rfl, hp, sll (by rw [List.length_map]; omega), ?_⟩
        obtain ⟨f1, ns', _, _, _, f2⟩ := fin z' z0 nm
        exact ⟨f1, ns', _, _, _, rfl, f2⟩
      · walk_at "sa"
        refine r_whileN (ns := ns) hp rfl rfl (Int.emod_nonneg _ (by decide)) fun z' z0 nm => ?_
        walk_at "sa"
        refine ⟨.inl ⟨rfl, _, SqL.of hp⟩, ?_⟩
        walk_at "sa"
        refine ⟨p, _, _, rfl, rfl, hp, sll (by rw [List.length_map]; omega), ?_⟩
        obtain ⟨f1, ns', _, _, _, f2⟩ := fin z' z0 nm
        exact ⟨f1, ns', _, _, _, rfl, f2⟩
    · rintro σ H1 ⟨e1, ns, x3, x4, x5, rfl, hp, hl, hnd, hz⟩
      have hl : ns.length = n := by omega
      walk_at "sa"
      refine ⟨a, sc, _, rfl, e1.seq ha, by decide, fun c => ?_⟩
      walk_at "sa"
      refine ⟨rfl, _, rfl, ?_⟩
      refine ite2 (fun _ => ?_) (fun _ => ?_)
      · walk_at "sa"
        refine ⟨.ref p, rfl, p, _, rfl, SqL.of hp, fun q nq => ?_⟩
        rw [← List.map_reverse]
        exact (k ns.reverse ⟨by rw [List.length_reverse, hl]; exact n0, by rw [List.length_reverse, hl]; exact n1, (List.reverse_perm ns).nodup_iff.mpr hnd, fun x m => hz x (List.mem_reverse.mp m)⟩ (by rw [List.length_reverse, hl])).go e1 nq
      · walk_at "sa"
        exact k ns ⟨by rw [hl]; exact n0, by rw [hl]; exact n1, hnd, hz⟩ hl p H1 np e1 hp
end
end Kn
set_option Elab.async false
set_option linter.all false
set_option maxRecDepth 100000
set_option maxHeartbeats 4000000
namespace Kn
open PySem L2
local macro_rules | `(tactic| walk_at "st") => `(tactic| repeat' (first
  | with_reducible refine r_seq ?_ | with_reducible refine r_set ?_ | with_reducible refine r_ret ?_ | with_reducible refine r_retN ?_ | with_reducible refine r_drop ?_ | with_reducible refine r_next ?_
  | with_reducible refine r_if ?_ | ((with_reducible refine r_var (v := ?_) ?hs ?_); (case hs => exact rfl)) | with_reducible refine r_c ?_ | with_reducible refine r_op ?_ | with_reducible refine r_I0 ?_
  | with_reducible refine r_test ?_ | with_reducible refine r_B ?_ | with_reducible refine ⟨_, (rfl : V.bl _ = V.bl _), ?_⟩ | with_reducible refine r_not ?_ | with_reducible refine r_or ?_ | with_reducible refine r_and ?_
  | with_reducible refine r_nil ?_ | with_reducible refine r_cons ?_ | with_reducible refine r_call ?_ | with_reducible refine r_cb ?_ | with_reducible refine r_tup ?_ | with_reducible refine r_lst ?_
  | with_reducible refine r_gname ?_ | with_reducible refine r_for ?_ | with_reducible refine r_iList ?_ | with_reducible refine r_iRng1 ?_ | with_reducible refine r_lc ?_ | with_reducible refine r_yes ?_
  | with_reducible refine r_chain ?_ | with_reducible refine r_sfld ?_ | with_reducible refine r_bm ?_ | with_reducible refine r_bm0 ?_ | with_reducible refine r_make ?_ | with_reducible refine r_sl ?_ | with_reducible refine r_nopart ?_ | with_reducible refine r_part ?_ | with_reducible refine r_iEnum ?_ | with_reducible refine r_iRng2 ?_))
local macro_rules | `(tactic| walk_at "sa") => `(tactic| repeat' (first
  | with_reducible refine r_seq ?_ | with_reducible refine r_set ?_ | with_reducible refine r_ret ?_ | with_reducible refine r_retN ?_ | with_reducible refine r_drop ?_ | with_reducible refine r_next ?_
  | with_reducible refine r_if ?_ | ((with_reducible refine r_var (v := ?_) ?hs ?_); (case hs => exact rfl)) | with_reducible refine r_c ?_ | with_reducible refine r_op ?_ | with_reducible refine r_I0 ?_
  | with_reducible refine r_test ?_ | with_reducible refine r_B ?_ | with_reducible refine ⟨_, (rfl : V.bl _ = V.bl _), ?_⟩ | with_reducible refine r_not ?_ | with_reducible refine r_or ?_ | with_reducible refine r_and ?_
  | with_reducible refine r_nil ?_ | with_reducible refine r_cons ?_ | with_reducible refine r_call ?_ | with_reducible refine r_cb ?_ | with_reducible refine r_tup ?_ | with_reducible refine r_lst ?_
  | with_reducible refine r_gname ?_ | with_reducible refine r_for ?_ | with_reducible refine r_iList ?_ | with_reducible refine r_iRng1 ?_ | with_reducible refine r_lc ?_ | with_reducible refine r_yes ?_
  | with_reducible refine r_chain ?_ | with_reducible refine r_sfld ?_ | with_reducible refine r_bm ?_ | with_reducible refine r_bm0 ?_ | with_reducible refine r_make ?_ | with_reducible refine r_sl ?_ | with_reducible refine r_nopart ?_ | with_reducible refine r_part ?_ | with_reducible refine r_iEnum ?_ | with_reducible refine r_iRng2 ?_
  | with_reducible refine r_un ?_ | with_reducible refine r_rU ?_ | with_reducible refine r_div ?_ | with_reducible refine r_mod ?_ | with_reducible refine r_pow ?_ | fail))
theorem lets_ok (l g : Int) (h : 1 ≤ l ∧ l ≤ 7) (hg : 0 ≤ g ∧ g < 3) : 1 ≤ Builtin.bitOr l (1 * 2 ^ g.toNat) ∧ Builtin.bitOr l (1 * 2 ^ g.toNat) ≤ 7 := by
  have hl : l = 1 ∨ l = 2 ∨ l = 3 ∨ l = 4 ∨ l = 5 ∨ l = 6 ∨ l = 7 := by omega
  have hg : g = 0 ∨ g = 1 ∨ g = 2 := by omega
  rcases hl with rfl | rfl | rfl | rfl | rfl | rfl | rfl <;> rcases hg with rfl | rfl | rfl <;> decide +kernel
theorem pair_ok (c n : Int) (h : 2 ≤ n ∧ n ≤ 10) : 0 ≤ c / 2 % n ∧ c / 2 % n < n ∧ 0 ≤ (c / 2 % n + 1 + c / 13 % (n - 1)) % n ∧ (c / 2 % n + 1 + c / 13 % (n - 1)) % n < n ∧ c / 2 % n ≠ (c / 2 % n + 1 + c / 13 % (n - 1)) % n := by
  rcases (by omega : n = 2 ∨ n = 3 ∨ n = 4 ∨ n = 5 ∨ n = 6 ∨ n = 7 ∨ n = 8 ∨ n = 9 ∨ n = 10) with rfl | rfl | rfl | rfl | rfl | rfl | rfl | rfl | rfl <;> omega
theorem ite_gen {b : Bool} {t1 : TS} {D : Ends} {σ : L2.St} {H : Hp} {α : Type} (P : α → Prop) (S : α → L2.St) (h0 : b = false → ∃ a, P a ∧ S a = σ) (h1 : b = true → ∀ D' : Ends, (∀ a, P a → D'.nx (S a) H) → t1 D' σ H) (k : ∀ a, P a → D.nx (S a) H) :
    if b = true then t1 D σ H else tNext D σ H := by
  cases b with
  | true => rw [if_pos rfl]; exact h1 rfl D k
  | false =>
    rw [if_neg (by decide)]
    obtain ⟨a, p, rfl⟩ := h0 rfl
    exact k a p
section
variable {P : Program} {w : World} {K : PySem.W.Frag} {mg : Str → Option Value} {base : Heap}
def spRopes (K : PySem.W.Frag) : Sp := fun vs H Q _ => ∃ (a : Addr) (sc : List Int) (n : Nat) (g : Int), vs = [.ref a, .int n, .int g] ∧ SqL K H a (sc.map .int) ∧ 1 ≤ n ∧ n ≤ 10 ∧ G3 g ∧
  ∀ (ropes : List Rope) (pk : List Addr) p H', Same H H' → H p = none → H' p = some (.lst (pk.map .ref)) → Tups H' pk (ropes.map Rope.v) → ropes.length ≤ 14 → (∀ r ∈ ropes, r.Ok n) → Q (.ref p) H'
theorem sc_ropes : FnScope ["_law_script", "_law_size", "_law_group", "_law_ropes_here", "_law_many", "_law_k", "_law_cell", "_law_one", "_law_other", "_law_rest", "_law_cost", "_law_lets"] ["_law_script", "_law_size", "_law_group"] (defScope s_law_ropes) := ⟨rfl, rfl, rfl, by decide +kernel, rfl, by decide +kernel, by decide +kernel⟩
theorem ok_ropes (T : Tx K mg) : Fn P w K mg base 2 (He.ga K "_law_ropes") [] (spRopes K) := by
  refine mkFn T.F_law_ropes sc_ropes (fun _ _ _ _ _ _ us hl => match us, hl with | [_, _, _], _ => rfl) (fun vs H Q E h => ?_) (fun cdv A outer s H vs Q E hr h => ?_)
  · obtain ⟨a, sc, n, g, rfl, _⟩ := h; rfl
  · obtain ⟨a, sc, n, g, rfl, ha, n0, n1, hg, k⟩ := h
    have nd := sc_ropes.nd
    refine ⟨_, pss_cons (ps_set (i := 3) nd rfl (.inl rfl) (pe_lst pa_nil))
      (pss_cons (ps_set (i := 4) nd rfl (.inl rfl) pe_int)
      (pss_cons (ps_if (pt_cmpR op_gt (pv 1) pe_int (nomark _)) (pss_one (ps_set (i := 4) nd rfl (.inl rfl) (pe_op op_add (pe_op op_sub (pv 1) pe_int) (pe_op op_mod (pe_op op_fdiv (cf (ok_cell T) hr T.g_law_cell_at passL (pa_cons (pv 0) (pa_cons pe_int pa_nil))) pe_int) pe_int)))) pss_nil)
      (pss_cons (ps_for (passes_of rfl) rfl (pi_range1 (by rfl) T.b_range (pa_cons (pv 4) pa_nil)) (pg_name (i := 5) nd rfl (.inl rfl))
        (pss_cons (ps_set (i := 6) nd rfl (.inl rfl) (cf (ok_cell T) hr T.g_law_cell_at passL (pa_cons (pv 0) (pa_cons (pe_op op_add pe_int (pv 5)) pa_nil))))
        (pss_cons (ps_set (i := 7) nd rfl (.inl rfl) (pe_op op_mod (pe_op op_fdiv (pv 6) pe_int) (pv 1)))
        (pss_cons (ps_set (i := 8) nd rfl (.inl rfl) (pe_op op_mod (pe_op op_add (pe_op op_add (pv 7) pe_int) (pe_op op_mod (pe_op op_fdiv (pv 6) pe_int) (pe_op op_sub (pv 1) pe_int))) (pv 1)))
        (pss_cons (ps_if (pt_cmpR op_lt (pv 5) (pe_op op_sub (pv 1) pe_int) (nomark _)) (pss_cons (ps_set (i := 7) nd rfl (.inl rfl) (pe_op op_add (pv 5) pe_int)) (pss_one (ps_set (i := 8) nd rfl (.inl rfl) (pe_op op_mod (pe_op op_fdiv (pv 6) pe_int) (pe_op op_add (pv 5) pe_int))))) pss_nil)
        (pss_cons (ps_set (i := 9) nd rfl (.inl rfl) (pe_op op_fdiv (pv 6) pe_int))
        (pss_cons (ps_set (i := 10) nd rfl (.inl rfl) (pe_op op_add pe_int (pe_op op_mod (pv 9) pe_int)))
        (pss_cons (ps_if (pt_cmpR op_eq (pe_op op_mod (pe_op op_fdiv (pv 9) pe_int) pe_int) pe_int (nomark _)) (pss_one (ps_set (i := 10) nd rfl (.inl rfl) (pe_op op_add pe_int (pe_op op_mod (pe_op op_fdiv (pv 9) pe_int) (pe_op op_sub (pe_op op_pow pe_int pe_int) pe_int))))) pss_nil)
        (pss_cons (ps_set (i := 11) nd rfl (.inl rfl) (pe_op op_add pe_int (pe_op op_mod (pe_op op_fdiv (pv 9) pe_int) pe_int)))
        (pss_cons (ps_if (pt_cmpR op_gt (pe_op op_mod (pe_op op_fdiv (pv 9) pe_int) pe_int) pe_int (nomark _)) (pss_one (ps_set (i := 11) nd rfl (.inl rfl) (pe_op op_or (pv 11) (pe_op op_shl pe_int (pv 2))))) pss_nil)
        (pss_cons (ps_if (pt_cmpR op_eq (pe_op op_mod (pv 6) pe_int) pe_int (nomark _)) (pss_one (ps_par (i := 7) (j := 8) rfl nd rfl rfl (by decide) rfl rfl (pa_cons (pv 8) (pa_cons (pv 7) pa_nil)) rfl)) pss_nil)
        (pss_one (ps_expr (pe_bm PySem.F.plainAttrs_list PySem.F.slot_list_append PySem.F.type_list_append mt_append (pv 3) (pa_cons (pe_tup (pa_cons (pv 7) (pa_cons (pv 8) (pa_cons (pv 10) (pa_cons (pe_op op_add pe_int (pe_op op_mod (pe_op op_fdiv (pv 9) pe_int) pe_int)) (pa_cons (pv 11) pa_nil)))))) pa_nil)))))))))))))))
      (pss_one (ps_ret (pv 3)))))), ?_⟩
    walk_at "sa"
    refine ⟨szl (by show 0 ≤ 100000; decide), fun p np => ?_⟩
    have e0 : Same H (upd H p (.lst [])) := Same.new np
    walk_at "sa"
    refine ite_gen (fun z : Int => 0 ≤ z ∧ z ≤ 14 ∧ (1 ≤ z → 2 ≤ n)) (fun z => [some (.ref a), some (.int n), some (.int g), some (.ref p), some (.int z), none, none, none, none, none, none, none]) (fun _ => ⟨0, ⟨by omega, by omega, by omega⟩, rfl⟩) (fun hb D' h => ?_) (fun z hz => ?_)
    · have hb := of_decide_eq_true hb
      walk_at "sa"
      refine ⟨a, sc, _, rfl, e0.seq ha, by decide, fun c => ?_⟩
      walk_at "sa"
      exact h _ ⟨by omega, by omega, by omega⟩
    · obtain ⟨z0, z1, z2⟩ := hz
      walk_at "sa"
      refine ⟨_, rfl, by omega, by omega, ?_⟩
      refine for_it walk_range (fun i σ H' => Same H H' ∧ ∃ (ropes : List Rope) (pk : List Addr) (x5 x6 x7 x8 x9 x10 x11 : Option V), σ = [some (.ref a), some (.int n), some (.int g), some (.ref p), some (.int z), x5, x6, x7, x8, x9, x10, x11] ∧ H' p = some (.lst (pk.map .ref)) ∧ Tups H' pk (ropes.map Rope.v) ∧ ropes.length = i ∧ ∀ r ∈ ropes, Rope.Ok r n)
        ⟨e0, [], [], none, none, none, none, none, none, none, rfl, upd_same, .nil, rfl, fun x h => by simp at h⟩ (fun _ _ _ _ _ => trivial) ?_ ?_
      · rintro i y σ H1 H1' hi ⟨e1, ropes, pk, x5, x6, x7, x8, x9, x10, x11, rfl, hp, hpk, hl, hok⟩ ⟨rfl, rfl⟩
        have hz1 : (i : Int) < z := by omega
        have hn : 2 ≤ n := z2 (by omega)
        walk_at "sa"
        refine ⟨a, sc, _, rfl, e1.seq ha, by omega, fun c => ?_⟩
        walk_at "sa"
        refine r_mod ?_ (by omega)
        walk_at "sa"
        refine r_mod ?_ (by omega)
        walk_at "sa"
        refine r_mod ?_ (by omega)
        obtain ⟨p1, p2, p3, p4, p5⟩ := pair_ok c n ⟨by omega, by omega⟩
        walk_at "sa"
        refine ite_gen (fun q : Int × Int => 0 ≤ q.1 ∧ q.1 < n ∧ 0 ≤ q.2 ∧ q.2 < n ∧ q.1 ≠ q.2) (fun q => [some (.ref a), some (.int n), some (.int g), some (.ref p), some (.int z), some (.int (0 + (i : Nat))), some (.int c), some (.int q.1), some (.int q.2), x9, x10, x11])
          (fun _ => ⟨(_, _), ⟨p1, p2, p3, p4, p5⟩, rfl⟩) (fun hb D' h => ?_) (fun q hq => ?_)
        · have hb := of_decide_eq_true hb
          walk_at "sa"
          refine r_mod ?_ (by omega)
          walk_at "sa"
          have y0 := Int.emod_nonneg (c / 2) (show (0 + (i : Int) + 1) ≠ 0 by omega)
          have y1 := Int.emod_lt_of_pos (c / 2) (show 0 < (0 + (i : Int) + 1) by omega)
          exact h (_, _) ⟨by show 0 ≤ (0 + (i : Int) + 1); omega, by show (0 + (i : Int) + 1) < _; omega, y0, by show c / 2 % (0 + (i : Int) + 1) < n; omega, by show (0 + (i : Int) + 1) ≠ c / 2 % (0 + (i : Int) + 1); omega⟩
        · obtain ⟨q0, q1, q2, q3, q4⟩ := hq
          walk_at "sa"
          refine ⟨rfl, _, rfl, ?_⟩
          refine ite_gen (fun u : Int => 1 ≤ u) (fun u => [some (.ref a), some (.int n), some (.int g), some (.ref p), some (.int z), some (.int (0 + (i : Nat))), some (.int c), some (.int q.1), some (.int q.2), some (.int (c / 97)), some (.int u), x11])
            (fun _ => ⟨_, by show 1 ≤ 1 + c / 97 % 3; omega, rfl⟩) (fun hb D' h => ?_) (fun u hu => ?_)
          · walk_at "sa"
            refine h _ ?_
            have := Int.emod_nonneg (c / 97 / 9) (show (10 : Int) ^ (60 : Int).toNat - 1 ≠ 0 by decide +kernel)
            omega
          · walk_at "sa"
            refine ite_gen (fun v : Int => 1 ≤ v ∧ v ≤ 7) (fun v => [some (.ref a), some (.int n), some (.int g), some (.ref p), some (.int z), some (.int (0 + (i : Nat))), some (.int c), some (.int q.1), some (.int q.2), some (.int (c / 97)), some (.int u), some (.int v)])
              (fun _ => ⟨_, (by show 1 ≤ 1 + c / 97 / 11 % 7 ∧ 1 + c / 97 / 11 % 7 ≤ 7; omega), rfl⟩) (fun hb D' h => ?_) (fun v hv => ?_)
            · walk_at "sa"
              refine r_I (C := CPow) ⟨hg.1, by have := hg.2; omega, show (1 : Int).natAbs < 2 ^ 64 by decide⟩ ?_
              walk_at "sa"
              exact h _ (lets_ok _ _ (by omega) hg)
            · walk_at "sa"
              refine ⟨rfl, _, rfl, ?_⟩
              refine ite_gen (fun q : Int × Int => 0 ≤ q.1 ∧ q.1 < n ∧ 0 ≤ q.2 ∧ q.2 < n ∧ q.1 ≠ q.2) (fun q => [some (.ref a), some (.int n), some (.int g), some (.ref p), some (.int z), some (.int (0 + (i : Nat))), some (.int c), some (.int q.1), some (.int q.2), some (.int (c / 97)), some (.int u), some (.int v)])
                (fun _ => ⟨q, ⟨q0, q1, q2, q3, q4⟩, rfl⟩) (fun hb D' h => ?_) (fun q hq => ?_)
              · refine r_cons ?_
                walk_at "sa"
                exact ⟨_, _, rfl, h (q.2, q.1) ⟨q2, q3, q0, q1, Ne.symm q4⟩⟩
              · walk_at "sa"
                refine ⟨.inl ⟨rfl, _, SqL.of hp⟩, ?_⟩
                walk_at "sa"
                refine ⟨szl (by show 5 ≤ 100000; decide), fun t nt => ?_⟩
                have e2 : Same H1' (upd H1' t (.tup (Rope.v ⟨q.1, q.2, u, 1 + c / 97 / 5 % 4, v⟩))) := Same.new nt
                have npt : p ≠ t := ne_of_none hp nt
                refine ⟨p, _, _, rfl, rfl, e2 _ _ hp, sll (by rw [List.length_map, hpk.1, List.length_map]; omega), ?_⟩
                refine ⟨Same.mut (e1.trans e2) np, ropes ++ [⟨q.1, q.2, u, 1 + c / 97 / 5 % 4, v⟩], pk ++ [t], _, _, _, _, _, _, _, rfl, by rw [List.map_append]; exact upd_same, ?_, by rw [List.length_append, hl]; rfl, fun r m => ?_⟩
                · rw [List.map_append]
                  have hz : Tups (upd (upd H1' t (.tup (Rope.v ⟨q.1, q.2, u, 1 + c / 97 / 5 % 4, v⟩))) p (.lst (pk.map V.ref ++ [V.ref t]))) pk (ropes.map Rope.v) := ⟨hpk.1, fun j b xs a1 a2 => by
                    have z := e2 _ _ (hpk.2 j b xs a1 a2)
                    rw [upd_ne (ne_of z (e2 _ _ hp) (by intro y; cases y))]; exact z⟩
                  exact hz.snoc (by rw [upd_ne (Ne.symm npt)]; exact upd_same)
                · rcases List.mem_append.mp m with w | w
                  · exact hok r w
                  · rw [List.mem_singleton.mp w]
                    exact ⟨hq.1, hq.2.1, hq.2.2.1, hq.2.2.2.1, hq.2.2.2.2, hu, by show 1 ≤ 1 + c / 97 / 5 % 4; omega, by show 1 + c / 97 / 5 % 4 ≤ 4; omega, hv.1, hv.2⟩
      · rintro σ H1 ⟨e1, ropes, pk, x5, x6, x7, x8, x9, x10, x11, rfl, hp, hpk, hl, hok⟩
        walk_at "sa"
        exact k ropes pk p H1 e1 np hp hpk (by omega) hok
end
end Kn
set_option Elab.async false
set_option linter.all false
set_option maxRecDepth 100000
set_option maxHeartbeats 4000000
namespace Kn
open PySem L2
local macro_rules | `(tactic| walk_at "st") => `(tactic| repeat' (first
  | with_reducible refine r_seq ?_ | with_reducible refine r_set ?_ | with_reducible refine r_ret ?_ | with_reducible refine r_retN ?_ | with_reducible refine r_drop ?_ | with_reducible refine r_next ?_
  | with_reducible refine r_if ?_ | ((with_reducible refine r_var (v := ?_) ?hs ?_); (case hs => exact rfl)) | with_reducible refine r_c ?_ | with_reducible refine r_op ?_ | with_reducible refine r_I0 ?_
  | with_reducible refine r_test ?_ | with_reducible refine r_B ?_ | with_reducible refine ⟨_, (rfl : V.bl _ = V.bl _), ?_⟩ | with_reducible refine r_not ?_ | with_reducible refine r_or ?_ | with_reducible refine r_and ?_
  | with_reducible refine r_nil ?_ | with_reducible refine r_cons ?_ | with_reducible refine r_call ?_ | with_reducible refine r_cb ?_ | with_reducible refine r_tup ?_ | with_reducible refine r_lst ?_
  | with_reducible refine r_gname ?_ | with_reducible refine r_for ?_ | with_reducible refine r_iList ?_ | with_reducible refine r_iRng1 ?_ | with_reducible refine r_lc ?_ | with_reducible refine r_yes ?_
  | with_reducible refine r_chain ?_ | with_reducible refine r_sfld ?_ | with_reducible refine r_bm ?_ | with_reducible refine r_bm0 ?_ | with_reducible refine r_make ?_ | with_reducible refine r_sl ?_ | with_reducible refine r_nopart ?_ | with_reducible refine r_part ?_ | with_reducible refine r_iEnum ?_ | with_reducible refine r_iRng2 ?_))
local macro_rules | `(tactic| walk_at "sa") => `(tactic| repeat' (first
  | with_reducible refine r_seq ?_ | with_reducible refine r_set ?_ | with_reducible refine r_ret ?_ | with_reducible refine r_retN ?_ | with_reducible refine r_drop ?_ | with_reducible refine r_next ?_
  | with_reducible refine r_if ?_ | ((with_reducible refine r_var (v := ?_) ?hs ?_); (case hs => exact rfl)) | with_reducible refine r_c ?_ | with_reducible refine r_op ?_ | with_reducible refine r_I0 ?_
  | with_reducible refine r_test ?_ | with_reducible refine r_B ?_ | with_reducible refine ⟨_, (rfl : V.bl _ = V.bl _), ?_⟩ | with_reducible refine r_not ?_ | with_reducible refine r_or ?_ | with_reducible refine r_and ?_
  | with_reducible refine r_nil ?_ | with_reducible refine r_cons ?_ | with_reducible refine r_call ?_ | with_reducible refine r_cb ?_ | with_reducible refine r_tup ?_ | with_reducible refine r_lst ?_
  | with_reducible refine r_gname ?_ | with_reducible refine r_for ?_ | with_reducible refine r_iList ?_ | with_reducible refine r_iRng1 ?_ | with_reducible refine r_lc ?_ | with_reducible refine r_yes ?_
  | with_reducible refine r_chain ?_ | with_reducible refine r_sfld ?_ | with_reducible refine r_bm ?_ | with_reducible refine r_bm0 ?_ | with_reducible refine r_make ?_ | with_reducible refine r_sl ?_ | with_reducible refine r_nopart ?_ | with_reducible refine r_part ?_ | with_reducible refine r_iEnum ?_ | with_reducible refine r_iRng2 ?_
  | with_reducible refine r_un ?_ | with_reducible refine r_rU ?_ | with_reducible refine r_div ?_ | with_reducible refine r_mod ?_ | with_reducible refine r_pow ?_ | fail))
section
variable {P : Program} {w : World} {K : PySem.W.Frag} {mg : Str → Option Value} {base : Heap}
def spCallers (K : PySem.W.Frag) : Sp := fun vs H Q _ => ∃ (a : Addr) (sc : List Int) (n : Nat) (g : Int), vs = [.ref a, .int n, .int g] ∧ SqL K H a (sc.map .int) ∧ 1 ≤ n ∧ n ≤ 10 ∧ G3 g ∧
  ∀ (qs : List (Int × Int)) (pk : List Addr) p H', Same H H' → H p = none → H' p = some (.lst (pk.map .ref)) → Tups H' pk (qs.map pairV) → 1 ≤ qs.length → qs.length ≤ 20 → (∀ q ∈ qs, 0 ≤ q.1 ∧ q.1 < n ∧ 0 ≤ q.2 ∧ q.2 < 3) → Q (.ref p) H'
theorem sc_callers : FnScope ["_law_script", "_law_size", "_law_group", "_law_callers_here", "_law_most", "_law_k", "_law_cell", "_law_place"] ["_law_script", "_law_size", "_law_group"] (defScope s_law_callers) := ⟨rfl, rfl, rfl, by decide +kernel, rfl, by decide +kernel, by decide +kernel⟩
theorem ok_callers (T : Tx K mg) : Fn P w K mg base 2 (He.ga K "_law_callers") [] (spCallers K) := by
  refine mkFn T.F_law_callers sc_callers (fun _ _ _ _ _ _ us hl => match us, hl with | [_, _, _], _ => rfl) (fun vs H Q E h => ?_) (fun cdv A outer s H vs Q E hr h => ?_)
  · obtain ⟨a, sc, n, g, rfl, _⟩ := h; rfl
  · obtain ⟨a, sc, n, g, rfl, ha, n0, n1, hg, k⟩ := h
    have nd := sc_callers.nd
    refine ⟨_, pss_cons (ps_set (i := 3) nd rfl (.inl rfl) (pe_lst pa_nil))
      (pss_cons (ps_set (i := 4) nd rfl (.inl rfl) (pe_ix ix_list (pe_lst (pa_cons pe_int (pa_cons pe_int (pa_cons pe_int pa_nil)))) (pe_op op_mod (pe_op op_fdiv (cf (ok_cell T) hr T.g_law_cell_at passL (pa_cons (pv 0) (pa_cons pe_int pa_nil))) pe_int) pe_int) (fun _ _ => rfl)))
      (pss_cons (ps_for (passes_of rfl) rfl (pi_range1 (by rfl) T.b_range (pa_cons (pe_op op_add pe_int (pe_op op_mod (pe_op op_fdiv (cf (ok_cell T) hr T.g_law_cell_at passL (pa_cons (pv 0) (pa_cons pe_int pa_nil))) pe_int) (pv 4))) pa_nil)) (pg_name (i := 5) nd rfl (.inl rfl))
        (pss_cons (ps_set (i := 6) nd rfl (.inl rfl) (pe_op op_fdiv (cf (ok_cell T) hr T.g_law_cell_at passL (pa_cons (pv 0) (pa_cons (pe_op op_add pe_int (pe_op op_mod (pv 5) pe_int)) pa_nil))) (pe_op op_add pe_int (pe_op op_mul pe_int (pe_op op_fdiv (pv 5) pe_int)))))
        (pss_cons (ps_set (i := 7) nd rfl (.inl rfl) (pe_op op_mod (pv 6) (pv 1)))
        (pss_one (ps_if (pt_cmpR op_eq (pe_op op_mod (pe_op op_fdiv (pv 6) pe_int) pe_int) pe_int (nomark _))
          (pss_one (ps_expr (pe_bm PySem.F.plainAttrs_list PySem.F.slot_list_append PySem.F.type_list_append mt_append (pv 3) (pa_cons (pe_tup (pa_cons (pv 7) (pa_cons (pe_op op_mod (pe_op op_add (pe_op op_add (pv 2) pe_int) (pe_op op_mod (pe_op op_fdiv (pv 6) pe_int) pe_int)) pe_int) pa_nil))) pa_nil))))
          (pss_one (ps_expr (pe_bm PySem.F.plainAttrs_list PySem.F.slot_list_append PySem.F.type_list_append mt_append (pv 3) (pa_cons (pe_tup (pa_cons (pv 7) (pa_cons (pv 2) pa_nil))) pa_nil)))))))))
      (pss_one (ps_ret (pv 3))))), ?_⟩
    walk_at "sa"
    refine ⟨szl (by show 0 ≤ 100000; decide), fun p np => ?_⟩
    have e0 : Same H (upd H p (.lst [])) := Same.new np
    walk_at "sa"
    refine ⟨szl (by show 3 ≤ 100000; decide), fun p2 np2 => ?_⟩
    have e1 : Same (upd H p (.lst [])) (upd (upd H p (.lst [])) p2 (.lst [.int 6, .int 6, .int 20])) := Same.new np2
    walk_at "sa"
    refine ⟨a, sc, _, rfl, (e0.trans e1).seq ha, by decide, fun c => ?_⟩
    walk_at "sa"
    have z0 := Int.emod_nonneg (c / 7) (show (3 : Int) ≠ 0 by decide)
    obtain ⟨f, hf, fz⟩ : ∃ f : Int, [V.int 6, V.int 6, V.int 20][(c / 7 % 3).toNat]? = some (.int f) ∧ (f = 6 ∨ f = 20) := by
      rcases (by omega : c / 7 % 3 = 0 ∨ c / 7 % 3 = 1 ∨ c / 7 % 3 = 2) with h | h | h
      · rw [h]; exact ⟨6, rfl, .inl rfl⟩
      · rw [h]; exact ⟨6, rfl, .inl rfl⟩
      · rw [h]; exact ⟨20, rfl, .inr rfl⟩
    refine ⟨p2, _, _, _, rfl, rfl, SqL.of upd_same, at_ix z0 hf, ?_⟩
    walk_at "sa"
    refine ⟨a, sc, _, rfl, (e0.trans e1).seq ha, by decide, fun c2 => ?_⟩
    walk_at "sa"
    refine r_mod ?_ (by omega)
    walk_at "sa"
    have m0 := Int.emod_nonneg (c2 / 36) (show f ≠ 0 by omega)
    have m1 := Int.emod_lt_of_pos (c2 / 36) (show 0 < f by omega)
    refine ⟨_, rfl, by omega, by omega, ?_⟩
    refine for_it walk_range (fun i σ H' => Same H H' ∧ ∃ (qs : List (Int × Int)) (pk : List Addr) (x5 x6 x7 : Option V), σ = [some (.ref a), some (.int n), some (.int g), some (.ref p), some (.int f), x5, x6, x7] ∧ H' p = some (.lst (pk.map .ref)) ∧ Tups H' pk (qs.map pairV) ∧ qs.length = i ∧ ∀ q ∈ qs, 0 ≤ q.1 ∧ q.1 < n ∧ 0 ≤ q.2 ∧ q.2 < 3)
      ⟨e0.trans e1, [], [], none, none, none, rfl, e1 _ _ upd_same, .nil, rfl, fun x h => by simp at h⟩ (fun _ _ _ _ _ => trivial) ?_ ?_
    · rintro i y σ H1 H1' hi ⟨e1, qs, pk, x5, x6, x7, rfl, hp, hpk, hl, hok⟩ ⟨rfl, rfl⟩
      have hi2 : i < 20 := by omega
      have fin : ∀ (q : Int × Int) t, H1' t = none → (0 ≤ q.1 ∧ q.1 < n ∧ 0 ≤ q.2 ∧ q.2 < 3) → Same H (upd (upd H1' t (.tup (pairV q))) p (.lst (pk.map V.ref ++ [V.ref t]))) ∧ ∃ (qs' : List (Int × Int)) (pk' : List Addr), upd (upd H1' t (.tup (pairV q))) p (.lst (pk.map V.ref ++ [V.ref t])) p = some (.lst (pk'.map .ref)) ∧
          Tups (upd (upd H1' t (.tup (pairV q))) p (.lst (pk.map V.ref ++ [V.ref t]))) pk' (qs'.map pairV) ∧ qs'.length = i + 1 ∧ ∀ q ∈ qs', 0 ≤ q.1 ∧ q.1 < n ∧ 0 ≤ q.2 ∧ q.2 < 3 := by
        intro q t nt hq
        have e2 : Same H1' (upd H1' t (.tup (pairV q))) := Same.new nt
        have npt : p ≠ t := ne_of_none hp nt
        refine ⟨Same.mut (e1.trans e2) np, qs ++ [q], pk ++ [t], by rw [List.map_append]; exact upd_same, ?_, by rw [List.length_append, hl]; rfl, fun r m => ?_⟩
        · rw [List.map_append]
          have hz : Tups (upd (upd H1' t (.tup (pairV q))) p (.lst (pk.map V.ref ++ [V.ref t]))) pk (qs.map pairV) := ⟨hpk.1, fun j b xs a1 a2 => by
            have z := e2 _ _ (hpk.2 j b xs a1 a2)
            rw [upd_ne (ne_of z (e2 _ _ hp) (by intro y; cases y))]; exact z⟩
          exact hz.snoc (by rw [upd_ne (Ne.symm npt)]; exact upd_same)
        · rcases List.mem_append.mp m with w | w
          · exact hok r w
          · rw [List.mem_singleton.mp w]; exact hq
      have pkl : (pk.map V.ref).length < 100000 := by rw [List.length_map, hpk.1, List.length_map]; omega
      walk_at "sa"
      refine ⟨a, sc, _, rfl, e1.seq ha, by omega, fun c => ?_⟩
      walk_at "sa"
      refine r_I (C := CMul) (.inl ⟨by decide, by decide⟩) ?_
      walk_at "sa"
      refine r_I (C := CDiv) ⟨by omega, by omega⟩ ?_
      walk_at "sa"
      refine r_mod ?_ (by omega)
      generalize c / (1 + 7 * ((0 + (i : Int)) / 6)) = d
      have y0 := Int.emod_nonneg d (show (n : Int) ≠ 0 by omega)
      have y1 := Int.emod_lt_of_pos d (show (0 : Int) < n by omega)
      walk_at "sa"
      refine ⟨rfl, _, rfl, ?_⟩
      refine ite2 (fun _ => ?_) (fun _ => ?_)
      · walk_at "sa"
        refine ⟨.inl ⟨rfl, _, SqL.of hp⟩, ?_⟩
        walk_at "sa"
        refine ⟨szl (by show 2 ≤ 100000; decide), fun t nt => ?_⟩
        obtain ⟨f1, qs', pk', f2⟩ := fin (d % n, (g + 1 + d / 44 % 2) % 3) t nt ⟨y0, y1, by show 0 ≤ (g + 1 + d / 44 % 2) % 3; omega, by show (g + 1 + d / 44 % 2) % 3 < 3; omega⟩
        refine ⟨p, _, _, rfl, rfl, (Same.new nt) _ _ hp, sll pkl, ?_⟩
        exact ⟨f1, qs', pk', _, _, _, rfl, f2⟩
      · walk_at "sa"
        refine ⟨.inl ⟨rfl, _, SqL.of hp⟩, ?_⟩
        walk_at "sa"
        refine ⟨szl (by show 2 ≤ 100000; decide), fun t nt => ?_⟩
        obtain ⟨f1, qs', pk', f2⟩ := fin (d % n, g) t nt ⟨y0, y1, hg.1, hg.2⟩
        refine ⟨p, _, _, rfl, rfl, (Same.new nt) _ _ hp, sll pkl, ?_⟩
        exact ⟨f1, qs', pk', _, _, _, rfl, f2⟩
    · rintro σ H1 ⟨e1, qs, pk, x5, x6, x7, rfl, hp, hpk, hl, hok⟩
      walk_at "sa"
      exact k qs pk p H1 e1 np hp hpk (by omega) (by omega) hok
end
end Kn
set_option Elab.async false
set_option linter.all false
set_option maxRecDepth 100000
set_option maxHeartbeats 4000000
namespace Kn
open PySem L2
local macro_rules | `(tactic| walk_at "st") => `(tactic| repeat' (first
  | with_reducible refine r_seq ?_ | with_reducible refine r_set ?_ | with_reducible refine r_ret ?_ | with_reducible refine r_retN ?_ | with_reducible refine r_drop ?_ | with_reducible refine r_next ?_
  | with_reducible refine r_if ?_ | ((with_reducible refine r_var (v := ?_) ?hs ?_); (case hs => exact rfl)) | with_reducible refine r_c ?_ | with_reducible refine r_op ?_ | with_reducible refine r_I0 ?_
  | with_reducible refine r_test ?_ | with_reducible refine r_B ?_ | with_reducible refine ⟨_, (rfl : V.bl _ = V.bl _), ?_⟩ | with_reducible refine r_not ?_ | with_reducible refine r_or ?_ | with_reducible refine r_and ?_
  | with_reducible refine r_nil ?_ | with_reducible refine r_cons ?_ | with_reducible refine r_call ?_ | with_reducible refine r_cb ?_ | with_reducible refine r_tup ?_ | with_reducible refine r_lst ?_
  | with_reducible refine r_gname ?_ | with_reducible refine r_for ?_ | with_reducible refine r_iList ?_ | with_reducible refine r_iRng1 ?_ | with_reducible refine r_lc ?_ | with_reducible refine r_yes ?_
  | with_reducible refine r_chain ?_ | with_reducible refine r_sfld ?_ | with_reducible refine r_bm ?_ | with_reducible refine r_bm0 ?_ | with_reducible refine r_make ?_ | with_reducible refine r_sl ?_ | with_reducible refine r_nopart ?_ | with_reducible refine r_part ?_ | with_reducible refine r_iEnum ?_ | with_reducible refine r_iRng2 ?_))
local macro_rules | `(tactic| walk_at "sa") => `(tactic| repeat' (first
  | with_reducible refine r_seq ?_ | with_reducible refine r_set ?_ | with_reducible refine r_ret ?_ | with_reducible refine r_retN ?_ | with_reducible refine r_drop ?_ | with_reducible refine r_next ?_
  | with_reducible refine r_if ?_ | ((with_reducible refine r_var (v := ?_) ?hs ?_); (case hs => exact rfl)) | with_reducible refine r_c ?_ | with_reducible refine r_op ?_ | with_reducible refine r_I0 ?_
  | with_reducible refine r_test ?_ | with_reducible refine r_B ?_ | with_reducible refine ⟨_, (rfl : V.bl _ = V.bl _), ?_⟩ | with_reducible refine r_not ?_ | with_reducible refine r_or ?_ | with_reducible refine r_and ?_
  | with_reducible refine r_nil ?_ | with_reducible refine r_cons ?_ | with_reducible refine r_call ?_ | with_reducible refine r_cb ?_ | with_reducible refine r_tup ?_ | with_reducible refine r_lst ?_
  | with_reducible refine r_gname ?_ | with_reducible refine r_for ?_ | with_reducible refine r_iList ?_ | with_reducible refine r_iRng1 ?_ | with_reducible refine r_lc ?_ | with_reducible refine r_yes ?_
  | with_reducible refine r_chain ?_ | with_reducible refine r_sfld ?_ | with_reducible refine r_bm ?_ | with_reducible refine r_bm0 ?_ | with_reducible refine r_make ?_ | with_reducible refine r_sl ?_ | with_reducible refine r_nopart ?_ | with_reducible refine r_part ?_ | with_reducible refine r_iEnum ?_ | with_reducible refine r_iRng2 ?_
  | with_reducible refine r_un ?_ | with_reducible refine r_rU ?_ | with_reducible refine r_div ?_ | with_reducible refine r_mod ?_ | with_reducible refine r_pow ?_ | fail))
inductive Wrong (H : Hp) (C : Cn) (S : NS) : Int → V → V → Str → Prop
  | house {h g : Int} : ¬HIn C h → Wrong H C S 0 (.int h) (.int g) "NoHouse"
  | group0 {h g : Int} : HIn C h → ¬G3 g → Wrong H C S 0 (.int h) (.int g) "NoGroup"
  | asked {g d : Int} : ¬G3 g → S.clean = true → Wrong H C S 1 (.int g) (.int d) "NoGroup"
  | fall {r j : Int} : ¬CanTurn C S r j false → Wrong H C S 2 (.int r) (.int j) "NoWire"
  | lay {r j : Int} : ¬CanTurn C S r j true → Wrong H C S 3 (.int r) (.int j) "NoWire"
  | move1 {c h : Int} : ¬CIn C c → Wrong H C S 4 (.int c) (.int h) "NoCaller"
  | move2 {c h : Int} : CIn C c → ¬HIn C h → Wrong H C S 4 (.int c) (.int h) "NoHouse"
  | post1 {s t : Int} : ¬CIn C s → Wrong H C S 5 (.int s) (.int t) "NoCaller"
  | post2 {s t : Int} : CIn C s → ¬CIn C t → Wrong H C S 5 (.int s) (.int t) "NoCaller"
  | apart {s t : Int} {q q' : Int × Int} : CIn C s → CIn C t → C.people[s.toNat]? = some q → C.people[t.toNat]? = some q' → q'.2 ≠ q.2 → Wrong H C S 5 (.int s) (.int t) "Apart"
  | copy {i : Int} {o : V} : ¬(0 ≤ i ∧ i < S.air.length) → Wrong H C S 6 (.int i) o "NoCopy"
  | letter {i : Int} {o : V} : ¬(0 ≤ i ∧ i < S.ns) → Wrong H C S 7 (.int i) o "NoLetter"
  | had {c : Int} {o : V} : ¬CIn C c → Wrong H C S 8 (.int c) o "NoCaller"
  | place {c : Int} {o : V} : ¬CIn C c → Wrong H C S 9 (.int c) o "NoCaller"
  | town {lc : Addr} {pc : List Addr} {qs : List (Int × Int)} {o : V} : H lc = some (.lst (pc.map .ref)) → Tups H pc (qs.map pairV) → ¬(qs.length ≤ 20 ∧ PplOk C.D qs) → Wrong H C S 10 (.ref lc) o "BadTown"
theorem ifNe {i j : Int} {A B : Prop} (h : (i == j) = false) (b : B) : if decide (V.int i = V.int j) = true then A else B := by
  rw [dec_int, h]; exact b
theorem ifEq {i : Int} {A B : Prop} (a : A) : if decide (V.int i = V.int i) = true then A else B := by
  rw [dec_int, beq_self_eq_true]; exact a
section
variable {P : Program} {w : World} {K : PySem.W.Frag} {mg : Str → Option Value} {base : Heap}
def spAsked (K : PySem.W.Frag) : Sp := fun vs H Q E => ∃ (G : Hp) (C : Cn) (A : Lb → Addr) (S : NS) (c : Nat) (d g : Int), vs = [.ref (A .net), .int d, .int g] ∧ NetAt K G H C A S ∧ Wf C S c ∧ S.clean = true ∧ ¬G3 g ∧ XNo K "NoGroup" H E
theorem sc_asked : FnScope ["_law_net", "_law_deed", "_law_group"] ["_law_net", "_law_deed", "_law_group"] (defScope s_law_asked) := ⟨rfl, rfl, rfl, by decide +kernel, rfl, by decide +kernel, by decide +kernel⟩
theorem ok_asked (T : Tx K mg) : Fn P w K mg base 7 (He.ga K "_law_asked") [] (spAsked K) := by
  refine mkFn T.F_law_asked sc_asked (fun _ _ _ _ _ _ us hl => match us, hl with | [_, _, _], _ => rfl) (fun vs H Q E h => ?_) (fun cdv A outer s H vs Q E hr h => ?_)
  · obtain ⟨G, C, A, S, c, d, g, rfl, _⟩ := h; rfl
  · obtain ⟨G, C, A, S, c, d, g, rfl, N, W, cl, hg, k⟩ := h
    refine ⟨_, pss_cons (ps_if (pt_cmpR op_eq (pv 1) pe_int (nomark _)) (pss_one (ps_ret (cm (pv 0) T.c_Net T.m_Net_rows (ok_nrows T) hr pX (pa_cons (pv 2) pa_nil)))) pss_nil)
      (pss_cons (ps_if (pt_cmpR op_eq (pv 1) pe_int (nomark _)) (pss_one (ps_ret (cm (pv 0) T.c_Net T.m_Net_live (ok_nlive T) hr pX (pa_cons (pv 2) pa_nil)))) pss_nil)
      (pss_cons (ps_if (pt_cmpR op_eq (pv 1) pe_int (nomark _)) (pss_one (ps_ret (cm (pv 0) T.c_Net T.m_Net_opens (ok_nopens T) hr pX (pa_cons (pv 2) pa_nil)))) pss_nil)
      (pss_cons (ps_if (pt_cmpR op_eq (pv 1) pe_int (nomark _)) (pss_one (ps_ret (cm (pv 0) T.c_Net T.m_Net_notes (ok_nnotes T) hr pX (pa_cons (pv 2) pa_nil)))) pss_nil)
      (pss_one (ps_ret (cm (pv 0) T.c_Net T.m_Net_resting (ok_resting T) hr pX (pa_cons (pv 2) pa_nil))))))), ?_⟩
    obtain ⟨dx, h1⟩ := N.net
    have k0 := k H (Same.refl _)
    walk_at "sa"
    refine ⟨rfl, _, rfl, ?_⟩
    refine ite2 (fun _ => ?_) (fun _ => ?_)
    · walk_at "sa"
      refine mz h1 (by decide +kernel) ?_
      walk_at "sa"
      exact ⟨G, C, A, S, g, rfl, N, fun z => absurd z hg, fun _ => k⟩
    · walk_at "sa"
      refine ⟨rfl, _, rfl, ?_⟩
      refine ite2 (fun _ => ?_) (fun _ => ?_)
      · walk_at "sa"
        refine mz h1 (by decide +kernel) ?_
        walk_at "sa"
        exact ⟨G, C, A, S, g, rfl, N, fun z => absurd z hg, fun _ => k0⟩
      · walk_at "sa"
        refine ⟨rfl, _, rfl, ?_⟩
        refine ite2 (fun _ => ?_) (fun _ => ?_)
        · walk_at "sa"
          refine mz h1 (by decide +kernel) ?_
          walk_at "sa"
          exact ⟨G, C, A, S, c, g, rfl, N, W, fun z => absurd z hg, fun _ => k0⟩
        · walk_at "sa"
          refine ⟨rfl, _, rfl, ?_⟩
          refine ite2 (fun _ => ?_) (fun _ => ?_)
          · walk_at "sa"
            refine mz h1 (by decide +kernel) ?_
            walk_at "sa"
            exact ⟨G, C, A, S, g, rfl, N, cl, fun z => absurd z hg, fun _ => k0⟩
          · walk_at "sa"
            refine mz h1 (by decide +kernel) ?_
            walk_at "sa"
            exact ⟨G, C, A, S, g, rfl, N, hg, k0⟩
def spDone (K : PySem.W.Frag) : Sp := fun vs H Q E => ∃ (G : Hp) (C : Cn) (A : Lb → Addr) (S : NS) (c : Nat) (d : Int) (x y : V) (z : Str), vs = [.ref (A .net), .ref C.t, .int d, x, y] ∧ NetAt K G H C A S ∧ Wf C S c ∧ c < 20000 ∧ Wrong H C S d x y z ∧ XNo K z H E
theorem sc_done : FnScope ["_law_net", "_law_town", "_law_deed", "_law_one", "_law_other"] ["_law_net", "_law_town", "_law_deed", "_law_one", "_law_other"] (defScope s_law_done) := ⟨rfl, rfl, rfl, by decide +kernel, rfl, by decide +kernel, by decide +kernel⟩
theorem ok_done (T : Tx K mg) : Fn P w K mg base 9 (He.ga K "_law_done") [] (spDone K) := by
  refine mkFn T.F_law_done sc_done (fun _ _ _ _ _ _ us hl => match us, hl with | [_, _, _, _, _], _ => rfl) (fun vs H Q E h => ?_) (fun cdv A outer s H vs Q E hr h => ?_)
  · obtain ⟨G, C, A, S, c, d, x, y, z, rfl, _⟩ := h; rfl
  · obtain ⟨G, C, A, S, c, d, x, y, z, rfl, N, W, cc, hw, k⟩ := h
    refine ⟨_, pss_cons (ps_if (pt_cmpR op_eq (pv 2) pe_int (nomark _)) (pss_one (ps_ret (cm (pv 0) T.c_Net T.m_Net_call (ok_call T) hr pX (pa_cons (pv 3) (pa_cons (pv 4) pa_nil))))) pss_nil)
      (pss_cons (ps_if (pt_cmpR op_eq (pv 2) pe_int (nomark _)) (pss_one (ps_ret (cf (ok_asked T) hr T.g_law_asked pX (pa_cons (pv 0) (pa_cons (pv 4) (pa_cons (pv 3) pa_nil)))))) pss_nil)
      (pss_cons (ps_if (pt_cmpR op_eq (pv 2) pe_int (nomark _)) (pss_one (ps_ret (cm (pv 0) T.c_Net T.m_Net_fall (ok_nfall T) hr pX (pa_cons (pv 3) (pa_cons (pv 4) pa_nil))))) pss_nil)
      (pss_cons (ps_if (pt_cmpR op_eq (pv 2) pe_int (nomark _)) (pss_one (ps_ret (cm (pv 0) T.c_Net T.m_Net_lay (ok_nlay T) hr pX (pa_cons (pv 3) (pa_cons (pv 4) pa_nil))))) pss_nil)
      (pss_cons (ps_if (pt_cmpR op_eq (pv 2) pe_int (nomark _)) (pss_one (ps_ret (cm (pv 0) T.c_Net T.m_Net_move (ok_move T) hr pX (pa_cons (pv 3) (pa_cons (pv 4) pa_nil))))) pss_nil)
      (pss_cons (ps_if (pt_cmpR op_eq (pv 2) pe_int (nomark _)) (pss_one (ps_ret (cm (pv 0) T.c_Net T.m_Net_post (ok_post3 T) hr pX (pa_cons (pv 3) (pa_cons (pv 4) pa_nil))))) pss_nil)
      (pss_cons (ps_if (pt_cmpR op_eq (pv 2) pe_int (nomark _)) (pss_one (ps_ret (cm (pv 0) T.c_Net T.m_Net_pass_on (ok_pass T) hr pX (pa_cons (pv 3) pa_nil)))) pss_nil)
      (pss_cons (ps_if (pt_cmpR op_eq (pv 2) pe_int (nomark _)) (pss_one (ps_ret (cm (pv 0) T.c_Net T.m_Net_story (ok_story T) hr pX (pa_cons (pv 3) pa_nil)))) pss_nil)
      (pss_cons (ps_if (pt_cmpR op_eq (pv 2) pe_int (nomark _)) (pss_one (ps_ret (cm (pv 0) T.c_Net T.m_Net_had (ok_had T) hr pX (pa_cons (pv 3) pa_nil)))) pss_nil)
      (pss_cons (ps_if (pt_cmpR op_eq (pv 2) pe_int (nomark _)) (pss_one (ps_ret (cm (pv 0) T.c_Net T.m_Net_place (ok_place T) hr pX (pa_cons (pv 3) pa_nil)))) pss_nil)
      (pss_one (ps_ret (ck T.k_Net (ok_Net_init T) hr T.g_Net pX (pa_cons (pv 1) (pa_cons (pv 3) pa_nil)))))))))))))), ?_⟩
    obtain ⟨dx, h1⟩ := N.net
    have k0 := k H (Same.refl _)
    cases hw with
    | house e =>
      walk_at "sa"; refine ⟨rfl, _, rfl, ?_⟩; refine ifEq ?_
      walk_at "sa"; refine mz h1 (by decide +kernel) ?_; walk_at "sa"
      exact ⟨G, C, A, S, c, _, _, rfl, N, W, fun _ => k0, fun z => absurd z e, fun z => absurd z e⟩
    | group0 e e2 =>
      walk_at "sa"; refine ⟨rfl, _, rfl, ?_⟩; refine ifEq ?_
      walk_at "sa"; refine mz h1 (by decide +kernel) ?_; walk_at "sa"
      exact ⟨G, C, A, S, c, _, _, rfl, N, W, fun z => absurd e z, fun _ _ => k0, fun _ z => absurd z e2⟩
    | asked e cl =>
      iterate 1 (walk_at "sa"; refine ⟨rfl, _, rfl, ?_⟩; refine ifNe (by decide) ?_)
      walk_at "sa"; refine ⟨rfl, _, rfl, ?_⟩; refine ifEq ?_
      walk_at "sa"
      exact ⟨G, C, A, S, c, _, _, rfl, N, W, cl, e, k⟩
    | fall e =>
      iterate 2 (walk_at "sa"; refine ⟨rfl, _, rfl, ?_⟩; refine ifNe (by decide) ?_)
      walk_at "sa"; refine ⟨rfl, _, rfl, ?_⟩; refine ifEq ?_
      walk_at "sa"; refine mz h1 (by decide +kernel) ?_; walk_at "sa"
      exact ⟨G, C, A, S, c, _, _, rfl, N, W, by omega, fun _ => k0, fun z => absurd z e⟩
    | lay e =>
      iterate 3 (walk_at "sa"; refine ⟨rfl, _, rfl, ?_⟩; refine ifNe (by decide) ?_)
      walk_at "sa"; refine ⟨rfl, _, rfl, ?_⟩; refine ifEq ?_
      walk_at "sa"; refine mz h1 (by decide +kernel) ?_; walk_at "sa"
      exact ⟨G, C, A, S, c, _, _, rfl, N, W, fun _ => k0, fun z => absurd z e⟩
    | move1 e =>
      iterate 4 (walk_at "sa"; refine ⟨rfl, _, rfl, ?_⟩; refine ifNe (by decide) ?_)
      walk_at "sa"; refine ⟨rfl, _, rfl, ?_⟩; refine ifEq ?_
      walk_at "sa"; refine mz h1 (by decide +kernel) ?_; walk_at "sa"
      exact ⟨G, C, A, S, _, _, rfl, N, fun _ => k0, fun z => absurd z e⟩
    | move2 e e2 =>
      iterate 4 (walk_at "sa"; refine ⟨rfl, _, rfl, ?_⟩; refine ifNe (by decide) ?_)
      walk_at "sa"; refine ⟨rfl, _, rfl, ?_⟩; refine ifEq ?_
      walk_at "sa"; refine mz h1 (by decide +kernel) ?_; walk_at "sa"
      exact ⟨G, C, A, S, _, _, rfl, N, fun z => absurd e z, fun _ => ⟨e2, k0⟩⟩
    | @post1 s t e =>
      iterate 5 (walk_at "sa"; refine ⟨rfl, _, rfl, ?_⟩; refine ifNe (by decide) ?_)
      walk_at "sa"; refine ⟨rfl, _, rfl, ?_⟩; refine ifEq ?_
      walk_at "sa"; refine mz h1 (by decide +kernel) ?_; walk_at "sa"
      exact ⟨G, C, A, S, c, s, some t, rfl, N, W, by omega, fun _ => k, fun _ z => absurd z e, fun _ z => absurd z e⟩
    | @post2 s t e e2 =>
      iterate 5 (walk_at "sa"; refine ⟨rfl, _, rfl, ?_⟩; refine ifNe (by decide) ?_)
      walk_at "sa"; refine ⟨rfl, _, rfl, ?_⟩; refine ifEq ?_
      walk_at "sa"; refine mz h1 (by decide +kernel) ?_; walk_at "sa"
      exact ⟨G, C, A, S, c, s, some t, rfl, N, W, by omega, fun z => absurd e z, fun q _ _ t' et => by cases et; exact ⟨fun _ => k, fun _ z => absurd z e2⟩, fun _ _ _ et => by cases et⟩
    | @apart s t q q' e e2 e3 e4 e5 =>
      iterate 5 (walk_at "sa"; refine ⟨rfl, _, rfl, ?_⟩; refine ifNe (by decide) ?_)
      walk_at "sa"; refine ⟨rfl, _, rfl, ?_⟩; refine ifEq ?_
      walk_at "sa"; refine mz h1 (by decide +kernel) ?_; walk_at "sa"
      refine ⟨G, C, A, S, c, s, some t, rfl, N, W, by omega, fun z => absurd e z, fun p _ hp t' et => ?_, fun _ _ _ et => by cases et⟩
      cases et
      rw [e3] at hp; cases hp
      refine ⟨fun z => absurd e2 z, fun p' _ hp' => ?_⟩
      rw [e4] at hp'; cases hp'
      exact ⟨e5, k⟩
    | copy e =>
      iterate 6 (walk_at "sa"; refine ⟨rfl, _, rfl, ?_⟩; refine ifNe (by decide) ?_)
      walk_at "sa"; refine ⟨rfl, _, rfl, ?_⟩; refine ifEq ?_
      walk_at "sa"; refine mz h1 (by decide +kernel) ?_; walk_at "sa"
      exact ⟨G, C, A, S, c, _, rfl, N, W, by omega, fun _ => k0, fun z0 z1 => absurd ⟨z0, z1⟩ e⟩
    | letter e =>
      iterate 7 (walk_at "sa"; refine ⟨rfl, _, rfl, ?_⟩; refine ifNe (by decide) ?_)
      walk_at "sa"; refine ⟨rfl, _, rfl, ?_⟩; refine ifEq ?_
      walk_at "sa"; refine mz h1 (by decide +kernel) ?_; walk_at "sa"
      exact ⟨G, C, A, S, _, rfl, N, fun z0 z1 => absurd ⟨z0, z1⟩ e, fun _ => k0⟩
    | had e =>
      iterate 8 (walk_at "sa"; refine ⟨rfl, _, rfl, ?_⟩; refine ifNe (by decide) ?_)
      walk_at "sa"; refine ⟨rfl, _, rfl, ?_⟩; refine ifEq ?_
      walk_at "sa"; refine mz h1 (by decide +kernel) ?_; walk_at "sa"
      exact ⟨G, C, A, S, c, _, rfl, N, W, by omega, fun z => absurd z e, fun _ => k0⟩
    | place e =>
      iterate 9 (walk_at "sa"; refine ⟨rfl, _, rfl, ?_⟩; refine ifNe (by decide) ?_)
      walk_at "sa"; refine ⟨rfl, _, rfl, ?_⟩; refine ifEq ?_
      walk_at "sa"; refine mz h1 (by decide +kernel) ?_; walk_at "sa"
      exact ⟨G, C, A, S, _, rfl, N, fun z0 z1 => absurd ⟨z0, z1⟩ e, fun _ => k0⟩
    | town e e2 e3 =>
      iterate 10 (walk_at "sa"; refine ⟨rfl, _, rfl, ?_⟩; refine ifNe (by decide) ?_)
      walk_at "sa"
      intro x dx' nx ndx ne
      have eC : Same H (upd (upd H dx' (.own x)) x (.ins (He.ga K "Net") dx' [])) := fun a o h => by rw [upd_ne (ne_of_none h nx), upd_ne (ne_of_none h ndx)]; exact h
      exact ⟨x, dx', C.t, C.D, _, _, _, rfl, upd_same, N.townH.mono eC, eC _ _ e, e2.mono eC, fun _ H' e' => k H' (eC.trans e'), fun z0 z1 => absurd ⟨z0, z1⟩ e3⟩
end
end Kn
set_option Elab.async false
set_option linter.all false
set_option maxRecDepth 100000
set_option maxHeartbeats 4000000
namespace Kn
open PySem L2
local macro_rules | `(tactic| walk_at "st") => `(tactic| repeat' (first
  | with_reducible refine r_seq ?_ | with_reducible refine r_set ?_ | with_reducible refine r_ret ?_ | with_reducible refine r_retN ?_ | with_reducible refine r_drop ?_ | with_reducible refine r_next ?_
  | with_reducible refine r_if ?_ | ((with_reducible refine r_var (v := ?_) ?hs ?_); (case hs => exact rfl)) | with_reducible refine r_c ?_ | with_reducible refine r_op ?_ | with_reducible refine r_I0 ?_
  | with_reducible refine r_test ?_ | with_reducible refine r_B ?_ | with_reducible refine ⟨_, (rfl : V.bl _ = V.bl _), ?_⟩ | with_reducible refine r_not ?_ | with_reducible refine r_or ?_ | with_reducible refine r_and ?_
  | with_reducible refine r_nil ?_ | with_reducible refine r_cons ?_ | with_reducible refine r_call ?_ | with_reducible refine r_cb ?_ | with_reducible refine r_tup ?_ | with_reducible refine r_lst ?_
  | with_reducible refine r_gname ?_ | with_reducible refine r_for ?_ | with_reducible refine r_iList ?_ | with_reducible refine r_iRng1 ?_ | with_reducible refine r_lc ?_ | with_reducible refine r_yes ?_
  | with_reducible refine r_chain ?_ | with_reducible refine r_sfld ?_ | with_reducible refine r_bm ?_ | with_reducible refine r_bm0 ?_ | with_reducible refine r_make ?_ | with_reducible refine r_sl ?_ | with_reducible refine r_nopart ?_ | with_reducible refine r_part ?_ | with_reducible refine r_iEnum ?_ | with_reducible refine r_iRng2 ?_))
local macro_rules | `(tactic| walk_at "sa") => `(tactic| repeat' (first
  | with_reducible refine r_seq ?_ | with_reducible refine r_set ?_ | with_reducible refine r_ret ?_ | with_reducible refine r_retN ?_ | with_reducible refine r_drop ?_ | with_reducible refine r_next ?_
  | with_reducible refine r_if ?_ | ((with_reducible refine r_var (v := ?_) ?hs ?_); (case hs => exact rfl)) | with_reducible refine r_c ?_ | with_reducible refine r_op ?_ | with_reducible refine r_I0 ?_
  | with_reducible refine r_test ?_ | with_reducible refine r_B ?_ | with_reducible refine ⟨_, (rfl : V.bl _ = V.bl _), ?_⟩ | with_reducible refine r_not ?_ | with_reducible refine r_or ?_ | with_reducible refine r_and ?_
  | with_reducible refine r_nil ?_ | with_reducible refine r_cons ?_ | with_reducible refine r_call ?_ | with_reducible refine r_cb ?_ | with_reducible refine r_tup ?_ | with_reducible refine r_lst ?_
  | with_reducible refine r_gname ?_ | with_reducible refine r_for ?_ | with_reducible refine r_iList ?_ | with_reducible refine r_iRng1 ?_ | with_reducible refine r_lc ?_ | with_reducible refine r_yes ?_
  | with_reducible refine r_chain ?_ | with_reducible refine r_sfld ?_ | with_reducible refine r_bm ?_ | with_reducible refine r_bm0 ?_ | with_reducible refine r_make ?_ | with_reducible refine r_sl ?_ | with_reducible refine r_nopart ?_ | with_reducible refine r_part ?_ | with_reducible refine r_iEnum ?_ | with_reducible refine r_iRng2 ?_
  | with_reducible refine r_un ?_ | with_reducible refine r_rU ?_ | with_reducible refine r_div ?_ | with_reducible refine r_mod ?_ | with_reducible refine r_pow ?_ | fail))
def wlist : List Str := ["town", "house", "group", "wire", "caller", "apart", "copy", "letter", "text", "value"]
def bsOf (z : Str) : List Bool := kinds.map (fun y => decide (z = y)) ++ [true]
def accAt (z : Str) (i : Nat) : List V := ((List.range i).filter fun k => (bsOf z).getD k false).map fun k => V.str (wlist.getD k "")
def wordOf (z : Str) : Str := wlist.getD ((kinds.findIdx? fun y => decide (z = y)).getD 0) ""
theorem acc_end {z : Str} (h : z ∈ raised) : accAt z 10 = [.str (wordOf z), .str "value"] := by
  have all : (raised.all fun z => decide (accAt z 10 = [.str (wordOf z), .str "value"])) = true := by decide +kernel
  exact of_decide_eq_true (List.all_eq_true.mp all z h)
theorem acc_succ (z : Str) (i : Nat) : accAt z (i + 1) = accAt z i ++ (if (bsOf z).getD i false = true then [V.str (wlist.getD i "")] else []) := by
  unfold accAt
  rw [List.range_succ, List.filter_append, List.map_append]
  congr 1
  by_cases h : (bsOf z).getD i false = true
  · rw [if_pos h, List.filter_cons_of_pos (p := fun k => (bsOf z).getD k false) h]; rfl
  · rw [if_neg h, List.filter_cons_of_neg (p := fun k => (bsOf z).getD k false) h]; rfl
theorem acc_len (z : Str) (i : Nat) : (accAt z i).length ≤ i := by
  unfold accAt
  rw [List.length_map]
  have := List.length_filter_le (fun k => (bsOf z).getD k false) (List.range i)
  rw [List.length_range] at this
  exact this
theorem Wrong.raised {H : Hp} {C : Cn} {S : NS} {d : Int} {x y : V} {z : Str} (h : Wrong H C S d x y z) : z ∈ raised := by
  cases h <;> decide +kernel
theorem e_of {K : PySem.W.Frag} {mg : Str → Option Value} (T : Tx K mg) {z : Str} (h : z ∈ raised) : PySem.W.exmOne K (.ref (He.ga K z)) (.ref (He.ga K "KnotError")) = some true := by
  unfold raised at h
  simp only [List.mem_cons, List.not_mem_nil, or_false] at h
  rcases h with rfl | rfl | rfl | rfl | rfl | rfl | rfl | rfl
  · exact T.e_BadTown
  · exact T.e_NoHouse
  · exact T.e_NoGroup
  · exact T.e_NoWire
  · exact T.e_NoCaller
  · exact T.e_Apart
  · exact T.e_NoCopy
  · exact T.e_NoLetter
section
variable {X : Cx} {k j : Nat} {f : Addr} {sp : Sp} {W : WX} {x : Str} {p pos : Pos} {e : Expr} {es : List Expr} {t : TA}
/-- f(e, ..) in a try -/
theorem cfS (F : Fn X.prog X.w X.K X.mg X.base k f [] sp) (hr : Room j X.A) (hm : X.mg x = some (.ref f)) (tk : Takes X W) (ha : PA X (e :: es) t) (hkj : k ≤ j := by decide) (hg : Gl X x := by rfl)
    (hdb : (x == ("__debug__" : Str)) = false := by decide) (he : starEach (e :: es) X.env = (false, eval e X.env) :: starEach es X.env := by rfl) (hpl : (backTo pos (starEach es X.env)).any (·.1) = false := by rfl) :
    PE X (.Call (.Name x p) (e :: es) [] pos) (tCallS sp (WE W) t) := by
  obtain ⟨fd, ps, ds, F, hd, hb, hk⟩ := F
  cases hd
  exact pe_callS F (hr.mono hkj) hg hm hk hb (fun σ => passAt tk σ) ha hdb he hpl
end
theorem r_callS {sp : Sp} {E : L2.St → XK} {l : TA} {σ : L2.St} {H : Hp} {Q : VK} (h : l σ H fun vs H1 => sp vs H1 Q (E σ)) : tCallS sp E l σ H Q := h
section
variable {P : Program} {w : World} {K : PySem.W.Frag} {mg : Str → Option Value} {base : Heap}
def spRefusal (K : PySem.W.Frag) : Sp := fun vs H Q _ => ∃ (G : Hp) (C : Cn) (A : Lb → Addr) (S : NS) (c : Nat) (d : Int) (x y : V) (z : Str), vs = [.ref (A .net), .ref C.t, .int d, x, y] ∧ NetAt K G H C A S ∧ Wf C S c ∧ c < 20000 ∧ Wrong H C S d x y z ∧ NewL [.str (wordOf z), .str "value"] H Q
theorem sc_refusal : FnScope ["_law_net", "_law_town", "_law_deed", "_law_one", "_law_other", "_law_seen", "e", "_law_words", "_law_k"] ["_law_net", "_law_town", "_law_deed", "_law_one", "_law_other"] (defScope s_law_refusal) := ⟨rfl, rfl, rfl, by decide +kernel, rfl, by decide +kernel, by decide +kernel⟩
theorem ok_refusal (T : Tx K mg) : Fn P w K mg base 10 (He.ga K "_law_refusal") [] (spRefusal K) := by
  refine mkFn T.F_law_refusal sc_refusal (fun _ _ _ _ _ _ us hl => match us, hl with | [_, _, _, _, _], _ => rfl) (fun vs H Q E h => ?_) (fun cdv A outer s H vs Q E hr h => ?_)
  · obtain ⟨G, C, A, S, c, d, x, y, z, rfl, _⟩ := h; rfl
  · obtain ⟨G, C, A, S, c, d, x, y, z, rfl, N, W, cc, hw, k⟩ := h
    have nd := sc_refusal.nd
    refine ⟨_, pss_cons (ps_set (i := 5) nd rfl (.inr rfl) (pe_lst pa_nil))
      (pss_cons (ps_try_as (i := 6) (c := .ref (He.ga K "KnotError")) (tb := fun W => tDrop (tCallS (spDone K) (WE W) (tCons (tVar 0) (tCons (tVar 1) (tCons (tVar 2) (tCons (tVar 3) (tCons (tVar 4) tNil)))))))
        rfl rfl nd rfl rfl ⟨by rfl, by decide, .inl T.g_KnotError⟩ (takes_of rfl rfl rfl rfl) (fun W pn xe tk po => pss_one (ps_expr (cfS (ok_done T) hr T.g_law_done tk (pa_cons (pv 0) (pa_cons (pv 1) (pa_cons (pv 2) (pa_cons (pv 3) (pa_cons (pv 4) pa_nil))))))))
        (fun a oe cls d pn hz hf => pss_cons (ps_set (i := 5) nd rfl (.inr rfl) (pe_lst
            (pa_cons (pe_callB (r := rIsX K a cls d) (call_isX hz hf) (by rfl) T.b_isinstance (by decide +kernel) (pa_cons (pv 6) (pa_cons (pe_glob (v := .ref (He.ga K "BadTown")) (by rfl) T.g_BadTown rfl) pa_nil)))
            (pa_cons (pe_callB (r := rIsX K a cls d) (call_isX hz hf) (by rfl) T.b_isinstance (by decide +kernel) (pa_cons (pv 6) (pa_cons (pe_glob (v := .ref (He.ga K "NoHouse")) (by rfl) T.g_NoHouse rfl) pa_nil)))
            (pa_cons (pe_callB (r := rIsX K a cls d) (call_isX hz hf) (by rfl) T.b_isinstance (by decide +kernel) (pa_cons (pv 6) (pa_cons (pe_glob (v := .ref (He.ga K "NoGroup")) (by rfl) T.g_NoGroup rfl) pa_nil)))
            (pa_cons (pe_callB (r := rIsX K a cls d) (call_isX hz hf) (by rfl) T.b_isinstance (by decide +kernel) (pa_cons (pv 6) (pa_cons (pe_glob (v := .ref (He.ga K "NoWire")) (by rfl) T.g_NoWire rfl) pa_nil))) pa_nil))))))
          (pss_cons (ps_set (i := 5) nd rfl (.inr rfl) (pe_op op_cat (pv 5) (pe_lst
            (pa_cons (pe_callB (r := rIsX K a cls d) (call_isX hz hf) (by rfl) T.b_isinstance (by decide +kernel) (pa_cons (pv 6) (pa_cons (pe_glob (v := .ref (He.ga K "NoCaller")) (by rfl) T.g_NoCaller rfl) pa_nil)))
            (pa_cons (pe_callB (r := rIsX K a cls d) (call_isX hz hf) (by rfl) T.b_isinstance (by decide +kernel) (pa_cons (pv 6) (pa_cons (pe_glob (v := .ref (He.ga K "Apart")) (by rfl) T.g_Apart rfl) pa_nil)))
            (pa_cons (pe_callB (r := rIsX K a cls d) (call_isX hz hf) (by rfl) T.b_isinstance (by decide +kernel) (pa_cons (pv 6) (pa_cons (pe_glob (v := .ref (He.ga K "NoCopy")) (by rfl) T.g_NoCopy rfl) pa_nil)))
            (pa_cons (pe_callB (r := rIsX K a cls d) (call_isX hz hf) (by rfl) T.b_isinstance (by decide +kernel) (pa_cons (pv 6) (pa_cons (pe_glob (v := .ref (He.ga K "NoLetter")) (by rfl) T.g_NoLetter rfl) pa_nil))) pa_nil)))))))
          (pss_one (ps_set (i := 5) nd rfl (.inr rfl) (pe_op op_cat (pv 5) (pe_lst
            (pa_cons (pe_callB (r := rIsX K a cls d) (call_isX hz hf) (by rfl) T.b_isinstance (by decide +kernel) (pa_cons (pv 6) (pa_cons (pe_glob (v := .ref (He.ga K "NoText")) (by rfl) T.g_NoText rfl) pa_nil)))
            (pa_cons (pe_callB (r := rIsX K a cls d) (call_isX hz hf) (by rfl) T.b_isinstance (by decide +kernel) (pa_cons (pv 6) (pa_cons (pe_bltn (v := .ty "ValueError") (by rfl) T.b_ValueError (by rfl) rfl) pa_nil))) pa_nil)))))))))
      (pss_cons (ps_set (i := 7) nd rfl (.inr rfl) (pe_lst (pa_cons pe_str (pa_cons pe_str (pa_cons pe_str (pa_cons pe_str (pa_cons pe_str (pa_cons pe_str (pa_cons pe_str (pa_cons pe_str (pa_cons pe_str (pa_cons pe_str pa_nil))))))))))))
      (pss_one (ps_ret (pe_lc (own := [("_law_k", 8)]) (g := gName 8) rfl nd (pi_range1 (by rfl) T.b_range (pa_cons (pe_callB call_len (by rfl) T.b_len PySem.boot_len (pa_cons (pv 5) pa_nil)) pa_nil)) (blkOk_by (N := ["_law_net", "_law_town", "_law_deed", "_law_one", "_law_other", "_law_seen", "e", "_law_words", "_law_k"]) (sc := defScope s_law_refusal) (by decide +kernel))
        (fun _ _ _ _ _ => pg_name (i := 8) nd rfl (Or.inl rfl))
        (fun _ _ _ _ _ => pts_one (pTru (X := _) (ta := tOp (rIxL K) (tVar 5) (tVar 8)) (pe_ix (r := rIxL K) ix_list (pv 5) (pv 8) (fun _ _ => rfl)) : PT _ _ (tTru K _)))
        (fun _ _ _ _ _ => pe_ix (r := rIxL K) ix_list (pv 7) (pv 8) (fun _ _ => rfl))))))), ?_⟩
    have hz := hw.raised
    have X := T.xe z hz
    walk_at "sa"
    refine ⟨szl (by show 0 ≤ 100000; decide), fun p0 np0 => ?_⟩
    have e0 : Same H (upd H p0 (.lst [])) := Same.new np0
    have hw0 : Wrong (upd H p0 (.lst [])) C S d x y z := by
      cases hw with
      | house e => exact .house e
      | group0 e e2 => exact .group0 e e2
      | asked e e2 => exact .asked e e2
      | fall e => exact .fall e
      | lay e => exact .lay e
      | move1 e => exact .move1 e
      | move2 e e2 => exact .move2 e e2
      | post1 e => exact .post1 e
      | post2 e e2 => exact .post2 e e2
      | apart e e2 e3 e4 e5 => exact .apart e e2 e3 e4 e5
      | copy e => exact .copy e
      | letter e => exact .letter e
      | had e => exact .had e
      | place e => exact .place e
      | town e e2 e3 => exact .town (e0 _ _ e) (e2.mono e0) e3
    walk_at "sa"
    with_reducible refine r_callS ?_
    walk_at "sa"
    refine ⟨G, C, A, S, c, d, x, y, z, rfl, N.ext e0, W, cc, hw0, fun H1 e1 => ?_⟩
    refine ⟨true, e_of T hz, fun _ a na => ?_, fun z => by cases z⟩
    have kit := fun y hy => T.kit z hz y hy
    walk_at "sa"
    refine ⟨_, rfl, rfl, X, _, _, _, rfl, fun u r => r, kit "BadTown" (by decide +kernel), ?_⟩
    walk_at "sa"
    refine ⟨_, rfl, rfl, X, _, _, _, rfl, fun u r => r, kit "NoHouse" (by decide +kernel), ?_⟩
    walk_at "sa"
    refine ⟨_, rfl, rfl, X, _, _, _, rfl, fun u r => r, kit "NoGroup" (by decide +kernel), ?_⟩
    walk_at "sa"
    refine ⟨_, rfl, rfl, X, _, _, _, rfl, fun u r => r, kit "NoWire" (by decide +kernel), ?_⟩
    walk_at "sa"
    refine ⟨szl (by show 4 ≤ 100000; decide), fun p1 np1 => ?_⟩
    walk_at "sa"
    refine ⟨_, rfl, rfl, X, _, _, _, rfl, fun u r => r, kit "NoCaller" (by decide +kernel), ?_⟩
    walk_at "sa"
    refine ⟨_, rfl, rfl, X, _, _, _, rfl, fun u r => r, kit "Apart" (by decide +kernel), ?_⟩
    walk_at "sa"
    refine ⟨_, rfl, rfl, X, _, _, _, rfl, fun u r => r, kit "NoCopy" (by decide +kernel), ?_⟩
    walk_at "sa"
    refine ⟨_, rfl, rfl, X, _, _, _, rfl, fun u r => r, kit "NoLetter" (by decide +kernel), ?_⟩
    walk_at "sa"
    refine ⟨szl (by show 4 ≤ 100000; decide), fun p2 np2 => ?_⟩
    refine ⟨p1, p2, _, _, rfl, rfl, (Same.new np2) _ _ upd_same, upd_same, szl (by show 4 + 4 ≤ 100000; decide), fun p3 np3 => ?_⟩
    walk_at "sa"
    refine ⟨_, rfl, rfl, X, _, _, _, rfl, fun u r => r, kit "NoText" (by decide +kernel), ?_⟩
    walk_at "sa"
    refine ⟨_, rfl, rfl, X, _, _, _, rfl, fun u r => r, T.kitV z hz, ?_⟩
    walk_at "sa"
    refine ⟨szl (by show 2 ≤ 100000; decide), fun p4 np4 => ?_⟩
    refine ⟨p3, p4, _, _, rfl, rfl, (Same.new np4) _ _ upd_same, upd_same, szl (by show 8 + 2 ≤ 100000; decide), fun p5 np5 => ?_⟩
    have e3 := (e0.trans e1)
    generalize hH5 : upd _ p5 _ = H5
    have e5 : Same H H5 := by rw [← hH5]; exact e3.trans ((Same.new np1).trans ((Same.new np2).trans ((Same.new np3).trans ((Same.new np4).trans (Same.new np5)))))
    have h5 : H5 p5 = some (.lst ((bsOf z).map .bl)) := by rw [← hH5]; exact upd_same
    walk_at "sa"
    refine ⟨szl (by show 10 ≤ 100000; decide), fun p6 np6 => ?_⟩
    have e6 : Same H5 (upd H5 p6 (.lst (wlist.map .str))) := Same.new np6
    walk_at "sa"
    refine ⟨_, _, rfl, .inl ⟨_, SqL.of (e6 _ _ h5), rfl⟩, ?_⟩
    walk_at "sa"
    have hbl : ((bsOf z).map V.bl).length = 10 := rfl
    rw [hbl]
    refine ⟨_, rfl, by decide, by decide, fun p np => ?_⟩
    refine lc_it walk_range (fun i H' => Same (upd H5 p6 (.lst (wlist.map .str))) H' ∧ H' p = some (.lst (accAt z i))) ⟨Same.new np, upd_same⟩ (fun _ _ _ _ => trivial) ?_ ?_
    · rintro i x H7 H7' hi ⟨e7, hp⟩ ⟨rfl, rfl⟩
      have hi' : i < 10 := hi
      have zi : ((0 : Int) + (i : Nat)).toNat = i := by omega
      walk_at "sa"
      refine ⟨rfl, ?_⟩
      refine r_tru ?_
      walk_at "sa"
      refine ⟨p5, _, _, _, rfl, rfl, SqL.of (e7 _ _ (e6 _ _ h5)), at_ix (by omega) (by rw [zi]; exact get_map (f := V.bl) (getD_at (d := false) hi')), ?_⟩
      refine ⟨_, (rfl : _ = _), ?_⟩
      rw [acc_succ]
      have al := acc_len z i
      refine ite2 (fun c => ?_) (fun c => ?_)
      · rw [if_pos c]
        walk_at "sa"
        refine ⟨p6, _, _, _, rfl, rfl, SqL.of (e7 _ _ upd_same), at_ix (by omega) (by rw [zi]; exact get_map (f := V.str) (getD_at (l := wlist) (d := "") hi')), ?_⟩
        exact ⟨_, hp, sll (by omega), Same.mut e7 np, upd_same⟩
      · rw [if_neg c, List.append_nil]
        exact ⟨e7, hp⟩
    · rintro H7 ⟨e7, hp⟩
      rw [show ((10 : Nat) : Int).toNat = 10 from rfl, acc_end hz] at hp
      exact k p H7 ((e5.trans e6).free np) ((e5.trans e6).trans e7) hp
end
end Kn
set_option Elab.async false
set_option linter.all false
set_option maxRecDepth 100000
set_option maxHeartbeats 4000000
namespace Kn
open PySem L2
local macro_rules | `(tactic| walk_at "st") => `(tactic| repeat' (first
  | with_reducible refine r_seq ?_ | with_reducible refine r_set ?_ | with_reducible refine r_ret ?_ | with_reducible refine r_retN ?_ | with_reducible refine r_drop ?_ | with_reducible refine r_next ?_
  | with_reducible refine r_if ?_ | ((with_reducible refine r_var (v := ?_) ?hs ?_); (case hs => exact rfl)) | with_reducible refine r_c ?_ | with_reducible refine r_op ?_ | with_reducible refine r_I0 ?_
  | with_reducible refine r_test ?_ | with_reducible refine r_B ?_ | with_reducible refine ⟨_, (rfl : V.bl _ = V.bl _), ?_⟩ | with_reducible refine r_not ?_ | with_reducible refine r_or ?_ | with_reducible refine r_and ?_
  | with_reducible refine r_nil ?_ | with_reducible refine r_cons ?_ | with_reducible refine r_call ?_ | with_reducible refine r_cb ?_ | with_reducible refine r_tup ?_ | with_reducible refine r_lst ?_
  | with_reducible refine r_gname ?_ | with_reducible refine r_for ?_ | with_reducible refine r_iList ?_ | with_reducible refine r_iRng1 ?_ | with_reducible refine r_lc ?_ | with_reducible refine r_yes ?_
  | with_reducible refine r_chain ?_ | with_reducible refine r_sfld ?_ | with_reducible refine r_bm ?_ | with_reducible refine r_bm0 ?_ | with_reducible refine r_make ?_ | with_reducible refine r_sl ?_ | with_reducible refine r_nopart ?_ | with_reducible refine r_part ?_ | with_reducible refine r_iEnum ?_ | with_reducible refine r_iRng2 ?_))
local macro_rules | `(tactic| walk_at "sa") => `(tactic| repeat' (first
  | with_reducible refine r_seq ?_ | with_reducible refine r_set ?_ | with_reducible refine r_ret ?_ | with_reducible refine r_retN ?_ | with_reducible refine r_drop ?_ | with_reducible refine r_next ?_
  | with_reducible refine r_if ?_ | ((with_reducible refine r_var (v := ?_) ?hs ?_); (case hs => exact rfl)) | with_reducible refine r_c ?_ | with_reducible refine r_op ?_ | with_reducible refine r_I0 ?_
  | with_reducible refine r_test ?_ | with_reducible refine r_B ?_ | with_reducible refine ⟨_, (rfl : V.bl _ = V.bl _), ?_⟩ | with_reducible refine r_not ?_ | with_reducible refine r_or ?_ | with_reducible refine r_and ?_
  | with_reducible refine r_nil ?_ | with_reducible refine r_cons ?_ | with_reducible refine r_call ?_ | with_reducible refine r_cb ?_ | with_reducible refine r_tup ?_ | with_reducible refine r_lst ?_
  | with_reducible refine r_gname ?_ | with_reducible refine r_for ?_ | with_reducible refine r_iList ?_ | with_reducible refine r_iRng1 ?_ | with_reducible refine r_lc ?_ | with_reducible refine r_yes ?_
  | with_reducible refine r_chain ?_ | with_reducible refine r_sfld ?_ | with_reducible refine r_bm ?_ | with_reducible refine r_bm0 ?_ | with_reducible refine r_make ?_ | with_reducible refine r_sl ?_ | with_reducible refine r_nopart ?_ | with_reducible refine r_part ?_ | with_reducible refine r_iEnum ?_ | with_reducible refine r_iRng2 ?_
  | with_reducible refine r_un ?_ | with_reducible refine r_rU ?_ | with_reducible refine r_div ?_ | with_reducible refine r_mod ?_ | with_reducible refine r_pow ?_ | fail))
structure Env1 (H : Hp) (C : Cn) (S : NS) (lr lc : Addr) : Prop where
  ok : C.D.Ok
  rok : ∀ r ∈ C.D.ropes, r.Ok C.D.size
  hr : ∃ pk : List Addr, H lr = some (.lst (pk.map .ref)) ∧ Tups H pk (C.D.ropes.map Rope.v)
  hc : ∃ pc : List Addr, H lc = some (.lst (pc.map .ref)) ∧ Tups H pc (C.people.map pairV)
  p1 : 1 ≤ C.people.length
  p2 : C.people.length ≤ 20
  pok : PplOk C.D C.people
  ns : S.ns = 2
  cl : S.clean = true
  up : S.up = upI C.D
theorem Env1.mono {H H' : Hp} {C : Cn} {S : NS} {lr lc : Addr} (V : Env1 H C S lr lc) (e : Same H H') : Env1 H' C S lr lc := by
  obtain ⟨pk, h1, h2⟩ := V.hr
  obtain ⟨pc, h3, h4⟩ := V.hc
  exact ⟨V.ok, V.rok, ⟨pk, e _ _ h1, h2.mono e⟩, ⟨pc, e _ _ h3, h4.mono e⟩, V.p1, V.p2, V.pok, V.ns, V.cl, V.up⟩
theorem upI_at {D : TownD} {r : Int} {rp : Rope} (h : D.ropes[r.toNat]? = some rp) : upI D r.toNat = List.replicate rp.wires.toNat true := by
  unfold upI; rw [h]
/-- what wrong hands back -/
def WrongPost (H : Hp) (C : Cn) (S : NS) (Q : VK) : Prop := ∀ p d x y z H', Same H H' → H' p = some (.tup [.int d, x, y, .str (wordOf z)]) → Wrong H' C S d x y z → Q (.ref p) H'
theorem WrongPost.go {H H1 : Hp} {C : Cn} {S : NS} {Q : VK} {p : Addr} {d : Int} {x y : V} {wd : Str} (k : WrongPost H C S Q) (z : Str) (hz : wordOf z = wd) (e : Same H H1) (np : H1 p = none) (hw : ∀ H2, Same H1 H2 → Wrong H2 C S d x y z) : Q (.ref p) (upd H1 p (.tup [.int d, x, y, .str wd])) :=
  k p d x y z _ (e.trans (Same.new np)) (by rw [hz]; exact upd_same) (hw _ (Same.new np))
section
variable {P : Program} {w : World} {K : PySem.W.Frag} {mg : Str → Option Value} {base : Heap}
def spWrongWire : Sp := fun vs H Q _ => ∃ (C : Cn) (S : NS) (lr lc : Addr) (lot n : Int), vs = [.ref lr, .int lot, .int n] ∧ Env1 H C S lr lc ∧ C.D.ropes ≠ [] ∧ WrongPost H C S Q
theorem sc_wrong_wire : FnScope ["_law_ropes_here", "_law_lot", "_law_number", "_law_rope"] ["_law_ropes_here", "_law_lot", "_law_number"] (defScope s_law_wrong_wire) := ⟨rfl, rfl, rfl, by decide +kernel, rfl, by decide +kernel, by decide +kernel⟩
theorem ok_wrong_wire (T : Tx K mg) : Fn P w K mg base 2 (He.ga K "_law_wrong_wire") [] spWrongWire := by
  refine mkFn T.F_law_wrong_wire sc_wrong_wire (fun _ _ _ _ _ _ us hl => match us, hl with | [_, _, _], _ => rfl) (fun vs H Q E h => ?_) (fun cdv A outer s H vs Q E hr h => ?_)
  · obtain ⟨C, S, lr, lc, lot, n, rfl, _⟩ := h; rfl
  · obtain ⟨C, S, lr, lc, lot, n, rfl, V1, ne, k⟩ := h
    have nd := sc_wrong_wire.nd
    refine ⟨_, pss_cons (ps_set (i := 3) nd rfl (.inl rfl) (pe_op op_mod (pe_op op_fdiv (pv 2) pe_int) (pe_callB call_len (by rfl) T.b_len PySem.boot_len (pa_cons (pv 0) pa_nil))))
      (pss_cons (ps_if (pt_cmpR op_eq (pv 1) pe_int (nomark _)) (pss_one (ps_ret (pe_tup (pa_cons (pe_op op_add pe_int (pe_op op_mod (pe_op op_fdiv (pv 2) pe_int) pe_int)) (pa_cons (pv 3) (pa_cons (cf (ok_out T) hr T.g_law_out passL (pa_cons (pe_ix ix_tup (pe_ix ix_list (pv 0) (pv 3) (fun _ _ => rfl)) pe_int (fun _ _ => rfl)) (pa_cons (pv 2) pa_nil))) (pa_cons pe_str pa_nil))))))) pss_nil)
      (pss_one (ps_ret (pe_tup (pa_cons pe_int (pa_cons (pv 3) (pa_cons (pe_op op_mod (pv 2) (pe_ix ix_tup (pe_ix ix_list (pv 0) (pv 3) (fun _ _ => rfl)) pe_int (fun _ _ => rfl))) (pa_cons pe_str pa_nil)))))))), ?_⟩
    obtain ⟨pk, h1, h2⟩ := V1.hr
    have hlen : (pk.map V.ref).length = C.D.ropes.length := by rw [List.length_map, h2.1, List.length_map]
    have l0 : 0 < C.D.ropes.length := List.length_pos_iff.mpr ne
    walk_at "sa"
    refine ⟨_, _, rfl, .inl ⟨_, SqL.of h1, rfl⟩, ?_⟩
    rw [hlen]
    refine r_mod ?_ (by omega)
    have r0 := Int.emod_nonneg (n / 14) (show ((C.D.ropes.length : Nat) : Int) ≠ 0 by omega)
    have r1 := Int.emod_lt_of_pos (n / 14) (show (0 : Int) < ((C.D.ropes.length : Nat) : Int) by omega)
    generalize n / 14 % ((C.D.ropes.length : Nat) : Int) = r at r0 r1
    obtain ⟨rp, hrp, hm⟩ := get_some r0 r1
    have rok := V1.rok rp hm
    have w0 := rok.w0
    have hup : S.up r.toNat = List.replicate rp.wires.toNat true := by rw [V1.up]; exact upI_at hrp
    obtain ⟨q, q1, q2⟩ := h2.at (get_map (f := Rope.v) hrp)
    walk_at "sa"
    refine ⟨rfl, _, rfl, ?_⟩
    refine ite2 (fun _ => ?_) (fun _ => ?_)
    · walk_at "sa"
      refine ⟨lr, _, r, _, rfl, rfl, SqL.of h1, at_ix r0 (get_map (f := V.ref) q1), ?_⟩
      walk_at "sa"
      refine ⟨q, _, 3, _, rfl, rfl, SqT.of q2, at_ix (by decide) rfl, ?_⟩
      walk_at "sa"
      refine ⟨rp.wires, n, rfl, by omega, fun j H1 e1 hj => ?_⟩
      walk_at "sa"
      refine ⟨szl (by show 4 ≤ 100000; decide), fun p np => ?_⟩
      refine k.go "NoWire" (by decide +kernel) e1 np fun H2 _ => ?_
      have no : ∀ b, ¬CanTurn C S r j b := fun b z => by
        have z3 := z.2.2.2.1
        rw [hup, List.length_replicate] at z3
        exact hj ⟨z.2.2.1, by omega⟩
      rcases (by omega : n / 7 % 2 = 0 ∨ n / 7 % 2 = 1) with h | h
      · rw [h]; exact .fall (no _)
      · rw [h]; exact .lay (no _)
    · walk_at "sa"
      refine ⟨lr, _, r, _, rfl, rfl, SqL.of h1, at_ix r0 (get_map (f := V.ref) q1), ?_⟩
      walk_at "sa"
      refine ⟨q, _, 3, _, rfl, rfl, SqT.of q2, at_ix (by decide) rfl, ?_⟩
      refine r_mod ?_ (by omega)
      walk_at "sa"
      refine ⟨szl (by show 4 ≤ 100000; decide), fun p np => ?_⟩
      refine k.go "NoWire" (by decide +kernel) (Same.refl _) np fun H2 _ => .lay fun z => ?_
      have z4 := z.2.2.2.2
      rw [hup, List.getElem?_replicate] at z4
      split at z4
      · cases z4
      · cases z4
theorem Tups.app {H : Hp} {ps qs : List Addr} {xs ys : List (List V)} (h : Tups H ps xs) (h' : Tups H qs ys) : Tups H (ps ++ qs) (xs ++ ys) := by
  refine ⟨by rw [List.length_append, List.length_append, h.1, h'.1], fun i p x a b => ?_⟩
  by_cases c : i < ps.length
  · rw [List.getElem?_append_left c] at a
    rw [List.getElem?_append_left (by rw [← h.1]; exact c)] at b
    exact h.2 i p x a b
  · rw [List.getElem?_append_right (by omega)] at a
    rw [List.getElem?_append_right (by rw [← h.1]; omega), ← h.1] at b
    exact h'.2 _ p x a b
theorem Tups.take {H : Hp} {ps : List Addr} {xs : List (List V)} (h : Tups H ps xs) (n : Nat) : Tups H (ps.take n) (xs.take n) := by
  refine ⟨by rw [List.length_take, List.length_take, h.1], fun i p x a b => ?_⟩
  rw [List.getElem?_take] at a b
  split at a
  · rename_i c; rw [if_pos c] at b; exact h.2 i p x a b
  · cases a
theorem Tups.drop {H : Hp} {ps : List Addr} {xs : List (List V)} (h : Tups H ps xs) (n : Nat) : Tups H (ps.drop n) (xs.drop n) := by
  refine ⟨by rw [List.length_drop, List.length_drop, h.1], fun i p x a b => ?_⟩
  rw [List.getElem?_drop] at a b
  exact h.2 _ p x a b
theorem rep_one {α : Type} (x : α) (n : Nat) : (List.replicate n [x]).flatten = List.replicate n x := by
  induction n with
  | zero => rfl
  | succ n ih => rw [List.replicate_succ, List.flatten_cons, ih, List.replicate_succ]; rfl
theorem Tups.rep {H : Hp} {p : Addr} {x : List V} (h : H p = some (.tup x)) (n : Nat) : Tups H (List.replicate n p) (List.replicate n x) := by
  refine ⟨by rw [List.length_replicate, List.length_replicate], fun i q y a b => ?_⟩
  rw [List.getElem?_replicate] at a b
  split at a
  · rename_i c; rw [if_pos c] at b; cases a; cases b; exact h
  · cases a
theorem cut_take (xs : List V) (a : Nat) : cutV xs none (some (a : Int)) = xs.take a := by
  unfold cutV
  rw [HT.sIx_none, List.drop_zero, HT.sIx_nat, Nat.sub_zero]
  by_cases h : a ≤ xs.length
  · rw [Nat.min_eq_left h]
  · rw [Nat.min_eq_right (by omega), List.take_of_length_le (by omega), List.take_of_length_le (by omega)]
theorem cut_drop (xs : List V) (a : Nat) : cutV xs (some (a : Int)) none = xs.drop a := by
  unfold cutV
  rw [HT.sIx_none, HT.sIx_nat]
  by_cases h : a ≤ xs.length
  · rw [Nat.min_eq_left h, List.take_of_length_le (by rw [List.length_drop]; omega)]
  · rw [Nat.min_eq_right (by omega), List.drop_eq_nil_of_le (by omega), List.drop_eq_nil_of_le (by omega), List.take_nil]
def spWrongNet : Sp := fun vs H Q _ => ∃ (C : Cn) (S : NS) (lr lc : Addr) (n : Int), vs = [.int C.D.size, .ref lc, .int n] ∧ Env1 H C S lr lc ∧ WrongPost H C S Q
theorem sc_wrong_net : FnScope ["_law_size", "_law_callers_here", "_law_number", "_law_at", "_law_bad"] ["_law_size", "_law_callers_here", "_law_number"] (defScope s_law_wrong_net) := ⟨rfl, rfl, rfl, by decide +kernel, rfl, by decide +kernel, by decide +kernel⟩
theorem ok_wrong_net (T : Tx K mg) : Fn P w K mg base 2 (He.ga K "_law_wrong_net") [] spWrongNet := by
  refine mkFn T.F_law_wrong_net sc_wrong_net (fun _ _ _ _ _ _ us hl => match us, hl with | [_, _, _], _ => rfl) (fun vs H Q E h => ?_) (fun cdv A outer s H vs Q E hr h => ?_)
  · obtain ⟨C, S, lr, lc, n, rfl, _⟩ := h; rfl
  · obtain ⟨C, S, lr, lc, n, rfl, V1, k⟩ := h
    have nd := sc_wrong_net.nd
    refine ⟨_, pss_cons (ps_if (pt_cmpR op_eq (pe_op op_mod (pe_op op_fdiv (pv 2) pe_int) pe_int) pe_int (nomark _)) (pss_one (ps_ret (pe_tup (pa_cons pe_int (pa_cons (pe_op op_rep (pe_lst (pa_cons (pe_tup (pa_cons pe_int (pa_cons pe_int pa_nil))) pa_nil)) (pe_op op_add pe_int (pe_op op_mod (pe_op op_fdiv (pv 2) pe_int) pe_int))) (pa_cons pe_int (pa_cons pe_str pa_nil))))))) pss_nil)
      (pss_cons (ps_set (i := 3) nd rfl (.inl rfl) (pe_op op_mod (pv 2) (pe_op op_add (pe_callB call_len (by rfl) T.b_len PySem.boot_len (pa_cons (pv 1) pa_nil)) pe_int)))
      (pss_cons (ps_set (i := 4) nd rfl (.inl rfl) (pe_tup (pa_cons (pe_op op_mod (pv 2) (pv 0)) (pa_cons (cf (ok_out T) hr T.g_law_out passL (pa_cons pe_int (pa_cons (pe_op op_fdiv (pv 2) pe_int) pa_nil))) pa_nil))))
      (pss_cons (ps_if (pt_cmpR op_eq (pe_op op_mod (pe_op op_fdiv (pv 2) pe_int) pe_int) pe_int (nomark _)) (pss_one (ps_set (i := 4) nd rfl (.inl rfl) (pe_tup (pa_cons (cf (ok_out T) hr T.g_law_out passL (pa_cons (pv 0) (pa_cons (pe_op op_fdiv (pv 2) pe_int) pa_nil))) (pa_cons (pe_op op_mod (pv 2) pe_int) pa_nil))))) pss_nil)
      (pss_one (ps_ret (pe_tup (pa_cons pe_int (pa_cons (pe_op op_cat (pe_op op_cat (pe_slice sl_list (pv 1) po_none (po_some (pv 3))) (pe_lst (pa_cons (pv 4) pa_nil))) (pe_slice sl_list (pv 1) (po_some (pv 3)) po_none)) (pa_cons pe_int (pa_cons pe_str pa_nil)))))))))), ?_⟩
    obtain ⟨pc, h1, h2⟩ := V1.hc
    have hlen : (pc.map V.ref).length = C.people.length := by rw [List.length_map, h2.1, List.length_map]
    have s1 := V1.ok.s1
    have p2 := V1.p2
    walk_at "sa"
    refine ⟨rfl, _, rfl, ?_⟩
    refine ite2 (fun _ => ?_) (fun _ => ?_)
    · walk_at "sa"
      refine ⟨szl (by show 2 ≤ 100000; decide), fun q nq => ?_⟩
      walk_at "sa"
      refine ⟨szl (by show 1 ≤ 100000; decide), fun q1 nq1 => ?_⟩
      walk_at "sa"
      refine ⟨q1, _, _, rfl, rfl, upd_same, by omega, by omega, szl (by show 1 * _ ≤ 100000; omega), fun q2 nq2 => ?_⟩
      rw [rep_one, ← List.map_replicate]
      walk_at "sa"
      refine ⟨szl (by show 4 ≤ 100000; decide), fun p np => ?_⟩
      have e3 : Same (upd H q (.tup [.int 0, .int 0])) (upd (upd (upd H q (.tup [.int 0, .int 0])) q1 (.lst [.ref q])) q2 (.lst ((List.replicate (21 + n / 42 % 3).toNat q).map .ref))) := (Same.new nq1).trans (Same.new nq2)
      refine k.go "BadTown" (by decide +kernel) ((Same.new nq).trans e3) np fun H2 e2 => ?_
      refine .town (qs := List.replicate (21 + n / 42 % 3).toNat (0, 0)) (e2 _ _ upd_same) ?_ (fun z => ?_)
      · rw [List.map_replicate]
        exact Tups.rep (e2 _ _ (e3 _ _ upd_same)) _
      · have := z.1
        rw [List.length_replicate] at this
        omega
    · walk_at "sa"
      refine ⟨_, _, rfl, .inl ⟨_, SqL.of h1, rfl⟩, ?_⟩
      rw [hlen]
      walk_at "sa"
      refine r_mod ?_ (by omega)
      have a0 := Int.emod_nonneg n (show ((C.people.length : Nat) : Int) + 1 ≠ 0 by omega)
      have a1 := Int.emod_lt_of_pos n (show (0 : Int) < ((C.people.length : Nat) : Int) + 1 by omega)
      obtain ⟨a, ha⟩ : ∃ a : Nat, n % (((C.people.length : Nat) : Int) + 1) = (a : Int) := ⟨_, (Int.toNat_of_nonneg a0).symm⟩
      rw [ha]
      have fin : ∀ (H4 : Hp) (t : Addr) (b : Int × Int), Same H H4 → H4 t = some (.tup (pairV b)) → ¬(0 ≤ b.1 ∧ b.1 < C.D.size ∧ 0 ≤ b.2 ∧ b.2 < 3) → ∀ q, (∀ H5, H5 q = some (.lst ((pc.map V.ref).take a ++ [V.ref t] ++ (pc.map V.ref).drop a)) → Same H4 H5 → Wrong H5 C S 10 (.ref q) (.int 0) "BadTown") := by
        intro H4 t b e4 ht hb q H5 hq e5
        have z := h2.mono (e4.trans e5)
        refine .town (pc := pc.take a ++ [t] ++ pc.drop a) (qs := C.people.take a ++ [b] ++ C.people.drop a) (by rw [hq, List.map_append, List.map_append, List.map_take, List.map_drop]; rfl) ?_ (fun y => hb (y.2 b (by simp)))
        rw [List.map_append, List.map_append, List.map_take, List.map_drop]
        exact ((z.take a).app (Tups.nil.snoc (e5 _ _ ht))).app (z.drop a)
      have hcl : ((pc.map V.ref).take a).length + 1 + ((pc.map V.ref).drop a).length ≤ 100000 := by rw [List.length_take, List.length_drop, hlen]; omega
      walk_at "sa"
      refine r_mod ?_ (by omega)
      walk_at "sa"
      refine ⟨3, n / 11, rfl, by decide, fun j H1 e1 hj => ?_⟩
      walk_at "sa"
      refine ⟨szl (by show 2 ≤ 100000; decide), fun t nt => ?_⟩
      have e2 : Same H1 (upd H1 t (.tup (pairV (n % (C.D.size : Int), j)))) := Same.new nt
      walk_at "sa"
      refine ⟨rfl, _, rfl, ?_⟩
      refine ite2 (fun _ => ?_) (fun _ => ?_)
      · walk_at "sa"
        refine ⟨C.D.size, n / 11, rfl, by omega, fun j2 H3 e3 hj2 => ?_⟩
        walk_at "sa"
        refine ⟨szl (by show 2 ≤ 100000; decide), fun t2 nt2 => ?_⟩
        have e4 : Same H (upd H3 t2 (.tup (pairV (j2, n % 3)))) := ((e1.trans e2).trans e3).trans (Same.new nt2)
        have F := fin _ t2 (j2, n % 3) e4 upd_same (fun z => hj2 ⟨z.1, z.2.1⟩)
        have h1' := e4 _ _ h1
        generalize hH : upd H3 t2 (.tup [.int j2, .int (n % 3)]) = H4
        rw [show upd H3 t2 (.tup (pairV (j2, n % 3))) = H4 from hH] at e4 F h1'
        walk_at "sa"
        refine ⟨_, rfl, ?_⟩
        refine ⟨lc, _, rfl, SqL.of h1', fun p1 np1 => ?_⟩
        rw [cut_take]
        walk_at "sa"
        refine ⟨szl (by show 1 ≤ 100000; decide), fun p2 np2 => ?_⟩
        refine ⟨p1, p2, _, _, rfl, rfl, (Same.new np2) _ _ upd_same, upd_same, szl (by show _ + 1 ≤ 100000; omega), fun p3 np3 => ?_⟩
        walk_at "sa"
        refine ⟨_, rfl, ?_⟩
        walk_at "sa"
        have e5 : Same H4 (upd (upd (upd H4 p1 (.lst ((pc.map V.ref).take a))) p2 (.lst [.ref t2])) p3 (.lst ((pc.map V.ref).take a ++ [.ref t2]))) := (Same.new np1).trans ((Same.new np2).trans (Same.new np3))
        refine ⟨lc, _, rfl, SqL.of (e5 _ _ h1'), fun p4 np4 => ?_⟩
        rw [cut_drop]
        refine ⟨p3, p4, _, _, rfl, rfl, (Same.new np4) _ _ upd_same, upd_same, szl (by rw [List.length_append]; show _ + 1 + _ ≤ 100000; omega), fun p5 np5 => ?_⟩
        generalize hH6 : upd _ p5 _ = H6
        have e6 : Same H4 H6 := by rw [← hH6]; exact e5.trans ((Same.new np4).trans (Same.new np5))
        have h6 : H6 p5 = some (.lst ((pc.map V.ref).take a ++ [V.ref t2] ++ (pc.map V.ref).drop a)) := by rw [← hH6]; exact upd_same
        walk_at "sa"
        refine ⟨szl (by show 4 ≤ 100000; decide), fun p np => ?_⟩
        exact k.go "BadTown" (by decide +kernel) (e4.trans e6) np fun H2 e2 => F p5 H2 (e2 _ _ h6) (e6.trans e2)
      · have e4 : Same H (upd H1 t (.tup (pairV (n % (C.D.size : Int), j)))) := e1.trans e2
        have F := fin _ t (n % (C.D.size : Int), j) e4 upd_same (fun z => hj ⟨z.2.2.1, z.2.2.2⟩)
        have h1' := e4 _ _ h1
        generalize hH : upd H1 t (.tup [.int (n % (C.D.size : Int)), .int j]) = H4
        rw [show upd H1 t (.tup (pairV (n % (C.D.size : Int), j))) = H4 from hH] at e4 F h1'
        walk_at "sa"
        refine ⟨_, rfl, ?_⟩
        refine ⟨lc, _, rfl, SqL.of h1', fun p1 np1 => ?_⟩
        rw [cut_take]
        walk_at "sa"
        refine ⟨szl (by show 1 ≤ 100000; decide), fun p2 np2 => ?_⟩
        refine ⟨p1, p2, _, _, rfl, rfl, (Same.new np2) _ _ upd_same, upd_same, szl (by show _ + 1 ≤ 100000; omega), fun p3 np3 => ?_⟩
        walk_at "sa"
        refine ⟨_, rfl, ?_⟩
        walk_at "sa"
        have e5 : Same H4 (upd (upd (upd H4 p1 (.lst ((pc.map V.ref).take a))) p2 (.lst [.ref t])) p3 (.lst ((pc.map V.ref).take a ++ [.ref t]))) := (Same.new np1).trans ((Same.new np2).trans (Same.new np3))
        refine ⟨lc, _, rfl, SqL.of (e5 _ _ h1'), fun p4 np4 => ?_⟩
        rw [cut_drop]
        refine ⟨p3, p4, _, _, rfl, rfl, (Same.new np4) _ _ upd_same, upd_same, szl (by rw [List.length_append]; show _ + 1 + _ ≤ 100000; omega), fun p5 np5 => ?_⟩
        generalize hH6 : upd _ p5 _ = H6
        have e6 : Same H4 H6 := by rw [← hH6]; exact e5.trans ((Same.new np4).trans (Same.new np5))
        have h6 : H6 p5 = some (.lst ((pc.map V.ref).take a ++ [V.ref t] ++ (pc.map V.ref).drop a)) := by rw [← hH6]; exact upd_same
        walk_at "sa"
        refine ⟨szl (by show 4 ≤ 100000; decide), fun p np => ?_⟩
        exact k.go "BadTown" (by decide +kernel) (e4.trans e6) np fun H2 e2 => F p5 H2 (e2 _ _ h6) (e6.trans e2)
end
end Kn
set_option Elab.async false
set_option linter.all false
set_option maxRecDepth 100000
set_option maxHeartbeats 4000000
namespace Kn
open PySem L2
local macro_rules | `(tactic| walk_at "st") => `(tactic| repeat' (first
  | with_reducible refine r_seq ?_ | with_reducible refine r_set ?_ | with_reducible refine r_ret ?_ | with_reducible refine r_retN ?_ | with_reducible refine r_drop ?_ | with_reducible refine r_next ?_
  | with_reducible refine r_if ?_ | ((with_reducible refine r_var (v := ?_) ?hs ?_); (case hs => exact rfl)) | with_reducible refine r_c ?_ | with_reducible refine r_op ?_ | with_reducible refine r_I0 ?_
  | with_reducible refine r_test ?_ | with_reducible refine r_B ?_ | with_reducible refine ⟨_, (rfl : V.bl _ = V.bl _), ?_⟩ | with_reducible refine r_not ?_ | with_reducible refine r_or ?_ | with_reducible refine r_and ?_
  | with_reducible refine r_nil ?_ | with_reducible refine r_cons ?_ | with_reducible refine r_call ?_ | with_reducible refine r_cb ?_ | with_reducible refine r_tup ?_ | with_reducible refine r_lst ?_
  | with_reducible refine r_gname ?_ | with_reducible refine r_for ?_ | with_reducible refine r_iList ?_ | with_reducible refine r_iRng1 ?_ | with_reducible refine r_lc ?_ | with_reducible refine r_yes ?_
  | with_reducible refine r_chain ?_ | with_reducible refine r_sfld ?_ | with_reducible refine r_bm ?_ | with_reducible refine r_bm0 ?_ | with_reducible refine r_make ?_ | with_reducible refine r_sl ?_ | with_reducible refine r_nopart ?_ | with_reducible refine r_part ?_ | with_reducible refine r_iEnum ?_ | with_reducible refine r_iRng2 ?_))
local macro_rules | `(tactic| walk_at "sa") => `(tactic| repeat' (first
  | with_reducible refine r_seq ?_ | with_reducible refine r_set ?_ | with_reducible refine r_ret ?_ | with_reducible refine r_retN ?_ | with_reducible refine r_drop ?_ | with_reducible refine r_next ?_
  | with_reducible refine r_if ?_ | ((with_reducible refine r_var (v := ?_) ?hs ?_); (case hs => exact rfl)) | with_reducible refine r_c ?_ | with_reducible refine r_op ?_ | with_reducible refine r_I0 ?_
  | with_reducible refine r_test ?_ | with_reducible refine r_B ?_ | with_reducible refine ⟨_, (rfl : V.bl _ = V.bl _), ?_⟩ | with_reducible refine r_not ?_ | with_reducible refine r_or ?_ | with_reducible refine r_and ?_
  | with_reducible refine r_nil ?_ | with_reducible refine r_cons ?_ | with_reducible refine r_call ?_ | with_reducible refine r_cb ?_ | with_reducible refine r_tup ?_ | with_reducible refine r_lst ?_
  | with_reducible refine r_gname ?_ | with_reducible refine r_for ?_ | with_reducible refine r_iList ?_ | with_reducible refine r_iRng1 ?_ | with_reducible refine r_lc ?_ | with_reducible refine r_yes ?_
  | with_reducible refine r_chain ?_ | with_reducible refine r_sfld ?_ | with_reducible refine r_bm ?_ | with_reducible refine r_bm0 ?_ | with_reducible refine r_make ?_ | with_reducible refine r_sl ?_ | with_reducible refine r_nopart ?_ | with_reducible refine r_part ?_ | with_reducible refine r_iEnum ?_ | with_reducible refine r_iRng2 ?_
  | with_reducible refine r_un ?_ | with_reducible refine r_rU ?_ | with_reducible refine r_div ?_ | with_reducible refine r_mod ?_ | with_reducible refine r_pow ?_ | fail))
theorem r_gSub {to ti : TE} {t : TSet} {v : V} {σ : L2.St} {H : Hp} {Q : L2.St → Hp → Prop} (h : to σ H fun o H1 => ti σ H1 fun i H2 => t o i v H2 fun H3 => Q σ H3) : gSub to ti t v σ H Q := h
theorem r_asgS {to ti te : TE} {t : TSet} {D : Ends} {σ : L2.St} {H : Hp} (h : te σ H fun x H1 => gSub to ti t x σ H1 D.nx) : tAsg te (gSub to ti t) D σ H := h
section
variable {P : Program} {w : World} {K : PySem.W.Frag} {mg : Str → Option Value} {base : Heap}
def dRow (r : Rope) : PyData := .tuple [.int r.one, .int r.other, .int r.cost, .int r.wires, .int r.lets]
theorem dp_ropes {H : Hp} : ∀ {pk : List Addr} {l : List Rope}, Tups H pk (l.map Rope.v) → DpAll K H (pk.map V.ref) (l.map dRow)
  | [], [], _ => .nil
  | [], _ :: _, h => by have := h.1; simp at this
  | _ :: _, [], h => by have := h.1; simp at this
  | p :: pk, r :: l, h => by
    refine .cons (.tup (SqT.of (h.2 0 p _ rfl rfl)) (.cons (.int _) (.cons (.int _) (.cons (.int _) (.cons (.int _) (.cons (.int _) .nil)))))) (dp_ropes ⟨by have := h.1; simpa using this, fun i q x a b => h.2 (i + 1) q x a b⟩)
theorem lay_row (r : Rope) : Lay 1 (dRow r) := Lay.tup (.cons (lay_int _) (.cons (lay_int _) (.cons (lay_int _) (.cons (lay_int _) (.cons (lay_int _) .nil)))))
theorem lay_ropes (l : List Rope) : LayAll 1 (l.map dRow) := .of fun d h => by
  obtain ⟨r, _, rfl⟩ := List.mem_map.mp h
  exact lay_row r
def spWrong : Sp := fun vs H Q _ => ∃ (C : Cn) (S : NS) (lr lc : Addr) (lot n : Int), vs = [.int C.D.size, .ref lr, .ref lc, .int S.air.length, .int lot, .int n] ∧ Env1 H C S lr lc ∧ WrongPost H C S Q
theorem sc_wrong : FnScope ["_law_size", "_law_ropes_here", "_law_callers_here", "_law_copies", "_law_lot", "_law_number", "_law_many", "_law_pair"] ["_law_size", "_law_ropes_here", "_law_callers_here", "_law_copies", "_law_lot", "_law_number"] (defScope s_law_wrong) := ⟨rfl, rfl, rfl, by decide +kernel, rfl, by decide +kernel, by decide +kernel⟩
theorem ok_wrong (T : Tx K mg) : Fn P w K mg base 3 (He.ga K "_law_wrong") [] spWrong := by
  refine mkFn T.F_law_wrong sc_wrong (fun _ _ _ _ _ _ us hl => match us, hl with | [_, _, _, _, _, _], _ => rfl) (fun vs H Q E h => ?_) (fun cdv A outer s H vs Q E hr h => ?_)
  · obtain ⟨C, S, lr, lc, lot, n, rfl, _⟩ := h; rfl
  · obtain ⟨C, S, lr, lc, lot, n, rfl, V1, k⟩ := h
    have nd := sc_wrong.nd
    refine ⟨_, pss_cons (ps_set (i := 6) nd rfl (.inl rfl) (pe_callB call_len (by rfl) T.b_len PySem.boot_len (pa_cons (pv 2) pa_nil)))
      (pss_cons (ps_if (pt_cmpR op_eq (pv 4) pe_int (nomark _)) (pss_one (ps_ret (pe_tup (pa_cons pe_int (pa_cons (cf (ok_out T) hr T.g_law_out passL (pa_cons (pv 0) (pa_cons (pv 5) pa_nil))) (pa_cons (pe_ix ix_list (pe_lst (pa_cons pe_int (pa_cons pe_int (pa_cons pe_int (pa_cons pe_int (pa_cons (pe_un un_neg pe_int) pa_nil)))))) (pe_op op_mod (pe_op op_fdiv (pv 5) pe_int) pe_int) (fun _ _ => rfl)) (pa_cons pe_str pa_nil))))))) pss_nil)
      (pss_cons (ps_if (pt_cmpR op_eq (pv 4) pe_int (nomark _)) (pss_one (ps_ret (pe_tup (pa_cons pe_int (pa_cons (pe_op op_mod (pv 5) (pv 0)) (pa_cons (cf (ok_out T) hr T.g_law_out passL (pa_cons pe_int (pa_cons (pe_op op_fdiv (pv 5) pe_int) pa_nil))) (pa_cons pe_str pa_nil))))))) pss_nil)
      (pss_cons (ps_if (pt_cmpR op_eq (pv 4) pe_int (nomark _)) (pss_one (ps_ret (pe_tup (pa_cons pe_int (pa_cons (cf (ok_out T) hr T.g_law_out passL (pa_cons pe_int (pa_cons (pv 5) pa_nil))) (pa_cons (pe_op op_mod (pe_op op_fdiv (pv 5) pe_int) pe_int) (pa_cons pe_str pa_nil))))))) pss_nil)
      (pss_cons (ps_if (pt_cmpR op_eq (pv 4) pe_int (nomark _)) (pss_one (ps_ret (pe_tup (pa_cons (pe_op op_add pe_int (pe_op op_mod (pe_op op_fdiv (pv 5) pe_int) pe_int)) (pa_cons (cf (ok_out T) hr T.g_law_out passL (pa_cons (pe_callB call_len (by rfl) T.b_len PySem.boot_len (pa_cons (pv 1) pa_nil)) (pa_cons (pv 5) pa_nil))) (pa_cons (pe_op op_mod (pe_op op_fdiv (pv 5) pe_int) pe_int) (pa_cons pe_str pa_nil))))))) pss_nil)
      (pss_cons (ps_if (PW.pt (pw_and (pt_cmpR op_le (pv 4) pe_int (nomark _)) (pw_and1 (pt_cmpR (op_neD hr.units) (pv 1) (pe_lst pa_nil) (nomark _))))) (pss_one (ps_ret (cf (ok_wrong_wire T) hr T.g_law_wrong_wire passL (pa_cons (pv 1) (pa_cons (pv 4) (pa_cons (pv 5) pa_nil)))))) pss_nil)
      (pss_cons (ps_if (pt_cmpR op_eq (pv 4) pe_int (nomark _)) (pss_one (ps_ret (pe_tup (pa_cons (pe_ix ix_list (pe_lst (pa_cons pe_int (pa_cons pe_int (pa_cons pe_int pa_nil)))) (pe_op op_mod (pe_op op_fdiv (pv 5) pe_int) pe_int) (fun _ _ => rfl)) (pa_cons (cf (ok_out T) hr T.g_law_out passL (pa_cons (pv 6) (pa_cons (pv 5) pa_nil))) (pa_cons (cf (ok_out T) hr T.g_law_out passL (pa_cons (pv 0) (pa_cons (pe_op op_fdiv (pv 5) pe_int) pa_nil))) (pa_cons pe_str pa_nil))))))) pss_nil)
      (pss_cons (ps_if (pt_cmpR op_eq (pv 4) pe_int (nomark _)) (pss_one (ps_ret (pe_tup (pa_cons pe_int (pa_cons (pe_op op_mod (pv 5) (pv 6)) (pa_cons (cf (ok_out T) hr T.g_law_out passL (pa_cons (pv 0) (pa_cons (pe_op op_fdiv (pv 5) pe_int) pa_nil))) (pa_cons pe_str pa_nil))))))) pss_nil)
      (pss_cons (ps_if (pt_cmpR op_eq (pv 4) pe_int (nomark _)) (pss_cons (ps_set (i := 7) nd rfl (.inl rfl) (pe_lst (pa_cons (pe_op op_mod (pv 5) (pv 6)) (pa_cons (pe_op op_mod (pv 5) (pv 6)) pa_nil))))
        (pss_cons (ps_asg (cf (ok_out T) hr T.g_law_out passL (pa_cons (pv 6) (pa_cons (pe_op op_fdiv (pv 5) pe_int) pa_nil))) (pg_sub (pv 7) (pe_op op_mod (pe_op op_fdiv (pv 5) pe_int) pe_int) set_list (fun _ => rfl)))
        (pss_one (ps_ret (pe_tup (pa_cons pe_int (pa_cons (pe_ix ix_list (pv 7) pe_int (fun _ _ => rfl)) (pa_cons (pe_ix ix_list (pv 7) pe_int (fun _ _ => rfl)) (pa_cons pe_str pa_nil))))))))) pss_nil)
      (pss_cons (ps_if (pt_cmpR op_eq (pv 4) pe_int (nomark _)) (pss_one (ps_ret (pe_tup (pa_cons pe_int (pa_cons (cf (ok_out T) hr T.g_law_out passL (pa_cons (pv 3) (pa_cons (pv 5) pa_nil))) (pa_cons pe_int (pa_cons pe_str pa_nil))))))) pss_nil)
      (pss_cons (ps_if (pt_cmpR op_eq (pv 4) pe_int (nomark _)) (pss_one (ps_ret (pe_tup (pa_cons pe_int (pa_cons (cf (ok_out T) hr T.g_law_out passL (pa_cons pe_int (pa_cons (pv 5) pa_nil))) (pa_cons pe_int (pa_cons pe_str pa_nil))))))) pss_nil)
      (pss_one (ps_ret (cf (ok_wrong_net T) hr T.g_law_wrong_net passL (pa_cons (pv 0) (pa_cons (pv 2) (pa_cons (pv 5) pa_nil)))))))))))))))), ?_⟩
    obtain ⟨pc, h1, h2⟩ := V1.hc
    obtain ⟨pk, h3, h4⟩ := V1.hr
    have hlen : (pc.map V.ref).length = C.people.length := by rw [List.length_map, h2.1, List.length_map]
    have hlr : (pk.map V.ref).length = C.D.ropes.length := by rw [List.length_map, h4.1, List.length_map]
    have s1 := V1.ok.s1
    have p1 := V1.p1
    have p2 := V1.p2
    walk_at "sa"
    refine ⟨_, _, rfl, .inl ⟨_, SqL.of h1, rfl⟩, ?_⟩
    rw [hlen]
    walk_at "sa"
    refine ⟨rfl, _, rfl, ?_⟩
    refine ite2 (fun _ => ?_) (fun _ => ?_)
    · walk_at "sa"
      refine ⟨C.D.size, n, rfl, by omega, fun j H1 e1 hj => ?_⟩
      walk_at "sa"
      refine ⟨szl (by show 5 ≤ 100000; decide), fun q nq => ?_⟩
      walk_at "sa"
      have z0 := Int.emod_nonneg (n / 7) (show (5 : Int) ≠ 0 by decide)
      obtain ⟨f, hf⟩ : ∃ f : Int, [V.int 0, V.int 1, V.int 2, V.int 3, V.int (-1)][(n / 7 % 5).toNat]? = some (.int f) := by
        rcases (by omega : n / 7 % 5 = 0 ∨ n / 7 % 5 = 1 ∨ n / 7 % 5 = 2 ∨ n / 7 % 5 = 3 ∨ n / 7 % 5 = 4) with h | h | h | h | h <;> rw [h] <;> exact ⟨_, rfl⟩
      refine ⟨q, _, _, _, rfl, rfl, SqL.of upd_same, at_ix z0 hf, ?_⟩
      walk_at "sa"
      refine ⟨szl (by show 4 ≤ 100000; decide), fun p np => ?_⟩
      exact k.go "NoHouse" (by decide +kernel) (e1.trans (Same.new nq)) np fun H2 _ => .house hj
    walk_at "sa"
    refine ⟨rfl, _, rfl, ?_⟩
    refine ite2 (fun _ => ?_) (fun _ => ?_)
    · walk_at "sa"
      refine r_mod ?_ (by omega)
      have y0 := Int.emod_nonneg n (show ((C.D.size : Nat) : Int) ≠ 0 by omega)
      have y1 := Int.emod_lt_of_pos n (show (0 : Int) < ((C.D.size : Nat) : Int) by omega)
      walk_at "sa"
      refine ⟨3, _, rfl, by decide, fun j H1 e1 hj => ?_⟩
      walk_at "sa"
      refine ⟨szl (by show 4 ≤ 100000; decide), fun p np => ?_⟩
      exact k.go "NoGroup" (by decide +kernel) e1 np fun H2 _ => .group0 ⟨y0, y1⟩ hj
    walk_at "sa"
    refine ⟨rfl, _, rfl, ?_⟩
    refine ite2 (fun _ => ?_) (fun _ => ?_)
    · walk_at "sa"
      refine ⟨3, _, rfl, by decide, fun j H1 e1 hj => ?_⟩
      walk_at "sa"
      refine ⟨szl (by show 4 ≤ 100000; decide), fun p np => ?_⟩
      exact k.go "NoGroup" (by decide +kernel) e1 np fun H2 _ => .asked hj V1.cl
    walk_at "sa"
    refine ⟨rfl, _, rfl, ?_⟩
    refine ite2 (fun _ => ?_) (fun _ => ?_)
    · walk_at "sa"
      refine ⟨_, _, rfl, .inl ⟨_, SqL.of h3, rfl⟩, ?_⟩
      rw [hlr]
      walk_at "sa"
      refine ⟨_, _, rfl, by omega, fun j H1 e1 hj => ?_⟩
      walk_at "sa"
      refine ⟨szl (by show 4 ≤ 100000; decide), fun p np => ?_⟩
      refine k.go "NoWire" (by decide +kernel) e1 np fun H2 _ => ?_
      rcases (by omega : n / 7 % 2 = 0 ∨ n / 7 % 2 = 1) with h | h
      · rw [h]; exact .fall fun z => hj ⟨z.1, z.2.1⟩
      · rw [h]; exact .lay fun z => hj ⟨z.1, z.2.1⟩
    walk_at "sa"
    refine ite2 (fun _ => ?_) (fun _ => ?_)
    · walk_at "sa"
      refine ⟨szl (by show 0 ≤ 100000; decide), fun q nq => ?_⟩
      have e0 : Same H (upd H q (.lst [])) := Same.new nq
      refine ⟨_, _, Dp.lst (SqL.of (e0 _ _ h3)) (dp_ropes (h4.mono e0)), Dp.lst (SqL.of upd_same) .nil, (Lay.list (lay_ropes _)).sh (by decide), rfl, ?_⟩
      walk_at "sa"
      cases hrs : C.D.ropes with
      | nil =>
        refine iteF ?_
        clear hrs
        walk_at "sa"
        refine ⟨rfl, _, rfl, ?_⟩
        refine ite2 (fun _ => ?_) (fun _ => ?_)
        · walk_at "sa"
          refine ⟨szl (by show 3 ≤ 100000; decide), fun q nq => ?_⟩
          walk_at "sa"
          have z0 := Int.emod_nonneg (n / 7) (show (3 : Int) ≠ 0 by decide)
          obtain ⟨f, hf, hf2⟩ : ∃ f : Int, [V.int 4, V.int 8, V.int 9][(n / 7 % 3).toNat]? = some (.int f) ∧ (f = 4 ∨ f = 8 ∨ f = 9) := by
            rcases (by omega : n / 7 % 3 = 0 ∨ n / 7 % 3 = 1 ∨ n / 7 % 3 = 2) with h | h | h <;> rw [h]
            · exact ⟨4, rfl, .inl rfl⟩
            · exact ⟨8, rfl, .inr (.inl rfl)⟩
            · exact ⟨9, rfl, .inr (.inr rfl)⟩
          refine ⟨q, _, _, _, rfl, rfl, SqL.of upd_same, at_ix z0 hf, ?_⟩
          walk_at "sa"
          refine ⟨_, _, rfl, by omega, fun j H1 e1 hj => ?_⟩
          walk_at "sa"
          refine ⟨_, _, rfl, by omega, fun j2 H2 e2 hj2 => ?_⟩
          walk_at "sa"
          refine ⟨szl (by show 4 ≤ 100000; decide), fun p np => ?_⟩
          refine k.go "NoCaller" (by decide +kernel) (e0.trans ((Same.new nq).trans (e1.trans e2))) np fun H2 _ => ?_
          rcases hf2 with rfl | rfl | rfl
          · exact .move1 hj
          · exact .had hj
          · exact .place hj
        walk_at "sa"
        refine ⟨rfl, _, rfl, ?_⟩
        refine ite2 (fun _ => ?_) (fun _ => ?_)
        · walk_at "sa"
          refine r_mod ?_ (by omega)
          have y0 := Int.emod_nonneg n (show ((C.people.length : Nat) : Int) ≠ 0 by omega)
          have y1 := Int.emod_lt_of_pos n (show (0 : Int) < ((C.people.length : Nat) : Int) by omega)
          walk_at "sa"
          refine ⟨_, _, rfl, by omega, fun j H1 e1 hj => ?_⟩
          walk_at "sa"
          refine ⟨szl (by show 4 ≤ 100000; decide), fun p np => ?_⟩
          exact k.go "NoHouse" (by decide +kernel) (e0.trans e1) np fun H2 _ => .move2 ⟨y0, y1⟩ hj
        walk_at "sa"
        refine ⟨rfl, _, rfl, ?_⟩
        refine ite2 (fun _ => ?_) (fun _ => ?_)
        · walk_at "sa"
          refine r_mod ?_ (by omega)
          walk_at "sa"
          refine r_mod ?_ (by omega)
          have y0 := Int.emod_nonneg n (show ((C.people.length : Nat) : Int) ≠ 0 by omega)
          have y1 := Int.emod_lt_of_pos n (show (0 : Int) < ((C.people.length : Nat) : Int) by omega)
          walk_at "sa"
          refine ⟨szl (by show 2 ≤ 100000; decide), fun q nq => ?_⟩
          walk_at "sa"
          with_reducible refine r_asgS ?_
          walk_at "sa"
          refine ⟨_, _, rfl, by omega, fun j H1 e1 hj => ?_⟩
          have hq := e1 _ _ (upd_same)
          with_reducible refine r_gSub ?_
          walk_at "sa"
          rcases (by omega : n / 7 % 2 = 0 ∨ n / 7 % 2 = 1) with h | h
          · refine ⟨q, _, _, 0, rfl, rfl, hq, by rw [h]; rfl, ?_⟩
            walk_at "sa"
            refine ⟨q, _, _, _, rfl, rfl, SqL.of upd_same, at_ix (by decide) rfl, ?_⟩
            walk_at "sa"
            refine ⟨q, _, _, _, rfl, rfl, SqL.of upd_same, at_ix (by decide) rfl, ?_⟩
            walk_at "sa"
            refine ⟨szl (by show 4 ≤ 100000; decide), fun p np => ?_⟩
            exact k.go "NoCaller" (by decide +kernel) (Same.mut (e0.trans ((Same.new nq).trans e1)) (e0.free nq)) np fun H2 _ => .post1 hj
          · refine ⟨q, _, _, 1, rfl, rfl, hq, by rw [h]; rfl, ?_⟩
            walk_at "sa"
            refine ⟨q, _, _, _, rfl, rfl, SqL.of upd_same, at_ix (by decide) rfl, ?_⟩
            walk_at "sa"
            refine ⟨q, _, _, _, rfl, rfl, SqL.of upd_same, at_ix (by decide) rfl, ?_⟩
            walk_at "sa"
            refine ⟨szl (by show 4 ≤ 100000; decide), fun p np => ?_⟩
            exact k.go "NoCaller" (by decide +kernel) (Same.mut (e0.trans ((Same.new nq).trans e1)) (e0.free nq)) np fun H2 _ => .post2 ⟨y0, y1⟩ hj
        walk_at "sa"
        refine ⟨rfl, _, rfl, ?_⟩
        refine ite2 (fun _ => ?_) (fun _ => ?_)
        · walk_at "sa"
          refine ⟨_, _, rfl, by omega, fun j H1 e1 hj => ?_⟩
          walk_at "sa"
          refine ⟨szl (by show 4 ≤ 100000; decide), fun p np => ?_⟩
          exact k.go "NoCopy" (by decide +kernel) (e0.trans e1) np fun H2 _ => .copy hj
        walk_at "sa"
        refine ⟨rfl, _, rfl, ?_⟩
        refine ite2 (fun _ => ?_) (fun _ => ?_)
        · walk_at "sa"
          refine ⟨2, _, rfl, by decide, fun j H1 e1 hj => ?_⟩
          walk_at "sa"
          refine ⟨szl (by show 4 ≤ 100000; decide), fun p np => ?_⟩
          exact k.go "NoLetter" (by decide +kernel) (e0.trans e1) np fun H2 _ => .letter (by rw [V1.ns]; exact hj)
        walk_at "sa"
        exact ⟨C, S, lr, lc, n, rfl, V1.mono e0, fun p d x y z H' e => k p d x y z H' (e0.trans e)⟩
      | cons r0 rs =>
        refine iteT ?_
        walk_at "sa"
        exact ⟨C, S, lr, lc, lot, n, rfl, V1.mono e0, by simp [hrs], fun p d x y z H' e => k p d x y z H' (e0.trans e)⟩
    · refine iteF ?_
      have e0 : Same H H := Same.refl H
      walk_at "sa"
      refine ⟨rfl, _, rfl, ?_⟩
      refine ite2 (fun _ => ?_) (fun _ => ?_)
      · walk_at "sa"
        refine ⟨szl (by show 3 ≤ 100000; decide), fun q nq => ?_⟩
        walk_at "sa"
        have z0 := Int.emod_nonneg (n / 7) (show (3 : Int) ≠ 0 by decide)
        obtain ⟨f, hf, hf2⟩ : ∃ f : Int, [V.int 4, V.int 8, V.int 9][(n / 7 % 3).toNat]? = some (.int f) ∧ (f = 4 ∨ f = 8 ∨ f = 9) := by
          rcases (by omega : n / 7 % 3 = 0 ∨ n / 7 % 3 = 1 ∨ n / 7 % 3 = 2) with h | h | h <;> rw [h]
          · exact ⟨4, rfl, .inl rfl⟩
          · exact ⟨8, rfl, .inr (.inl rfl)⟩
          · exact ⟨9, rfl, .inr (.inr rfl)⟩
        refine ⟨q, _, _, _, rfl, rfl, SqL.of upd_same, at_ix z0 hf, ?_⟩
        walk_at "sa"
        refine ⟨_, _, rfl, by omega, fun j H1 e1 hj => ?_⟩
        walk_at "sa"
        refine ⟨_, _, rfl, by omega, fun j2 H2 e2 hj2 => ?_⟩
        walk_at "sa"
        refine ⟨szl (by show 4 ≤ 100000; decide), fun p np => ?_⟩
        refine k.go "NoCaller" (by decide +kernel) (e0.trans ((Same.new nq).trans (e1.trans e2))) np fun H2 _ => ?_
        rcases hf2 with rfl | rfl | rfl
        · exact .move1 hj
        · exact .had hj
        · exact .place hj
      walk_at "sa"
      refine ⟨rfl, _, rfl, ?_⟩
      refine ite2 (fun _ => ?_) (fun _ => ?_)
      · walk_at "sa"
        refine r_mod ?_ (by omega)
        have y0 := Int.emod_nonneg n (show ((C.people.length : Nat) : Int) ≠ 0 by omega)
        have y1 := Int.emod_lt_of_pos n (show (0 : Int) < ((C.people.length : Nat) : Int) by omega)
        walk_at "sa"
        refine ⟨_, _, rfl, by omega, fun j H1 e1 hj => ?_⟩
        walk_at "sa"
        refine ⟨szl (by show 4 ≤ 100000; decide), fun p np => ?_⟩
        exact k.go "NoHouse" (by decide +kernel) (e0.trans e1) np fun H2 _ => .move2 ⟨y0, y1⟩ hj
      walk_at "sa"
      refine ⟨rfl, _, rfl, ?_⟩
      refine ite2 (fun _ => ?_) (fun _ => ?_)
      · walk_at "sa"
        refine r_mod ?_ (by omega)
        walk_at "sa"
        refine r_mod ?_ (by omega)
        have y0 := Int.emod_nonneg n (show ((C.people.length : Nat) : Int) ≠ 0 by omega)
        have y1 := Int.emod_lt_of_pos n (show (0 : Int) < ((C.people.length : Nat) : Int) by omega)
        walk_at "sa"
        refine ⟨szl (by show 2 ≤ 100000; decide), fun q nq => ?_⟩
        walk_at "sa"
        with_reducible refine r_asgS ?_
        walk_at "sa"
        refine ⟨_, _, rfl, by omega, fun j H1 e1 hj => ?_⟩
        have hq := e1 _ _ (upd_same)
        with_reducible refine r_gSub ?_
        walk_at "sa"
        rcases (by omega : n / 7 % 2 = 0 ∨ n / 7 % 2 = 1) with h | h
        · refine ⟨q, _, _, 0, rfl, rfl, hq, by rw [h]; rfl, ?_⟩
          walk_at "sa"
          refine ⟨q, _, _, _, rfl, rfl, SqL.of upd_same, at_ix (by decide) rfl, ?_⟩
          walk_at "sa"
          refine ⟨q, _, _, _, rfl, rfl, SqL.of upd_same, at_ix (by decide) rfl, ?_⟩
          walk_at "sa"
          refine ⟨szl (by show 4 ≤ 100000; decide), fun p np => ?_⟩
          exact k.go "NoCaller" (by decide +kernel) (Same.mut (e0.trans ((Same.new nq).trans e1)) (e0.free nq)) np fun H2 _ => .post1 hj
        · refine ⟨q, _, _, 1, rfl, rfl, hq, by rw [h]; rfl, ?_⟩
          walk_at "sa"
          refine ⟨q, _, _, _, rfl, rfl, SqL.of upd_same, at_ix (by decide) rfl, ?_⟩
          walk_at "sa"
          refine ⟨q, _, _, _, rfl, rfl, SqL.of upd_same, at_ix (by decide) rfl, ?_⟩
          walk_at "sa"
          refine ⟨szl (by show 4 ≤ 100000; decide), fun p np => ?_⟩
          exact k.go "NoCaller" (by decide +kernel) (Same.mut (e0.trans ((Same.new nq).trans e1)) (e0.free nq)) np fun H2 _ => .post2 ⟨y0, y1⟩ hj
      walk_at "sa"
      refine ⟨rfl, _, rfl, ?_⟩
      refine ite2 (fun _ => ?_) (fun _ => ?_)
      · walk_at "sa"
        refine ⟨_, _, rfl, by omega, fun j H1 e1 hj => ?_⟩
        walk_at "sa"
        refine ⟨szl (by show 4 ≤ 100000; decide), fun p np => ?_⟩
        exact k.go "NoCopy" (by decide +kernel) (e0.trans e1) np fun H2 _ => .copy hj
      walk_at "sa"
      refine ⟨rfl, _, rfl, ?_⟩
      refine ite2 (fun _ => ?_) (fun _ => ?_)
      · walk_at "sa"
        refine ⟨2, _, rfl, by decide, fun j H1 e1 hj => ?_⟩
        walk_at "sa"
        refine ⟨szl (by show 4 ≤ 100000; decide), fun p np => ?_⟩
        exact k.go "NoLetter" (by decide +kernel) (e0.trans e1) np fun H2 _ => .letter (by rw [V1.ns]; exact hj)
      walk_at "sa"
      exact ⟨C, S, lr, lc, n, rfl, V1.mono e0, fun p d x y z H' e => k p d x y z H' (e0.trans e)⟩
end
end Kn
set_option Elab.async false
set_option linter.all false
set_option maxRecDepth 100000
set_option maxHeartbeats 4000000
namespace Kn
open PySem L2
local macro_rules | `(tactic| walk_at "st") => `(tactic| repeat' (first
  | with_reducible refine r_seq ?_ | with_reducible refine r_set ?_ | with_reducible refine r_ret ?_ | with_reducible refine r_retN ?_ | with_reducible refine r_drop ?_ | with_reducible refine r_next ?_
  | with_reducible refine r_if ?_ | ((with_reducible refine r_var (v := ?_) ?hs ?_); (case hs => exact rfl)) | with_reducible refine r_c ?_ | with_reducible refine r_op ?_ | with_reducible refine r_I0 ?_
  | with_reducible refine r_test ?_ | with_reducible refine r_B ?_ | with_reducible refine ⟨_, (rfl : V.bl _ = V.bl _), ?_⟩ | with_reducible refine r_not ?_ | with_reducible refine r_or ?_ | with_reducible refine r_and ?_
  | with_reducible refine r_nil ?_ | with_reducible refine r_cons ?_ | with_reducible refine r_call ?_ | with_reducible refine r_cb ?_ | with_reducible refine r_tup ?_ | with_reducible refine r_lst ?_
  | with_reducible refine r_gname ?_ | with_reducible refine r_for ?_ | with_reducible refine r_iList ?_ | with_reducible refine r_iRng1 ?_ | with_reducible refine r_lc ?_ | with_reducible refine r_yes ?_
  | with_reducible refine r_chain ?_ | with_reducible refine r_sfld ?_ | with_reducible refine r_bm ?_ | with_reducible refine r_bm0 ?_ | with_reducible refine r_make ?_ | with_reducible refine r_sl ?_ | with_reducible refine r_nopart ?_ | with_reducible refine r_part ?_ | with_reducible refine r_iEnum ?_ | with_reducible refine r_iRng2 ?_))
local macro_rules | `(tactic| walk_at "sa") => `(tactic| repeat' (first
  | with_reducible refine r_seq ?_ | with_reducible refine r_set ?_ | with_reducible refine r_ret ?_ | with_reducible refine r_retN ?_ | with_reducible refine r_drop ?_ | with_reducible refine r_next ?_
  | with_reducible refine r_if ?_ | ((with_reducible refine r_var (v := ?_) ?hs ?_); (case hs => exact rfl)) | with_reducible refine r_c ?_ | with_reducible refine r_op ?_ | with_reducible refine r_I0 ?_
  | with_reducible refine r_test ?_ | with_reducible refine r_B ?_ | with_reducible refine ⟨_, (rfl : V.bl _ = V.bl _), ?_⟩ | with_reducible refine r_not ?_ | with_reducible refine r_or ?_ | with_reducible refine r_and ?_
  | with_reducible refine r_nil ?_ | with_reducible refine r_cons ?_ | with_reducible refine r_call ?_ | with_reducible refine r_cb ?_ | with_reducible refine r_tup ?_ | with_reducible refine r_lst ?_
  | with_reducible refine r_gname ?_ | with_reducible refine r_for ?_ | with_reducible refine r_iList ?_ | with_reducible refine r_iRng1 ?_ | with_reducible refine r_lc ?_ | with_reducible refine r_yes ?_
  | with_reducible refine r_chain ?_ | with_reducible refine r_sfld ?_ | with_reducible refine r_bm ?_ | with_reducible refine r_bm0 ?_ | with_reducible refine r_make ?_ | with_reducible refine r_sl ?_ | with_reducible refine r_nopart ?_ | with_reducible refine r_part ?_ | with_reducible refine r_iEnum ?_ | with_reducible refine r_iRng2 ?_
  | with_reducible refine r_un ?_ | with_reducible refine r_rU ?_ | with_reducible refine r_div ?_ | with_reducible refine r_mod ?_ | with_reducible refine r_pow ?_ | fail))
theorem seqT {K : PySem.W.Frag} {H H' : Hp} {a : Addr} {xs : List V} (e : Same H H') (h : SqT K H a xs) : SqT K H' a xs := by
  rcases h with h | h
  · left
    rcases h with h | ⟨o, h⟩
    · exact .inl (e _ _ h)
    · exact .inr ⟨o, e _ _ h⟩
  · exact .inr h
mutual
theorem Dp.mono {K : PySem.W.Frag} {H H' : Hp} (e : Same H H') : ∀ (d : PyData) (v : V), Dp K H v d → Dp K H' v d
  | .none, _, h => by cases h; exact .non
  | .bool _, _, h => by cases h; exact .bl _
  | .int _, _, h => by cases h; exact .int _
  | .str _, _, h => by cases h; exact .str _
  | .list ds, _, h => by
    cases h with
    | lst h1 h2 => exact .lst (e.seq h1) (DpAll.mono e ds _ h2)
  | .tuple ds, _, h => by
    cases h with
    | tup h1 h2 => exact .tup (seqT e h1) (DpAll.mono e ds _ h2)
  | .dict _, _, h => by cases h
theorem DpAll.mono {K : PySem.W.Frag} {H H' : Hp} (e : Same H H') : ∀ (ds : List PyData) (vs : List V), DpAll K H vs ds → DpAll K H' vs ds
  | [], _, h => by cases h; exact .nil
  | d :: ds, _, h => by
    cases h with
    | cons h1 h2 => exact .cons (Dp.mono e d _ h1) (DpAll.mono e ds _ h2)
end
/-! what told tells -/
def dV : V → PyData
  | .bl b => .bool b
  | .int i => .int i
  | .str x => .str x
  | _ => .none
def dTup (xs : List V) : PyData := .tuple (xs.map dV)
theorem dp_flat {K : PySem.W.Frag} {H : Hp} : ∀ {xs : List V}, xs.all okV = true → DpAll K H xs (xs.map dV)
  | [], _ => .nil
  | x :: xs, h => by
    rw [List.all_cons, Bool.and_eq_true] at h
    refine .cons ?_ (dp_flat h.2)
    have h1 := h.1
    cases x with
    | non => exact .non
    | bl b => exact .bl b
    | int i => exact .int i
    | str x => exact .str x
    | byt _ => cases h1
    | flt _ => cases h1
    | ref _ => cases h1
    | ty _ => cases h1
theorem lay_flat {xs : List V} (h : xs.all okV = true) : LayAll 0 (xs.map dV) := .of fun d m => by
  obtain ⟨x, hx, rfl⟩ := List.mem_map.mp m
  have h1 := List.all_eq_true.mp h x hx
  cases x with
  | non => exact lay_non
  | bl b => exact ⟨by simp [dV, PyData.canLay0], by simp [dV, PyData.depth]⟩
  | int i => exact lay_int i
  | str x => exact ⟨by simp only [dV, PyData.canLay0]; exact h1, by simp [dV, PyData.depth]⟩
  | byt _ => cases h1
  | flt _ => cases h1
  | ref _ => cases h1
  | ty _ => cases h1
theorem dp_tups {K : PySem.W.Frag} {H : Hp} : ∀ {ps : List Addr} {xss : List (List V)}, Tups H ps xss → (∀ e ∈ xss, e.all okV = true) → DpAll K H (ps.map V.ref) (xss.map dTup)
  | [], [], _, _ => .nil
  | [], _ :: _, h, _ => by have := h.1; simp at this
  | _ :: _, [], h, _ => by have := h.1; simp at this
  | p :: ps, x :: xss, h, ho => by
    refine .cons (.tup (SqT.of (h.2 0 p _ rfl rfl)) (dp_flat (ho x List.mem_cons_self))) (dp_tups ⟨by have := h.1; simpa using this, fun i q y a b => h.2 (i + 1) q y a b⟩ fun e m => ho e (List.mem_cons_of_mem _ m))
theorem lay_tups {xss : List (List V)} (ho : ∀ e ∈ xss, e.all okV = true) : LayAll 1 (xss.map dTup) := .of fun d m => by
  obtain ⟨x, hx, rfl⟩ := List.mem_map.mp m
  exact Lay.tup (lay_flat (ho x hx))
theorem ok_row (r : Row) : r.v.all okV = true := by
  unfold Row.v
  cases r.by_ <;> rfl
theorem ok_air {C : Cn} {n : Nat} {e : List V} (h : AirOk C n e) : e.all okV = true := by
  obtain ⟨k, r, hh, o, rfl, _⟩ := h.ex
  cases o <;> rfl
theorem okv_had {hands : List (List V)} {c : Int} (h : ∀ e ∈ hands, ∃ n o : Int, e = [.int n, .int o]) : (hadF hands c).all okV = true := by
  rw [List.all_eq_true]
  intro v m
  unfold hadF at m
  obtain ⟨e, he, hv⟩ := List.mem_filterMap.mp m
  obtain ⟨n, o, rfl⟩ := h e he
  dsimp only at hv
  split at hv
  · cases hv; rfl
  · cases hv
def groupD (C : Cn) (S : NS) (g : Nat) (ns : List Int) : PyData := .list [.list (((S.rows g).map Row.v).map dTup), .list (intsD (liveF C.D S.up g)), .list (intsD ns), .list []]
def toldD (C : Cn) (S : NS) (ns : Nat → List Int) : PyData :=
  .list ((List.range 3).map (fun g => groupD C S g (ns g)) ++ [.list (intsD (C.people.map Prod.fst))] ++ [.list [.list (S.air.map dTup), .list ((S.stories 0).map dTup), .list ((S.stories 1).map dTup), .list ((hadF S.hands ((C.people.length : Int) - 1)).map dV)]])
def Told (C : Cn) (S : NS) (d : PyData) : Prop := ∃ ns : Nat → List Int, (∀ g : Nat, g < 3 → OpensOf C.D (liveF C.D S.up (g : Nat)) (S.rows g) (ns g)) ∧ d = toldD C S ns
theorem Told.uniq {C : Cn} {S : NS} {d e : PyData} (h : Told C S d) (h' : Told C S e) : d = e := by
  obtain ⟨ns, h1, rfl⟩ := h
  obtain ⟨ms, h2, rfl⟩ := h'
  unfold toldD
  congr 3
  refine List.map_congr_left fun g hg => ?_
  rw [(h1 g (List.mem_range.mp hg)).uniq (h2 g (List.mem_range.mp hg))]
theorem LayAll.app {n : Nat} {a b : List PyData} (h : LayAll n a) (h' : LayAll n b) : LayAll n (a ++ b) := by
  induction a with
  | nil => exact h'
  | cons x xs ih =>
    have h0 := h
    obtain ⟨h1, h2⟩ := h0
    simp only [PyData.canLayAll0, Bool.and_eq_true, PyData.depthAll] at h1 h2
    exact .cons ⟨h1.1, by omega⟩ (ih ⟨h1.2, by omega⟩)
theorem LayAll.mono {n m : Nat} {a : List PyData} (h : LayAll n a) (hm : n ≤ m) : LayAll m a := ⟨h.1, Nat.le_trans h.2 hm⟩
theorem Told.lay {C : Cn} {S : NS} {c : Nat} {d : PyData} (W : Wf C S c) (h2 : S.ns = 2) (h : Told C S d) : Lay 9 d := by
  obtain ⟨ns, h1, rfl⟩ := h
  unfold toldD
  refine Lay.list (n := 8) (.app (.app (.of fun d m => ?_) (.cons ?_ .nil)) (.cons ?_ .nil))
  · obtain ⟨g, hg, rfl⟩ := List.mem_map.mp m
    unfold groupD
    have i0 : ∀ l : List Int, Lay 3 (.list (intsD l)) := fun l => Lay.list (n := 2) ((lay_ints l).mono (by decide))
    exact (Lay.list (n := 3) (.cons (Lay.list (n := 2) ((lay_tups fun e he => by obtain ⟨r, _, rfl⟩ := List.mem_map.mp he; exact ok_row r).mono (by decide))) (.cons (i0 _) (.cons (i0 _) (.cons (i0 []) .nil))))).mono (by decide)
  · exact (Lay.list (lay_ints _)).mono (by decide)
  · have t : ∀ l : List (List V), (∀ e ∈ l, e.all okV = true) → Lay 3 (.list (l.map dTup)) := fun l h => Lay.list (n := 2) ((lay_tups h).mono (by decide))
    exact (Lay.list (n := 3) (.cons (t _ fun e m => ok_air (W.ai e m)) (.cons (t _ (W.st 0 (by omega))) (.cons (t _ (W.st 1 (by omega))) (.cons ((Lay.list (lay_flat (okv_had W.ha))).mono (by decide)) .nil))))).mono (by decide)

theorem DpAll.app {K : PySem.W.Frag} {H : Hp} {us vs : List V} {ds es : List PyData} (h : DpAll K H us ds) (h' : DpAll K H vs es) : DpAll K H (us ++ vs) (ds ++ es) := by
  induction us generalizing ds with
  | nil => cases h; exact h'
  | cons u us ih =>
    cases h with
    | cons h1 h2 => exact .cons h1 (ih h2)
def msk (p : Addr) (H : Hp) : Hp := fun a => if a = p then none else H a
theorem msk_ne {p a : Addr} {H : Hp} (h : a ≠ p) : msk p H a = H a := if_neg h
theorem msk_in {p : Addr} {H : Hp} : Same (msk p H) H := fun a o h => by
  by_cases z : a = p
  · unfold msk at h; rw [if_pos z] at h; cases h
  · rw [msk_ne z] at h; exact h
theorem msk_same {p : Addr} {H H' : Hp} (e : Same H H') : Same (msk p H) (msk p H') := fun a o h => by
  by_cases z : a = p
  · unfold msk at h; rw [if_pos z] at h; cases h
  · rw [msk_ne z] at h ⊢; exact e _ _ h
theorem msk_upd {p : Addr} {H : Hp} {o : HO} : Same (msk p H) (msk p (upd H p o)) := fun a u h => by
  by_cases z : a = p
  · unfold msk at h; rw [if_pos z] at h; cases h
  · rw [msk_ne z] at h ⊢; rw [upd_ne z]; exact h
theorem same_msk {p : Addr} {G H : Hp} (e : Same G H) (h : G p = none) : Same G (msk p H) := fun a o ha => by
  rw [msk_ne (ne_of_none ha h)]; exact e _ _ ha
section
variable {P : Program} {w : World} {K : PySem.W.Frag} {mg : Str → Option Value} {base : Heap}
def spTold2 (K : PySem.W.Frag) : Sp := fun vs H Q _ => ∃ (G : Hp) (C : Cn) (A : Lb → Addr) (S : NS) (c : Nat) (lc : Addr) (pc : List V), vs = [.ref (A .net), .ref lc] ∧ NetAt K G H C A S ∧ Wf C S c ∧ c < 20000 ∧ S.clean = true ∧ S.ns = 2 ∧ H lc = some (.lst pc) ∧ pc.length = C.people.length ∧ 1 ≤ C.people.length ∧
  ∀ p d H', Same H H' → Dp K H' (.ref p) d → Told C S d → Q (.ref p) H'
theorem sc_told2 : FnScope ["_law_net", "_law_callers_here", "_law_told_here", "_law_group", "_law_caller"] ["_law_net", "_law_callers_here"] (defScope s_law_told) := ⟨rfl, rfl, rfl, by decide +kernel, rfl, by decide +kernel, by decide +kernel⟩
theorem ok_told2 (T : Tx K mg) : Fn P w K mg base 7 (He.ga K "_law_told") [] (spTold2 K) := by
  refine mkFn T.F_law_told sc_told2 (fun _ _ _ _ _ _ us hl => match us, hl with | [_, _], _ => rfl) (fun vs H Q E h => ?_) (fun cdv A outer s H vs Q E hr h => ?_)
  · obtain ⟨G, C, A, S, c, lc, pc, rfl, _⟩ := h; rfl
  · obtain ⟨G, C, A, S, c, lc, pc, rfl, N, W, cc, cl, n2, hlc, hpl, p1, k⟩ := h
    have nd := sc_told2.nd
    refine ⟨_, pss_cons (ps_setLc (i := 2) (own := [("_law_group", 3)]) (g := gName 3) rfl nd rfl rfl (sw_true rfl rfl rfl (by decide +kernel)) (pi_range1 (by rfl) T.b_range (pa_cons pe_int pa_nil)) (blkOk_by (N := ["_law_net", "_law_callers_here", "_law_told_here", "_law_group", "_law_caller"]) (sc := defScope s_law_told) (by decide +kernel))
        (fun _ _ _ _ _ => pg_name (i := 3) nd rfl (Or.inl rfl)) (fun _ _ _ _ _ => pts_nil) (fun _ _ _ _ _ => pe_lst (pa_cons (cm (pv 0) T.c_Net T.m_Net_rows (ok_nrows T) hr passL (pa_cons (pv 3) pa_nil)) (pa_cons (cm (pv 0) T.c_Net T.m_Net_live (ok_nlive T) hr passL (pa_cons (pv 3) pa_nil))
          (pa_cons (cm (pv 0) T.c_Net T.m_Net_opens (ok_nopens T) hr passL (pa_cons (pv 3) pa_nil)) (pa_cons (cm (pv 0) T.c_Net T.m_Net_notes (ok_nnotes T) hr passL (pa_cons (pv 3) pa_nil)) pa_nil))))))
      (pss_cons (ps_expr (pe_bm PySem.F.plainAttrs_list PySem.F.slot_list_append PySem.F.type_list_append mt_append (pv 2) (pa_cons
        (pe_lc (own := [("_law_caller", 4)]) (g := gName 4) rfl nd (pi_range1 (by rfl) T.b_range (pa_cons (pe_callB call_len (by rfl) T.b_len PySem.boot_len (pa_cons (pv 1) pa_nil)) pa_nil)) (blkOk_by (N := ["_law_net", "_law_callers_here", "_law_told_here", "_law_group", "_law_caller"]) (sc := defScope s_law_told) (by decide +kernel))
          (fun _ _ _ _ _ => pg_name (i := 4) nd rfl (Or.inl rfl)) (fun _ _ _ _ _ => pts_nil) (fun _ _ _ _ _ => cm (pv 0) T.c_Net T.m_Net_place (ok_place T) hr passL (pa_cons (pv 4) pa_nil))) pa_nil)))
      (pss_cons (ps_expr (pe_bm PySem.F.plainAttrs_list PySem.F.slot_list_append PySem.F.type_list_append mt_append (pv 2) (pa_cons
        (pe_lst (pa_cons (cm0 (pv 0) T.c_Net T.m_Net_flying (ok_flying T) hr passL) (pa_cons (cm (pv 0) T.c_Net T.m_Net_story (ok_story T) hr passL (pa_cons pe_int pa_nil)) (pa_cons (cm (pv 0) T.c_Net T.m_Net_story (ok_story T) hr passL (pa_cons pe_int pa_nil))
          (pa_cons (cm (pv 0) T.c_Net T.m_Net_had (ok_had T) hr passL (pa_cons (pe_op op_sub (pe_callB call_len (by rfl) T.b_len PySem.boot_len (pa_cons (pv 1) pa_nil)) pe_int) pa_nil)) pa_nil))))) pa_nil)))
      (pss_one (ps_ret (pv 2))))), ?_⟩
    walk_at "sa"
    refine ⟨3, rfl, by decide, by decide, fun p np => ?_⟩
    have gp : G p = none := N.same.free np
    refine lc_it walk_range (fun i H' => Same H H' ∧ ∃ (us : List V) (ns : Nat → List Int), H' p = some (.lst us) ∧ us.length = i ∧ DpAll K (msk p H') us ((List.range i).map fun g => groupD C S g (ns g)) ∧ ∀ g : Nat, g < i → OpensOf C.D (liveF C.D S.up (g : Nat)) (S.rows g) (ns g))
      ⟨Same.new np, [], fun _ => [], upd_same, rfl, .nil, fun g h => absurd h (Nat.not_lt_zero _)⟩ (fun _ _ _ _ => trivial) ?_ ?_
    · rintro i x H1 H1' hi ⟨e1, us, ns, hp, hl, hd, ho⟩ ⟨rfl, rfl⟩
      have hi3 : i < 3 := hi
      have g3 : G3 ((0 : Int) + (i : Nat)) := ⟨by omega, by omega⟩
      have zi : ((0 : Int) + (i : Nat)).toNat = i := by omega
      have ze : ((0 : Int) + (i : Nat)) = ((i : Nat) : Int) := by omega
      have N1 := N.ext e1
      obtain ⟨dx1, h1⟩ := N1.net
      walk_at "sa"
      refine ⟨rfl, ?_⟩
      walk_at "sa"
      refine iteT ?_
      walk_at "sa"
      refine mz h1 (by decide +kernel) ?_
      walk_at "sa"
      refine ⟨G, C, A, S, _, rfl, N1, fun _ ps hps r1 H2 n1 e2 hr1 => ?_, fun z => absurd g3 z⟩
      walk_at "sa"
      refine mz (e2 _ _ h1) (by decide +kernel) ?_
      walk_at "sa"
      refine ⟨G, C, A, S, _, rfl, N1.ext e2, fun _ r2 H3 n2 e3 hr2 => ?_, fun z => absurd g3 z⟩
      walk_at "sa"
      refine mz (e3 _ _ (e2 _ _ h1)) (by decide +kernel) ?_
      walk_at "sa"
      refine ⟨G, C, A, S, c, _, rfl, (N1.ext e2).ext e3, W, fun _ ms hms r3 H4 n3 e4 hr3 => ?_, fun z => absurd g3 z⟩
      walk_at "sa"
      refine mz (e4 _ _ (e3 _ _ (e2 _ _ h1))) (by decide +kernel) ?_
      walk_at "sa"
      refine ⟨G, C, A, S, _, rfl, ((N1.ext e2).ext e3).ext e4, cl, fun _ r4 H5 n4 e5 hr4 => ?_, fun z => absurd g3 z⟩
      walk_at "sa"
      refine ⟨szl (by show 4 ≤ 100000; decide), fun pg npg => ?_⟩
      have e6 : Same H5 (upd H5 pg (.lst [.ref r1, .ref r2, .ref r3, .ref r4])) := Same.new npg
      have e25 : Same H2 H5 := (e3.trans e4).trans e5
      have eAll : Same H1' (upd H5 pg (.lst [.ref r1, .ref r2, .ref r3, .ref r4])) := (e2.trans e25).trans e6
      have m1 : p ≠ r1 := ne_of_none hp n1
      have m2 : p ≠ r2 := ne_of_none (e2 _ _ hp) n2
      have m3 : p ≠ r3 := ne_of_none (e3 _ _ (e2 _ _ hp)) n3
      have m4 : p ≠ r4 := ne_of_none (e4 _ _ (e3 _ _ (e2 _ _ hp))) n4
      have m5 : p ≠ pg := ne_of_none (e25 _ _ (e2 _ _ hp)) npg
      have hp6 := eAll _ _ hp
      generalize hH6 : upd H5 pg (.lst [.ref r1, .ref r2, .ref r3, .ref r4]) = H6 at e6 eAll hp6 ⊢
      have hpg : H6 pg = some (.lst [.ref r1, .ref r2, .ref r3, .ref r4]) := by rw [← hH6]; exact upd_same
      refine ⟨_, hp6, sll (by omega), Same.mut (e1.trans eAll) np, us ++ [.ref pg], fun g => if g = i then ms else ns g, upd_same, by rw [List.length_append, hl]; rfl, ?_, fun g hg => ?_⟩
      · rw [List.range_succ, List.map_append]
        have hd2 : (List.range i).map (fun g => groupD C S g (if g = i then ms else ns g)) = (List.range i).map fun g => groupD C S g (ns g) := List.map_congr_left fun g hg => by rw [if_neg (by have := List.mem_range.mp hg; omega)]
        rw [hd2]
        refine DpAll.mono msk_upd _ _ (Kn.DpAll.app (DpAll.mono (msk_same eAll) _ _ hd) (.cons ?_ .nil))
        have q1 : msk p H6 r1 = some (.lst (ps.map .ref)) := by rw [msk_ne (Ne.symm m1)]; exact e6 _ _ (e25 _ _ hr1)
        have q2 : msk p H6 r2 = some (.lst ((liveF C.D S.up (0 + (i : Nat))).map .int)) := by rw [msk_ne (Ne.symm m2)]; exact e6 _ _ (e5 _ _ (e4 _ _ hr2))
        have q3 : msk p H6 r3 = some (.lst (ms.map .int)) := by rw [msk_ne (Ne.symm m3)]; exact e6 _ _ (e5 _ _ hr3)
        have q4 : msk p H6 r4 = some (.lst []) := by rw [msk_ne (Ne.symm m4)]; exact e6 _ _ hr4
        have q5 : msk p H6 pg = some (.lst [.ref r1, .ref r2, .ref r3, .ref r4]) := by rw [msk_ne (Ne.symm m5)]; exact hpg
        have sG : Same G (msk p H6) := same_msk ((N1.same).trans eAll) gp
        rw [zi] at hps
        unfold groupD
        show Dp K (msk p H6) _ (.list [_, _, .list (intsD (if i = i then ms else ns i)), _])
        rw [if_pos rfl, ← ze]
        exact .lst (SqL.of q5) (.cons (.lst (SqL.of q1) (dp_tups (hps.mono sG) fun e he => by obtain ⟨r, _, rfl⟩ := List.mem_map.mp he; exact ok_row r)) (.cons (.lst (SqL.of q2) (dp_ints _)) (.cons (.lst (SqL.of q3) (dp_ints _)) (.cons (.lst (SqL.of q4) .nil) .nil))))
      · by_cases z : g = i
        · subst z
          show OpensOf C.D (liveF C.D S.up (g : Nat)) (S.rows g) (if g = g then ms else ns g)
          rw [if_pos rfl, ← ze]
          rw [zi] at hms
          exact hms
        · show OpensOf C.D (liveF C.D S.up (g : Nat)) (S.rows g) (if g = i then ms else ns g)
          rw [if_neg z]; exact ho g (by omega)
    · rintro H1 ⟨e1, us, ns, hp, hl, hd, ho⟩
      rw [show (3 : Int).toNat = 3 from rfl] at hl hd ho
      have N1 := N.ext e1
      obtain ⟨dx1, h1⟩ := N1.net
      have p2 := N.fix.pl
      walk_at "sa"
      refine ⟨.inl ⟨rfl, _, SqL.of hp⟩, ?_⟩
      walk_at "sa"
      refine ⟨_, _, rfl, .inl ⟨_, SqL.of (e1 _ _ hlc), rfl⟩, ?_⟩
      rw [hpl]
      walk_at "sa"
      refine ⟨_, rfl, by omega, by omega, fun q nq => ?_⟩
      refine lc_it walk_range (fun i H' => Same H1 H' ∧ H' q = some (.lst ((((C.people.map Prod.fst).take i)).map .int))) ⟨Same.new nq, upd_same⟩ (fun _ _ _ _ => trivial) ?_ ?_
      · rintro i x H2 H2' hi ⟨e2, hq⟩ ⟨rfl, rfl⟩
        have hi' : i < C.people.length := by omega
        have zi : ((0 : Int) + (i : Nat)).toNat = i := by omega
        walk_at "sa"
        refine ⟨rfl, ?_⟩
        walk_at "sa"
        refine iteT ?_
        walk_at "sa"
        refine mz (e2 _ _ h1) (by decide +kernel) ?_
        walk_at "sa"
        refine ⟨G, C, A, S, _, rfl, N1.ext e2, fun _ _ r hr => ?_, fun z => absurd ⟨by omega, by omega⟩ z⟩
        rw [zi] at hr
        refine ⟨_, hq, sll (by rw [List.length_map, List.length_take]; omega), Same.mut e2 nq, ?_⟩
        rw [List.take_add_one, List.map_append]
        rw [show (C.people.map Prod.fst)[i]? = some r.1 from get_map (f := Prod.fst) hr]
        exact upd_same
      · rintro H2 ⟨e2, hq⟩
        rw [show ((C.people.length : Nat) : Int).toNat = (C.people.map Prod.fst).length by rw [List.length_map]; omega, List.take_length] at hq
        have nqp : p ≠ q := ne_of_none hp nq
        refine ⟨p, _, _, rfl, rfl, e2 _ _ hp, sll (by omega), ?_⟩
        have hd2 : DpAll K (msk p (upd H2 p (.lst (us ++ [V.ref q])))) (us ++ [V.ref q]) ((List.range 3).map (fun g => groupD C S g (ns g)) ++ [.list (intsD (C.people.map Prod.fst))]) := by
          refine DpAll.mono msk_upd _ _ (Kn.DpAll.app (DpAll.mono (msk_same e2) _ _ hd) (.cons (.lst (SqL.of ?_) (dp_ints _)) .nil))
          rw [msk_ne (Ne.symm nqp)]; exact hq
        have eH : Same H (upd H2 p (.lst (us ++ [V.ref q]))) := Same.mut (e1.trans e2) np
        have hp3 : upd H2 p (.lst (us ++ [V.ref q])) p = some (.lst (us ++ [V.ref q])) := upd_same
        generalize upd H2 p (.lst (us ++ [V.ref q])) = H3 at hd2 eH hp3 ⊢
        have N3 := N.ext eH
        obtain ⟨dx3, h3⟩ := N3.net
        walk_at "sa"
        refine ⟨.inl ⟨rfl, _, SqL.of hp3⟩, ?_⟩
        walk_at "sa"
        refine mz h3 (by decide +kernel) ?_
        walk_at "sa"
        refine ⟨G, C, A, S, rfl, N3, fun a1 ha1 r1 H4 n1 e4 hr1 => ?_⟩
        walk_at "sa"
        refine mz (e4 _ _ h3) (by decide +kernel) ?_
        walk_at "sa"
        refine ⟨G, C, A, S, 0, rfl, N3.ext e4, fun _ _ a2 ha2 r2 H5 n2' e5 hr2 => ?_, fun z => absurd ⟨by decide, by rw [n2]; decide⟩ z⟩
        walk_at "sa"
        refine mz (e5 _ _ (e4 _ _ h3)) (by decide +kernel) ?_
        walk_at "sa"
        refine ⟨G, C, A, S, 1, rfl, (N3.ext e4).ext e5, fun _ _ a3 ha3 r3 H6 n3 e6 hr3 => ?_, fun z => absurd ⟨by decide, by rw [n2]; decide⟩ z⟩
        walk_at "sa"
        refine mz (e6 _ _ (e5 _ _ (e4 _ _ h3))) (by decide +kernel) ?_
        walk_at "sa"
        refine ⟨_, _, rfl, .inl ⟨_, SqL.of (e6 _ _ (e5 _ _ (e4 _ _ (eH _ _ hlc)))), rfl⟩, ?_⟩
        rw [hpl]
        walk_at "sa"
        refine ⟨G, C, A, S, c, _, rfl, ((N3.ext e4).ext e5).ext e6, W, by omega, fun _ r4 H7 n4 e7 hr4 => ?_, fun z => absurd ⟨by omega, by omega⟩ z⟩
        walk_at "sa"
        refine ⟨szl (by show 4 ≤ 100000; decide), fun pg npg => ?_⟩
        have e37 : Same H3 H7 := ((e4.trans e5).trans e6).trans e7
        have e8 : Same H7 (upd H7 pg (.lst [.ref r1, .ref r2, .ref r3, .ref r4])) := Same.new npg
        have m1 : p ≠ r1 := ne_of_none hp3 n1
        have m2 : p ≠ r2 := ne_of_none (e4 _ _ hp3) n2'
        have m3 : p ≠ r3 := ne_of_none (e5 _ _ (e4 _ _ hp3)) n3
        have m4 : p ≠ r4 := ne_of_none (e6 _ _ (e5 _ _ (e4 _ _ hp3))) n4
        have m5 : p ≠ pg := ne_of_none (e37 _ _ hp3) npg
        have eAll := e37.trans e8
        generalize hH8 : upd H7 pg (.lst [.ref r1, .ref r2, .ref r3, .ref r4]) = H8 at e8 eAll ⊢
        have hpg : H8 pg = some (.lst [.ref r1, .ref r2, .ref r3, .ref r4]) := by rw [← hH8]; exact upd_same
        refine ⟨p, _, _, rfl, rfl, eAll _ _ hp3, sll (by rw [List.length_append]; show _ + 1 < _; omega), ?_⟩
        walk_at "sa"
        have q1 : msk p H8 r1 = some (.lst (a1.map .ref)) := by rw [msk_ne (Ne.symm m1)]; exact e8 _ _ (e7 _ _ (e6 _ _ (e5 _ _ hr1)))
        have q2 : msk p H8 r2 = some (.lst (a2.map .ref)) := by rw [msk_ne (Ne.symm m2)]; exact e8 _ _ (e7 _ _ (e6 _ _ hr2))
        have q3 : msk p H8 r3 = some (.lst (a3.map .ref)) := by rw [msk_ne (Ne.symm m3)]; exact e8 _ _ (e7 _ _ hr3)
        have q4 : msk p H8 r4 = some (.lst (hadF S.hands ((C.people.length : Int) - 1))) := by rw [msk_ne (Ne.symm m4)]; exact e8 _ _ hr4
        have q5 : msk p H8 pg = some (.lst [.ref r1, .ref r2, .ref r3, .ref r4]) := by rw [msk_ne (Ne.symm m5)]; exact hpg
        have sG : Same G (msk p H8) := same_msk ((N3.same).trans eAll) gp
        refine k p (toldD C S ns) _ (Same.mut (eH.trans eAll) np) ?_ ⟨ns, ho, rfl⟩
        refine .lst (SqL.of upd_same) (DpAll.mono msk_in _ _ (DpAll.mono msk_upd _ _ (Kn.DpAll.app (DpAll.mono (msk_same eAll) _ _ hd2) (.cons ?_ .nil))))
        exact .lst (SqL.of q5) (.cons (.lst (SqL.of q1) (dp_tups (ha1.mono sG) fun e m => ok_air (W.ai e m))) (.cons (.lst (SqL.of q2) (dp_tups (ha2.mono sG) (W.st 0 (by omega)))) (.cons (.lst (SqL.of q3) (dp_tups (ha3.mono sG) (W.st 1 (by omega)))) (.cons (.lst (SqL.of q4) (dp_flat (okv_had W.ha))) .nil))))
end
end Kn
set_option Elab.async false
set_option linter.all false
set_option maxRecDepth 100000
set_option maxHeartbeats 4000000
namespace Kn
open PySem L2
local macro_rules | `(tactic| walk_at "st") => `(tactic| repeat' (first
  | with_reducible refine r_seq ?_ | with_reducible refine r_set ?_ | with_reducible refine r_ret ?_ | with_reducible refine r_retN ?_ | with_reducible refine r_drop ?_ | with_reducible refine r_next ?_
  | with_reducible refine r_if ?_ | ((with_reducible refine r_var (v := ?_) ?hs ?_); (case hs => exact rfl)) | with_reducible refine r_c ?_ | with_reducible refine r_op ?_ | with_reducible refine r_I0 ?_
  | with_reducible refine r_test ?_ | with_reducible refine r_B ?_ | with_reducible refine ⟨_, (rfl : V.bl _ = V.bl _), ?_⟩ | with_reducible refine r_not ?_ | with_reducible refine r_or ?_ | with_reducible refine r_and ?_
  | with_reducible refine r_nil ?_ | with_reducible refine r_cons ?_ | with_reducible refine r_call ?_ | with_reducible refine r_cb ?_ | with_reducible refine r_tup ?_ | with_reducible refine r_lst ?_
  | with_reducible refine r_gname ?_ | with_reducible refine r_for ?_ | with_reducible refine r_iList ?_ | with_reducible refine r_iRng1 ?_ | with_reducible refine r_lc ?_ | with_reducible refine r_yes ?_
  | with_reducible refine r_chain ?_ | with_reducible refine r_sfld ?_ | with_reducible refine r_bm ?_ | with_reducible refine r_bm0 ?_ | with_reducible refine r_make ?_ | with_reducible refine r_sl ?_ | with_reducible refine r_nopart ?_ | with_reducible refine r_part ?_ | with_reducible refine r_iEnum ?_ | with_reducible refine r_iRng2 ?_))
local macro_rules | `(tactic| walk_at "sa") => `(tactic| repeat' (first
  | with_reducible refine r_seq ?_ | with_reducible refine r_set ?_ | with_reducible refine r_ret ?_ | with_reducible refine r_retN ?_ | with_reducible refine r_drop ?_ | with_reducible refine r_next ?_
  | with_reducible refine r_if ?_ | ((with_reducible refine r_var (v := ?_) ?hs ?_); (case hs => exact rfl)) | with_reducible refine r_c ?_ | with_reducible refine r_op ?_ | with_reducible refine r_I0 ?_
  | with_reducible refine r_test ?_ | with_reducible refine r_B ?_ | with_reducible refine ⟨_, (rfl : V.bl _ = V.bl _), ?_⟩ | with_reducible refine r_not ?_ | with_reducible refine r_or ?_ | with_reducible refine r_and ?_
  | with_reducible refine r_nil ?_ | with_reducible refine r_cons ?_ | with_reducible refine r_call ?_ | with_reducible refine r_cb ?_ | with_reducible refine r_tup ?_ | with_reducible refine r_lst ?_
  | with_reducible refine r_gname ?_ | with_reducible refine r_for ?_ | with_reducible refine r_iList ?_ | with_reducible refine r_iRng1 ?_ | with_reducible refine r_lc ?_ | with_reducible refine r_yes ?_
  | with_reducible refine r_chain ?_ | with_reducible refine r_sfld ?_ | with_reducible refine r_bm ?_ | with_reducible refine r_bm0 ?_ | with_reducible refine r_make ?_ | with_reducible refine r_sl ?_ | with_reducible refine r_nopart ?_ | with_reducible refine r_part ?_ | with_reducible refine r_iEnum ?_ | with_reducible refine r_iRng2 ?_
  | with_reducible refine r_un ?_ | with_reducible refine r_rU ?_ | with_reducible refine r_div ?_ | with_reducible refine r_mod ?_ | with_reducible refine r_pow ?_ | fail))
theorem lay_str {x : Str} (h : PyData.strOk x = true) : Lay 0 (.str x) := ⟨by simp only [PyData.canLay0]; exact h, by simp [PyData.depth]⟩
def wdD (x : Str) : PyData := .list [.str x, .str "value"]
theorem lay_wd {x : Str} (h : PyData.strOk x = true) : Lay 1 (wdD x) := Lay.list (.cons (lay_str h) (.cons (lay_str (by decide +kernel)) .nil))
theorem dp_wd {K : PySem.W.Frag} {H : Hp} {p : Addr} {x : Str} (h : H p = some (.lst [.str x, .str "value"])) : Dp K H (.ref p) (wdD x) := .lst (SqL.of h) (.cons (.str _) (.cons (.str _) .nil))
theorem wd_word {z wd : Str} (h : wordOf z = wd) (ho : PyData.strOk wd = true) : SeqAt.shaped (wdD (wordOf z)) = true ∧ (!PyData.eqv (wdD (wordOf z)) (wdD wd)) = false := by
  rw [h]
  exact ⟨(lay_wd ho).sh (by decide), by rw [SeqAt.eqv_refl _ (lay_wd ho).1]; rfl⟩
theorem gone_w {w : Int} (h : 1 ≤ w ∧ w ≤ 4) : goneB ((List.replicate w.toNat true).set 0 false) = decide (V.int w = V.int 1) := by
  rcases (by omega : w = 1 ∨ w = 2 ∨ w = 3 ∨ w = 4) with rfl | rfl | rfl | rfl <;> decide +kernel
theorem set_back {w : Nat} : ((List.replicate w true).set 0 false).set 0 true = List.replicate w true := by
  cases w with
  | zero => rfl
  | succ n => rw [List.set_set, List.replicate_succ]; rfl
theorem setU_at {up : Nat → List Bool} {r j : Nat} {b : Bool} : setU up r j b r = (up r).set j b := by unfold setU; rw [if_pos rfl]
section
variable {P : Program} {w : World} {K : PySem.W.Frag} {mg : Str → Option Value} {base : Heap}
def spGood (K : PySem.W.Frag) : Sp := fun vs H Q _ => ∃ (G : Hp) (C : Cn) (A : Lb → Addr) (S : NS) (c : Nat) (lr : Addr) (pk : List Addr) (s : Int), vs = [.ref (A .net), .ref C.t, .ref lr, .int s] ∧ NetAt K G H C A S ∧ Wf C S c ∧ c < 1000 ∧ S.ns = 2 ∧ S.up = upI C.D ∧ CIn C s ∧
  G lr = some (.lst (pk.map .ref)) ∧ Tups G pk (C.D.ropes.map Rope.v) ∧ (∀ r ∈ C.D.ropes, r.Ok C.D.size) ∧ ∀ H', Q (.bl true) H'
theorem sc_good : FnScope ["_law_net", "_law_town", "_law_ropes_here", "_law_sender", "_law_copies"] ["_law_net", "_law_town", "_law_ropes_here", "_law_sender"] (defScope s_law_made_good) := ⟨rfl, rfl, rfl, by decide +kernel, rfl, by decide +kernel, by decide +kernel⟩
theorem ok_good (T : Tx K mg) : Fn P w K mg base 11 (He.ga K "_law_made_good") [] (spGood K) := by
  refine mkFn T.F_law_made_good sc_good (fun _ _ _ _ _ _ us hl => match us, hl with | [_, _, _, _], _ => rfl) (fun vs H Q E h => ?_) (fun cdv A outer s H vs Q E hr h => ?_)
  · obtain ⟨G, C, A, S, c, lr, pk, s, rfl, _⟩ := h; rfl
  · obtain ⟨G, C, A, S, c, lr, pk, s, rfl, N, W, cc, n2, hup, hs, hlr, hpk, rok, k⟩ := h
    have nd := sc_good.nd
    refine ⟨_, pss_cons (ps_set (i := 4) nd rfl (.inl rfl) (pe_callB call_len (by rfl) T.b_len PySem.boot_len (pa_cons (cm0 (pv 0) T.c_Net T.m_Net_flying (ok_flying T) hr passL) pa_nil)))
      (pss_cons (ps_if (PW.pt (pw_or (pt_cmpR (op_neD hr.units) (cf (ok_refusal T) hr T.g_law_refusal passL (pa_cons (pv 0) (pa_cons (pv 1) (pa_cons pe_int (pa_cons pe_int (pa_cons pe_int pa_nil)))))) (pe_lst (pa_cons pe_str (pa_cons pe_str pa_nil))) (nomark _))
          (pw_or1 (pt_cmpR op_ne (cm (pv 0) T.c_Net T.m_Net_post (ok_post T) hr passL (pa_cons (pv 3) pa_nil)) pe_int (nomark _))))) (pss_one (ps_ret pe_bl)) pss_nil)
      (pss_cons (ps_if (pt_cmpR (op_neD hr.units) (pe_ix ix_list (cm (pv 0) T.c_Net T.m_Net_story (ok_story T) hr passL (pa_cons pe_int pa_nil)) pe_int (fun _ _ => rfl)) (pe_tup (pa_cons pe_str (pa_cons (cm (pv 0) T.c_Net T.m_Net_place (ok_place T) hr passL (pa_cons (pv 3) pa_nil)) pa_nil))) (nomark _)) (pss_one (ps_ret pe_bl)) pss_nil)
      (pss_cons (ps_if (PW.pt (pw_and (pt_cmpR op_gt (pe_callB call_len (by rfl) T.b_len PySem.boot_len (pa_cons (cm0 (pv 0) T.c_Net T.m_Net_flying (ok_flying T) hr passL) pa_nil)) (pv 4) (nomark _))
          (pw_and1 (pt_cmpR op_notIn_seq (cm (pv 0) T.c_Net T.m_Net_pass_on (ok_pass T) hr passL (pa_cons (pv 4) pa_nil)) (pe_tup (pa_cons pe_str (pa_cons pe_str (pa_cons pe_str pa_nil)))) (by rfl))))) (pss_one (ps_ret pe_bl)) pss_nil)
      (pss_cons (ps_if (pt_cmpR (op_eqD hr.units) (pv 2) (pe_lst pa_nil) (nomark _)) (pss_one (ps_ret pe_bl)) pss_nil)
      (pss_cons (ps_expr (cm (pv 0) T.c_Net T.m_Net_fall (ok_nfall T) hr passL (pa_cons pe_int (pa_cons pe_int pa_nil))))
      (pss_cons (ps_if (pt_cmpR (op_neD hr.units) (cf (ok_refusal T) hr T.g_law_refusal passL (pa_cons (pv 0) (pa_cons (pv 1) (pa_cons pe_int (pa_cons pe_int (pa_cons pe_int pa_nil)))))) (pe_lst (pa_cons pe_str (pa_cons pe_str pa_nil))) (nomark _)) (pss_one (ps_ret pe_bl)) pss_nil)
      (pss_cons (ps_expr (cm (pv 0) T.c_Net T.m_Net_lay (ok_nlay T) hr passL (pa_cons pe_int (pa_cons pe_int pa_nil))))
      (pss_cons (ps_if (pt_cmpR (op_neD hr.units) (cf (ok_refusal T) hr T.g_law_refusal passL (pa_cons (pv 0) (pa_cons (pv 1) (pa_cons pe_int (pa_cons pe_int (pa_cons pe_int pa_nil)))))) (pe_lst (pa_cons pe_str (pa_cons pe_str pa_nil))) (nomark _)) (pss_one (ps_ret pe_bl)) pss_nil)
      (pss_one (ps_ret (pe_cmpR op_eq (cm (pv 0) T.c_Net T.m_Net_fall (ok_nfall T) hr passL (pa_cons pe_int (pa_cons pe_int pa_nil))) (pe_cmpR op_eq (pe_ix ix_tup (pe_ix ix_list (pv 2) pe_int (fun _ _ => rfl)) pe_int (fun _ _ => rfl)) pe_int (nomark _)) (nomark _)))))))))))), ?_⟩
    obtain ⟨dx, h1⟩ := N.net
    have okL : PyData.strOk (Str.ofString "letter") = true := by decide +kernel
    have okW : PyData.strOk (Str.ofString "wire") = true := by decide +kernel
    walk_at "sa"
    refine mz h1 (by decide +kernel) ?_
    walk_at "sa"
    refine ⟨G, C, A, S, rfl, N, fun ps hps a H1 na e1 ha => ?_⟩
    refine ⟨_, _, rfl, .inl ⟨_, SqL.of ha, rfl⟩, ?_⟩
    rw [List.length_map, hps.1]
    have N1 := N.ext e1
    walk_at "sa"
    refine ⟨G, C, A, S, c, 7, .int 2, .int 0, "NoLetter", rfl, N1, W, by omega, .letter (by rw [n2]; decide), fun p2 H2 np2 e2 hp2 => ?_⟩
    have N2 := N1.ext e2
    walk_at "sa"
    refine ⟨szl (by show 2 ≤ 100000; decide), fun q2 nq2 => ?_⟩
    obtain ⟨w1, w2⟩ := wd_word (z := "NoLetter") (wd := Str.ofString "letter") (by decide +kernel) okL
    refine ⟨_, _, dp_wd ((Same.new nq2) _ _ hp2), dp_wd upd_same, w1, (lay_wd okL).sh (by decide), ?_⟩
    have N3 := N2.ext (Same.new (o := .lst [.str (Str.ofString "letter"), .str (Str.ofString "value")]) nq2)
    obtain ⟨dx3, h3⟩ := N3.net
    walk_at "sa"
    rw [w2]
    refine iteF ?_
    walk_at "sa"
    refine mz h3 (by decide +kernel) ?_
    walk_at "sa"
    obtain ⟨q, hq, hqm⟩ := get_some hs.1 hs.2
    refine ⟨G, C, A, S, c, s, none, rfl, N3, W, by omega, fun z => absurd hs z, fun _ _ _ t' et => (by cases et), fun q' _ hq' _ G4 H4 A4 S4 eG4 N4 hA4 R4 W4 => ?_⟩
    rw [hq] at hq'; cases hq'
    rw [n2]
    refine ⟨rfl, _, rfl, ?_⟩
    refine iteF ?_
    have up4 : S4.up = upI C.D := by rw [R4.up]; exact hup
    have n4 : S4.ns = 3 := by rw [R4.ns, n2]
    obtain ⟨m, hm⟩ := R4.head
    rw [n2] at hm
    obtain ⟨dx4, h4⟩ := N4.net
    rw [hA4] at h4
    walk_at "sa"
    refine mz h4 (by decide +kernel) ?_
    walk_at "sa"
    refine ⟨G4, C, A4, S4, 2, by rw [hA4]; rfl, N4, fun _ _ ps5 hps5 a5 H5 na5 e5 ha5 => ?_, fun z => absurd ⟨by decide, by rw [n4]; decide⟩ z⟩
    have N5 := N4.ext e5
    obtain ⟨b, b1, b2⟩ := hps5.at (i := 0) (by rw [show (2 : Int).toNat = 2 from rfl, hm]; rfl)
    walk_at "sa"
    refine ⟨a5, _, 0, _, rfl, rfl, SqL.of ha5, at_ix (by decide) (get_map (f := V.ref) b1), ?_⟩
    walk_at "sa"
    refine mz (e5 _ _ h4) (by decide +kernel) ?_
    walk_at "sa"
    refine ⟨G4, C, A4, S4, s, by rw [hA4]; rfl, N5, fun _ _ q5 hq5 => ?_, fun z => absurd hs z⟩
    rw [hq] at hq5; cases hq5
    walk_at "sa"
    refine ⟨szl (by show 2 ≤ 100000; decide), fun t6 nt6 => ?_⟩
    have ok6 : ([.str (Str.ofString "post"), .int q.1] : List V).all okV = true := okE (by decide +kernel) rfl
    have l6 : Lay 1 (dTup [.str (Str.ofString "post"), .int q.1]) := Lay.tup (lay_flat ok6)
    have e6 : Same H5 (upd H5 t6 (.tup [.str (Str.ofString "post"), .int q.1])) := Same.new nt6
    refine ⟨dTup [.str (Str.ofString "post"), .int q.1], dTup [.str (Str.ofString "post"), .int q.1], Dp.tup (SqT.of (e6 _ _ (N5.same _ _ b2))) (dp_flat ok6), Dp.tup (SqT.of upd_same) (dp_flat ok6), l6.sh (by decide), l6.sh (by decide), ?_⟩
    walk_at "sa"
    rw [SeqAt.eqv_refl _ l6.1]
    refine iteF ?_
    have N6 := N5.ext e6
    obtain ⟨dx6, h6⟩ := N6.net
    rw [hA4] at h6
    walk_at "sa"
    refine mz h6 (by decide +kernel) ?_
    walk_at "sa"
    refine ⟨G4, C, A4, S4, by rw [hA4]; rfl, N6, fun ps7 hps7 a7 H7 na7 e7 ha7 => ?_⟩
    have N7 := N6.ext e7
    refine ⟨_, _, rfl, .inl ⟨_, SqL.of ha7, rfl⟩, ?_⟩
    rw [List.length_map, hps7.1]
    have hlr4 := eG4 _ _ hlr
    have hpk4 := hpk.mono eG4
    walk_at "sa"
    refine ite2 (fun cnd => ?_) (fun _ => ?_)
    · have cnd := of_decide_eq_true cnd
      obtain ⟨dx7, h7⟩ := N7.net
      rw [hA4] at h7
      walk_at "sa"
      refine mz h7 (by decide +kernel) ?_
      walk_at "sa"
      refine ⟨G4, C, A4, S4, c + 101, _, by rw [hA4]; rfl, N7, W4, by omega, fun z => absurd ⟨by omega, by omega⟩ z, fun _ _ G8 H8 S8 z8 e8 N8 u8 W8 iw => ?_⟩
      walk_at "sa"
      refine ⟨szl (by show 3 ≤ 100000; decide), fun t9 nt9 => ?_⟩
      refine ⟨t9, _, rfl, .inr (SqT.of upd_same), rfl, rfl, ?_⟩
      have iv : inV (.str z8) [.str (Str.ofString "come"), .str (Str.ofString "twice"), .str (Str.ofString "lost")] = true := by
        rcases iw with rfl | rfl | rfl <;> decide +kernel
      rw [iv]
      refine ⟨_, rfl, ?_⟩
      refine iteF ?_
      have N9 := N8.ext (Same.new (o := .tup [.str (Str.ofString "come"), .str (Str.ofString "twice"), .str (Str.ofString "lost")]) nt9)
      have W9 := W8
      have up9 : S8.up = upI C.D := u8.trans up4
      have hlr9 := e8 _ _ hlr4
      have hpk9 := hpk4.mono e8
      obtain ⟨dx9, h9⟩ := N9.net
      rw [hA4] at h9
      walk_at "sa"
      refine ⟨szl (by show 0 ≤ 100000; decide), fun u nu => ?_⟩
      have eu := Same.new (o := .lst []) nu
      refine ⟨_, _, Dp.lst (SqL.of (eu _ _ (N9.same _ _ hlr9))) (dp_ropes ((hpk9.mono N9.same).mono eu)), Dp.lst (SqL.of upd_same) .nil, (Lay.list (lay_ropes _)).sh (by decide), rfl, ?_⟩
      walk_at "sa"
      cases hrs : C.D.ropes with
      | nil =>
        refine iteT ?_
        walk_at "sa"
        exact k _
      | cons r0 rs =>
        refine iteF ?_
        have M1 := N9.ext eu
        have hr0 : C.D.ropes[(0 : Int).toNat]? = some r0 := by rw [hrs]; rfl
        have rk := rok r0 (by rw [hrs]; exact List.mem_cons_self)
        have w0 := rk.w0
        have w4 := rk.w1
        have l0 : 0 < C.D.ropes.length := by rw [hrs]; exact Nat.succ_pos _
        obtain ⟨n, hn⟩ : ∃ n, r0.wires.toNat = n + 1 := ⟨r0.wires.toNat - 1, by omega⟩
        have u0 : upI C.D 0 = List.replicate (n + 1) true := by rw [← hn]; exact upI_at (r := 0) hr0
        obtain ⟨x1, y1⟩ := M1.net
        rw [hA4] at y1
        walk_at "sa"
        refine mz y1 (by decide +kernel) ?_
        walk_at "sa"
        refine ⟨_, C, A4, _, c + 101 + 102, 0, 0, by rw [hA4]; rfl, M1, W9, by omega, fun z => absurd ⟨by decide, by omega, by decide, by rw [up9]; show (0 : Int) < ((upI C.D 0).length : Nat); rw [u0, List.length_replicate]; omega, by rw [up9]; show (upI C.D 0)[0]? = _; rw [u0]; rfl⟩ z, fun _ G1 Ha A1 S1 eG1 M2 hA1 V2 up1 => ?_⟩
        have ua : S1.up 0 = (List.replicate (n + 1) true).set 0 false := by rw [up1]; show setU _ 0 0 false 0 = _; rw [setU_at, up9, u0]
        have hA1' := hA1.trans hA4
        walk_at "sa"
        refine ⟨G1, C, A1, S1, _, 2, .int 0, .int 0, "NoWire", by rw [hA1']; rfl, M2, V2, by omega, .fall (fun z => ?_), fun pa Hb npa eb hpa => ?_⟩
        · have z4 := z.2.2.2.2
          rw [show (0 : Int).toNat = 0 from rfl, ua] at z4
          cases z4
        walk_at "sa"
        refine ⟨szl (by show 2 ≤ 100000; decide), fun qb nqb => ?_⟩
        obtain ⟨v1, v2⟩ := wd_word (z := "NoWire") (wd := Str.ofString "wire") (by decide +kernel) okW
        refine ⟨_, _, dp_wd ((Same.new nqb) _ _ hpa), dp_wd upd_same, v1, (lay_wd okW).sh (by decide), ?_⟩
        have M3 := (M2.ext eb).ext (Same.new (o := .lst [.str (Str.ofString "wire"), .str (Str.ofString "value")]) nqb)
        obtain ⟨x3, y3⟩ := M3.net
        rw [hA1'] at y3
        walk_at "sa"
        rw [v2]
        refine iteF ?_
        walk_at "sa"
        refine mz y3 (by decide +kernel) ?_
        walk_at "sa"
        refine ⟨G1, C, A1, S1, _, 0, 0, by rw [hA1']; rfl, M3, V2, fun z => absurd ⟨by decide, by omega, by decide, by show (0 : Int) < ((S1.up 0).length : Nat); rw [ua, List.length_set, List.length_replicate]; omega, by show (S1.up 0)[0]? = _; rw [ua]; rfl⟩ z, fun _ Hc A2 S2 M4 hA2 V4 up2 => ?_⟩
        have ub : S2.up 0 = List.replicate (n + 1) true := by rw [up2]; show setU _ 0 0 true 0 = _; rw [setU_at, ua, set_back]
        have hA2' := hA2.trans hA1'
        walk_at "sa"
        refine ⟨G1, C, A2, S2, _, 3, .int 0, .int 0, "NoWire", by rw [hA2']; rfl, M4, V4, by omega, .lay (fun z => ?_), fun pc Hd npc ed hpc => ?_⟩
        · have z4 := z.2.2.2.2
          rw [show (0 : Int).toNat = 0 from rfl, ub] at z4
          cases z4
        walk_at "sa"
        refine ⟨szl (by show 2 ≤ 100000; decide), fun qd nqd => ?_⟩
        refine ⟨_, _, dp_wd ((Same.new nqd) _ _ hpc), dp_wd upd_same, v1, (lay_wd okW).sh (by decide), ?_⟩
        have M5 := (M4.ext ed).ext (Same.new (o := .lst [.str (Str.ofString "wire"), .str (Str.ofString "value")]) nqd)
        obtain ⟨x5, y5⟩ := M5.net
        rw [hA2'] at y5
        walk_at "sa"
        rw [v2]
        refine iteF ?_
        walk_at "sa"
        refine mz y5 (by decide +kernel) ?_
        walk_at "sa"
        refine ⟨G1, C, A2, S2, _, 0, 0, by rw [hA2']; rfl, M5, V4, by omega, fun z => absurd ⟨by decide, by omega, by decide, by show (0 : Int) < ((S2.up 0).length : Nat); rw [ub, List.length_replicate]; omega, by show (S2.up 0)[0]? = _; rw [ub]; rfl⟩ z, fun _ G3 He A3 S3 eG3 M6 hA3 V6 up3 => ?_⟩
        obtain ⟨b0, c1, c2⟩ := hpk9.at (i := 0) (xs := Rope.v r0) (by rw [hrs]; rfl)
        have sF : Same _ He := (eG1.trans eG3).trans M6.same
        walk_at "sa"
        refine ⟨lr, _, 0, _, rfl, rfl, SqL.of (sF _ _ hlr9), at_ix (by decide) (get_map (f := V.ref) c1), ?_⟩
        walk_at "sa"
        refine ⟨b0, _, 3, _, rfl, rfl, SqT.of (sF _ _ c2), at_ix (by decide) rfl, ?_⟩
        walk_at "sa"
        refine ⟨rfl, ?_⟩
        refine ⟨rfl, ?_⟩
        rw [show (0 : Int).toNat = 0 from rfl, ub, ← hn, gone_w ⟨w0, w4⟩, decide_eq_true rfl]
        exact k _
    · refine iteF ?_
      have N9 := N7
      have W9 := W4.mono (c' := c + 101 + 102) (by omega)
      have up9 := up4
      have hlr9 := hlr4
      have hpk9 := hpk4
      obtain ⟨dx9, h9⟩ := N9.net
      rw [hA4] at h9
      walk_at "sa"
      refine ⟨szl (by show 0 ≤ 100000; decide), fun u nu => ?_⟩
      have eu := Same.new (o := .lst []) nu
      refine ⟨_, _, Dp.lst (SqL.of (eu _ _ (N9.same _ _ hlr9))) (dp_ropes ((hpk9.mono N9.same).mono eu)), Dp.lst (SqL.of upd_same) .nil, (Lay.list (lay_ropes _)).sh (by decide), rfl, ?_⟩
      walk_at "sa"
      cases hrs : C.D.ropes with
      | nil =>
        refine iteT ?_
        walk_at "sa"
        exact k _
      | cons r0 rs =>
        refine iteF ?_
        have M1 := N9.ext eu
        have hr0 : C.D.ropes[(0 : Int).toNat]? = some r0 := by rw [hrs]; rfl
        have rk := rok r0 (by rw [hrs]; exact List.mem_cons_self)
        have w0 := rk.w0
        have w4 := rk.w1
        have l0 : 0 < C.D.ropes.length := by rw [hrs]; exact Nat.succ_pos _
        obtain ⟨n, hn⟩ : ∃ n, r0.wires.toNat = n + 1 := ⟨r0.wires.toNat - 1, by omega⟩
        have u0 : upI C.D 0 = List.replicate (n + 1) true := by rw [← hn]; exact upI_at (r := 0) hr0
        obtain ⟨x1, y1⟩ := M1.net
        rw [hA4] at y1
        walk_at "sa"
        refine mz y1 (by decide +kernel) ?_
        walk_at "sa"
        refine ⟨_, C, A4, _, c + 101 + 102, 0, 0, by rw [hA4]; rfl, M1, W9, by omega, fun z => absurd ⟨by decide, by omega, by decide, by rw [up9]; show (0 : Int) < ((upI C.D 0).length : Nat); rw [u0, List.length_replicate]; omega, by rw [up9]; show (upI C.D 0)[0]? = _; rw [u0]; rfl⟩ z, fun _ G1 Ha A1 S1 eG1 M2 hA1 V2 up1 => ?_⟩
        have ua : S1.up 0 = (List.replicate (n + 1) true).set 0 false := by rw [up1]; show setU _ 0 0 false 0 = _; rw [setU_at, up9, u0]
        have hA1' := hA1.trans hA4
        walk_at "sa"
        refine ⟨G1, C, A1, S1, _, 2, .int 0, .int 0, "NoWire", by rw [hA1']; rfl, M2, V2, by omega, .fall (fun z => ?_), fun pa Hb npa eb hpa => ?_⟩
        · have z4 := z.2.2.2.2
          rw [show (0 : Int).toNat = 0 from rfl, ua] at z4
          cases z4
        walk_at "sa"
        refine ⟨szl (by show 2 ≤ 100000; decide), fun qb nqb => ?_⟩
        obtain ⟨v1, v2⟩ := wd_word (z := "NoWire") (wd := Str.ofString "wire") (by decide +kernel) okW
        refine ⟨_, _, dp_wd ((Same.new nqb) _ _ hpa), dp_wd upd_same, v1, (lay_wd okW).sh (by decide), ?_⟩
        have M3 := (M2.ext eb).ext (Same.new (o := .lst [.str (Str.ofString "wire"), .str (Str.ofString "value")]) nqb)
        obtain ⟨x3, y3⟩ := M3.net
        rw [hA1'] at y3
        walk_at "sa"
        rw [v2]
        refine iteF ?_
        walk_at "sa"
        refine mz y3 (by decide +kernel) ?_
        walk_at "sa"
        refine ⟨G1, C, A1, S1, _, 0, 0, by rw [hA1']; rfl, M3, V2, fun z => absurd ⟨by decide, by omega, by decide, by show (0 : Int) < ((S1.up 0).length : Nat); rw [ua, List.length_set, List.length_replicate]; omega, by show (S1.up 0)[0]? = _; rw [ua]; rfl⟩ z, fun _ Hc A2 S2 M4 hA2 V4 up2 => ?_⟩
        have ub : S2.up 0 = List.replicate (n + 1) true := by rw [up2]; show setU _ 0 0 true 0 = _; rw [setU_at, ua, set_back]
        have hA2' := hA2.trans hA1'
        walk_at "sa"
        refine ⟨G1, C, A2, S2, _, 3, .int 0, .int 0, "NoWire", by rw [hA2']; rfl, M4, V4, by omega, .lay (fun z => ?_), fun pc Hd npc ed hpc => ?_⟩
        · have z4 := z.2.2.2.2
          rw [show (0 : Int).toNat = 0 from rfl, ub] at z4
          cases z4
        walk_at "sa"
        refine ⟨szl (by show 2 ≤ 100000; decide), fun qd nqd => ?_⟩
        refine ⟨_, _, dp_wd ((Same.new nqd) _ _ hpc), dp_wd upd_same, v1, (lay_wd okW).sh (by decide), ?_⟩
        have M5 := (M4.ext ed).ext (Same.new (o := .lst [.str (Str.ofString "wire"), .str (Str.ofString "value")]) nqd)
        obtain ⟨x5, y5⟩ := M5.net
        rw [hA2'] at y5
        walk_at "sa"
        rw [v2]
        refine iteF ?_
        walk_at "sa"
        refine mz y5 (by decide +kernel) ?_
        walk_at "sa"
        refine ⟨G1, C, A2, S2, _, 0, 0, by rw [hA2']; rfl, M5, V4, by omega, fun z => absurd ⟨by decide, by omega, by decide, by show (0 : Int) < ((S2.up 0).length : Nat); rw [ub, List.length_replicate]; omega, by show (S2.up 0)[0]? = _; rw [ub]; rfl⟩ z, fun _ G3 He A3 S3 eG3 M6 hA3 V6 up3 => ?_⟩
        obtain ⟨b0, c1, c2⟩ := hpk9.at (i := 0) (xs := Rope.v r0) (by rw [hrs]; rfl)
        have sF : Same _ He := (eG1.trans eG3).trans M6.same
        walk_at "sa"
        refine ⟨lr, _, 0, _, rfl, rfl, SqL.of (sF _ _ hlr9), at_ix (by decide) (get_map (f := V.ref) c1), ?_⟩
        walk_at "sa"
        refine ⟨b0, _, 3, _, rfl, rfl, SqT.of (sF _ _ c2), at_ix (by decide) rfl, ?_⟩
        walk_at "sa"
        refine ⟨rfl, ?_⟩
        refine ⟨rfl, ?_⟩
        rw [show (0 : Int).toNat = 0 from rfl, ub, ← hn, gone_w ⟨w0, w4⟩, decide_eq_true rfl]
        exact k _
end
end Kn
set_option Elab.async false
set_option linter.all false
set_option maxRecDepth 100000
set_option maxHeartbeats 4000000
namespace Kn
open PySem L2
local macro_rules | `(tactic| walk_at "st") => `(tactic| repeat' (first
  | with_reducible refine r_seq ?_ | with_reducible refine r_set ?_ | with_reducible refine r_ret ?_ | with_reducible refine r_retN ?_ | with_reducible refine r_drop ?_ | with_reducible refine r_next ?_
  | with_reducible refine r_if ?_ | ((with_reducible refine r_var (v := ?_) ?hs ?_); (case hs => exact rfl)) | with_reducible refine r_c ?_ | with_reducible refine r_op ?_ | with_reducible refine r_I0 ?_
  | with_reducible refine r_test ?_ | with_reducible refine r_B ?_ | with_reducible refine ⟨_, (rfl : V.bl _ = V.bl _), ?_⟩ | with_reducible refine r_not ?_ | with_reducible refine r_or ?_ | with_reducible refine r_and ?_
  | with_reducible refine r_nil ?_ | with_reducible refine r_cons ?_ | with_reducible refine r_call ?_ | with_reducible refine r_cb ?_ | with_reducible refine r_tup ?_ | with_reducible refine r_lst ?_
  | with_reducible refine r_gname ?_ | with_reducible refine r_for ?_ | with_reducible refine r_iList ?_ | with_reducible refine r_iRng1 ?_ | with_reducible refine r_lc ?_ | with_reducible refine r_yes ?_
  | with_reducible refine r_chain ?_ | with_reducible refine r_sfld ?_ | with_reducible refine r_bm ?_ | with_reducible refine r_bm0 ?_ | with_reducible refine r_make ?_ | with_reducible refine r_sl ?_ | with_reducible refine r_nopart ?_ | with_reducible refine r_part ?_ | with_reducible refine r_iEnum ?_ | with_reducible refine r_iRng2 ?_))
local macro_rules | `(tactic| walk_at "sa") => `(tactic| repeat' (first
  | with_reducible refine r_seq ?_ | with_reducible refine r_set ?_ | with_reducible refine r_ret ?_ | with_reducible refine r_retN ?_ | with_reducible refine r_drop ?_ | with_reducible refine r_next ?_
  | with_reducible refine r_if ?_ | ((with_reducible refine r_var (v := ?_) ?hs ?_); (case hs => exact rfl)) | with_reducible refine r_c ?_ | with_reducible refine r_op ?_ | with_reducible refine r_I0 ?_
  | with_reducible refine r_test ?_ | with_reducible refine r_B ?_ | with_reducible refine ⟨_, (rfl : V.bl _ = V.bl _), ?_⟩ | with_reducible refine r_not ?_ | with_reducible refine r_or ?_ | with_reducible refine r_and ?_
  | with_reducible refine r_nil ?_ | with_reducible refine r_cons ?_ | with_reducible refine r_call ?_ | with_reducible refine r_cb ?_ | with_reducible refine r_tup ?_ | with_reducible refine r_lst ?_
  | with_reducible refine r_gname ?_ | with_reducible refine r_for ?_ | with_reducible refine r_iList ?_ | with_reducible refine r_iRng1 ?_ | with_reducible refine r_lc ?_ | with_reducible refine r_yes ?_
  | with_reducible refine r_chain ?_ | with_reducible refine r_sfld ?_ | with_reducible refine r_bm ?_ | with_reducible refine r_bm0 ?_ | with_reducible refine r_make ?_ | with_reducible refine r_sl ?_ | with_reducible refine r_nopart ?_ | with_reducible refine r_part ?_ | with_reducible refine r_iEnum ?_ | with_reducible refine r_iRng2 ?_
  | with_reducible refine r_un ?_ | with_reducible refine r_rU ?_ | with_reducible refine r_div ?_ | with_reducible refine r_mod ?_ | with_reducible refine r_pow ?_ | fail))
theorem lay_word {z : Str} (h : z ∈ raised) : PyData.strOk (wordOf z) = true := by
  have all : (raised.all fun z => PyData.strOk (wordOf z)) = true := by decide +kernel
  exact List.all_eq_true.mp all z h
theorem CallRel.trans {S S1 S2 : NS} (a : CallRel S S1) (b : CallRel S1 S2) : CallRel S S2 := by
  obtain ⟨r, n, rfl⟩ := a
  obtain ⟨r2, n2, rfl⟩ := b
  exact ⟨r2, n2, rfl⟩
theorem cut_ints (l : List Int) (i j : Option Int) : ∃ m : List Int, cutV (l.map V.int) i j = m.map V.int ∧ m.length ≤ l.length := by
  unfold cutV
  rw [List.length_map, ← List.map_drop, ← List.map_take]
  exact ⟨_, rfl, by rw [List.length_take, List.length_drop]; omega⟩
def spLaw (K : PySem.W.Frag) : Sp := fun vs H Q _ => ∃ (a : Addr) (ns : List Int), vs = [.ref a] ∧ SqL K H a (ns.map V.int) ∧ ns.length ≤ 63 ∧ ∀ H', Q (.bl true) H'
abbrev lawN : List Str := ["_law_script", "_law_size", "_law_group", "_law_ropes_here", "_law_callers_here", "_law_town", "_law_net", "_law_turn", "_law_house", "_law_before", "_law_copies", "_law_cell", "_law_deed", "_law_one", "_law_other", "_law_word", "_law_k"]
theorem sc_law : FnScope lawN ["_law_script"] (defScope s_law) := ⟨rfl, rfl, rfl, by decide +kernel, rfl, by decide +kernel, by decide +kernel⟩
theorem ok_law {P : Program} {w : World} {K : PySem.W.Frag} {mg : Str → Option Value} {base : Heap} {fd : FuncData} (T : Tx K mg) (F : FunD K "law" "law" (defArgs s_law) (defBody s_law) (defScope s_law) [] [] (He.ga K "law") fd) :
    FnOk P w K mg base CX0 20 (He.ga K "law") fd ["_law_script"] (spLaw K) := by
  refine F.ok (CX := CX0) sc_law (fun vs H Q E h => ?_) (fun cdv A0 outer s H vs Q E hr h => ?_)
  · obtain ⟨a, ns, rfl, _⟩ := h; rfl
  · obtain ⟨a, sc, rfl, ha, hsl, k⟩ := h
    have nd := sc_law.nd
    refine ⟨_, pss_cons (ps_set (i := 1) nd rfl (.inl rfl) (pe_op op_add pe_int (pe_op op_mod (cf (ok_cell T) hr T.g_law_cell_at passL (pa_cons (pv 0) (pa_cons pe_int pa_nil))) pe_int)))
      (pss_cons (ps_set (i := 2) nd rfl (.inl rfl) (pe_op op_mod (cf (ok_cell T) hr T.g_law_cell_at passL (pa_cons (pv 0) (pa_cons pe_int pa_nil))) pe_int))
      (pss_cons (ps_set (i := 3) nd rfl (.inl rfl) (cf (ok_ropes T) hr T.g_law_ropes passL (pa_cons (pv 0) (pa_cons (pv 1) (pa_cons (pv 2) pa_nil)))))
      (pss_cons (ps_set (i := 4) nd rfl (.inl rfl) (cf (ok_callers T) hr T.g_law_callers passL (pa_cons (pv 0) (pa_cons (pv 1) (pa_cons (pv 2) pa_nil)))))
      (pss_cons (ps_set (i := 5) nd rfl (.inl rfl) (ck T.k_Town (ok_Town_init T) hr T.g_Town passL (pa_cons (cf (ok_names T) hr T.g_law_names passL (pa_cons (pv 0) (pa_cons (pv 1) pa_nil))) (pa_cons (pe_callTy call_list_of (by rfl) T.b_list (by decide +kernel) (pa_cons (pv 3) pa_nil)) pa_nil))))
      (pss_cons (ps_set (i := 6) nd rfl (.inl rfl) (ck T.k_Net (ok_Net_init T) hr T.g_Net passL (pa_cons (pv 5) (pa_cons (pe_callTy call_list_of (by rfl) T.b_list (by decide +kernel) (pa_cons (pv 4) pa_nil)) pa_nil))))
      (pss_cons (ps_for (passes_of rfl) rfl (pi_range1 (by rfl) T.b_range (pa_cons (pe_op op_mul pe_int (pv 1)) pa_nil)) (pg_name (i := 7) nd rfl (.inl rfl))
        (pss_one (ps_for (passes_of rfl) rfl (pi_range1 (by rfl) T.b_range (pa_cons (pv 1) pa_nil)) (pg_name (i := 8) nd rfl (.inl rfl))
          (pss_one (ps_expr (cm (pv 6) T.c_Net T.m_Net_call (ok_call T) hr passL (pa_cons (pv 8) (pa_cons (pv 2) pa_nil))))))))
      (pss_cons (ps_if (PW.pt (pw_or (pt_cmpR op_ne (cm (pv 6) T.c_Net T.m_Net_post (ok_post T) hr passL (pa_cons pe_int pa_nil)) pe_int (nomark _)) (pw_or1 (pt_cmpR op_ne (cm (pv 6) T.c_Net T.m_Net_post (ok_post3 T) hr passL (pa_cons pe_int (pa_cons pe_non pa_nil))) pe_int (nomark _))))) (pss_one (ps_ret pe_bl)) pss_nil)
      (pss_cons (ps_set (i := 9) nd rfl (.inl rfl) (cf (ok_told2 T) hr T.g_law_told passL (pa_cons (pv 6) (pa_cons (pv 4) pa_nil))))
      (pss_cons (ps_set (i := 10) nd rfl (.inl rfl) (pe_callB call_len (by rfl) T.b_len PySem.boot_len (pa_cons (cm0 (pv 6) T.c_Net T.m_Net_flying (ok_flying T) hr passL) pa_nil)))
      (pss_cons (ps_for (passes_of rfl) rfl (pi_list (pe_op op_cat (pe_lst (pa_cons pe_int (pa_cons pe_int (pa_cons pe_int (pa_cons pe_int (pa_cons pe_int (pa_cons pe_int (pa_cons pe_int (pa_cons pe_int (pa_cons pe_int (pa_cons pe_int (pa_cons pe_int (pa_cons pe_int pa_nil))))))))))))) (pe_slice sl_list (pv 0) (po_some pe_int) (po_some pe_int)))) (pg_name (i := 11) nd rfl (.inl rfl))
        (pss_cons (ps_asg (cf (ok_wrong T) hr T.g_law_wrong passL (pa_cons (pv 1) (pa_cons (pv 3) (pa_cons (pv 4) (pa_cons (pv 10) (pa_cons (pe_op op_mod (pv 11) pe_int) (pa_cons (pe_op op_fdiv (pv 11) pe_int) pa_nil)))))))
          (pg_tup rfl (pgs_cons (pg_name (i := 12) nd rfl (.inl rfl)) (pgs_cons (pg_name (i := 13) nd rfl (.inl rfl)) (pgs_cons (pg_name (i := 14) nd rfl (.inl rfl)) (pgs_cons (pg_name (i := 15) nd rfl (.inl rfl)) pgs_nil))))))
        (pss_one (ps_if (pt_cmpR (op_neD hr.units) (cf (ok_refusal T) hr T.g_law_refusal passL (pa_cons (pv 6) (pa_cons (pv 5) (pa_cons (pv 12) (pa_cons (pv 13) (pa_cons (pv 14) pa_nil)))))) (pe_lst (pa_cons (pv 15) (pa_cons pe_str pa_nil))) (nomark _)) (pss_one (ps_ret pe_bl)) pss_nil))))
      (pss_cons (ps_for (passes_of rfl) rfl (pi_range2 (by rfl) T.b_range (pa_cons pe_int (pa_cons (pe_callB call_len (by rfl) T.b_len PySem.boot_len (pa_cons (pv 4) pa_nil)) pa_nil))) (pg_name (i := 16) nd rfl (.inl rfl))
        (pss_one (ps_if (PW.pt (pw_and (pt_cmpR op_ne (pe_ix ix_tup (pe_ix ix_list (pv 4) (pv 16) (fun _ _ => rfl)) pe_int (fun _ _ => rfl)) (pe_ix ix_tup (pe_ix ix_list (pv 4) pe_int (fun _ _ => rfl)) pe_int (fun _ _ => rfl)) (nomark _))
          (pw_and1 (pt_cmpR (op_neD hr.units) (cf (ok_refusal T) hr T.g_law_refusal passL (pa_cons (pv 6) (pa_cons (pv 5) (pa_cons pe_int (pa_cons (pv 16) (pa_cons pe_int pa_nil)))))) (pe_lst (pa_cons pe_str (pa_cons pe_str pa_nil))) (nomark _))))) (pss_one (ps_ret pe_bl)) pss_nil)))
      (pss_cons (ps_if (pt_cmpR (op_neD hr.units) (cf (ok_told2 T) hr T.g_law_told passL (pa_cons (pv 6) (pa_cons (pv 4) pa_nil))) (pv 9) (nomark _)) (pss_one (ps_ret pe_bl)) pss_nil)
      (pss_cons (ps_if (pt_cmpR op_ne (cm (ck T.k_Net (ok_Net_init T) hr T.g_Net passL (pa_cons (pv 5) (pa_cons (pe_op op_rep (pe_lst (pa_cons (pe_tup (pa_cons pe_int (pa_cons pe_int pa_nil))) pa_nil)) pe_int) pa_nil))) T.c_Net T.m_Net_place (ok_place T) hr passL (pa_cons pe_int pa_nil)) pe_int (nomark _)) (pss_one (ps_ret pe_bl)) pss_nil)
      (pss_one (ps_ret (cf (ok_good T) hr T.g_law_made_good passL (pa_cons (pv 6) (pa_cons (pv 5) (pa_cons (pv 3) (pa_cons (pe_op op_mod (cf (ok_cell T) hr T.g_law_cell_at passL (pa_cons (pv 0) (pa_cons pe_int pa_nil))) (pe_callB call_len (by rfl) T.b_len PySem.boot_len (pa_cons (pv 4) pa_nil))) pa_nil)))))))))))))))))))), ?_⟩
    walk_at "sa"
    refine ⟨a, sc, 0, rfl, ha, by decide, fun c0 => ?_⟩
    walk_at "sa"
    obtain ⟨n, hn, n1, n10⟩ : ∃ n : Nat, 1 + c0 % 10 = (n : Int) ∧ 1 ≤ n ∧ n ≤ 10 := ⟨(1 + c0 % 10).toNat, by omega, by omega, by omega⟩
    rw [hn]
    refine ⟨a, sc, 1, rfl, ha, by decide, fun c1 => ?_⟩
    walk_at "sa"
    obtain ⟨g, hg, hG⟩ : ∃ g : Int, c1 % 3 = g ∧ G3 g := ⟨_, rfl, by constructor <;> omega⟩
    rw [hg]
    refine ⟨a, sc, n, g, rfl, ha, n1, n10, hG, fun ropes pk lr H1 e1 nlr hlr hpk rlen rok => ?_⟩
    walk_at "sa"
    refine ⟨a, sc, n, g, rfl, e1.seq ha, n1, n10, hG, fun qs pc lc H2 e2 nlc hlc hpc q1 q20 qok => ?_⟩
    have ha2 := (e1.trans e2).seq ha
    have hlr2 := e2 _ _ hlr
    have hpk2 := hpk.mono e2
    walk_at "sa"
    refine ⟨a, sc, n, rfl, ha2, n1, n10, fun nms nok nlen pn H3 npn e3 hpn => ?_⟩
    walk_at "sa"
    refine ⟨lr, _, rfl, .inl (SqL.of (e3 _ _ hlr2)), fun l1 nl1 => ?_⟩
    have e4 : Same H3 (upd H3 l1 (.lst (pk.map .ref))) := Same.new nl1
    walk_at "sa"
    intro t dt nt ndt ntd
    have eC : Same (upd H3 l1 (.lst (pk.map .ref))) (upd (upd (upd H3 l1 (.lst (pk.map .ref))) dt (.own t)) t (.ins (He.ga K "Town") dt [])) := fun a o h => by rw [upd_ne (ne_of_none h nt), upd_ne (ne_of_none h ndt)]; exact h
    refine ⟨t, dt, pn, nms, l1, pk, ropes, rfl, upd_same, eC _ _ (e4 _ _ hpn), nok, eC _ _ upd_same, hpk2.mono ((e3.trans e4).trans eC), by omega, by rw [nlen]; exact rok, fun H4 D hD1 hD2 hT b4 => ⟨rfl, ?_⟩⟩
    have e24 : Same H2 H4 := (e3.trans e4).trans (But.same b4 eC nt)
    have ha4 := e24.seq ha2
    have hlr4 := e24 _ _ hlr2
    have hpk4 := hpk2.mono e24
    have hlc4 := e24 _ _ hlc
    have hpc4 := hpc.mono e24
    rw [nlen] at hD1
    walk_at "sa"
    refine ⟨lc, _, rfl, .inl (SqL.of hlc4), fun l2 nl2 => ?_⟩
    have e5 : Same H4 (upd H4 l2 (.lst (pc.map .ref))) := Same.new nl2
    walk_at "sa"
    intro x dx nx ndx nxd
    have eN : Same (upd H4 l2 (.lst (pc.map .ref))) (upd (upd (upd H4 l2 (.lst (pc.map .ref))) dx (.own x)) x (.ins (He.ga K "Net") dx [])) := fun a o h => by rw [upd_ne (ne_of_none h nx), upd_ne (ne_of_none h ndx)]; exact h
    have pok : PplOk D qs := fun q hq => by rw [hD1]; exact qok q hq
    refine ⟨x, dx, t, D, l2, pc, qs, rfl, upd_same, (hT.mono e5).mono eN, eN _ _ upd_same, (hpc4.mono e5).mono eN, fun z => absurd ⟨q20, pok⟩ z, fun _ _ G H5 C A N bG hCt hCD hCp hAx => ⟨rfl, ?_⟩⟩
    have e4G : Same H4 G := But.same bG (e5.trans eN) (e5.free nx)
    subst hCt
    subst hCD
    subst hCp
    subst hAx
    have haG := e4G.seq ha4
    have hlrG := e4G _ _ hlr4
    have hpkG := hpk4.mono e4G
    have hlcG := e4G _ _ hlc4
    have hpcG := hpc4.mono e4G
    rw [← hD2] at hpkG rok
    rw [← hD1] at rok
    walk_at "sa"
    refine r_I (C := CMul) (.inl ⟨by decide, by decide⟩) ?_
    refine ⟨_, rfl, by omega, by omega, ?_⟩
    refine for_it walk_range (fun i σ H' => ∃ (G' : Hp) (A' : Lb → Addr) (S' : NS) (x7 x8 : Option V), σ = [some (.ref a), some (.int n), some (.int g), some (.ref lr), some (.ref lc), some (.ref C.t), some (.ref (A .net)), x7, x8, none, none, none, none, none, none, none, none] ∧
        Same G G' ∧ NetAt K G' H' C A' S' ∧ A' .net = A .net ∧ Wf C S' 3 ∧ CallRel (S0 C.D) S') ⟨G, A, S0 C.D, none, none, rfl, Same.refl _, N, rfl, wf0 N.fix.town.ok, ⟨_, _, rfl⟩⟩ (fun _ _ _ _ _ => trivial) ?_ ?_
    · rintro i y σ H6 H6' hi ⟨G6, A6, S6, x7, x8, rfl, eG6, N6, hA6, W6, R6⟩ ⟨rfl, rfl⟩
      walk_at "sa"
      refine ⟨_, rfl, by omega, by omega, ?_⟩
      refine for_it walk_range (fun j σ H' => ∃ (G' : Hp) (A' : Lb → Addr) (S' : NS) (x8 : Option V), σ = [some (.ref a), some (.int n), some (.int g), some (.ref lr), some (.ref lc), some (.ref C.t), some (.ref (A .net)), some (.int (0 + (i : Nat))), x8, none, none, none, none, none, none, none, none] ∧
          Same G G' ∧ NetAt K G' H' C A' S' ∧ A' .net = A .net ∧ Wf C S' 3 ∧ CallRel (S0 C.D) S') ⟨G6, A6, S6, _, rfl, eG6, N6, hA6, W6, R6⟩ (fun _ _ _ _ _ => trivial) ?_ ?_
      · rintro j y σ H7 H7' hj ⟨G7, A7, S7, x8, rfl, eG7, N7, hA7, W7, R7⟩ ⟨rfl, rfl⟩
        obtain ⟨dx7, h7⟩ := N7.net
        rw [hA7] at h7
        have hh : HIn C (0 + (j : Nat)) := ⟨by omega, by rw [hD1]; omega⟩
        walk_at "sa"
        refine mz h7 (by decide +kernel) ?_
        walk_at "sa"
        refine ⟨G7, C, A7, S7, 3, _, g, by rw [hA7]; rfl, N7, W7, fun z => absurd hh z, fun _ z => absurd hG z, fun _ _ b G8 H8 A8 S8 e8 N8 hA8 W8 R8 => ?_⟩
        walk_at "sa"
        exact ⟨G8, A8, S8, _, rfl, eG7.trans e8, N8, hA8.trans hA7, W8, R7.trans R8⟩
      · rintro σ H7 ⟨G7, A7, S7, x8, rfl, eG7, N7, hA7, W7, R7⟩
        walk_at "sa"
        exact ⟨G7, A7, S7, _, _, rfl, eG7, N7, hA7, W7, R7⟩
    · rintro σ H6 ⟨G6, A6, S6, x7, x8, rfl, eG6, N6, hA6, W6, R6⟩
      have up6 : S6.up = upI C.D := by obtain ⟨_, _, rfl⟩ := R6; rfl
      have ns6 : S6.ns = 0 := by obtain ⟨_, _, rfl⟩ := R6; rfl
      have cl6 : S6.clean = true := by obtain ⟨_, _, rfl⟩ := R6; rfl
      have c0in : CIn C 0 := ⟨by decide, by omega⟩
      obtain ⟨q, hq, _⟩ := get_some (l := C.people) c0in.1 c0in.2
      obtain ⟨dx6, h6⟩ := N6.net
      rw [hA6] at h6
      walk_at "sa"
      refine mz h6 (by decide +kernel) ?_
      walk_at "sa"
      refine ⟨G6, C, A6, S6, 3, 0, none, by rw [hA6]; rfl, N6, W6, by decide, fun z => absurd c0in z, fun _ _ _ t' et => (by cases et), fun q' _ hq' _ G7 H7 A7 S7 eG7 N7 hA7 R7 W7 => ?_⟩
      rw [ns6]
      refine ⟨rfl, _, rfl, ?_⟩
      refine iteF ?_
      have hA7' := hA7.trans hA6
      have ns7 : S7.ns = 1 := by rw [R7.ns, ns6]
      obtain ⟨dx7, h7⟩ := N7.net
      rw [hA7'] at h7
      walk_at "sa"
      refine mz h7 (by decide +kernel) ?_
      walk_at "sa"
      refine ⟨G7, C, A7, S7, _, 0, none, by rw [hA7']; rfl, N7, W7, by decide, fun z => absurd c0in z, fun _ _ _ t' et => (by cases et), fun q' _ hq' _ G8 H8 A8 S8 eG8 N8 hA8 R8 W8 => ?_⟩
      rw [ns7]
      refine ⟨rfl, _, rfl, ?_⟩
      refine iteF ?_
      have hA8' := hA8.trans hA7'
      have ns8 : S8.ns = 2 := by rw [R8.ns, ns7]
      have cl8 : S8.clean = true := by rw [R8.clean, R7.clean]; exact cl6
      have up8 : S8.up = upI C.D := by rw [R8.up, R7.up]; exact up6
      have eG : Same G G8 := (eG6.trans eG7).trans eG8
      have ha8 := eG.seq haG
      have hlr8 := eG _ _ hlrG
      have hpk8 := hpkG.mono eG
      have hlc8 := eG _ _ hlcG
      have hpc8 := hpcG.mono eG
      have V1 : Env1 H8 C S8 lr lc := ⟨N8.fix.town.ok, rok, ⟨pk, N8.same _ _ hlr8, hpk8.mono N8.same⟩, ⟨pc, N8.same _ _ hlc8, hpc8.mono N8.same⟩, q1, q20, pok, ns8, cl8, up8⟩
      have hcl : (pc.map V.ref).length = C.people.length := by rw [List.length_map, hpc8.1, List.length_map]
      rw [← hA8']
      walk_at "sa"
      refine ⟨G8, C, A8, S8, _, lc, pc.map .ref, rfl, N8, W8, by decide, cl8, ns8, N8.same _ _ hlc8, hcl, q1, fun pb d H9 e9 hd htd => ?_⟩
      have N9 := N8.ext e9
      obtain ⟨dx9, h9⟩ := N9.net
      walk_at "sa"
      refine mz h9 (by decide +kernel) ?_
      walk_at "sa"
      refine ⟨G8, C, A8, S8, rfl, N9, fun psa hpsa pa H10 npa e10 hpa => ?_⟩
      have e810 := e9.trans e10
      have hd10 := Dp.mono e10 _ _ hd
      refine ⟨_, _, rfl, .inl ⟨_, SqL.of hpa, rfl⟩, ?_⟩
      rw [List.length_map, hpsa.1]
      have N10 := N8.ext e810
      have V10 := V1.mono e810
      have ha10 := N10.same.seq ha8
      clear hpa N9 h9 hd
      walk_at "sa"
      refine ⟨szl (by show 12 ≤ 100000; decide), fun l3 nl3 => ?_⟩
      have e11 : Same H10 (upd H10 l3 (.lst (([0, 1, 2, 3, 4, 5, 6, 7, 8, 9, 10, 11] : List Int).map .int))) := Same.new nl3
      walk_at "sa"
      refine ⟨_, rfl, ?_⟩
      walk_at "sa"
      refine ⟨_, rfl, ?_⟩
      obtain ⟨m, hm, hml⟩ := cut_ints sc (some 30) (some 54)
      refine ⟨a, _, rfl, e11.seq ha10, fun l4 nl4 => ?_⟩
      rw [hm]
      refine ⟨l3, l4, _, _, rfl, rfl, (Same.new nl4) _ _ upd_same, upd_same, szl (by rw [List.length_map]; show 12 + m.length ≤ 100000; omega), fun l5 nl5 => ?_⟩
      generalize hH : upd (upd (upd H10 l3 _) l4 _) l5 _ = H12
      have e12 : Same H10 H12 := by rw [← hH]; exact e11.trans ((Same.new nl4).trans (Same.new nl5))
      have hl5 : H12 l5 = some (.lst ((([0, 1, 2, 3, 4, 5, 6, 7, 8, 9, 10, 11] : List Int) ++ m).map .int)) := by rw [← hH]; exact upd_same
      clear hH
      generalize ([0, 1, 2, 3, 4, 5, 6, 7, 8, 9, 10, 11] : List Int) ++ m = cells at hl5
      have N12 := N10.ext e12
      have V12 := V10.mono e12
      have hd12 := Dp.mono e12 _ _ hd10
      clear N10 V10 hd10
      refine ⟨l5, rfl, ⟨_, SqL.of hl5⟩, for_it walk_list (fun i σ H' => ∃ (x11 x12 x13 x14 x15 : Option V), σ = [some (.ref a), some (.int n), some (.int g), some (.ref lr), some (.ref lc), some (.ref C.t), some (.ref (A8 .net)), x7, x8, some (.ref pb), some (.int S8.air.length), x11, x12, x13, x14, x15, none] ∧ Same H12 H')
        ⟨none, none, none, none, none, rfl, Same.refl _⟩ (fun i σ H' _ ⟨_, _, _, _, _, _, e⟩ => e.seq (SqL.of hl5)) ?_ ?_⟩
      · rintro i x σ H13 H13' hi ⟨x11, x12, x13, x14, x15, rfl, e13⟩ ⟨rfl, hx⟩
        obtain ⟨cell, rfl⟩ : ∃ cell : Int, x = .int cell := by
          rw [List.getElem?_map] at hx
          cases q : cells[i]? with
          | none => rw [q] at hx; cases hx
          | some r => rw [q] at hx; exact ⟨r, (Option.some.inj hx).symm⟩
        have N13 := N12.ext e13
        walk_at "sa"
        with_reducible refine r_asgT ?_
        walk_at "sa"
        refine ⟨C, S8, lr, lc, cell % 12, cell / 12, by rw [hD1]; rfl, V12.mono e13, fun p dd y1 y2 z H14 e14 hp hw => ?_⟩
        have N14 := N13.ext e14
        refine ⟨p, _, rfl, SqT.of hp, rfl, ?_⟩
        refine ⟨_, _, rfl, _, _, rfl, _, _, rfl, _, _, rfl, rfl, ?_⟩
        walk_at "sa"
        refine ⟨G8, C, A8, S8, _, dd, y1, y2, z, rfl, N14, W8, by decide, hw, fun p2 H15 np2 e15 hp2 => ?_⟩
        walk_at "sa"
        refine ⟨szl (by show 2 ≤ 100000; decide), fun q2 nq2 => ?_⟩
        obtain ⟨w1, w2⟩ := wd_word (z := z) (wd := wordOf z) rfl (lay_word hw.raised)
        refine ⟨_, _, dp_wd ((Same.new nq2) _ _ hp2), dp_wd upd_same, w1, w1, ?_⟩
        walk_at "sa"
        rw [w2]
        refine iteF ?_
        walk_at "sa"
        exact ⟨_, _, _, _, _, rfl, ((e13.trans e14).trans e15).trans (Same.new nq2)⟩
      · rintro σ H13 ⟨x11, x12, x13, x14, x15, rfl, e13⟩
        have N13 := N12.ext e13
        have V13 := V12.mono e13
        have hd13 := Dp.mono e13 _ _ hd12
        clear N12 V12 hd12
        walk_at "sa"
        refine ⟨_, _, rfl, .inl ⟨_, SqL.of (N13.same _ _ hlc8), rfl⟩, ?_⟩
        rw [hcl]
        walk_at "sa"
        refine ⟨_, _, rfl, by omega, ?_⟩
        refine for_it walk_range (fun i σ H' => ∃ (x16 : Option V), σ = [some (.ref a), some (.int n), some (.int g), some (.ref lr), some (.ref lc), some (.ref C.t), some (.ref (A8 .net)), x7, x8, some (.ref pb), some (.int S8.air.length), x11, x12, x13, x14, x15, x16] ∧ Same H13 H')
          ⟨none, rfl, Same.refl _⟩ (fun _ _ _ _ _ => trivial) ?_ ?_
        · rintro i y σ H14 H14' hi ⟨x16, rfl, e14⟩ ⟨rfl, rfl⟩
          have N14 := N13.ext e14
          have kin : CIn C (1 + (i : Nat)) := ⟨by omega, by omega⟩
          obtain ⟨qk, hqk, _⟩ := get_some (l := C.people) kin.1 kin.2
          have hpc14 := hpc8.mono N14.same
          have hlc14 := N14.same _ _ hlc8
          obtain ⟨b1, b2, b3⟩ := hpc14.at (get_map (f := pairV) hqk)
          obtain ⟨d1, d2, d3⟩ := hpc14.at (get_map (f := pairV) hq)
          walk_at "sa"
          refine ⟨lc, _, _, _, rfl, rfl, SqL.of hlc14, at_ix kin.1 (get_map (f := V.ref) b2), ?_⟩
          walk_at "sa"
          refine ⟨b1, _, 1, _, rfl, rfl, SqT.of b3, at_ix (by decide) rfl, ?_⟩
          walk_at "sa"
          refine ⟨lc, _, _, _, rfl, rfl, SqL.of hlc14, at_ix (by decide) (get_map (f := V.ref) d2), ?_⟩
          walk_at "sa"
          refine ⟨d1, _, 1, _, rfl, rfl, SqT.of d3, at_ix (by decide) rfl, ?_⟩
          refine ⟨rfl, _, rfl, ?_⟩
          by_cases eq : qk.2 = q.2
          · rw [decide_eq_true (show V.int qk.2 = V.int q.2 by rw [eq])]
            refine iteF ?_
            refine iteF ?_
            walk_at "sa"
            exact ⟨_, rfl, e14⟩
          · rw [decide_eq_false (fun z => eq (V.int.inj z))]
            refine iteT ?_
            walk_at "sa"
            refine ⟨G8, C, A8, S8, _, 5, .int (1 + (i : Nat)), .int 0, "Apart", rfl, N14, W8, by decide, .apart kin c0in hqk hq (fun z => eq z.symm), fun p2 H15 np2 e15 hp2 => ?_⟩
            walk_at "sa"
            refine ⟨szl (by show 2 ≤ 100000; decide), fun q2 nq2 => ?_⟩
            have okA : PyData.strOk (Str.ofString "apart") = true := by decide +kernel
            obtain ⟨w1, w2⟩ := wd_word (z := "Apart") (wd := Str.ofString "apart") (by decide +kernel) okA
            refine ⟨_, _, dp_wd ((Same.new nq2) _ _ hp2), dp_wd upd_same, w1, (lay_wd okA).sh (by decide), ?_⟩
            walk_at "sa"
            rw [w2]
            refine iteF ?_
            walk_at "sa"
            exact ⟨_, rfl, (e14.trans e15).trans (Same.new nq2)⟩
        · rintro σ H14 ⟨x16, rfl, e14⟩
          have N14 := N13.ext e14
          have hd14 := Dp.mono e14 _ _ hd13
          clear N13 V13 hd13
          walk_at "sa"
          refine ⟨G8, C, A8, S8, _, lc, pc.map .ref, rfl, N14, W8, by decide, cl8, ns8, N14.same _ _ hlc8, hcl, q1, fun pb2 d2 H15 e15 hd2 htd2 => ?_⟩
          obtain rfl := htd.uniq htd2
          have ld := htd.lay W8 ns8
          walk_at "sa"
          refine ⟨_, _, hd2, Dp.mono e15 _ _ hd14, ld.sh (by decide), ld.sh (by decide), ?_⟩
          walk_at "sa"
          rw [SeqAt.eqv_refl _ ld.1]
          refine iteF ?_
          have N15 := N14.ext e15
          clear N14 hd14 hd2
          walk_at "sa"
          refine r_meth ?_
          walk_at "sa"
          refine ⟨szl (by show 2 ≤ 100000; decide), fun z1 nz1 => ?_⟩
          have f1 : Same H15 (upd H15 z1 (.tup [.int 0, .int 0])) := Same.new nz1
          walk_at "sa"
          refine ⟨szl (by show 1 ≤ 100000; decide), fun z2 nz2 => ?_⟩
          have f2 : Same (upd H15 z1 (.tup [.int 0, .int 0])) (upd (upd H15 z1 (.tup [.int 0, .int 0])) z2 (.lst [.ref z1])) := Same.new nz2
          refine ⟨z2, 20, _, rfl, rfl, upd_same, by decide, by decide, szl (by show 1 * (20 : Int).toNat ≤ 100000; decide), fun z3 nz3 => ?_⟩
          rw [rep_one, ← List.map_replicate]
          have f3 := Same.new (o := .lst ((List.replicate (20 : Int).toNat z1).map V.ref)) nz3
          walk_at "sa"
          intro x2 dx2 nx2 ndx2 nxd2
          have eN2 : Same (upd (upd (upd H15 z1 (.tup [.int 0, .int 0])) z2 (.lst [.ref z1])) z3 (.lst ((List.replicate (20 : Int).toNat z1).map V.ref))) (upd (upd (upd (upd (upd H15 z1 (.tup [.int 0, .int 0])) z2 (.lst [.ref z1])) z3 (.lst ((List.replicate (20 : Int).toNat z1).map V.ref))) dx2 (.own x2)) x2 (.ins (He.ga K "Net") dx2 [])) := fun a o h => by rw [upd_ne (ne_of_none h nx2), upd_ne (ne_of_none h ndx2)]; exact h
          have fz1 := (f2.trans (f3.trans eN2)) _ _ (upd_same (o := .tup (pairV (0, 0))))
          have pok2 : PplOk C.D (List.replicate 20 (0, 0)) := fun q m => by rw [List.eq_of_mem_replicate m]; exact ⟨by decide, by show (0 : Int) < _; omega, by decide, by decide⟩
          refine ⟨x2, dx2, C.t, C.D, z3, List.replicate 20 z1, List.replicate 20 (0, 0), rfl, upd_same, ((N15.townH.mono f1).mono (f2.trans f3)).mono eN2, eN2 _ _ upd_same, by rw [List.map_replicate]; exact Tups.rep fz1 20, fun z => absurd ⟨by decide, pok2⟩ z, fun _ _ G2 H16 C2 A2 N2 bG2 _ _ hC2p hA2 => ⟨rfl, ?_⟩⟩
          subst hA2
          have e16 : Same H15 H16 := (But.same bG2 ((f1.trans (f2.trans f3)).trans eN2) (((f1.trans (f2.trans f3))).free nx2)).trans N2.same
          obtain ⟨dxx, hxx⟩ := N2.net
          refine ⟨_, _, _, rfl, hxx, znone (by decide +kernel), ?_⟩
          walk_at "sa"
          have in19 : CIn C2 19 := ⟨by decide, by rw [hC2p]; decide⟩
          refine ⟨G2, C2, A2, _, 19, rfl, N2, fun _ _ qq hqq => ?_, fun z => absurd in19 z⟩
          rw [hC2p] at hqq
          obtain rfl : qq = (0, 0) := by
            rw [List.getElem?_replicate] at hqq
            exact (Option.some.inj hqq).symm
          walk_at "sa"
          refine ⟨rfl, _, rfl, ?_⟩
          refine iteF ?_
          have N16 := N15.ext e16
          walk_at "sa"
          refine ⟨a, sc, 30, rfl, N16.same.seq ha8, by decide, fun cz => ?_⟩
          walk_at "sa"
          refine ⟨_, _, rfl, .inl ⟨_, SqL.of (N16.same _ _ hlc8), rfl⟩, ?_⟩
          rw [hcl]
          refine r_mod ?_ (by omega)
          have y0 := Int.emod_nonneg cz (show ((C.people.length : Nat) : Int) ≠ 0 by omega)
          have y1 := Int.emod_lt_of_pos cz (show (0 : Int) < ((C.people.length : Nat) : Int) by omega)
          walk_at "sa"
          exact ⟨G8, C, A8, S8, _, lr, pk, _, rfl, N16, W8, by decide, ns8, up8, ⟨y0, y1⟩, hlr8, hpk8, rok, fun H' => k H'⟩
end Kn
set_option Elab.async false
set_option linter.all false
set_option maxRecDepth 100000
set_option maxHeartbeats 0
open PySem PySem.W PySem.Calls PyProof.Rows in
theorem PySem.Challenge.cw_knotless_k28_net_refused_holds : PySem.Challenge.rw_knotless_k28_net_refused.Holds := by
  w_on; o_law
  refine HandSHeadRun.head_any (r := OpenLaw.row PySem.Challenge.rw_knotless_k28_net_refused) (q := view (OpenLaw.row PySem.Challenge.rw_knotless_k28_net_refused).prog [59]) (H := Kn.hk) (ob := Kn.ob) (M := 8000) (loose := Kn.loose) (d := HandSHeadRun.topDef (OpenLaw.row PySem.Challenge.rw_knotless_k28_net_refused).prog 59) (kwd := []) Kn.ob_eq
    (by kernel_rfl) (fun s => by kernel_rfl) Kn.run (by kernel_rfl) (by kernel_rfl) (by kernel_rfl) (by rfl) (by first | assumption | decide +kernel) (by decide +kernel) ⟨rfl, rfl, rfl, rfl, rfl, by decide +kernel⟩ ?hw ?hc
  case hw => w_witness2
  case hc =>
    refine L2.walk_ofE (l := PySem.Challenge.rw_knotless_k28_net_refused) (n := 63) (k := 20) (x := "_law_script") (CX := L2.CX0) rfl (by decide) (by kernel_rfl) ⟨rfl, by decide, by decide⟩ ?F (fun _ _ _ _ z => z)
    case F =>
      intro w mg fa h Y G hmg0
      obtain ⟨K, KX, c⟩ := Y
      have hmg : mg ("law" : PySem.Str) = some (.ref fa) := by
        have e : (HandSHeadRun.topDef (OpenLaw.row PySem.Challenge.rw_knotless_k28_net_refused).prog 59).name = ("law" : PySem.Str) := by kernel_rfl
        rw [← e]
        exact hmg0
      have T : Kn.Tx K mg := Kn.tx_of KX G c.t.d c.more
      have e := hmg.symm.trans T.g_law
      cases e
      obtain ⟨fd, F⟩ := T.F_law
      have b := L2.FunD.bindsA (ps := ["_law_script"]) F fun _ _ _ _ _ _ us hl => match us, hl with | [_], _ => rfl
      exact ⟨K, fd, Kn.spLaw K, KX, fun s v => b s [v] rfl, fun H a ns hl _ hS => ⟨a, ns, rfl, hS, hl, fun _ => rfl⟩, fun base _ _ => Kn.ok_law T F⟩
